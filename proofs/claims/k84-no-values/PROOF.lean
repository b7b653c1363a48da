import PyProof.Rows.All
import Wide.All
import OpenK.AllK
import Wide.FinOn
import PySem.Challenge.RW_pilewords_k84_whole_what_are_no_values
import HandS.Codes
import HandS.Comp
import HandS.Conv
import HandS.Deep
import HandS.Defaults
import HandS.DictComp
import HandS.EndTab
import HandS.Exc
import HandS.ExcOwn
import HandS.ForMost
import HandS.Head2
import HandS.HeadEnd
import HandS.HeadHook4
import HandS.IsInst
import HandS.Iter
import HandS.Lambda
import HandS.More
import HandS.NoneIn
import HandS.SetFor
import HandS.Small
import HandS.SortInts
import HandS.Strs
import HandS.Style
import HandS.TryMany
import HandS.TupAny
import HandS.TupMul
import HandS.Wide
import KE.DataMinMax
import KE.GoesMore
import KE.KDictCopyH
import KE.KDictPairs
import KE.SortData
import PyProof.EnumMake
import PyProof.Rows.RowBridgeK
section
set_option Elab.async false
set_option linter.all false
/-! Ev1: data and an evaluator of a part of Python, over data and a store of its own. -/
namespace Ev
open PySem

/-- data: what a name may hold. loc: a list, a dict, an instance in the store; scr: the script (read only); ty: a built-in type; ktup: a tuple of the module; fn: a def of the module; bm: a method bound to an instance; kd: a dict of the module with text keys -/
inductive D where
  | non | bl (b : Bool) | int (i : Int) | str (x : Str) | tup (ds : List D) | loc (l : Nat) | scr (ns : List Int) | ty (n : String) | ktup (ds : List D) | fn (x : String) | bm (C m : String) (l : Nat) | kd (ks : List Str) (ds : List D)
  deriving Inhabited
abbrev Key := Sum Int Str
/-- what stands in the store: a list; a dict whose keys are ints and texts; one whose keys are tuples of such; an instance -/
inductive Ob where
  | lst (ds : List D) | dk (kvs : List (Key × D)) | dt (kvs : List (List Key × D)) | ins (C : String) (fs : List (String × D))
abbrev Store := List Ob
/-- a raised exception of the module's own class, its fields -/
structure Xc where
  cls : String
  fs : List (String × D) := []
inductive Res (α : Type) where
  | ok (a : α) (S : Store) | exc (x : Xc) (S : Store) | bad
def Res.bind {α β : Type} (r : Res α) (f : α → Store → Res β) : Res β := match r with
  | .ok a S => f a S
  | .exc x S => .exc x S
  | .bad => .bad
section
variable {α β : Type}
@[simp] theorem Res.bind_ok (a : α) (S : Store) (f : α → Store → Res β) : (Res.ok a S).bind f = f a S := Eq.trans rfl rfl
@[simp] theorem Res.bind_exc (x : Xc) (S : Store) (f : α → Store → Res β) : (Res.exc x S).bind f = .exc x S := rfl
@[simp] theorem Res.bind_bad (f : α → Store → Res β) : (Res.bad : Res α).bind f = .bad := rfl
end
abbrev EnvD := List (Option D)
@[reducible] def LIM : Nat := 1000000

/-! ### the syntax -/
inductive Op where
  | add | sub | mul | fdiv | mod | pow
  deriving DecidableEq
inductive Cm where
  | eq | ne | lt | le | gt | ge | is | isn | isin | nin
  deriving DecidableEq
/-- built-in functions by values; those of a list that nobody else holds; methods -/
inductive Bf where
  | len | abs | int | max | min | isi | tuple | list | repr | sorted
  deriving DecidableEq
inductive Bl where
  | all | any | tuple | len | dict | min
  deriving DecidableEq
inductive Mt where
  | append | extend | pop | get | update | index | dpop | own (m : String)
  deriving DecidableEq
mutual
/-- targets of a for -/
inductive TG where
  | name (i : Nat) | tup (ts : TGs)
inductive TGs where
  | nil | cons (t : TG) (ts : TGs)
end
mutual
inductive EX where
  | non | bl (b : Bool) | int (i : Int) | str (x : Str)
  | var (i : Nat) | glb (x : String) | bty (x : String)
  | tup (es : EXs) | ofl (l : LX) | dk0 | dt0
  | bin (op : Op) (a b : EX) | neg (a : EX) | cmp (op : Cm) (a b : EX) | chn (op : Cm) (a b : EX) (op' : Cm) (c : EX)
  | bop (isAnd : Bool) (es : EXs) | nt (a : EX) | ife (t a b : EX)
  | sub (a i : EX) | slc0 (a : EX) | slcF (a lo : EX) | slcT (a hi : EX) | slcB (a lo hi : EX) | fld (a : EX) (f : String)
  | call (x : String) (es : EXs) | new (C : String) (es : EXs) | meth (a : EX) (m : Mt) (es : EXs)
  | blt (f : Bf) (es : EXs) | bll (f : Bl) (l : LX) | lamw (x : String) (b : EX)
  | fnv (x : String) | bmv (a : EX) (m : String) | cval (i : Nat) (es : EXs) | dsp (ks : List Str) (es : EXs) | dcp (tk : Bool) (own : List (String × Nat)) (t : TG) (it : IT) (k v : EX)
  | lrg (a : EX) | srs (a : EX) | rev (a : EX)
inductive EXs where
  | nil | cons (e : EX) (es : EXs)
inductive IT where
  | val (e : EX) | rng1 (a : EX) | rng2 (a b : EX) | rng3 (a b c : EX) | enm (a : EX)
inductive LX where
  | dis (es : EXs) | comp (own : List (String × Nat)) (t : TG) (it : IT) (ifs : EXs) (e : EX)
end

/-! ### data as PyData, equality -/
mutual
def D.data : D → Option PyData
  | .non => some .none
  | .bl b => some (.bool b)
  | .int i => some (.int i)
  | .str x => if PyData.strOk x then some (.str x) else none
  | .tup ds => (datas ds).map .tuple
  | .ktup ds => (datas ds).map .tuple
  | _ => none
def datas : List D → Option (List PyData)
  | [] => some []
  | d :: ds => match d.data, datas ds with
    | some p, some ps => some (p :: ps)
    | _, _ => none
end
def dataOf (S : Store) : D → Option PyData
  | .loc l => match S[l]? with
    | some (.lst ds) => (datas ds).map .list
    | _ => none
  | d => d.data
def eqD (S : Store) (a b : D) : Option Bool := match a, b with
  | .str x, .str y => some (x == y)
  | a, b => match dataOf S a, dataOf S b with
    | some p, some q => if p.depth ≤ 60 ∧ q.depth ≤ 60 then some (p.eqv q) else none
    | _, _ => none
def isScal : D → Bool
  | .non => true
  | .bl _ => true
  | .int _ => true
  | .str _ => true
  | _ => false
/-- == of flat data -/
def eqS : D → D → Bool
  | .non, .non => true
  | .bl a, .bl b => a == b
  | .bl a, .int b => (if a then 1 else 0) == b
  | .int a, .bl b => a == (if b then 1 else 0)
  | .int a, .int b => a == b
  | .str a, .str b => a == b
  | _, _ => false
/-- x in these -/
def inDs (x : D) (ds : List D) : Option Bool := if isScal x && ds.all isScal then some (ds.any fun d => eqS d x) else match x.data, datas ds with
  | some p, some qs => if p.depth ≤ 60 then some (qs.any fun q => q.eqv p) else none
  | _, _ => none
mutual
/-- the places in it are below n -/
def D.bd (n : Nat) : D → Bool
  | .tup ds => bds n ds
  | .ktup ds => bds n ds
  | .loc l => decide (l < n)
  | .bm _ _ l => decide (l < n)
  | _ => true
def bds (n : Nat) : List D → Bool
  | [] => true
  | d :: ds => d.bd n && bds n ds
end
def Ob.bd (n : Nat) : Ob → Bool
  | .lst ds => bds n ds
  | .dk kvs => kvs.all fun p => p.2.bd n
  | .dt kvs => kvs.all fun p => p.2.bd n
  | .ins _ fs => fs.all fun p => p.2.bd n
/-- behind a call: what the call laid is let go where nothing leads to it -/
def gc (d : D) (n : Nat) (S' : Store) : D × Store :=
  if (S'.take n).all (Ob.bd n) then
    if d.bd n then (d, S'.take n) else match d with
    | .loc l => match S'[l]? with
      | some o => if o.bd n then (.loc n, S'.take n ++ [o]) else (d, S')
      | none => (d, S')
    | _ => (d, S')
  else (d, S')

/-! ### keys -/
def keyOf : D → Option Key
  | .int i => some (.inl i)
  | .str x => some (.inr x)
  | _ => none
def keysOf : List D → Option (List Key)
  | [] => some []
  | d :: ds => match keyOf d, keysOf ds with
    | some k, some ks => some (k :: ks)
    | _, _ => none
section
variable {κ : Type} [DecidableEq κ]
def kget (kvs : List (κ × D)) (k : κ) : Option D := (kvs.find? fun kv => decide (kv.1 = k)).map (·.2)
def kput (kvs : List (κ × D)) (k : κ) (v : D) : List (κ × D) := if kvs.any (fun kv => decide (kv.1 = k)) then kvs.map fun kv => if kv.1 = k then (kv.1, v) else kv else kvs ++ [(k, v)]
end
/-- look-up in a dict -/
def obGet (o : Ob) (k : D) : Option (Option D) := match o, k with
  | .dk kvs, .tup _ => none
  | .dk kvs, k => (keyOf k).map fun k => kget kvs k
  | .dt kvs, .tup ks => (keysOf ks).map fun k => kget kvs k
  | _, _ => none
def obPut (o : Ob) (k v : D) : Option Ob := match o, k with
  | .dk kvs, k => (keyOf k).bind fun k => if kvs.length < LIM then some (.dk (kput kvs k v)) else none
  | .dt kvs, .tup ks => (keysOf ks).bind fun k => if kvs.length < LIM then some (.dt (kput kvs k v)) else none
  | _, _ => none

/-- a dict of the module, looked up -/
def kdGet : List Str → List D → Str → Option D
  | k :: ks, d :: ds, z => if k = z then some d else kdGet ks ds z
  | _, _, _ => none
/-! ### operators -/
def okR (o : Option D) (S : Store) : Res D := match o with
  | some d => .ok d S
  | none => .bad
/-- a new object -/
def alloc (o : Ob) (S : Store) : Res D := .ok (.loc S.length) (S ++ [o])
/-- bounds of products -/
def mulOk (i j : Int) : Bool := decide (-(2 ^ 64) < i ∧ i < 2 ^ 64) || decide (-(2 ^ 64) < j ∧ j < 2 ^ 64) || decide (i.natAbs.log2 + j.natAbs.log2 < 1000000)
def binD (op : Op) (a b : D) (S : Store) : Res D := match op, a, b with
  | .add, .int i, .int j => .ok (.int (i + j)) S
  | .add, .tup xs, .tup ys => if xs.length + ys.length ≤ LIM then .ok (.tup (xs ++ ys)) S else .bad
  | .add, .str x, .str y => if x.length + y.length ≤ LIM then .ok (.str (x ++ y)) S else .bad
  | .add, .loc l, .loc m => match S[l]?, S[m]? with
    | some (.lst xs), some (.lst ys) => if xs.length + ys.length ≤ LIM then alloc (.lst (xs ++ ys)) S else .bad
    | _, _ => .bad
  | .sub, .int i, .int j => .ok (.int (i - j)) S
  | .mul, .int i, .int j => if mulOk i j then .ok (.int (i * j)) S else .bad
  | .mul, .tup xs, .int k => if -1000 ≤ k ∧ k ≤ 1000 ∧ xs.length ≤ 1000 then .ok (.tup (List.replicate k.toNat xs).flatten) S else .bad
  | .mul, .loc l, .int k => match S[l]? with
    | some (.lst xs) => if k ≤ 1000 ∧ -1000 ≤ k ∧ xs.length ≤ 1000 then alloc (.lst (List.replicate k.toNat xs).flatten) S else .bad
    | _ => .bad
  | .fdiv, .int i, .int j => if 0 < j ∧ j < 1073741824 then .ok (.int (i / j)) S else .bad
  | .mod, .int i, .int j => if 0 < j then .ok (.int (i % j)) S else .bad
  | .pow, .int i, .int j => if 0 ≤ j ∧ j ≤ 1000 ∧ i.natAbs < 2 ^ 64 then .ok (.int (i ^ j.toNat)) S else .bad
  | _, _, _ => .bad
def boolR (o : Option Bool) (S : Store) : Res D := match o with
  | some b => .ok (.bl b) S
  | none => .bad
def cmpD (op : Cm) (a b : D) (S : Store) : Res D := match op, a, b with
  | .eq, a, b => boolR (eqD S a b) S
  | .ne, a, b => boolR ((eqD S a b).map not) S
  | .lt, .int i, .int j => .ok (.bl (decide (i < j))) S
  | .le, .int i, .int j => .ok (.bl (decide (i ≤ j))) S
  | .gt, .int i, .int j => .ok (.bl (decide (j < i))) S
  | .ge, .int i, .int j => .ok (.bl (decide (j ≤ i))) S
  | .is, .bl x, .bl y => .ok (.bl (decide (x = y))) S
  | .isn, .bl x, .bl y => .ok (.bl (!decide (x = y))) S
  | .is, .non, .non => .ok (.bl true) S
  | .is, _, .non => .ok (.bl false) S
  | .isn, .non, .non => .ok (.bl false) S
  | .isn, _, .non => .ok (.bl true) S
  | .isin, x, .tup ds => boolR (inDs x ds) S
  | .nin, x, .tup ds => boolR ((inDs x ds).map not) S
  | .isin, x, .ktup ds => boolR (inDs x ds) S
  | .nin, x, .ktup ds => boolR ((inDs x ds).map not) S
  | .isin, .str x, .kd ks ds => .ok (.bl (kdGet ks ds x).isSome) S
  | .nin, .str x, .kd ks ds => .ok (.bl (!(kdGet ks ds x).isSome)) S
  | .isin, .str x, .str y => match x.cps.toList with
    | [c] => .ok (.bl (decide (c ∈ y.cps.toList))) S
    | _ => .bad
  | .nin, .str x, .str y => match x.cps.toList with
    | [c] => .ok (.bl (!decide (c ∈ y.cps.toList))) S
    | _ => .bad
  | .isin, x, .loc l => match S[l]? with
    | some (.lst ds) => boolR (inDs x ds) S
    | some o => boolR ((obGet o x).map (·.isSome)) S
    | none => .bad
  | .nin, x, .loc l => match S[l]? with
    | some (.lst ds) => boolR ((inDs x ds).map not) S
    | some o => boolR ((obGet o x).map fun r => !r.isSome) S
    | none => .bad
  | _, _, _ => .bad
def truD (d : D) (S : Store) : Option Bool := match d with
  | .non => some false
  | .bl b => some b
  | .int i => some (i != 0)
  | .str x => if x.length ≤ LIM then some ((x.length : Int) != 0) else none
  | .tup ds => some (!ds.isEmpty)
  | .loc l => match S[l]? with
    | some (.lst ds) => some (!ds.isEmpty)
    | some (.dk kvs) => some (!kvs.isEmpty)
    | _ => none
  | _ => none
def truR (d : D) (S : Store) : Res Bool := match truD d S with
  | some b => .ok b S
  | none => .bad
/-- o[i] -/
def subD (a i : D) (S : Store) : Res D := match a, i with
  | .tup ds, .int i => okR (L2.atI ds i) S
  | .ktup ds, .int i => okR (L2.atI ds i) S
  | .kd ks ds, .str x => okR (kdGet ks ds x) S
  | .str x, .int i => match L2.atI x.cps.toList i with
    | some c => if x.length ≤ LIM then .ok (.str ⟨#[c]⟩) S else .bad
    | none => .bad
  | .loc l, i => match S[l]?, i with
    | some (.lst ds), .int i => okR (L2.atI ds i) S
    | some o, k => match obGet o k with
      | some (some v) => .ok v S
      | _ => .bad
    | none, _ => .bad
  | _, _ => .bad
def cutL {α : Type} (xs : List α) (lo hi : Option Int) : List α := (xs.drop (HT.sIx xs.length 0 lo)).take (HT.sIx xs.length xs.length hi - HT.sIx xs.length 0 lo)
/-- o[lo:hi] -/
def slcD (a : D) (lo hi : Option Int) (S : Store) : Res D := match a with
  | .tup ds => .ok (.tup (cutL ds lo hi)) S
  | .loc l => match S[l]? with
    | some (.lst ds) => alloc (.lst (cutL ds lo hi)) S
    | _ => .bad
  | .scr ns => alloc (.lst ((cutL ns lo hi).map D.int)) S
  | _ => .bad
def tyD (d : D) (S : Store) : Option String := match d with
  | .non => some "NoneType"
  | .bl _ => some "bool"
  | .int _ => some "int"
  | .str _ => some "str"
  | .tup _ => some "tuple"
  | .ktup _ => some "tuple"
  | .loc l => match S[l]? with
    | some (.lst _) => some "list"
    | some (.dk _) => some "dict"
    | some (.dt _) => some "dict"
    | _ => none
  | _ => none
/-- isinstance by the names of built-in types -/
def isiB (t u : String) : Option Bool := if u = "int" ∨ u = "bool" ∨ u = "str" ∨ u = "tuple" ∨ u = "list" ∨ u = "dict" then some (decide (t = u) || (decide (t = "bool") && decide (u = "int"))) else none
/-- these ints -/
def intsD : List D → Option (List Int)
  | [] => some []
  | .int i :: ds => (intsD ds).map (i :: ·)
  | _ => none
def minI (ds : List D) : Option Int := match intsD ds with
  | some (i :: is) => some (is.foldl (fun a b => if b < a then b else a) i)
  | _ => none
/-- these pairs of ints -/
def pairsD : List D → Option (List (Int × Int))
  | [] => some []
  | .tup [.int i, .int j] :: ds => (pairsD ds).map ((i, j) :: ·)
  | _ => none
def ltP (a b : Int × Int) : Bool := decide (a.1 < b.1) || (decide (a.1 = b.1) && decide (a.2 < b.2))
def minP (ds : List D) : Option (Int × Int) := match pairsD ds with
  | some (p :: ps) => some (ps.foldl (fun a b => if ltP b a then b else a) p)
  | _ => none
def maxI (ds : List D) : Option Int := match intsD ds with
  | some (i :: is) => some (is.foldl (fun a b => if a < b then b else a) i)
  | _ => none
def strsD : List D → Option (List Str)
  | [] => some []
  | .str i :: ds => (strsD ds).map (i :: ·)
  | _ => none
/-- the keys of a dict, texts all -/
def keysS : List (Key × D) → Option (List Str)
  | [] => some []
  | (.inr x, _) :: r => (keysS r).map (x :: ·)
  | _ => none
def insI (x : Int) : List Int → List Int
  | [] => [x]
  | y :: r => if x ≤ y then x :: y :: r else y :: insI x r
def sortI (is : List Int) : List Int := is.foldr insI []
/-- strictly rising: each once -/
def insU (x : Int) : List Int → List Int
  | [] => [x]
  | y :: r => if x < y then x :: y :: r else if x = y then y :: r else y :: insU x r
def setI (is : List Int) : List Int := is.foldr insU []
def insS (x : Str) : List Str → List Str
  | [] => [x]
  | y :: r => if PySem.Spec.ltCps y.cps.toList x.cps.toList then y :: insS x r else x :: y :: r
def sortX (xs : List Str) : List Str := xs.foldr insS []
def bltD (f : Bf) (as : List D) (S : Store) : Res D := match f, as with
  | .len, [.str x] => if x.length ≤ LIM then .ok (.int x.length) S else .bad
  | .len, [.tup ds] => .ok (.int ds.length) S
  | .len, [.ktup ds] => .ok (.int ds.length) S
  | .len, [.loc l] => match S[l]? with
    | some (.lst ds) => .ok (.int ds.length) S
    | _ => .bad
  | .abs, [.int i] => .ok (.int (if i < 0 then -i else i)) S
  | .int, [.int i] => .ok (.int i) S
  | .int, [.bl b] => .ok (.int (if b then 1 else 0)) S
  | .max, [.int i, .int j] => .ok (.int (if j > i then j else i)) S
  | .min, [.int i, .int j] => .ok (.int (if j < i then j else i)) S
  | .min, [.loc l] => match S[l]? with
    | some (.lst ds) => match minI ds with
      | some m => .ok (.int m) S
      | none => .bad
    | _ => .bad
  | .max, [.loc l] => match S[l]? with
    | some (.lst ds) => match maxI ds with
      | some m => .ok (.int m) S
      | none => .bad
    | _ => .bad
  | .sorted, [.tup ds] => match intsD ds with
    | some is => alloc (.lst ((sortI is).map D.int)) S
    | none => .bad
  | .sorted, [.loc l] => match S[l]? with
    | some (.lst ds) => match intsD ds with
      | some is => alloc (.lst ((sortI is).map D.int)) S
      | none => .bad
    | some (.dk kvs) => match keysS kvs with
      | some xs => if xs.length < 64 then alloc (.lst ((sortX xs).map D.str)) S else .bad
      | none => .bad
    | _ => .bad
  | .isi, [d, .ty u] => match tyD d S with
    | some t => boolR (isiB t u) S
    | none => .bad
  | .tuple, [.tup ds] => .ok (.tup ds) S
  | .tuple, [.loc l] => match S[l]? with
    | some (.lst ds) => .ok (.tup ds) S
    | _ => .bad
  | .list, [.tup ds] => alloc (.lst ds) S
  | .list, [.loc l] => match S[l]? with
    | some (.lst ds) => alloc (.lst ds) S
    | _ => .bad
  | .repr, [d] => match d.data with
    | some p => if p.showable ∧ p.shown.length ≤ LIM ∧ p.depth ≤ 60 then .ok (.str p.shown) S else .bad
    | none => .bad
  | _, _ => .bad
/-- repr wants to know what is under way -/
def okBf (f : Bf) (gd : Bool) : Bool := match f with
  | .repr => gd
  | _ => true
/-- pairs (key, value), the keys tuples -/
def pairsT : List D → Option (List (List Key × D))
  | [] => some []
  | .tup [.tup ks, v] :: r => match keysOf ks, pairsT r with
    | some k, some kvs => some ((k, v) :: kvs)
    | _, _ => none
  | _ => none
/-- .. the keys ints and texts -/
def pairsK : List D → Option (List (Key × D))
  | [] => some []
  | .tup [k, v] :: r => match keyOf k, pairsK r with
    | some k, some kvs => some ((k, v) :: kvs)
    | _, _ => none
  | _ => none
def putAll {κ : Type} [DecidableEq κ] (acc more : List (κ × D)) : List (κ × D) := more.foldl (fun acc p => kput acc p.1 p.2) acc
def blsOf : List D → Option (List Bool)
  | [] => some []
  | .bl b :: ds => (blsOf ds).map (b :: ·)
  | _ => none
/-- built-ins of a list that nobody else holds -/
def bllD (f : Bl) (ds : List D) (S : Store) : Res D := match f with
  | .all => match blsOf ds with
    | some bs => .ok (.bl (bs.all id)) S
    | none => .bad
  | .any => match blsOf ds with
    | some bs => .ok (.bl (bs.any id)) S
    | none => .bad
  | .tuple => .ok (.tup ds) S
  | .len => .ok (.int ds.length) S
  | .dict => match pairsT ds with
    | some kvs => if kvs.length ≤ LIM then alloc (.dt (putAll [] kvs)) S else .bad
    | none => match pairsK ds with
      | some kvs => if kvs.length ≤ LIM then alloc (.dk (putAll [] kvs)) S else .bad
      | none => .bad
  | .min => match minP ds with
    | some p => .ok (.tup [.int p.1, .int p.2]) S
    | none => .bad
/-- the receiver is of the kind that the method wants -/
def kindOk (m : Mt) (x : D) (S : Store) : Bool := match m, x with
  | .get, .loc l => match S[l]? with
    | some (.dk _) => true
    | some (.dt _) => true
    | _ => false
  | .update, .loc l => match S[l]? with
    | some (.dk _) => true
    | some (.dt _) => true
    | _ => false
  | .dpop, .loc l => match S[l]? with
    | some (.dk _) => true
    | _ => false
  | .own _, _ => false
  | _, .loc l => match S[l]? with
    | some (.lst _) => true
    | _ => false
  | _, _ => false
/-- methods of lists, dicts -/
def methD (a : D) (m : Mt) (as : List D) (S : Store) : Res D := match a with
  | .loc l => match S[l]?, m, as with
    | some (.lst xs), .append, [y] => if xs.length < LIM then .ok .non (S.set l (.lst (xs ++ [y]))) else .bad
    | some (.lst xs), .extend, [.loc b] => match S[b]? with
      | some (.lst zs) => if xs.length + zs.length ≤ LIM then .ok .non (S.set l (.lst (xs ++ zs))) else .bad
      | _ => .bad
    | some (.lst xs), .pop, [] => match xs[xs.length - 1]? with
      | some y => .ok y (S.set l (.lst xs.dropLast))
      | none => .bad
    | some (.dt kvs), .update, [.loc b] => match S[b]? with
      | some (.dt more) => if l ≠ b ∧ !kvs.isEmpty ∧ kvs.length + more.length ≤ LIM then .ok .non (S.set l (.dt (putAll kvs more))) else .bad
      | _ => .bad
    | some (.dk kvs), .update, [.loc b] => match S[b]? with
      | some (.dk more) => if l ≠ b ∧ kvs.length + more.length ≤ LIM then .ok .non (S.set l (.dk (putAll kvs more))) else .bad
      | _ => .bad
    | some (.dk kvs), .dpop, [k] => match keyOf k with
      | some k => match kget kvs k with
        | some v => .ok v (S.set l (.dk (kvs.filter fun p => !decide (p.1 = k))))
        | none => .bad
      | none => .bad
    | some (.dk kvs), .dpop, [k, d] => match keyOf k with
      | some k => .ok ((kget kvs k).getD d) (S.set l (.dk (kvs.filter fun p => !decide (p.1 = k))))
      | none => .bad
    | some (.lst xs), .index, [y] => if isScal y && xs.all isScal then match xs.findIdx? fun z => eqS z y with
      | some j => .ok (.int (j : Nat)) S
      | none => .bad else match y.data, datas xs with
      | some p, some qs => if p.depth ≤ 60 ∧ (PyData.list qs).depth ≤ 60 then match qs.findIdx? fun q => q.eqv p with
        | some j => .ok (.int (j : Nat)) S
        | none => .bad else .bad
      | _, _ => .bad
    | some o, .get, [k, d] => match obGet o k with
      | some r => .ok (r.getD d) S
      | none => .bad
    | _, _, _ => .bad
  | _ => .bad

/-! ### targets -/
mutual
def bindT : TG → D → EnvD → Option EnvD
  | .name i, d, env => if i < env.length then some (env.set i (some d)) else none
  | .tup ts, .tup ds, env => bindTs ts ds env
  | _, _, _ => none
def bindTs : TGs → List D → EnvD → Option EnvD
  | .nil, [], env => some env
  | .cons t ts, d :: ds, env => match bindT t d env with
    | some e => bindTs ts ds e
    | none => none
  | _, _, _ => none
end
def wipeE (env : EnvD) : List Nat → EnvD
  | [] => env
  | v :: vs => (wipeE env vs).set v none

/-! ### what is walked -/
inductive ItV where
  | ds (ds : List D) | lst (l : Nat) | enl (l : Nat)
def itD (d : D) (S : Store) : Res ItV := match d with
  | .tup ds => .ok (.ds ds) S
  | .ktup ds => .ok (.ds ds) S
  | .str x => .ok (.ds (x.cps.toList.map fun c => .str ⟨#[c]⟩)) S
  | .loc l => match S[l]? with
    | some (.lst _) => .ok (.lst l) S
    | _ => .bad
  | _ => .bad
def rngL (lo c : Int) : Nat → List D
  | 0 => []
  | n + 1 => .int lo :: rngL (lo + c) c n
def small62 (i : Int) : Bool := decide (-1000000000 ≤ i ∧ i ≤ 1000000000)
/-- over data: the turns one by one; a turn's state is α -/
def walkT {α : Type} (f : D → α → Store → Res α) : List D → α → Store → Res α
  | [], a, S => .ok a S
  | d :: ds, a, S => (f d a S).bind fun a S => walkT f ds a S
/-- over a list of the store, by places -/
def walkL {α : Type} (f : D → α → Store → Res α) (l : Nat) : Nat → Nat → α → Store → Res α
  | 0, _, _, _ => .bad
  | n + 1, i, a, S => match S[l]? with
    | some (.lst ds) => match ds[i]? with
      | some d => (f d a S).bind fun a S => walkL f l n (i + 1) a S
      | none => .ok a S
    | _ => .bad
/-- over enumerate(a list of the store) -/
def walkE {α : Type} (f : D → α → Store → Res α) (l : Nat) : Nat → Nat → α → Store → Res α
  | 0, _, _, _ => .bad
  | n + 1, i, a, S => match S[l]? with
    | some (.lst ds) => match ds[i]? with
      | some d => (f (.tup [.int (i : Nat), d]) a S).bind fun a S => walkE f l n (i + 1) a S
      | none => .ok a S
    | _ => .bad
def walkI {α : Type} (f : D → α → Store → Res α) (it : ItV) (a : α) (S : Store) : Res α := match it with
  | .ds ds => walkT f ds a S
  | .lst l => walkL f l LIM 0 a S
  | .enl l => walkE f l LIM 0 a S
/-- in a comprehension nothing may be raised -/
def noExc {α : Type} : Res α → Res α
  | .exc _ _ => .bad
  | r => r

/-! ### the evaluator -/
structure Ctx where
  call : String → List D → Store → Res D
  meth : String → String → List D → Store → Res D
  init : String → List D → Store → Res D
  glb : String → Option D
  bty : String → Bool
  att : String → String → Bool
  defd : String → Bool
  newd : String → Bool
  methd : String → String → Bool
  gd : Bool
  lam : String → EX → EnvD → Store → Res D
  exc : String → Bool
  bmd : String → String → Bool
/-- enumerate(..) -/
def enumL (i : Nat) : List D → List D
  | [] => []
  | d :: ds => .tup [.int (i : Nat), d] :: enumL (i + 1) ds
def enmD (d : D) (S : Store) : Res ItV := match d with
  | .tup ds => .ok (.ds (enumL 0 ds)) S
  | .loc l => match S[l]? with
    | some (.lst _) => .ok (.enl l) S
    | _ => .bad
  | _ => .bad
def partR (d : D) (S : Store) : Res Int := match d with
  | .int i => .ok i S
  | _ => .bad
/-- {}: keys tuples, or ints and texts -/
def emptyD : Bool → Ob
  | true => .dt []
  | false => .dk []
def putR (acc : Ob) (x y : D) (S : Store) : Res Ob := match obPut acc x y with
  | some acc => .ok acc S
  | none => .bad
mutual
def evE (c : Ctx) : EX → EnvD → Store → Res D
  | .non, _, S => .ok .non S
  | .bl b, _, S => .ok (.bl b) S
  | .int i, _, S => .ok (.int i) S
  | .str x, _, S => .ok (.str x) S
  | .var i, env, S => match env[i]? with
    | some (some d) => .ok d S
    | _ => .bad
  | .glb x, _, S => okR (c.glb x) S
  | .bty x, _, S => if c.bty x then .ok (.ty x) S else .bad
  | .tup es, env, S => (evEs c es env S).bind fun ds S => if ds.length ≤ LIM then .ok (.tup ds) S else .bad
  | .ofl l, env, S => (evL c l env S).bind fun ds S => alloc (.lst ds) S
  | .dk0, _, S => alloc (.dk []) S
  | .dt0, _, S => alloc (.dt []) S
  | .bin op a b, env, S => (evE c a env S).bind fun x S => (evE c b env S).bind fun y S => binD op x y S
  | .neg a, env, S => (evE c a env S).bind fun x S => match x with
    | .int i => .ok (.int (-i)) S
    | _ => .bad
  | .cmp op a b, env, S => (evE c a env S).bind fun x S => (evE c b env S).bind fun y S => cmpD op x y S
  | .chn op a b op' z, env, S => (evE c a env S).bind fun x S => (evE c b env S).bind fun y S => (cmpD op x y S).bind fun r S => match r with
    | .bl true => (evE c z env S).bind fun z S => cmpD op' y z S
    | .bl false => .ok (.bl false) S
    | _ => .bad
  | .bop isAnd es, env, S => evBs c isAnd es env S
  | .nt a, env, S => (evE c a env S).bind fun x S => match x with
    | .bl b => .ok (.bl (!b)) S
    | _ => .bad
  | .ife t a b, env, S => (evE c t env S).bind fun x S => (truR x S).bind fun k S => match k with
    | true => evE c a env S
    | false => evE c b env S
  | .sub a i, env, S => (evE c a env S).bind fun x S => (evE c i env S).bind fun y S => subD x y S
  | .slc0 a, env, S => (evE c a env S).bind fun x S => slcD x none none S
  | .slcF a lo, env, S => (evE c a env S).bind fun x S => (evE c lo env S).bind fun l S => (partR l S).bind fun l S => slcD x (some l) none S
  | .slcT a hi, env, S => (evE c a env S).bind fun x S => (evE c hi env S).bind fun h S => (partR h S).bind fun h S => slcD x none (some h) S
  | .slcB a lo hi, env, S => (evE c a env S).bind fun x S => (evE c lo env S).bind fun l S => (partR l S).bind fun l S => (evE c hi env S).bind fun h S => (partR h S).bind fun h S => slcD x (some l) (some h) S
  | .fld a f, env, S => (evE c a env S).bind fun x S => match x with
    | .loc l => match S[l]? with
      | some (.ins C fs) => if c.att C f then okR (fs.lookup f) S else .bad
      | _ => .bad
    | _ => .bad
  | .call x es, env, S => if c.defd x then (evEs c es env S).bind fun ds S => c.call x ds S else .bad
  | .new C es, env, S => if c.newd C then (evEs c es env S).bind fun ds S => (noExc (c.init C (.loc S.length :: ds) (S ++ [.ins C []]))).bind fun r S' => match r with
    | .non => .ok (.loc S.length) S'
    | _ => .bad else .bad
  | .meth a (.own m) es, env, S => (evE c a env S).bind fun x S => match x with
    | .loc l => match S[l]? with
      | some (.ins C fs) => if (fs.lookup m).isNone && c.methd C m then (evEs c es env S).bind fun ds S => c.meth C m (x :: ds) S else .bad
      | _ => .bad
    | _ => .bad
  | .meth a m es, env, S => (evE c a env S).bind fun x S => if kindOk m x S then (evEs c es env S).bind fun ds S => methD x m ds S else .bad
  | .blt f es, env, S => if okBf f c.gd then (evEs c es env S).bind fun ds S => bltD f ds S else .bad
  | .bll f l, env, S => (evL c l env S).bind fun ds S => bllD f ds S
  | .lamw x b, env, S => c.lam x b env S
  | .fnv x, _, S => if c.defd x then .ok (.fn x) S else .bad
  | .bmv a m, env, S => (evE c a env S).bind fun x S => match x with
    | .loc l => match S[l]? with
      | some (.ins C fs) => if (fs.lookup m).isNone && c.bmd C m then .ok (.bm C m l) S else .bad
      | _ => .bad
    | _ => .bad
  | .cval i es, env, S => match env[i]? with
    | some (some (.fn x)) => if c.defd x then (evEs c es env S).bind fun ds S => c.call x ds S else .bad
    | some (some (.bm C m l)) => if c.methd C m && c.bmd C m then (evEs c es env S).bind fun ds S => c.meth C m (.loc l :: ds) S else .bad
    | _ => .bad
  | .dsp ks es, env, S => (evEs c es env S).bind fun ds S => if ds.length = ks.length ∧ ds.length ≤ 15 then alloc (.dk (putAll [] ((ks.map Sum.inr).zip ds))) S else .bad
  | .dcp tk own t it k v, env, S => (evIt c it env S).bind fun iv S => (noExc (walkI (fun d acc S => match bindT t d (wipeE env (own.map (·.2))) with
      | some env' => (evE c k env' S).bind fun x S => (evE c v env' S).bind fun y S => putR acc x y S
      | none => .bad) iv (emptyD tk) S)).bind alloc
  | .lrg a, env, S => (evE c a env S).bind fun x S => match x with
    | .int n => if n.natAbs ≤ LIM then alloc (.lst (rngL 0 1 n.toNat)) S else .bad
    | _ => .bad
  | .srs a, env, S => (evE c a env S).bind fun x S => match x with
    | .tup ds => match intsD ds with
      | some is => if is.length < 64 then alloc (.lst ((setI is).map D.int)) S else .bad
      | none => .bad
    | _ => .bad
  | .rev a, env, S => (evE c a env S).bind fun x S => match x with
    | .loc l => match S[l]? with
      | some (.lst ds) => alloc (.lst ds.reverse) S
      | _ => .bad
    | _ => .bad
def evEs (c : Ctx) : EXs → EnvD → Store → Res (List D)
  | .nil, _, S => .ok [] S
  | .cons e es, env, S => (evE c e env S).bind fun d S => (evEs c es env S).bind fun ds S => .ok (d :: ds) S
def evBs (c : Ctx) (isAnd : Bool) : EXs → EnvD → Store → Res D
  | .nil, _, _ => .bad
  | .cons e .nil, env, S => evE c e env S
  | .cons e (.cons e' es), env, S => (evE c e env S).bind fun x S => match x with
    | .bl b => if b = isAnd then evBs c isAnd (.cons e' es) env S else .ok (.bl b) S
    | _ => .bad
def evIt (c : Ctx) : IT → EnvD → Store → Res ItV
  | .val e, env, S => (evE c e env S).bind itD
  | .rng1 a, env, S => (evE c a env S).bind fun x S => match x with
    | .int n => if small62 n then .ok (.ds (rngL 0 1 n.toNat)) S else .bad
    | _ => .bad
  | .rng2 a b, env, S => (evE c a env S).bind fun x S => (evE c b env S).bind fun y S => match x, y with
    | .int i, .int j => if small62 i && small62 j then .ok (.ds (rngL i 1 (j - i).toNat)) S else .bad
    | _, _ => .bad
  | .rng3 a b d, env, S => (evE c a env S).bind fun x S => (evE c b env S).bind fun y S => (evE c d env S).bind fun z S => match x, y, z with
    | .int i, .int j, .int (-1) => if small62 i && small62 j then .ok (.ds (rngL i (-1) (i - j).toNat)) S else .bad
    | _, _, _ => .bad
  | .enm a, env, S => (evE c a env S).bind enmD
def evL (c : Ctx) : LX → EnvD → Store → Res (List D)
  | .dis es, env, S => (evEs c es env S).bind fun ds S => if ds.length ≤ LIM then .ok ds S else .bad
  | .comp own t it ifs e, env, S => (evIt c it env S).bind fun iv S => noExc (walkI (fun d acc S => match bindT t d (wipeE env (own.map (·.2))) with
      | some env' => match ifs with
        | .nil => (evE c e env' S).bind fun y S => if acc.length < LIM then .ok (acc ++ [y]) S else .bad
        | .cons i _ => (evE c i env' S).bind fun x S => (truR x S).bind fun k S => match k with
          | true => (evE c e env' S).bind fun y S => if acc.length < LIM then .ok (acc ++ [y]) S else .bad
          | false => .ok acc S
      | none => .bad) iv [] S)
end

/-! ### statements -/
/-- targets of an assignment -/
inductive TAG where
  | name (i : Nat) | sub (o i : EX)
mutual
inductive ST where
  | expr (e : EX) | set (i : Nat) (e : EX) | par (ns : List Nat) (es : EXs) | asg (t : TAG) (e : EX) | fst (o : EX) (f : String) (e : EX) | asgs (ts : List TAG) (e : EX)
  | aug (i : Nat) (op : Op) (e : EX) | ret (e : EX) | ret0
  | ife (t : EX) (a b : SS) | whl (t : EX) (b : SS) | for_ (t : TG) (it : IT) (b : SS) | brk | cont | pass
  | never | raise (C : String) | pack (dead : List Nat)
inductive SS where
  | nil | cons (s : ST) (ss : SS)
end
inductive Out where
  | nx (env : EnvD) (S : Store) | rt (d : D) (S : Store) | bk (env : EnvD) (S : Store) | ct (env : EnvD) (S : Store) | exc (x : Xc) (env : EnvD) (S : Store) | bad
/-- an expression within a statement -/
def Res.out {α : Type} (r : Res α) (env : EnvD) (f : α → Store → Out) : Out := match r with
  | .ok a S => f a S
  | .exc x S => .exc x env S
  | .bad => .bad
def Out.then (o : Out) (f : EnvD → Store → Out) : Out := match o with
  | .nx env S => f env S
  | o => o
section
variable {α : Type}
@[simp] theorem Res.out_ok (a : α) (S : Store) (env : EnvD) (f : α → Store → Out) : (Res.ok a S).out env f = f a S := Eq.trans rfl rfl
@[simp] theorem Res.out_exc (x : Xc) (S : Store) (env : EnvD) (f : α → Store → Out) : (Res.exc x S).out env f = .exc x env S := rfl
@[simp] theorem Res.out_bad (env : EnvD) (f : α → Store → Out) : (Res.bad : Res α).out env f = .bad := rfl
@[simp] theorem Out.then_nx (env : EnvD) (S : Store) (f : EnvD → Store → Out) : (Out.nx env S).then f = f env S := Eq.trans rfl rfl
@[simp] theorem Out.then_rt (d : D) (S : Store) (f : EnvD → Store → Out) : (Out.rt d S).then f = .rt d S := rfl
@[simp] theorem Out.then_bk (env : EnvD) (S : Store) (f : EnvD → Store → Out) : (Out.bk env S).then f = .bk env S := rfl
@[simp] theorem Out.then_ct (env : EnvD) (S : Store) (f : EnvD → Store → Out) : (Out.ct env S).then f = .ct env S := rfl
@[simp] theorem Out.then_exc (x : Xc) (env : EnvD) (S : Store) (f : EnvD → Store → Out) : (Out.exc x env S).then f = .exc x env S := rfl
@[simp] theorem Out.then_bad (f : EnvD → Store → Out) : Out.bad.then f = .bad := rfl
end
/-- name op= value, on what is never changed in place -/
def augD (op : Op) (x y : D) (S : Store) : Res D := match op, x, y with
  | .add, .int i, .int j => .ok (.int (i + j)) S
  | .sub, .int i, .int j => .ok (.int (i - j)) S
  | _, _, _ => .bad
/-- o[i] = v -/
def stoD (o i v : D) (S : Store) : Res Unit := match o with
  | .loc l => match S[l]?, i with
    | some (.lst xs), .int i => match L2.ixN xs.length i with
      | some j => .ok () (S.set l (.lst (xs.set j v)))
      | none => .bad
    | some ob, k => match obPut ob k v with
      | some ob' => .ok () (S.set l ob')
      | none => .bad
    | none, _ => .bad
  | _ => .bad
/-- o.f = v -/
def putF (f : String) (v : D) : List (String × D) → List (String × D)
  | [] => [(f, v)]
  | (g, w) :: r => if g = f then (g, v) :: r else (g, w) :: putF f v r
def fldD (c : Ctx) (o : D) (f : String) (v : D) (S : Store) : Res Unit := match o with
  | .loc l => match S[l]? with
    | some (.ins C fs) => if c.att C f && fs.length < 100 then .ok () (S.set l (.ins C (putF f v fs))) else .bad
    | _ => .bad
  | _ => .bad
def setE (env : EnvD) (i : Nat) (d : D) : EnvD := env.set i (some d)
def asgT (c : Ctx) (t : TAG) (d : D) (env : EnvD) (S : Store) : Out := match t with
  | .name i => if i < env.length then .nx (env.set i (some d)) S else .bad
  | .sub o i => (evE c o env S).out env fun x S => (evE c i env S).out env fun y S => (stoD x y d S).out env fun _ S => .nx env S
def asgTs (c : Ctx) : List TAG → List D → EnvD → Store → Out
  | [], [], env, S => .nx env S
  | t :: ts, d :: ds, env, S => (asgT c t d env S).then fun env S => asgTs c ts ds env S
  | _, _, _, _ => .bad
def parE : List Nat → List D → EnvD → EnvD
  | i :: is, d :: ds, env => parE is ds (env.set i (some d))
  | _, _, env => env
/-- what is left of a loop behind a turn -/
inductive Lp where
  | go (env : EnvD) | stop (o : Out)
def turnO (o : Out) : Res Lp := match o with
  | .nx env S => .ok (.go env) S
  | .ct env S => .ok (.go env) S
  | .bk env S => .ok (.stop (.nx env S)) S
  | .rt d S => .ok (.stop (.rt d S)) S
  | .exc x env S => .ok (.stop (.exc x env S)) S
  | .bad => .bad
/-- a for over data -/
def forT (f : D → EnvD → Store → Out) : List D → EnvD → Store → Out
  | [], env, S => .nx env S
  | d :: ds, env, S => match f d env S with
    | .nx env S => forT f ds env S
    | .ct env S => forT f ds env S
    | .bk env S => .nx env S
    | o => o
/-- a for over a list of the store -/
def forL (f : D → EnvD → Store → Out) (l : Nat) : Nat → Nat → EnvD → Store → Out
  | 0, _, _, _ => .bad
  | n + 1, i, env, S => match S[l]? with
    | some (.lst ds) => match ds[i]? with
      | some d => match f d env S with
        | .nx env S => forL f l n (i + 1) env S
        | .ct env S => forL f l n (i + 1) env S
        | .bk env S => .nx env S
        | o => o
      | none => .nx env S
    | _ => .bad
/-- a for over enumerate(a list of the store) -/
def forE (f : D → EnvD → Store → Out) (l : Nat) : Nat → Nat → EnvD → Store → Out
  | 0, _, _, _ => .bad
  | n + 1, i, env, S => match S[l]? with
    | some (.lst ds) => match ds[i]? with
      | some d => match f (.tup [.int (i : Nat), d]) env S with
        | .nx env S => forE f l n (i + 1) env S
        | .ct env S => forE f l n (i + 1) env S
        | .bk env S => .nx env S
        | o => o
      | none => .nx env S
    | _ => .bad
def whlT (t : EnvD → Store → Res Bool) (f : EnvD → Store → Out) : Nat → EnvD → Store → Out
  | 0, _, _ => .bad
  | n + 1, env, S => (t env S).out env fun b S => match b with
    | true => match f env S with
      | .nx env S => whlT t f n env S
      | .ct env S => whlT t f n env S
      | .bk env S => .nx env S
      | o => o
    | false => .nx env S
def evTest (c : Ctx) (t : EX) (env : EnvD) (S : Store) : Res Bool := (evE c t env S).bind truR
/-- the fields of the module's own exceptions, by their classes -/
abbrev XcT := String → Option (List String)
/-! ### a def's own part of the store, laid anew -/
/-- what names lead to, from place n on, in the names' order; what is not flat is forgotten -/
def packGo (n : Nat) (S : Store) : EnvD → List Nat → List Ob → EnvD × List Ob
  | [], _, os => ([], os)
  | none :: env, rs, os => (none :: (packGo n S env rs os).1, (packGo n S env rs os).2)
  | some (.loc l) :: env, rs, os => if l < n then (some (.loc l) :: (packGo n S env rs os).1, (packGo n S env rs os).2) else match rs.findIdx? (fun r => decide (r = l)) with
    | some j => (some (.loc (n + j)) :: (packGo n S env rs os).1, (packGo n S env rs os).2)
    | none => match S[l]? with
      | some o => if o.bd n then (some (.loc (n + rs.length)) :: (packGo n S env (rs ++ [l]) (os ++ [o])).1, (packGo n S env (rs ++ [l]) (os ++ [o])).2) else (none :: (packGo n S env rs os).1, (packGo n S env rs os).2)
      | none => (none :: (packGo n S env rs os).1, (packGo n S env rs os).2)
  | some d :: env, rs, os => if d.bd n then (some d :: (packGo n S env rs os).1, (packGo n S env rs os).2) else (none :: (packGo n S env rs os).1, (packGo n S env rs os).2)
def packO (n : Nat) (env : EnvD) (S : Store) : Out := if n ≤ S.length ∧ (S.take n).all (Ob.bd n) = true then .nx (packGo n S env [] []).1 (S.take n ++ (packGo n S env [] []).2) else .bad
/-- what a loop's body must leave where it is -/
def itBase (n : Nat) (iv : ItV) (S : Store) : Nat := match iv with
  | .ds ds => if bds n ds then n else max n S.length
  | .lst l => max n (l + 1)
  | .enl l => max n (l + 1)
mutual
def evS (c : Ctx) : Nat → ST → EnvD → Store → Out
  | _, .expr e, env, S => (evE c e env S).out env fun _ S => .nx env S
  | _, .set i e, env, S => (evE c e env S).out env fun d S => if i < env.length then .nx (env.set i (some d)) S else .bad
  | _, .par ns es, env, S => (evEs c es env S).out env fun ds S => if ds.length = ns.length then .nx (parE ns ds env) S else .bad
  | _, .asg t e, env, S => (evE c e env S).out env fun d S => asgT c t d env S
  | _, .fst o f e, env, S => (evE c e env S).out env fun d S => (evE c o env S).out env fun x S => (fldD c x f d S).out env fun _ S => .nx env S
  | _, .asgs ts e, env, S => (evE c e env S).out env fun d S => match d with
    | .tup ds => if ds.length = ts.length then asgTs c ts ds env S else .bad
    | .loc l => match S[l]? with
      | some (.lst ds) => if ds.length = ts.length then asgTs c ts ds env S else .bad
      | _ => .bad
    | _ => .bad
  | _, .aug i op e, env, S => match env[i]? with
    | some (some x) => (evE c e env S).out env fun y S => (augD op x y S).out env fun z S => .nx (env.set i (some z)) S
    | _ => .bad
  | _, .ret e, env, S => (evE c e env S).out env fun d S => .rt d S
  | _, .ret0, env, S => .rt .non S
  | n, .ife t a b, env, S => (evTest c t env S).out env fun k S => match k with
    | true => evSs c n a env S
    | false => evSs c n b env S
  | n, .whl t b, env, S => whlT (evTest c t) (fun env S => evSs c n b env S) LIM env S
  | n, .for_ t it b, env, S => (evIt c it env S).out env fun iv S => match iv with
    | .ds ds => forT (fun d env S' => match bindT t d env with
      | some env => evSs c (itBase n (.ds ds) S) b env S'
      | none => .bad) ds env S
    | .lst l => forL (fun d env S' => match bindT t d env with
      | some env => evSs c (itBase n (.lst l) S) b env S'
      | none => .bad) l LIM 0 env S
    | .enl l => forE (fun d env S' => match bindT t d env with
      | some env => evSs c (itBase n (.enl l) S) b env S'
      | none => .bad) l LIM 0 env S
  | _, .brk, env, S => .bk env S
  | _, .cont, env, S => .ct env S
  | _, .pass, env, S => .nx env S
  | _, .never, _, _ => .bad
  | _, .raise C, env, S => if c.exc C then .exc ⟨C, []⟩ env S else .bad
  | n, .pack dead, env, S => packO n (wipeE env dead) S
def evSs (c : Ctx) : Nat → SS → EnvD → Store → Out
  | _, .nil, env, S => .nx env S
  | n, .cons s ss, env, S => (evS c n s env S).then fun env S => evSs c n ss env S
end

/-! ### defs, calls -/
structure Def where
  np : Nat      -- parameters
  nn : Nat      -- names in all
  body : SS
structure Prg where
  defs : String → Option Def
  meths : String → String → Option Def
  glb : String → Option D
  bty : String → Bool
  att : String → String → Bool
  gd : Bool := false   -- known: no repr is under way (and no instance is made)
  wrd : String → Option (List (String × Str) × Str) := fun _ => none   -- the words of what is raised, of none
  xc : String → Bool := fun _ => false
  bm : String → String → Bool := fun _ _ => false   -- methods that may be taken as values
/-- the word of a call's end -/
def wordR (xc : String → Bool) (w : Option (List (String × Str) × Str)) (r : Res D) : Res D := match w with
  | some (hs, told) => match r with
    | .ok _ S => .ok (.str told) S
    | .exc x S => if xc x.cls then match hs.find? fun h => decide (h.1 = x.cls) with
      | some h => .ok (.str h.2) S
      | none => .bad else .bad
    | .bad => .bad
  | none => .bad
def endO (o : Out) : Res D := match o with
  | .nx _ S => .ok .non S
  | .rt d S => .ok d S
  | .exc x _ S => .exc x S
  | _ => .bad
def gcR (S : Store) (r : Res D) : Res D := match r with
  | .ok d S' => .ok (gc d S.length S').1 (gc d S.length S').2
  | .exc x S' => .exc x S'
  | .bad => .bad
def startE (nn : Nat) (ds : List D) : EnvD := ds.map some ++ List.replicate (nn - ds.length) none
def runDef (c : Ctx) (d : Def) (ds : List D) (S : Store) : Res D := if ds.length = d.np then gcR S (endO (evSs c S.length d.body (startE d.nn ds) S)) else .bad
/-- the calls at a depth -/
def cxK (P : Prg) : Nat → Ctx
  | 0 => ⟨fun _ _ _ => .bad, fun _ _ _ _ => .bad, fun _ _ _ => .bad, P.glb, P.bty, P.att, fun _ => false, fun _ => false, fun _ _ => false, P.gd, fun _ _ _ _ => .bad, P.xc, P.bm⟩
  | k + 1 => ⟨fun x ds S => match P.defs x with
      | some d => runDef (cxK P k) d ds S
      | none => .bad,
    fun C m ds S => match P.meths C m with
      | some d => runDef (cxK P k) d ds S
      | none => .bad,
    fun C ds S => match k with
      | 0 => .bad
      | j + 1 => match P.meths C "__init__" with
        | some d => runDef (cxK P j) d ds S
        | none => .bad, P.glb, P.bty, P.att, fun x => (P.defs x).isSome, fun C => !P.gd && (P.meths C "__init__").isSome, fun C m => (P.meths C m).isSome, P.gd,
    fun x b env S => match k with
      | 0 => .bad
      | j + 1 => wordR P.xc (P.wrd x) (evE (cxK P j) b env S), P.xc, P.bm⟩
end Ev
end

section
set_option Elab.async false
set_option linter.all false
set_option maxRecDepth 100000
set_option autoImplicit false
/-! Ev1b: places below. -/
namespace Ev
open PySem
mutual
theorem D.bd_mono {n m : Nat} (h : n ≤ m) : ∀ {d : D}, d.bd n = true → d.bd m = true
  | .non, _ => rfl
  | .bl _, _ => rfl
  | .int _, _ => rfl
  | .str _, _ => rfl
  | .scr _, _ => rfl
  | .ty _, _ => rfl
  | .fn _, _ => rfl
  | .kd _ _, _ => rfl
  | .bm _ _ l, e => by
    simp [D.bd] at e ⊢
    omega
  | .tup ds, e => by
    have e : bds n ds = true := by simpa [D.bd] using e
    show D.bd m (.tup ds) = true
    simpa [D.bd] using bds_mono h e
  | .ktup ds, e => by
    have e : bds n ds = true := by simpa [D.bd] using e
    show D.bd m (.ktup ds) = true
    simpa [D.bd] using bds_mono h e
  | .loc l, e => by
    simp [D.bd] at e ⊢
    omega
theorem bds_mono {n m : Nat} (h : n ≤ m) : ∀ {ds : List D}, bds n ds = true → bds m ds = true
  | [], _ => rfl
  | d :: ds, e => by
    have e : (d.bd n && bds n ds) = true := e
    rw [Bool.and_eq_true] at e
    show (d.bd m && bds m ds) = true
    rw [D.bd_mono h e.1, bds_mono h e.2]; rfl
end
theorem Ob.bd_mono {n m : Nat} (h : n ≤ m) {o : Ob} (e : o.bd n = true) : o.bd m = true := by
  cases o with
  | lst ds => exact bds_mono h e
  | dk kvs => exact List.all_eq_true.mpr fun p hp => D.bd_mono h (List.all_eq_true.mp e p hp)
  | dt kvs => exact List.all_eq_true.mpr fun p hp => D.bd_mono h (List.all_eq_true.mp e p hp)
  | ins C fs => exact List.all_eq_true.mpr fun p hp => D.bd_mono h (List.all_eq_true.mp e p hp)
theorem bds_min {n m : Nat} {ds : List D} (h1 : bds n ds = true) (h2 : bds m ds = true) : bds (min n m) ds = true := by
  rcases Nat.le_total n m with h | h
  · rw [Nat.min_eq_left h]; exact h1
  · rw [Nat.min_eq_right h]; exact h2
end Ev
end

section
set_option Elab.async false
set_option linter.all false
set_option maxRecDepth 100000
set_option autoImplicit false
/-! Ev2: how the evaluator's data and store stand in the hand layer's abstract heap. -/
namespace Ev
open PySem PySem.Spec L2
open PyProof.Rows hiding St

/-- what the written part gives by names: the classes' addresses -/
structure Wr where
  K : PySem.W.Frag
  ca : String → Addr
  tabs : List (Addr × Str) := []   -- tables of code objects, and what these are called
  lc : Addr := 0                   -- the code object of the def that makes lambdas
  w : World
  ma : String → String → Addr := fun _ _ => 0   -- the methods' functions
mutual
/-- a module's data, as the head leaves them -/
def datB (K : PySem.W.Frag) : D → Value → Bool
  | .non, .none => true
  | .bl b, .bool c => b == c
  | .int i, .int j _ => decide (i = j)
  | .str x, .str y _ => decide (x = y)
  | .ktup ds, .ref a => match K.lookup a with
    | some ⟨.type t, _, .seq its _, _⟩ => decide (t = "tuple") && decide (its.size ≤ sizeLine) && datsB K ds its.toList
    | _ => false
  | _, _ => false
def datsB (K : PySem.W.Frag) : List D → List Value → Bool
  | [], [] => true
  | d :: ds, u :: us => datB K d u && datsB K ds us
  | _, _ => false
end
/-- the entries of a dict of the module -/
def entB (K : PySem.W.Frag) : List DictEntry → List Str → List D → Bool
  | [], [], [] => true
  | e :: es, k :: ks, d :: ds => (match e.key with
    | .str x _ => decide (x = k)
    | _ => false) && datB K d e.val && entB K es ks ds
  | _, _, _ => false

mutual
inductive RepV (K : Wr) (φ : List Addr) (H : Hp) : V → D → Prop
  | non : RepV K φ H .non .non
  | bl (b : Bool) : RepV K φ H (.bl b) (.bl b)
  | int (i : Int) : RepV K φ H (.int i) (.int i)
  | str (x : Str) : RepV K φ H (.str x) (.str x)
  | ty (n : String) : RepV K φ H (.ty n) (.ty n)
  | tup {a : Addr} {vs : List V} {ds : List D} : H a = some (.tup vs) → RepVs K φ H vs ds → RepV K φ H (.ref a) (.tup ds)
  | ktup {a : Addr} {o : Obj} {its : Array Value} {n : Nat} {vs : List V} {ds : List D} : K.K.lookup a = some o → o.cls = .type "tuple" → o.data = .seq its n → its.size ≤ sizeLine → Vals vs its.toList → RepVs K φ H vs ds → RepV K φ H (.ref a) (.ktup ds)
  | loc {a : Addr} {l : Nat} : φ[l]? = some a → RepV K φ H (.ref a) (.loc l)
  | scrF {a : Addr} {o : Obj} {ns : List Int} : H a = some (.frz o (.lst (ns.map V.int))) → RepV K φ H (.ref a) (.scr ns)
  | scrK {a : Addr} {o : Obj} {its : Array Value} {n : Nat} {ns : List Int} : K.K.lookup a = some o → o.cls = .type "list" → o.dict = none → o.data = .seq its n → its.size ≤ sizeLine → Vals (ns.map V.int) its.toList → RepV K φ H (.ref a) (.scr ns)
  | fn (x : String) : RepV K φ H (.ref (K.ca x)) (.fn x)
  | bm {q a : Addr} {C m : String} {l : Nat} : H q = some (.met (K.ma C m) a) → φ[l]? = some a → RepV K φ H (.ref q) (.bm C m l)
  | kd {a : Addr} {es : Array DictEntry} {n : Nat} {ks : List Str} {ds : List D} : KDict K.K K.w a es n → entB K.K es.toList ks ds = true → RepV K φ H (.ref a) (.kd ks ds)
inductive RepVs (K : Wr) (φ : List Addr) (H : Hp) : List V → List D → Prop
  | nil : RepVs K φ H [] []
  | cons {v : V} {vs : List V} {d : D} {ds : List D} : RepV K φ H v d → RepVs K φ H vs ds → RepVs K φ H (v :: vs) (d :: ds)
end
abbrev RepK (K : Wr) (φ : List Addr) (H : Hp) {κ : Type} : List (κ × V) → List (κ × D) → Prop := Paired fun p q => p.1 = q.1 ∧ RepV K φ H p.2 q.2
abbrev RepF (K : Wr) (φ : List Addr) (H : Hp) : List (Str × V) → List (String × D) → Prop := Paired fun p q => p.1 = Str.ofString q.1 ∧ RepV K φ H p.2 q.2
def RepO (T : Wr) (φ : List Addr) (H : Hp) (a : Addr) : Ob → Prop
  | .lst ds => ∃ vs, H a = some (.lst vs) ∧ RepVs T φ H vs ds
  | .dk kds => ∃ kvs, H a = some (.dK kvs) ∧ RepK T φ H kvs kds
  | .dt kds => ∃ kvs, H a = some (.dT kvs) ∧ RepK T φ H kvs kds
  | .ins C fs => ∃ dx vfs, H a = some (.ins (T.ca C) dx vfs) ∧ RepF T φ H vfs fs
structure RepS (T : Wr) (φ : List Addr) (H : Hp) (S : Store) : Prop where
  len : φ.length = S.length
  nd : φ.Nodup
  ob : ∀ (l : Nat) (o : Ob) (a : Addr), S[l]? = some o → φ[l]? = some a → RepO T φ H a o
  tab : LamX.Tabs T.tabs H
/-- nothing stands there (but a table of code objects) -/
def Nw (H : Hp) (a : Addr) : Prop := ∀ u, H a = some u → ∃ ps, u = .tbl ps
theorem Nw.of {H : Hp} {a : Addr} (h : H a = none) : Nw H a := fun u e => by rw [h] at e; cases e
/-- what a run leaves of what stood: the places stay, new ones were free, what is no place of the store stays -/
structure Ext (φ φ' : List Addr) (H H' : Hp) : Prop where
  pre : φ <+: φ'
  new : ∀ a ∈ φ', a ∈ φ ∨ Nw H a
  kp : ∀ b o, H b = some o → b ∉ φ → (∀ ps, o ≠ .tbl ps) → H' b = some o
/-- .. the places from n on may be laid anew -/
structure ExtN (n : Nat) (φ φ' : List Addr) (H H' : Hp) : Prop where
  pre : φ.take n <+: φ'
  new : ∀ a ∈ φ', a ∈ φ ∨ Nw H a
  kp : ∀ b o, H b = some o → b ∉ φ → (∀ ps, o ≠ .tbl ps) → H' b = some o
theorem Ext.toN {φ φ' : List Addr} {H H' : Hp} (x : Ext φ φ' H H') (n : Nat) : ExtN n φ φ' H H' := ⟨(List.take_prefix n φ).trans x.pre, x.new, x.kp⟩
theorem ExtN.toE {n : Nat} {φ φ' : List Addr} {H H' : Hp} (x : ExtN n φ φ' H H') (h : φ.length ≤ n) : Ext φ φ' H H' := ⟨by have := x.pre; rwa [List.take_of_length_le h] at this, x.new, x.kp⟩
structure Rep (T : Wr) (φ : List Addr) (σ : St) (H : Hp) (env : EnvD) (S : Store) : Prop where
  sto : RepS T φ H S
  len : σ.length = env.length
  env : ∀ (i : Nat) (d : D), env[i]? = some (some d) → ∃ v, σ[i]? = some (some v) ∧ RepV T φ H v d

theorem RepO.mut {T : Wr} {φ : List Addr} {H : Hp} {a : Addr} {o : Ob} (h : RepO T φ H a o) : ∃ u, H a = some u ∧ Mut (some u) ∧ (∀ ps, u ≠ .tbl ps) := by
  cases o with
  | lst ds => obtain ⟨vs, e, _⟩ := h; exact ⟨_, e, trivial, fun _ z => by cases z⟩
  | dk ds => obtain ⟨vs, e, _⟩ := h; exact ⟨_, e, trivial, fun _ z => by cases z⟩
  | dt ds => obtain ⟨vs, e, _⟩ := h; exact ⟨_, e, trivial, fun _ z => by cases z⟩
  | ins C fs => obtain ⟨dx, vs, e, _⟩ := h; exact ⟨_, e, trivial, fun _ z => by cases z⟩
def inSt : HO → Prop
  | .ext _ => False
  | _ => True
theorem RepO.inStore {T : Wr} {φ : List Addr} {H : Hp} {a : Addr} {o : Ob} (h : RepO T φ H a o) : ∃ u, H a = some u ∧ inSt u := by
  cases o with
  | lst ds => obtain ⟨vs, e, _⟩ := h; exact ⟨_, e, trivial⟩
  | dk ds => obtain ⟨vs, e, _⟩ := h; exact ⟨_, e, trivial⟩
  | dt ds => obtain ⟨vs, e, _⟩ := h; exact ⟨_, e, trivial⟩
  | ins C fs => obtain ⟨dx, vs, e, _⟩ := h; exact ⟨_, e, trivial⟩
section
variable {T : Wr} {φ φ' φ'' : List Addr} {H H' H'' : Hp} {S S' : Store} {σ : St} {env : EnvD}
theorem RepS.mem (h : RepS T φ H S) {a : Addr} (ha : a ∈ φ) : ∃ (l : Nat) (o : Ob), φ[l]? = some a ∧ S[l]? = some o ∧ RepO T φ H a o := by
  obtain ⟨l, hl, e⟩ := List.getElem_of_mem ha
  have hl' : l < S.length := by rw [← h.len]; exact hl
  have e1 : φ[l]? = some a := by rw [List.getElem?_eq_getElem hl, e]
  exact ⟨l, S[l], e1, List.getElem?_eq_getElem hl', h.ob l _ a (List.getElem?_eq_getElem hl') e1⟩
theorem RepS.mut (h : RepS T φ H S) {a : Addr} (ha : a ∈ φ) : ∃ u, H a = some u ∧ Mut (some u) := by
  obtain ⟨l, o, _, _, r⟩ := h.mem ha
  obtain ⟨u, e, m, _⟩ := r.mut
  exact ⟨u, e, m⟩
/-- what is no list, no dict, no instance is no place -/
theorem RepS.out (h : RepS T φ H S) {a : Addr} {u : HO} (e : H a = some u) (m : ¬ Mut (some u)) : a ∉ φ := fun ha => by
  obtain ⟨v, e', m'⟩ := h.mut ha
  rw [e] at e'; cases e'
  exact m m'
theorem RepS.at (h : RepS T φ H S) {l : Nat} {o : Ob} (e : S[l]? = some o) : ∃ a, φ[l]? = some a ∧ RepO T φ H a o := by
  have hl : l < S.length := (List.getElem?_eq_some_iff.mp e).1
  have hl' : l < φ.length := by rw [h.len]; exact hl
  exact ⟨φ[l], List.getElem?_eq_getElem hl', h.ob l o _ e (List.getElem?_eq_getElem hl')⟩
theorem Ext.refl : Ext φ φ H H := ⟨List.prefix_refl _, fun _ h => .inl h, fun _ _ h _ _ => h⟩
theorem Ext.trans (a : Ext φ φ' H H') (b : Ext φ' φ'' H' H'') : Ext φ φ'' H H'' := by
  refine ⟨a.pre.trans b.pre, fun c hc => ?_, fun c o h hn ht => ?_⟩
  · rcases b.new c hc with h | h
    · exact a.new c h
    · by_cases hcφ : c ∈ φ
      · exact .inl hcφ
      · refine .inr fun o q => ?_
        cases o with
        | tbl ps => exact ⟨ps, rfl⟩
        | _ => exact h _ (a.kp c _ q hcφ (fun _ z => by cases z))
  · have e := a.kp c o h hn ht
    refine b.kp c o e (fun hc => ?_) ht
    rcases a.new c hc with q | q
    · exact hn q
    · obtain ⟨ps, z⟩ := q o h
      exact ht ps z
theorem ExtN.le {n m : Nat} (h : n ≤ m) (x : ExtN m φ φ' H H') : ExtN n φ φ' H H' := ⟨by
  have e : φ.take n = (φ.take m).take n := by rw [List.take_take, Nat.min_eq_left h]
  rw [e]
  exact (List.take_prefix n _).trans x.pre, x.new, x.kp⟩
theorem ExtN.trans {n : Nat} (a : ExtN n φ φ' H H') (b : ExtN n φ' φ'' H' H'') : ExtN n φ φ'' H H'' := by
  refine ⟨?_, fun c hc => ?_, fun c o h hn ht => ?_⟩
  · obtain ⟨t, ht⟩ := a.pre
    refine List.IsPrefix.trans ?_ b.pre
    rw [← ht, List.take_append]
    have : (φ.take n).take n = φ.take n := by rw [List.take_take, Nat.min_self]
    rw [this]
    exact List.prefix_append _ _
  · rcases b.new c hc with h | h
    · exact a.new c h
    · by_cases hcφ : c ∈ φ
      · exact .inl hcφ
      · refine .inr fun o q => ?_
        cases o with
        | tbl ps => exact ⟨ps, rfl⟩
        | _ => exact h _ (a.kp c _ q hcφ (fun _ z => by cases z))
  · have e := a.kp c o h hn ht
    refine b.kp c o e (fun hc => ?_) ht
    rcases a.new c hc with q | q
    · exact hn q
    · obtain ⟨ps, z⟩ := q o h
      exact ht ps z
theorem SqT.extN {n : Nat} {K : PySem.W.Frag} {a : Addr} {xs : List V} (r : RepS T φ H S) (x : ExtN n φ φ' H H') (h : SqT K H a xs) : SqT K H' a xs := by
  rcases h with (h | ⟨o, h⟩) | h
  · exact .inl (.inl (x.kp _ _ h (r.out h fun z => z) fun _ z => by cases z))
  · exact .inl (.inr ⟨o, x.kp _ _ h (r.out h fun z => z) fun _ z => by cases z⟩)
  · exact .inr h
theorem preN_at {n l : Nat} {a : Addr} (x : φ.take n <+: φ') (h : φ[l]? = some a) (hl : l < n) : φ'[l]? = some a := by
  have h2 : (φ.take n)[l]? = some a := by rw [List.getElem?_take_of_lt hl]; exact h
  obtain ⟨t, rfl⟩ := x
  rw [List.getElem?_append_left (List.getElem?_eq_some_iff.mp h2).1]
  exact h2
mutual
theorem RepV.extN {n : Nat} (r : RepS T φ H S) (x : ExtN n φ φ' H H') : ∀ {v : V} {d : D}, RepV T φ H v d → d.bd n = true → RepV T φ' H' v d
  | _, _, .non, _ => .non
  | _, _, .bl b, _ => .bl b
  | _, _, .int b, _ => .int b
  | _, _, .str b, _ => .str b
  | _, _, .ty b, _ => .ty b
  | _, _, .tup h hs, e => .tup (x.kp _ _ h (r.out h fun z => z) fun _ z => by cases z) (RepVs.extN r x hs (by simpa [D.bd] using e))
  | _, _, .ktup h1 h2 h3 h4 h5 hs, e => .ktup h1 h2 h3 h4 h5 (RepVs.extN r x hs (by simpa [D.bd] using e))
  | _, _, .loc h, e => .loc (preN_at x.pre h (by simpa [D.bd] using e))
  | _, _, .scrF h, _ => .scrF (x.kp _ _ h (r.out h fun z => z) fun _ z => by cases z)
  | _, _, .scrK h1 h2 h3 h4 h5 h6, _ => .scrK h1 h2 h3 h4 h5 h6
  | _, _, .fn y, _ => .fn y
  | _, _, .bm h1 h2, e => .bm (x.kp _ _ h1 (r.out h1 fun z => z) fun _ z => by cases z) (preN_at x.pre h2 (by simpa [D.bd] using e))
  | _, _, .kd h1 h2, _ => .kd h1 h2
theorem RepVs.extN {n : Nat} (r : RepS T φ H S) (x : ExtN n φ φ' H H') : ∀ {vs : List V} {ds : List D}, RepVs T φ H vs ds → bds n ds = true → RepVs T φ' H' vs ds
  | _, _, .nil, _ => .nil
  | _, _, .cons h hs, e => by
    have e : (_ && _) = true := e
    rw [Bool.and_eq_true] at e
    exact .cons (RepV.extN r x h e.1) (RepVs.extN r x hs e.2)
end
mutual
theorem RepV.low : ∀ {v : V} {d : D}, RepV T φ H v d → d.bd φ.length = true
  | _, _, .non => rfl
  | _, _, .bl b => rfl
  | _, _, .int b => rfl
  | _, _, .str b => rfl
  | _, _, .ty b => rfl
  | _, _, .tup h hs => by simpa [D.bd] using RepVs.low hs
  | _, _, .ktup h1 h2 h3 h4 h5 hs => by simpa [D.bd] using RepVs.low hs
  | _, _, .loc h => by simpa [D.bd] using (List.getElem?_eq_some_iff.mp h).1
  | _, _, .scrF h => rfl
  | _, _, .scrK h1 h2 h3 h4 h5 h6 => rfl
  | _, _, .fn y => rfl
  | _, _, .bm h1 h2 => by simpa [D.bd] using (List.getElem?_eq_some_iff.mp h2).1
  | _, _, .kd h1 h2 => rfl
theorem RepVs.low : ∀ {vs : List V} {ds : List D}, RepVs T φ H vs ds → bds φ.length ds = true
  | _, _, .nil => rfl
  | _, _, .cons h hs => by
    show (_ && _) = true
    rw [RepV.low h, RepVs.low hs]
    rfl
end
/-- a tuple stays -/
theorem SqT.ext {K : PySem.W.Frag} {a : Addr} {xs : List V} (r : RepS T φ H S) (x : Ext φ φ' H H') (h : SqT K H a xs) : SqT K H' a xs := by
  rcases h with (h | ⟨o, h⟩) | h
  · exact .inl (.inl (x.kp _ _ h (r.out h fun z => z) fun _ z => by cases z))
  · exact .inl (.inr ⟨o, x.kp _ _ h (r.out h fun z => z) fun _ z => by cases z⟩)
  · exact .inr h
theorem pre_at {l : Nat} {a : Addr} (x : φ <+: φ') (h : φ[l]? = some a) : φ'[l]? = some a := by
  obtain ⟨t, rfl⟩ := x
  rw [List.getElem?_append_left (List.getElem?_eq_some_iff.mp h).1]
  exact h
mutual
theorem RepV.ext (r : RepS T φ H S) (x : Ext φ φ' H H') : ∀ {v : V} {d : D}, RepV T φ H v d → RepV T φ' H' v d
  | _, _, .non => .non
  | _, _, .bl b => .bl b
  | _, _, .int b => .int b
  | _, _, .str b => .str b
  | _, _, .ty b => .ty b
  | _, _, .tup h hs => .tup (x.kp _ _ h (r.out h fun z => z) fun _ z => by cases z) (RepVs.ext r x hs)
  | _, _, .ktup h1 h2 h3 h4 h5 hs => .ktup h1 h2 h3 h4 h5 (RepVs.ext r x hs)
  | _, _, .loc h => .loc (pre_at x.pre h)
  | _, _, .scrF h => .scrF (x.kp _ _ h (r.out h fun z => z) fun _ z => by cases z)
  | _, _, .scrK h1 h2 h3 h4 h5 h6 => .scrK h1 h2 h3 h4 h5 h6
  | _, _, .fn y => .fn y
  | _, _, .bm h1 h2 => .bm (x.kp _ _ h1 (r.out h1 fun z => z) fun _ z => by cases z) (pre_at x.pre h2)
  | _, _, .kd h1 h2 => .kd h1 h2
theorem RepVs.ext (r : RepS T φ H S) (x : Ext φ φ' H H') : ∀ {vs : List V} {ds : List D}, RepVs T φ H vs ds → RepVs T φ' H' vs ds
  | _, _, .nil => .nil
  | _, _, .cons h hs => .cons (RepV.ext r x h) (RepVs.ext r x hs)
end
theorem RepK.ext {κ : Type} (r : RepS T φ H S) (x : Ext φ φ' H H') {kvs : List (κ × V)} {kds : List (κ × D)} (h : RepK T φ H kvs kds) : RepK T φ' H' kvs kds :=
  Paired.mapP h fun _ _ q => ⟨q.1, q.2.ext r x⟩
theorem RepF.ext (r : RepS T φ H S) (x : Ext φ φ' H H') {kvs : List (Str × V)} {kds : List (String × D)} (h : RepF T φ H kvs kds) : RepF T φ' H' kvs kds :=
  Paired.mapP h fun _ _ q => ⟨q.1, q.2.ext r x⟩
theorem Rep.ext (r : Rep T φ σ H env S) (x : Ext φ φ' H H') (s : RepS T φ' H' S') : Rep T φ' σ H' env S' :=
  ⟨s, r.len, fun i d e => by
    obtain ⟨v, h1, h2⟩ := r.env i d e
    exact ⟨v, h1, h2.ext r.sto x⟩⟩
theorem RepVs.length {K : Wr} : ∀ {vs : List V} {ds : List D}, RepVs K φ H vs ds → vs.length = ds.length
  | _, _, .nil => rfl
  | _, _, .cons _ h => by simp [h.length]
theorem RepVs.get {K : Wr} : ∀ {vs : List V} {ds : List D} {i : Nat} {d : D}, RepVs K φ H vs ds → ds[i]? = some d → ∃ v, vs[i]? = some v ∧ RepV K φ H v d
  | _, _, _, _, .nil, e => by simp at e
  | _, _, 0, _, .cons r _, e => by simp at e; subst e; exact ⟨_, rfl, r⟩
  | _, _, i + 1, d, .cons _ t, e => by
    obtain ⟨v, h1, h2⟩ := RepVs.get (i := i) (d := d) t (by simpa using e)
    exact ⟨v, by simpa using h1, h2⟩
theorem RepVs.getV {K : Wr} : ∀ {vs : List V} {ds : List D} {i : Nat} {v : V}, RepVs K φ H vs ds → vs[i]? = some v → ∃ d, ds[i]? = some d ∧ RepV K φ H v d
  | _, _, _, _, .nil, e => by simp at e
  | _, _, 0, _, .cons r _, e => by simp at e; subst e; exact ⟨_, rfl, r⟩
  | _, _, i + 1, v, .cons _ t, e => by
    obtain ⟨d, h1, h2⟩ := RepVs.getV (i := i) (v := v) t (by simpa using e)
    exact ⟨d, by simpa using h1, h2⟩
theorem RepVs.append {K : Wr} : ∀ {vs ws : List V} {ds es : List D}, RepVs K φ H vs ds → RepVs K φ H ws es → RepVs K φ H (vs ++ ws) (ds ++ es)
  | _, _, _, _, .nil, s => s
  | _, _, _, _, .cons r t, s => .cons r (RepVs.append t s)
theorem RepVs.take {K : Wr} : ∀ {vs : List V} {ds : List D} (n : Nat), RepVs K φ H vs ds → RepVs K φ H (vs.take n) (ds.take n)
  | _, _, 0, _ => .nil
  | _, _, _ + 1, .nil => .nil
  | _, _, n + 1, .cons r t => .cons r (RepVs.take n t)
theorem RepVs.drop {K : Wr} : ∀ {vs : List V} {ds : List D} (n : Nat), RepVs K φ H vs ds → RepVs K φ H (vs.drop n) (ds.drop n)
  | _, _, 0, r => r
  | _, _, _ + 1, .nil => .nil
  | _, _, n + 1, .cons _ t => RepVs.drop n t
theorem RepVs.set {K : Wr} {v : V} {d : D} (r : RepV K φ H v d) : ∀ {vs : List V} {ds : List D} (i : Nat), RepVs K φ H vs ds → RepVs K φ H (vs.set i v) (ds.set i d)
  | _, _, _, .nil => .nil
  | _, _, 0, .cons _ t => .cons r t
  | _, _, i + 1, .cons q t => .cons q (RepVs.set r i t)
theorem RepVs.dropLast {K : Wr} {vs : List V} {ds : List D} (h : RepVs K φ H vs ds) : RepVs K φ H vs.dropLast ds.dropLast := by
  rw [List.dropLast_eq_take, List.dropLast_eq_take, h.length]
  exact h.take _
theorem RepVs.rep {K : Wr} {vs : List V} {ds : List D} (h : RepVs K φ H vs ds) : ∀ k : Nat, RepVs K φ H (List.replicate k vs).flatten (List.replicate k ds).flatten
  | 0 => .nil
  | k + 1 => by
    rw [List.replicate_succ, List.replicate_succ, List.flatten_cons, List.flatten_cons]
    exact h.append (h.rep k)
theorem RepVs.ints {K : Wr} : ∀ ns : List Int, RepVs K φ H (ns.map V.int) (ns.map D.int)
  | [] => .nil
  | n :: ns => .cons (.int n) (RepVs.ints ns)

/-- a new object at a free place -/
theorem Ext.alloc {p : Addr} {u : HO} (hp : H p = none) (hφ : p ∉ φ) : Ext φ (φ ++ [p]) H (upd H p u) := by
  refine ⟨List.prefix_append _ _, fun a ha => ?_, fun b o h _ _ => ?_⟩
  · rcases List.mem_append.mp ha with h | h
    · exact .inl h
    · rw [List.mem_singleton.mp h]; exact .inr (.of hp)
  · rw [upd_ne (ne_of_none h hp)]; exact h
/-- a new object that is no place of the store (a tuple) -/
theorem Ext.aside {p : Addr} {u : HO} (hp : H p = none) : Ext φ φ H (upd H p u) := by
  refine ⟨List.prefix_refl _, fun a ha => .inl ha, fun b o h _ _ => ?_⟩
  rw [upd_ne (ne_of_none h hp)]; exact h
theorem RepS.fresh (r : RepS T φ H S) {p : Addr} (hp : H p = none) : p ∉ φ := fun h => by
  obtain ⟨u, e, _⟩ := r.mut h
  rw [hp] at e; cases e
theorem RepO.ext {a : Addr} {o : Ob} (r : RepS T φ H S) (x : Ext φ φ' H H') (e : H' a = H a) (h : RepO T φ H a o) : RepO T φ' H' a o := by
  cases o with
  | lst ds => obtain ⟨vs, e1, h1⟩ := h; exact ⟨vs, e.trans e1, h1.ext r x⟩
  | dk ds => obtain ⟨vs, e1, h1⟩ := h; exact ⟨vs, e.trans e1, RepK.ext r x h1⟩
  | dt ds => obtain ⟨vs, e1, h1⟩ := h; exact ⟨vs, e.trans e1, RepK.ext r x h1⟩
  | ins C fs => obtain ⟨dx, vs, e1, h1⟩ := h; exact ⟨dx, vs, e.trans e1, RepF.ext r x h1⟩
/-- the store with what is new aside -/
theorem tabs_new {p : Addr} {u : HO} (t : LamX.Tabs T.tabs H) (hp : H p = none) : LamX.Tabs T.tabs (upd H p u) := t.ext fun b o h => by rw [upd_ne (ne_of_none h hp)]; exact h
theorem RepS.aside (r : RepS T φ H S) {p : Addr} {u : HO} (hp : H p = none) : RepS T φ (upd H p u) S :=
  ⟨r.len, r.nd, fun l o a e1 e2 => by
    have h := r.ob l o a e1 e2
    obtain ⟨w, ew, _⟩ := h.mut
    exact h.ext r (Ext.aside hp) (upd_ne (ne_of_none ew hp)), tabs_new r.tab hp⟩
theorem RepS.alloc (r : RepS T φ H S) {p : Addr} {u : HO} {o : Ob} (hp : H p = none) (h : RepO T (φ ++ [p]) (upd H p u) p o) : RepS T (φ ++ [p]) (upd H p u) (S ++ [o]) := by
  have hφ := r.fresh hp
  refine ⟨by simp [r.len], ?_, fun l ob a e1 e2 => ?_, tabs_new r.tab hp⟩
  · rw [List.nodup_append]
    exact ⟨r.nd, by simp, fun a ha b hb => by rw [List.mem_singleton.mp hb]; rintro rfl; exact hφ ha⟩
  · by_cases hl : l < S.length
    · rw [List.getElem?_append_left hl] at e1
      rw [List.getElem?_append_left (by rw [r.len]; exact hl)] at e2
      have h := r.ob l ob a e1 e2
      obtain ⟨w, ew, _⟩ := h.mut
      exact h.ext r (Ext.alloc hp hφ) (upd_ne (ne_of_none ew hp))
    · have hl2 : l = S.length := by
        have := (List.getElem?_eq_some_iff.mp e1).1
        simp at this; omega
      subst hl2
      rw [List.getElem?_append_right (Nat.le_refl _)] at e1
      rw [← r.len, List.getElem?_append_right (Nat.le_refl _)] at e2
      simp at e1 e2
      subst e1 e2
      exact h
/-- an object of the store is changed -/
theorem Ext.write {a : Addr} {u w : HO} (ha : a ∈ φ) (hw : H a = some w) (ht : ∀ ps, w ≠ .tbl ps) : Ext φ φ H (upd H a u) := by
  refine ⟨List.prefix_refl _, fun a ha => .inl ha, fun b o h hb _ => ?_⟩
  rw [upd_ne (by rintro rfl; exact hb ha)]; exact h
theorem RepS.write (r : RepS T φ H S) {l : Nat} {a : Addr} {u : HO} {o o' : Ob} (hl : S[l]? = some o) (ha : φ[l]? = some a) (h : RepO T φ (upd H a u) a o') : RepS T φ (upd H a u) (S.set l o') := by
  have ho := r.ob l o a hl ha
  obtain ⟨w, ew, _, ht⟩ := ho.mut
  have hmem : a ∈ φ := List.mem_of_getElem? ha
  refine ⟨by simp [r.len], r.nd, fun j ob b e1 e2 => ?_, ?_⟩
  rotate_left
  · intro q hq
    obtain ⟨ps, h1, h2, h3⟩ := r.tab q hq
    refine ⟨ps, by rw [upd_ne (by rintro e; rw [e, ew] at h1; cases h1; exact ht ps rfl)]; exact h1, h2, fun pos cv hc => ?_⟩
    obtain ⟨c, e1, e2⟩ := h3 pos cv hc
    exact ⟨c, e1, by rw [upd_ne (by rintro rfl; obtain ⟨w2, ew2, hm⟩ := ho.inStore; rw [e2] at ew2; cases ew2; exact hm)]; exact e2⟩
  by_cases hj : j = l
  · subst hj
    rw [ha] at e2; cases e2
    rw [List.getElem?_set_self (List.getElem?_eq_some_iff.mp hl).1] at e1
    cases e1
    exact h
  · rw [List.getElem?_set_ne (Ne.symm hj)] at e1
    have hb := r.ob j ob b e1 e2
    refine hb.ext r (Ext.write hmem ew ht) (upd_ne ?_)
    rintro rfl
    exact hj ((List.getElem?_inj (List.getElem?_eq_some_iff.mp e2).1 r.nd).mp (e2.trans ha.symm))
end
mutual
theorem datB_ok {T : Wr} : ∀ {d : D} {u : Value}, datB T.K d u = true → ∃ v, L2.RelV v u ∧ ∀ φ H, RepV T φ H v d
  | .non, u, h => by
    cases u <;> first | (cases h; done) | exact ⟨.non, rfl, fun _ _ => .non⟩
  | .bl b, u, h => by
    cases u with
    | bool c =>
      have e : b = c := eq_of_beq h
      subst e
      exact ⟨.bl b, rfl, fun _ _ => .bl b⟩
    | _ => cases h
  | .int i, u, h => by
    cases u with
    | int j t =>
      have e : i = j := of_decide_eq_true h
      subst e
      exact ⟨.int i, ⟨t, rfl⟩, fun _ _ => .int i⟩
    | _ => cases h
  | .str x, u, h => by
    cases u with
    | str y t =>
      have e : x = y := of_decide_eq_true h
      subst e
      exact ⟨.str x, ⟨t, rfl⟩, fun _ _ => .str x⟩
    | _ => cases h
  | .ktup ds, u, h => by
    cases u with
    | ref a =>
      have h : (match T.K.lookup a with
        | some ⟨.type t, _, .seq its _, _⟩ => decide (t = "tuple") && decide (its.size ≤ sizeLine) && datsB T.K ds its.toList
        | _ => false) = true := by unfold datB at h; exact h
      split at h
      · rename_i t od its n sl hl
        simp only [Bool.and_eq_true, decide_eq_true_eq] at h
        obtain ⟨⟨rfl, h2⟩, h3⟩ := h
        obtain ⟨vs, h4, h5⟩ := datsB_ok h3
        exact ⟨.ref a, rfl, fun φ H => .ktup hl rfl rfl h2 h4 (h5 φ H)⟩
      · cases h
    | _ => unfold datB at h; cases h
  | .tup _, u, h => by cases u <;> (unfold datB at h; cases h)
  | .loc _, u, h => by cases u <;> cases h
  | .scr _, u, h => by cases u <;> cases h
  | .ty _, u, h => by cases u <;> cases h
  | .fn _, u, h => by cases u <;> cases h
  | .bm _ _ _, u, h => by cases u <;> cases h
  | .kd _ _, u, h => by cases u <;> (unfold datB at h; cases h)
theorem datsB_ok {T : Wr} : ∀ {ds : List D} {us : List Value}, datsB T.K ds us = true → ∃ vs, Vals vs us ∧ ∀ φ H, RepVs T φ H vs ds
  | [], [], h => ⟨[], .nil, fun _ _ => .nil⟩
  | [], _ :: _, h => by cases h
  | _ :: _, [], h => by cases h
  | d :: ds, u :: us, h => by
    have h : (datB T.K d u && datsB T.K ds us) = true := by unfold datsB at h; exact h
    rw [Bool.and_eq_true] at h
    obtain ⟨v, h1, h2⟩ := datB_ok h.1
    obtain ⟨vs, h3, h4⟩ := datsB_ok h.2
    exact ⟨v :: vs, .cons h1 h3, fun φ H => .cons (h2 φ H) (h4 φ H)⟩
end
theorem nsIn_kd {K : PySem.W.Frag} {a : Addr} {es : Array DictEntry} {n : Nat} {ks : List Str} {ds : List D} (h : K.lookup a = some ⟨.type "dict", none, .dict es n, #[]⟩) (e : entB K es.toList ks ds = true) (z : Str) :
    (kdGet ks ds z = none → PySem.W.nsIn K a z = some none) ∧ ∀ d, kdGet ks ds z = some d → ∃ u, PySem.W.nsIn K a z = some (some u) ∧ datB K d u = true := by
  have gen : ∀ (L : List DictEntry) (ks : List Str) (ds : List D), entB K L ks ds = true → (L.any (·.refKey)) = false ∧ (kdGet ks ds z = none → L.find? (·.key.isStr z) = none) ∧ ∀ d, kdGet ks ds z = some d → ∃ e, L.find? (·.key.isStr z) = some e ∧ datB K d e.val = true := by
    intro L
    induction L with
    | nil =>
      intro ks ds e
      cases ks <;> cases ds <;> first | (cases e; done) | exact ⟨rfl, fun _ => rfl, fun d q => by cases q⟩
    | cons x L ih =>
      intro ks ds e
      match ks, ds, e with
      | k :: ks, d :: ds, e =>
        simp only [entB, Bool.and_eq_true] at e
        obtain ⟨⟨e1, e2⟩, e3⟩ := e
        obtain ⟨i1, i2, i3⟩ := ih ks ds e3
        split at e1
        · rename_i y t hy
          have e1 : y = k := of_decide_eq_true e1
          subst e1
          have r : x.refKey = false := by unfold DictEntry.refKey; rw [hy]
          have st : x.key.isStr z = decide (y = z) := by
            rw [hy]
            show (y == z) = _
            rw [Bool.eq_iff_iff]
            simp
          refine ⟨by rw [List.any_cons, r, i1]; rfl, fun q => ?_, fun d' q => ?_⟩
          · unfold kdGet at q
            split at q
            · cases q
            · rename_i hne
              rw [List.find?_cons, st, decide_eq_false hne]
              exact i2 q
          · unfold kdGet at q
            split at q
            · rename_i heq
              cases q
              exact ⟨x, by rw [List.find?_cons, st, decide_eq_true heq], e2⟩
            · rename_i hne
              rw [List.find?_cons, st, decide_eq_false hne]
              exact i3 d' q
        · cases e1
  obtain ⟨g1, g2, g3⟩ := gen es.toList ks ds e
  refine ⟨fun q => ?_, fun d q => ?_⟩
  · unfold PySem.W.nsIn
    simp only [h, g2 q, g1]
    rfl
  · obtain ⟨e, h1, h2⟩ := g3 d q
    exact ⟨e.val, by unfold PySem.W.nsIn; simp only [h, h1], h2⟩
end Ev
end

section
set_option Elab.async false
set_option linter.all false
set_option maxRecDepth 100000
set_option autoImplicit false
/-! Ev3m: a tuple times an int that is 1 or less; an empty tuple times any. -/
namespace PySem
open AutoSeq1 (wpAny_loadPart')
open Sem (wp)
theorem tuple_mulSame (l : Addr) (items : Array Value) (n : Nat) (sl : Array (Option Value)) (x : Int) (u : Tok) (c0 : (decide (x < -(2 ^ 63)) || decide (x ≥ 2 ^ 63)) = false) (c1 : (items.isEmpty || x == 1) = true) (dd : Option Addr) :
    Meets (Builtin.«tuple.__mul__» ⟨[.ref l, .int x u], []⟩) (fun _ R s => s.heap.get? l = some { cls := .type "tuple", dict := dd, data := .seq items n, slots := sl } ∧ R (.ok (.ret (Value.ref l))) s) :=
  .of_wp fun prog w A R s h => by
    obtain ⟨hp, g, d, tk, os⟩ := s
    obtain ⟨hl, h⟩ := h
    have f1 := AutoSeq1.idx_int
    wp_walk using wpAny_loadPart' hl
    repeat (first
      | (refine wpAny_ite_false (decide_eq_false (by rw [c0]; exact Bool.false_ne_true)) ?_; wp_walk using wpAny_loadPart' hl)
      | (refine wpAny_ite_true (decide_eq_true c1) ?_; wp_walk using wpAny_loadPart' hl))
    exact ⟨_, rfl, h⟩
theorem tuple_mulNone (l : Addr) (items : Array Value) (n : Nat) (sl : Array (Option Value)) (x : Int) (u : Tok) (c0 : (decide (x < -(2 ^ 63)) || decide (x ≥ 2 ^ 63)) = false) (c1 : (items.isEmpty || x == 1) = false) (c2 : (decide (x ≤ 0) || items.isEmpty) = true) (dd : Option Addr) :
    Meets (Builtin.«tuple.__mul__» ⟨[.ref l, .int x u], []⟩) (fun _ R s => s.heap.get? l = some { cls := .type "tuple", dict := dd, data := .seq items n, slots := sl } ∧ R (.ok (.ret (Value.ref s.heap.objs.size))) { s with heap := s.heap.push { cls := Value.type "tuple", data := Data.seq #[] }, toks := s.toks }) :=
  .of_wp fun prog w A R s h => by
    obtain ⟨hp, g, d, tk, os⟩ := s
    obtain ⟨hl, h⟩ := h
    have f1 := AutoSeq1.idx_int
    wp_walk using wpAny_loadPart' hl
    repeat (first
      | (refine wpAny_ite_false (decide_eq_false (by rw [c0]; exact Bool.false_ne_true)) ?_; wp_walk using wpAny_loadPart' hl)
      | (refine wpAny_ite_false (decide_eq_false (by rw [c1]; exact Bool.false_ne_true)) ?_; wp_walk using wpAny_loadPart' hl)
      | (refine wpAny_ite_true (decide_eq_true c2) ?_; wp_walk using wpAny_loadPart' hl))
    exact ⟨_, rfl, h⟩
end PySem
namespace L2
open PySem PySem.Spec PyProof.Rows
def rRep0 (K : PySem.W.Frag) : R2 := fun x y H Q => ∃ l k xs, x = .ref l ∧ y = .int k ∧ SqT K H l xs ∧ -1000 ≤ k ∧ k ≤ 1000 ∧ xs.length ≤ 1000 ∧ (((xs = [] ∨ k = 1) ∧ Q (.ref l) H) ∨ (xs ≠ [] ∧ k ≤ 0 ∧ ∀ p, H p = none → Q (.ref p) (upd H p (.tup []))))
section
variable {X : Cx}
theorem op_rep0 : OpR X (binaryOp .Mult) (rRep0 X.K) := by
  intro pins s σ H x y v u Q I rx ry h
  obtain ⟨l, k, xs, rfl, rfl, hT, h1, h2, hz, q⟩ := h
  cases rx
  obtain ⟨t, rfl⟩ := ry
  obtain ⟨its, r, ⟨⟨cls, dd, data, sl⟩, ho, hc, n, hd⟩, hs⟩ := I.tuple hT
  simp only at hc hd
  subst hc hd
  have hle : its.length = xs.length := r.length.symm
  have c0 : (decide (k < -(2 ^ 63)) || decide (k ≥ 2 ^ 63)) = false := by
    rw [decide_eq_false (by omega), decide_eq_false (by omega)] <;> rfl
  have he : its.toArray.isEmpty = decide (xs = []) := by
    cases its with
    | nil =>
      have : xs = [] := List.eq_nil_of_length_eq_zero hle.symm
      rw [this]; rfl
    | cons a b =>
      have : xs ≠ [] := fun e => by rw [e] at hle; simp at hle
      rw [decide_eq_false this]; rfl
  rcases q with ⟨c, q⟩ | ⟨hne, hk, q⟩
  · have c1 : (its.toArray.isEmpty || k == 1) = true := by
      rw [he]
      rcases c with c | c
      · rw [decide_eq_true c]; rfl
      · rw [c]; simp
    refine wpAny_binaryOp_repeat_ref (T := "tuple") (U := "int") (by decide) ⟨_, ho, rfl⟩ (fun s' => typeIs_int s' k t) noFill_tuple_mul F.fills_int_mul F.slot_int_rmul repeat_tuple F.slot_int_index.lookup
      (call_meets F.slot_int_rmul (typeIs_int s k t) F.entry_int_rmul (F.args_int_rmul_2 _ _) (int_rmul_tuple k t l its.toArray n dd sl)
        ⟨ho, rfl, ⟨_, ho, rfl⟩, call_meets F.slot_tuple_mul ⟨_, ho, rfl⟩ F.entry_tuple_mul (F.args_tuple_mul_2 _ _) (tuple_mulSame l its.toArray n sl k t c0 c1 dd) ⟨ho, ?_⟩⟩)
    exact ⟨.ref l, H, I, rfl, q⟩
  · have c1 : (its.toArray.isEmpty || k == 1) = false := by
      rw [he, decide_eq_false hne, Bool.false_or]
      exact beq_eq_false_iff_ne.mpr (by omega)
    have c2 : (decide (k ≤ 0) || its.toArray.isEmpty) = true := by
      rw [decide_eq_true hk]; rfl
    refine wpAny_binaryOp_repeat_ref (T := "tuple") (U := "int") (by decide) ⟨_, ho, rfl⟩ (fun s' => typeIs_int s' k t) noFill_tuple_mul F.fills_int_mul F.slot_int_rmul repeat_tuple F.slot_int_index.lookup
      (call_meets F.slot_int_rmul (typeIs_int s k t) F.entry_int_rmul (F.args_int_rmul_2 _ _) (int_rmul_tuple k t l its.toArray n dd sl)
        ⟨ho, rfl, ⟨_, ho, rfl⟩, call_meets F.slot_tuple_mul ⟨_, ho, rfl⟩ F.entry_tuple_mul (F.args_tuple_mul_2 _ _) (tuple_mulNone l its.toArray n sl k t c0 c1 c2 dd) ⟨ho, ?_⟩⟩)
    refine ⟨.ref s.heap.objs.size, _, I.laid (t' := s.toks) (o := .tup []) (fun b ob q => Heap.get?_push_of_some _ q) (Nat.le_refl _) ?_, rfl, q _ (I.hok.fresh (Nat.le_refl _))⟩
    exact ⟨by rw [sizeLine_eq]; exact Nat.zero_le _, _, .nil, IsTup.new _ _⟩
end
end L2
end

section
set_option Elab.async false
set_option linter.all false
set_option maxRecDepth 100000
set_option autoImplicit false
/-! Ev3: what the evaluator's operators tell holds of the model's. -/
namespace Ev
open PySem PySem.Spec L2
open PyProof.Rows hiding St

/-! ### what a run's end is to give -/
def RepX (T : Wr) (φ : List Addr) (H : Hp) (cls : Value) (dx : Option Addr) (x : Xc) : Prop := cls = .ref (T.ca x.cls) ∧ x.fs = [] ∧ dx = none
abbrev Rl (α β : Type) := List Addr → Hp → β → α → Prop
abbrev WXk := Value → Option Addr → Hp → Prop
def Post {α β : Type} (T : Wr) (W : WXk) (R : Rl α β) (φ : List Addr) (H : Hp) (r : Res α) (Q : β → Hp → Prop) : Prop := match r with
  | .ok a S' => ∀ φ' H' b, Ext φ φ' H H' → RepS T φ' H' S' → R φ' H' b a → Q b H'
  | .exc x S' => ∀ φ' H' cls dx, Ext φ φ' H H' → RepS T φ' H' S' → RepX T φ' H' cls dx x → W cls dx H'
  | .bad => False
abbrev RV (T : Wr) : Rl D V := fun φ H v d => RepV T φ H v d
abbrev RVs (T : Wr) : Rl (List D) (List V) := fun φ H v d => RepVs T φ H v d
abbrev RE {α : Type} : Rl α α := fun _ _ b a => b = a
section
variable {α β γ δ : Type} {T : Wr} {W : WXk} {φ φ' : List Addr} {H H' : Hp} {S S' : Store}
theorem Post.ext {R : Rl α β} {r : Res α} {Q : β → Hp → Prop} (x : Ext φ φ' H H') (p : Post T W R φ H r Q) : Post T W R φ' H' r Q := by
  cases r with
  | ok a S1 => exact fun φ2 H2 b x2 => p φ2 H2 b (x.trans x2)
  | exc e S1 => exact fun φ2 H2 c d x2 => p φ2 H2 c d (x.trans x2)
  | bad => exact p
theorem Post.imp {R : Rl α β} {r : Res α} {Q Q' : β → Hp → Prop} (p : Post T W R φ H r Q) (h : ∀ b H, Q b H → Q' b H) : Post T W R φ H r Q' := by
  cases r with
  | ok a S1 => exact fun φ2 H2 b x2 s2 r2 => h _ _ (p φ2 H2 b x2 s2 r2)
  | exc e S1 => exact p
  | bad => exact p
theorem Post.bind {R1 : Rl α β} {R2 : Rl γ δ} {r : Res α} {f : α → Store → Res γ} {Q1 : β → Hp → Prop} {Q2 : δ → Hp → Prop} (p : Post T W R2 φ H (r.bind f) Q2)
    (h : ∀ a S1 φ1 H1 b, r = .ok a S1 → Ext φ φ1 H H1 → RepS T φ1 H1 S1 → R1 φ1 H1 b a → Post T W R2 φ1 H1 (f a S1) Q2 → Q1 b H1) : Post T W R1 φ H r Q1 := by
  cases r with
  | ok a S1 => exact fun φ1 H1 b x s q => h a S1 φ1 H1 b rfl x s q (Post.ext x p)
  | exc e S1 => exact p
  | bad => exact p
theorem Post.ok {R : Rl α β} {a : α} {Q : β → Hp → Prop} {b : β} (p : Post T W R φ H (.ok a S) Q) (s : RepS T φ H S) (r : R φ H b a) : Q b H := p φ H b Ext.refl s r
/-- a new object -/
theorem Post.alloc {o : Ob} {u : HO} {Q : V → Hp → Prop} {p : Addr} (h : Post T W (RV T) φ H (Ev.alloc o S) Q) (s : RepS T φ H S) (hp : H p = none) (r : RepO T (φ ++ [p]) (upd H p u) p o) : Q (.ref p) (upd H p u) :=
  h (φ ++ [p]) (upd H p u) (.ref p) (Ext.alloc hp (s.fresh hp)) (s.alloc hp r) (.loc (by rw [← s.len]; simp))
theorem Post.tup {ds : List D} {vs : List V} {Q : V → Hp → Prop} {p : Addr} (h : Post T W (RV T) φ H (.ok (.tup ds) S) Q) (s : RepS T φ H S) (hp : H p = none) (r : RepVs T φ H vs ds) : Q (.ref p) (upd H p (.tup vs)) :=
  h φ (upd H p (.tup vs)) (.ref p) (Ext.aside hp) (s.aside hp) (.tup upd_same (r.ext s (Ext.aside hp)))
/-- an object changed -/
theorem Post.write {R : Rl α β} {a : α} {b : β} {l : Nat} {c : Addr} {o o' : Ob} {u : HO} {Q : β → Hp → Prop} (h : Post T W R φ H (.ok a (S.set l o')) Q) (s : RepS T φ H S) (hl : S[l]? = some o) (hc : φ[l]? = some c)
    (r : RepO T φ (upd H c u) c o') (rb : R φ (upd H c u) b a) : Q b (upd H c u) := by
  have ho := s.ob l o c hl hc
  obtain ⟨w, ew, _, ht⟩ := ho.mut
  exact h φ (upd H c u) b (Ext.write (List.mem_of_getElem? hc) ew ht) (s.write hl hc r) rb
end

theorem LIM_le {n : Nat} (h : n ≤ LIM) : n ≤ sizeLine := by rw [sizeLine_eq]; unfold LIM at h; omega
theorem LIM_lt {n : Nat} (h : n < LIM) : n < sizeLine := by rw [sizeLine_eq]; unfold LIM at h; omega

/-! ### data read as PyData -/
section
variable {T : Wr} {φ : List Addr} {H : Hp} {S : Store}
theorem datas_cons {d : D} {ds : List D} {ps : List PyData} (h : datas (d :: ds) = some ps) : ∃ p qs, d.data = some p ∧ datas ds = some qs ∧ ps = p :: qs := by
  unfold datas at h
  cases e1 : d.data with
  | none => rw [e1] at h; cases h
  | some p =>
    cases e2 : datas ds with
    | none => rw [e1, e2] at h; cases h
    | some qs => rw [e1, e2] at h; cases h; exact ⟨p, qs, rfl, rfl, rfl⟩
mutual
theorem RepV.dp : ∀ {v : V} {d : D} {p : PyData}, RepV T φ H v d → d.data = some p → Dp T.K H v p
  | _, _, _, .non, e => by cases e; exact .non
  | _, _, _, .bl b, e => by cases e; exact .bl b
  | _, _, _, .int i, e => by cases e; exact .int i
  | _, _, _, .str x, e => by
    simp only [D.data] at e
    split at e
    · cases e; exact .str x
    · cases e
  | _, _, _, .ty n, e => by cases e
  | _, .tup ds, p, .tup h hs, e => by
    obtain ⟨ps, e1, e2⟩ := Option.map_eq_some_iff.mp (show (datas ds).map PyData.tuple = some p by rw [← e]; simp [D.data])
    subst e2
    exact .tup (SqT.of h) (RepVs.dp hs e1)
  | _, .ktup ds, p, .ktup h1 h2 h3 h4 h5 hs, e => by
    obtain ⟨ps, e1, e2⟩ := Option.map_eq_some_iff.mp (show (datas ds).map PyData.tuple = some p by rw [← e]; simp [D.data])
    subst e2
    exact .tup (.inr ⟨_, _, _, h1, h2, h3, h4, h5⟩) (RepVs.dp hs e1)
  | _, _, _, .loc h, e => by simp [D.data] at e
  | _, _, _, .scrF h, e => by simp [D.data] at e
  | _, _, _, .scrK h1 h2 h3 h4 h5 h6, e => by simp [D.data] at e
theorem RepVs.dp : ∀ {vs : List V} {ds : List D} {ps : List PyData}, RepVs T φ H vs ds → datas ds = some ps → DpAll T.K H vs ps
  | _, _, _, .nil, e => by cases e; exact .nil
  | _, _, _, .cons h hs, e => by
    obtain ⟨p, qs, e1, e2, e3⟩ := datas_cons e
    subst e3
    exact .cons (RepV.dp h e1) (RepVs.dp hs e2)
end
mutual
theorem D.lay : ∀ {d : D} {p : PyData}, d.data = some p → p.canLay0 = true
  | .non, _, e => by cases e; rfl
  | .bl _, _, e => by cases e; rfl
  | .int _, _, e => by cases e; rfl
  | .str x, _, e => by
    simp only [D.data] at e
    split at e
    · cases e; simp only [PyData.canLay0]; assumption
    · cases e
  | .tup ds, p, e => by
    obtain ⟨ps, e1, e2⟩ := Option.map_eq_some_iff.mp (show (datas ds).map PyData.tuple = some p by rw [← e]; simp [D.data])
    subst e2
    simp only [PyData.canLay0]
    exact datas_lay e1
  | .ktup ds, p, e => by
    obtain ⟨ps, e1, e2⟩ := Option.map_eq_some_iff.mp (show (datas ds).map PyData.tuple = some p by rw [← e]; simp [D.data])
    subst e2
    simp only [PyData.canLay0]
    exact datas_lay e1
  | .loc _, _, e => by simp [D.data] at e
  | .scr _, _, e => by simp [D.data] at e
  | .ty _, _, e => by simp [D.data] at e
theorem datas_lay : ∀ {ds : List D} {ps : List PyData}, datas ds = some ps → PyData.canLayAll0 ps = true
  | [], _, e => by cases e; rfl
  | d :: ds, ps, e => by
    obtain ⟨p, qs, e1, e2, e3⟩ := datas_cons e
    subst e3
    simp only [PyData.canLayAll0, Bool.and_eq_true]
    exact ⟨D.lay e1, datas_lay e2⟩
end
theorem dataOf_dp (s : RepS T φ H S) {v : V} {d : D} {p : PyData} (r : RepV T φ H v d) (e : dataOf S d = some p) : Dp T.K H v p ∧ p.canLay0 = true := by
  cases d with
  | loc l =>
    simp only [dataOf] at e
    cases q : S[l]? with
    | none => rw [q] at e; cases e
    | some o =>
      rw [q] at e
      cases o with
      | lst ds =>
        obtain ⟨ps, e1, e2⟩ := Option.map_eq_some_iff.mp (show (datas ds).map PyData.list = some p from e)
        subst e2
        cases r with
        | loc h =>
          obtain ⟨vs, h1, h2⟩ := s.ob _ _ _ q h
          exact ⟨.lst (SqL.of h1) (h2.dp e1), by simp only [PyData.canLay0]; exact datas_lay e1⟩
      | _ => cases e
  | _ => exact ⟨r.dp e, D.lay e⟩
theorem shaped_of {p : PyData} (h : p.canLay0 = true) (hd : p.depth ≤ 60) : SeqAt.shaped p = true := by
  unfold SeqAt.shaped
  rw [h, Bool.true_and]
  exact decide_eq_true (by omega)
end

/-! ### operators -/
/-- an operator's reading by the evaluator -/
def rD (T : Wr) (f : D → D → Store → Res D) : R2 := fun x y H Q => ∃ (W : WXk) (φ : List Addr) (S : Store) (d e : D), RepS T φ H S ∧ RepV T φ H x d ∧ RepV T φ H y e ∧ Post T W (RV T) φ H (f d e S) Q
section
variable {X : Cx} {T : Wr}
theorem ext_addI : True := trivial
theorem op_addD (hK : X.K = T.K) : OpR X (binaryOp .Add) (rD T (binD .add)) := by
  intro pins s σ H x y v u Q I rx ry ⟨W, φ, S, d, e, r, rd, re, p⟩
  cases d with
  | int i =>
    cases e with
    | int j => cases rd; cases re; exact op_add pins s σ H _ _ v u Q I rx ry ⟨i, j, rfl, rfl, p.ok r (.int _)⟩
    | _ => exact False.elim p
  | str i =>
    cases e with
    | str j =>
      cases rd; cases re
      dsimp only [binD] at p
      split at p
      · exact op_add_str pins s σ H _ _ v u Q I rx ry ⟨i, j, rfl, rfl, LIM_le (by assumption), p.ok r (.str _)⟩
      · exact False.elim p
    | _ => exact False.elim p
  | tup ds =>
    cases e with
    | tup es =>
      cases rd with
      | @tup a vs _ h1 h2 =>
        cases re with
        | @tup b ws _ k1 k2 =>
          dsimp only [binD] at p
          split at p
          · rename_i hl
            refine op_catA pins s σ H _ _ v u Q I rx ry ⟨a, b, vs, ws, rfl, rfl, by rw [hK]; exact SqT.of h1, by rw [hK]; exact SqT.of k1, LIM_le (by rw [h2.length, k2.length]; exact hl), fun e0 => ?_, fun _ e0 => ?_, fun _ _ q hq => ?_⟩
            · subst e0
              cases h2
              exact p.ok r (.tup k1 k2)
            · subst e0
              cases k2
              refine p.ok r ?_
              rw [List.append_nil]
              exact .tup h1 h2
            · exact p.tup r hq (h2.append k2)
          · exact False.elim p
    | _ => exact False.elim p
  | loc l =>
    cases e with
    | loc m =>
      dsimp only [binD] at p
      split at p
      · rename_i xs ys e1 e2
        cases rd with
        | loc h1 =>
          cases re with
          | loc h2 =>
            obtain ⟨vs, a1, a2⟩ := r.ob _ _ _ e1 h1
            obtain ⟨ws, b1, b2⟩ := r.ob _ _ _ e2 h2
            split at p
            · rename_i hl
              refine op_cat pins s σ H _ _ v u Q I rx ry ⟨_, _, vs, ws, rfl, rfl, a1, b1, LIM_le (by rw [a2.length, b2.length]; exact hl), fun q hq => ?_⟩
              exact p.alloc r hq ⟨_, upd_same, (a2.append b2).ext r (Ext.alloc hq (r.fresh hq))⟩
            · exact False.elim p
      · exact False.elim p
    | _ => exact False.elim p
  | _ => exact False.elim p
theorem op_subD : OpR X (binaryOp .Sub) (rD T (binD .sub)) := by
  intro pins s σ H x y v u Q I rx ry ⟨W, φ, S, d, e, r, rd, re, p⟩
  cases d with
  | int i =>
    cases e with
    | int j => cases rd; cases re; exact op_sub pins s σ H _ _ v u Q I rx ry ⟨i, j, rfl, rfl, p.ok r (.int _)⟩
    | _ => exact False.elim p
  | _ => exact False.elim p
theorem op_mulD (hK : X.K = T.K) : OpR X (binaryOp .Mult) (rD T (binD .mul)) := by
  intro pins s σ H x y v u Q I rx ry ⟨W, φ, S, d, e, r, rd, re, p⟩
  cases d with
  | int i =>
    cases e with
    | int j =>
      cases rd; cases re
      dsimp only [binD] at p
      split at p
      · rename_i hm
        unfold mulOk at hm
        simp only [Bool.or_eq_true, decide_eq_true_eq] at hm
        rcases hm with hm | hm
        · exact op_mul pins s σ H _ _ v u Q I rx ry ⟨i, j, rfl, rfl, hm, p.ok r (.int _)⟩
        · exact op_mulW pins s σ H _ _ v u Q I rx ry ⟨i, j, rfl, rfl, hm, p.ok r (.int _)⟩
      · exact False.elim p
    | _ => exact False.elim p
  | loc l =>
    cases e with
    | int k =>
      cases re
      dsimp only [binD] at p
      split at p
      · rename_i xs e1
        cases rd with
        | loc h1 =>
          obtain ⟨vs, a1, a2⟩ := r.ob _ _ _ e1 h1
          split at p
          · rename_i hl
            obtain ⟨k1, k2, k3⟩ := hl
            refine op_rep pins s σ H _ _ v u Q I rx ry ⟨_, k, vs, rfl, rfl, a1, by omega, by omega, ?_, fun q hq => ?_⟩
            · rw [a2.length, sizeLine_eq]
              have : xs.length * k.toNat ≤ 1000 * 1000 := Nat.mul_le_mul k3 (by omega)
              omega
            · exact p.alloc r hq ⟨_, upd_same, (a2.rep _).ext r (Ext.alloc hq (r.fresh hq))⟩
          · exact False.elim p
      · exact False.elim p
    | _ => exact False.elim p
  | tup xs =>
    cases e with
    | int k =>
      cases re
      dsimp only [binD] at p
      split at p
      · rename_i hl
        obtain ⟨k1, k2, k3⟩ := hl
        cases rd with
        | @tup a vs _ h1 h2 =>
          by_cases hc : xs = [] ∨ k = 1
          · have e : (List.replicate k.toNat xs).flatten = xs := by
              rcases hc with h | h
              · subst h; simp
              · subst h; simp
            rw [e] at p
            refine op_rep0 pins s σ H _ _ v u Q I rx ry ⟨a, k, vs, rfl, rfl, by rw [hK]; exact SqT.of h1, k1, k2, by rw [h2.length]; exact k3, .inl ⟨?_, p.ok r (.tup h1 h2)⟩⟩
            rcases hc with h | h
            · left
              subst h
              cases h2
              rfl
            · exact .inr h
          · have hx : xs ≠ [] := fun z => hc (.inl z)
            have hk : k ≠ 1 := fun z => hc (.inr z)
            have hv : vs ≠ [] := fun z => by
              subst z
              cases h2
              exact hx rfl
            by_cases hk2 : 2 ≤ k
            · exact op_repT pins s σ H _ _ v u Q I rx ry ⟨a, k, vs, rfl, rfl, by rw [hK]; exact SqT.of h1, hv, hk2, k2, by rw [h2.length]; exact k3, fun q hq => p.tup r hq (h2.rep _)⟩
            · have e : (List.replicate k.toNat xs).flatten = [] := by
                rw [show k.toNat = 0 from by omega]; rfl
              rw [e] at p
              exact op_rep0 pins s σ H _ _ v u Q I rx ry ⟨a, k, vs, rfl, rfl, by rw [hK]; exact SqT.of h1, k1, k2, by rw [h2.length]; exact k3, .inr ⟨hv, by omega, fun q hq => p.tup r hq .nil⟩⟩
      · exact False.elim p
    | _ => exact False.elim p
  | _ => exact False.elim p
theorem op_fdivD : OpR X (binaryOp .FloorDiv) (rD T (binD .fdiv)) := by
  intro pins s σ H x y v u Q I rx ry ⟨W, φ, S, d, e, r, rd, re, p⟩
  cases d with
  | int i =>
    cases e with
    | int j =>
      cases rd; cases re
      dsimp only [binD] at p
      split at p
      · exact op_fdiv pins s σ H _ _ v u Q I rx ry ⟨i, j, rfl, rfl, by assumption, p.ok r (.int _)⟩
      · exact False.elim p
    | _ => exact False.elim p
  | _ => exact False.elim p
theorem op_modD : OpR X (binaryOp .Mod) (rD T (binD .mod)) := by
  intro pins s σ H x y v u Q I rx ry ⟨W, φ, S, d, e, r, rd, re, p⟩
  cases d with
  | int i =>
    cases e with
    | int j =>
      cases rd; cases re
      dsimp only [binD] at p
      split at p
      · exact op_mod pins s σ H _ _ v u Q I rx ry ⟨i, j, rfl, rfl, by assumption, p.ok r (.int _)⟩
      · exact False.elim p
    | _ => exact False.elim p
  | _ => exact False.elim p
theorem op_powD : OpR X (binaryOp .Pow) (rD T (binD .pow)) := by
  intro pins s σ H x y v u Q I rx ry ⟨W, φ, S, d, e, r, rd, re, p⟩
  cases d with
  | int i =>
    cases e with
    | int j =>
      cases rd; cases re
      dsimp only [binD] at p
      split at p
      · rename_i hl
        obtain ⟨k1, k2, k3⟩ := hl
        exact op_pow pins s σ H _ _ v u Q I rx ry ⟨i, j, rfl, rfl, ⟨k1, by omega, k3⟩, p.ok r (.int _)⟩
      · exact False.elim p
    | _ => exact False.elim p
  | _ => exact False.elim p
def opOf : Op → Operator
  | .add => .Add
  | .sub => .Sub
  | .mul => .Mult
  | .fdiv => .FloorDiv
  | .mod => .Mod
  | .pow => .Pow
theorem op_ok (hK : X.K = T.K) (op : Op) : OpR X (binaryOp (opOf op)) (rD T (binD op)) := by
  cases op
  · exact op_addD hK
  · exact op_subD
  · exact op_mulD hK
  · exact op_fdivD
  · exact op_modD
  · exact op_powD
end
end Ev
end

section
set_option Elab.async false
set_option linter.all false
set_option maxRecDepth 100000
set_option autoImplicit false
/-! Ev4: comparisons, subscripts, slices, truth, built-ins, methods. -/
namespace Ev
open PySem PySem.Spec L2
open PyProof.Rows hiding St

section
variable {X : Cx} {T : Wr}
/-! ### == and in -/
def cmpOf : Cm → CmpOp
  | .eq => .Eq
  | .ne => .NotEq
  | .lt => .Lt
  | .le => .LtE
  | .gt => .Gt
  | .ge => .GtE
  | .is => .Is
  | .isn => .IsNot
  | .isin => .In
  | .nin => .NotIn
theorem boolR_some {W : WXk} {φ : List Addr} {H : Hp} {S : Store} {o : Option Bool} {Q : VK} (p : Post T W (RV T) φ H (boolR o S) Q) (r : RepS T φ H S) : ∃ b, o = some b ∧ Q (.bl b) H := by
  cases o with
  | none => exact False.elim p
  | some b => exact ⟨b, rfl, p.ok r (.bl b)⟩
theorem eqD_some {S : Store} {d e : D} {b : Bool} (h : eqD S d e = some b) : (∃ x y, d = .str x ∧ e = .str y ∧ b = (x == y)) ∨ ∃ p q, dataOf S d = some p ∧ dataOf S e = some q ∧ p.depth ≤ 60 ∧ q.depth ≤ 60 ∧ b = p.eqv q := by
  have gen : (match dataOf S d, dataOf S e with
    | some p, some q => if p.depth ≤ 60 ∧ q.depth ≤ 60 then some (p.eqv q) else none
    | _, _ => none) = some b → ∃ p q, dataOf S d = some p ∧ dataOf S e = some q ∧ p.depth ≤ 60 ∧ q.depth ≤ 60 ∧ b = p.eqv q := fun h => by
    cases h1 : dataOf S d with
    | none => rw [h1] at h; cases h
    | some p =>
      cases h2 : dataOf S e with
      | none => rw [h1, h2] at h; cases h
      | some q =>
        rw [h1, h2] at h
        dsimp only at h
        split at h
        · rename_i hd
          cases h
          exact ⟨p, q, rfl, rfl, hd.1, hd.2, rfl⟩
        · cases h
  unfold eqD at h
  split at h
  · cases h
    exact .inl ⟨_, _, rfl, rfl, rfl⟩
  · exact .inr (gen h)
theorem op_eqDD (hu : X.A.units + 64 < cLine) (hK : X.K = T.K) : OpR X (compareOp .Eq) (rD T (cmpD .eq)) := by
  intro pins s σ H x y v u Q I rx ry ⟨W, φ, S, d, e, r, rd, re, p⟩
  obtain ⟨b, hb, q⟩ := boolR_some (show Post T W (RV T) φ H (boolR (eqD S d e) S) Q by cases d <;> cases e <;> exact p) r
  rcases eqD_some hb with ⟨x1, y1, rfl, rfl, rfl⟩ | ⟨p1, q1, h1, h2, h3, h4, rfl⟩
  · cases rd; cases re
    exact op_eq pins s σ H _ _ v u Q I rx ry ⟨rfl, by rw [dec_str]; exact q⟩
  · obtain ⟨k1, k2⟩ := dataOf_dp r rd h1
    obtain ⟨k3, k4⟩ := dataOf_dp r re h2
    exact op_eqD hu pins s σ H _ _ v u Q I rx ry ⟨p1, q1, by rw [hK]; exact k1, by rw [hK]; exact k3, shaped_of k2 h3, shaped_of k4 h4, q⟩
theorem op_neDD (hu : X.A.units + 64 < cLine) (hK : X.K = T.K) : OpR X (compareOp .NotEq) (rD T (cmpD .ne)) := by
  intro pins s σ H x y v u Q I rx ry ⟨W, φ, S, d, e, r, rd, re, p⟩
  obtain ⟨b', hb, q⟩ := boolR_some (show Post T W (RV T) φ H (boolR ((eqD S d e).map not) S) Q by cases d <;> cases e <;> exact p) r
  obtain ⟨b, hb2, rfl⟩ := Option.map_eq_some_iff.mp hb
  rcases eqD_some hb2 with ⟨x1, y1, rfl, rfl, rfl⟩ | ⟨p1, q1, h1, h2, h3, h4, rfl⟩
  · cases rd; cases re
    exact op_ne pins s σ H _ _ v u Q I rx ry ⟨rfl, by rw [dec_str]; exact q⟩
  · obtain ⟨k1, k2⟩ := dataOf_dp r rd h1
    obtain ⟨k3, k4⟩ := dataOf_dp r re h2
    exact op_neD hu pins s σ H _ _ v u Q I rx ry ⟨p1, q1, by rw [hK]; exact k1, by rw [hK]; exact k3, shaped_of k2 h3, shaped_of k4 h4, q⟩
theorem RepV.flat {K : Wr} {φ : List Addr} {H : Hp} {v : V} {d : D} (r : RepV K φ H v d) (h : isScal d = true) : flatV v = true := by
  cases r <;> first | rfl | cases h
theorem RepVs.flat {K : Wr} {φ : List Addr} {H : Hp} : ∀ {vs : List V} {ds : List D}, RepVs K φ H vs ds → ds.all isScal = true → vs.all flatV = true
  | _, _, .nil, _ => rfl
  | _, _, .cons r t, h => by
    rw [List.all_cons, Bool.and_eq_true] at h ⊢
    exact ⟨r.flat h.1, RepVs.flat t h.2⟩
theorem eqS_of {K : Wr} {φ : List Addr} {H : Hp} {v w : V} {d e : D} (r : RepV K φ H v d) (q : RepV K φ H w e) (hd : isScal d = true) (he : isScal e = true) : eqV v w = eqS d e := by
  cases r <;> first | (cases hd; done) | skip
  all_goals (cases q <;> first | (cases he; done) | rfl)
theorem inV_of {K : Wr} {φ : List Addr} {H : Hp} {x : V} {d : D} (rx : RepV K φ H x d) (hd : isScal d = true) : ∀ {vs : List V} {ds : List D}, RepVs K φ H vs ds → ds.all isScal = true → inV x vs = ds.any fun e => eqS e d
  | _, _, .nil, _ => rfl
  | v :: vs, e :: es, .cons r t, h => by
    rw [List.all_cons, Bool.and_eq_true] at h
    have ih := inV_of rx hd t h.2
    unfold inV at ih ⊢
    rw [List.any_cons, List.any_cons, eqS_of r rx h.1 hd, ih]
theorem inDs_some {x : D} {ds : List D} {b : Bool} (h : inDs x ds = some b) : (isScal x = true ∧ ds.all isScal = true ∧ b = ds.any fun d => eqS d x) ∨ ∃ p qs, x.data = some p ∧ datas ds = some qs ∧ p.depth ≤ 60 ∧ b = qs.any fun q => q.eqv p := by
  unfold inDs at h
  split at h
  · rename_i hc
    cases h
    rw [Bool.and_eq_true] at hc
    exact .inl ⟨hc.1, hc.2, rfl⟩
  · cases h1 : x.data with
    | none => rw [h1] at h; cases h
    | some p =>
      cases h2 : datas ds with
      | none => rw [h1, h2] at h; cases h
      | some qs =>
        rw [h1, h2] at h
        dsimp only at h
        split at h
        · cases h
          exact .inr ⟨p, qs, rfl, rfl, by assumption, rfl⟩
        · cases h
theorem room_in {A : Around} {xs : List PyData} {p : PyData} (h : p.depth ≤ 60) (hu : A.units + 64 < cLine) : A.units + 1 + min (PyData.depthAll xs) p.depth < cLine := by
  have := Nat.min_le_right (PyData.depthAll xs) p.depth
  omega
/-- x in a tuple, a list -/
theorem in_seqD (hu : X.A.units + 64 < cLine) (hK : X.K = T.K) {pins : List (Addr × Obj)} {s : Shared} {σ : St} {H : Hp} {x : V} {v : Value} {a : Addr} {Q : VK} {φ : List Addr} {d : D} {ds : List D} {vs : List V} {b neg : Bool}
    (I : L2.Inv X pins σ H s) (rx : L2.RelV x v) (rd : RepV T φ H x d) (hq : SqL X.K H a vs ∨ SqT X.K H a vs) (rs : RepVs T φ H vs ds) (hb : inDs d ds = some b) (q : Q (.bl (if neg then !b else b)) H) :
    wpAny (model X.prog X.w) X.A (compareOp (if neg then .NotIn else .In) v (.ref a)) (EP X pins σ Q) X.xe s := by
  rcases inDs_some hb with ⟨h1, h2, rfl⟩ | ⟨p, qs, h1, h2, h3, rfl⟩
  · have e := inV_of rd h1 rs h2
    cases neg with
    | false => exact op_in_seq pins s σ H x (.ref a) v _ Q I rx rfl ⟨a, vs, rfl, hq, rd.flat h1, rs.flat h2, by rw [e]; exact q⟩
    | true => exact op_notIn_seq pins s σ H x (.ref a) v _ Q I rx rfl ⟨a, vs, rfl, hq, rd.flat h1, rs.flat h2, by rw [e]; exact q⟩
  · have k1 := rd.dp h1
    have k2 := rs.dp h2
    rw [← hK] at k1 k2
    obtain ⟨as, r1⟩ := Dp.reads I p x v k1 rx
    rcases hq with hq | hq
    · obtain ⟨bs, r2⟩ := Dp.reads I (.list qs) (.ref a) (.ref a) (.lst hq k2) rfl
      cases neg with
      | false => exact SeqAt.in_list_reads r2 r1 (datas_lay h2) (D.lay h1) (room_in h3 hu) ⟨.bl _, H, I, rfl, q⟩
      | true => exact SeqAt.notIn_list_reads r2 r1 (datas_lay h2) (D.lay h1) (room_in h3 hu) ⟨.bl _, H, I, rfl, q⟩
    · obtain ⟨bs, r2⟩ := Dp.reads I (.tuple qs) (.ref a) (.ref a) (.tup hq k2) rfl
      cases neg with
      | false => exact SeqAt.in_tuple_reads r2 r1 (datas_lay h2) (D.lay h1) (room_in h3 hu) ⟨.bl _, H, I, rfl, q⟩
      | true => exact SeqAt.notIn_tuple_reads r2 r1 (datas_lay h2) (D.lay h1) (room_in h3 hu) ⟨.bl _, H, I, rfl, q⟩

/-! ### dicts: look-up -/
theorem keyOf_rep {K : Wr} {φ : List Addr} {H : Hp} {v : V} {d : D} {k : Key} (r : RepV K φ H v d) (h : keyOf d = some k) : v = kV k := by
  cases r <;> first | (cases h; done) | (cases h; rfl)
theorem keysOf_rep {K : Wr} {φ : List Addr} {H : Hp} : ∀ {vs : List V} {ds : List D} {ks : List Key}, RepVs K φ H vs ds → keysOf ds = some ks → vs = ks.map kV
  | _, _, _, .nil, h => by cases h; rfl
  | _, d :: ds, ks, .cons r t, h => by
    unfold keysOf at h
    cases h1 : keyOf d with
    | none => rw [h1] at h; cases h
    | some k =>
      cases h2 : keysOf ds with
      | none => rw [h1, h2] at h; cases h
      | some ks' =>
        rw [h1, h2] at h
        cases h
        rw [List.map_cons, ← keyOf_rep r h1, ← keysOf_rep t h2]
theorem kget_rep {κ : Type} [DecidableEq κ] {K : Wr} {φ : List Addr} {H : Hp} (k : κ) : ∀ {kvs : List (κ × V)} {kds : List (κ × D)}, RepK K φ H kvs kds →
    (kget kds k = none → valV kvs k = none) ∧ ∀ d, kget kds k = some d → ∃ v, valV kvs k = some v ∧ RepV K φ H v d
  | _, _, .nil => ⟨fun _ => rfl, fun d h => by cases h⟩
  | (k1, v1) :: r1, (k2, d2) :: r2, .cons h t => by
    obtain ⟨e, hv⟩ := h
    have e : k1 = k2 := e
    subst e
    obtain ⟨i1, i2⟩ := kget_rep k t
    by_cases hk : k1 = k
    · rw [valV_pos hk]
      refine ⟨fun q => ?_, fun d q => ?_⟩
      · simp [kget, List.find?_cons, hk] at q
      · simp [kget, List.find?_cons, hk] at q
        subst q
        exact ⟨_, rfl, hv⟩
    · rw [valV_neg hk]
      have e2 : kget ((k1, d2) :: r2) k = kget r2 k := by simp [kget, List.find?_cons, hk]
      rw [e2]
      exact ⟨i1, i2⟩
theorem kput_rep {κ : Type} [DecidableEq κ] {K : Wr} {φ : List Addr} {H : Hp} {k : κ} {v : V} {d : D} (rv : RepV K φ H v d) {kvs : List (κ × V)} {kds : List (κ × D)} (r : RepK K φ H kvs kds) : RepK K φ H (putK kvs k v) (kput kds k d) := by
  have hany : (kvs.any fun kv => decide (kv.1 = k)) = kds.any fun kv => decide (kv.1 = k) := by
    induction r with
    | nil => rfl
    | cons h _ ih =>
      rw [List.any_cons, List.any_cons, ih, h.1]
  unfold putK kput
  rw [hany]
  split
  · rename_i hc
    clear hany hc
    induction r with
    | nil => exact .nil
    | @cons p q _ _ h _ ih =>
      refine .cons ?_ ih
      obtain ⟨h1, h2⟩ := h
      dsimp only
      rw [h1]
      split
      · exact ⟨rfl, rv⟩
      · exact ⟨h1, h2⟩
  · rename_i hc
    clear hany hc
    induction r with
    | nil => exact .cons ⟨rfl, rv⟩ .nil
    | cons h _ ih => exact .cons h ih
theorem RepK.length {κ : Type} {K : Wr} {φ : List Addr} {H : Hp} {kvs : List (κ × V)} {kds : List (κ × D)} (r : RepK K φ H kvs kds) : kvs.length = kds.length := Paired.length r
/-- what obGet tells is what the dict holds -/
theorem obGet_rep {φ : List Addr} {H : Hp} {S : Store} {a : Addr} {o : Ob} {y : V} {k : D} {r : Option D} (h : RepO T φ H a o) (ry : RepV T φ H y k) (e : obGet o k = some r) :
    ∃ w, DGet H a y w ∧ (r = none → w = none) ∧ ∀ d, r = some d → ∃ v, w = some v ∧ RepV T φ H v d := by
  have dkc : ∀ {kds : List (Key × D)}, RepO T φ H a (.dk kds) → ((keyOf k).map fun k => kget kds k) = some r → ∃ w, DGet H a y w ∧ (r = none → w = none) ∧ ∀ d, r = some d → ∃ v, w = some v ∧ RepV T φ H v d := fun {kds} h e => by
    obtain ⟨kvs, h1, h2⟩ := h
    obtain ⟨kk, e1, e2⟩ := Option.map_eq_some_iff.mp e
    have hy := keyOf_rep ry e1
    obtain ⟨g1, g2⟩ := kget_rep kk h2
    refine ⟨valV kvs kk, by rw [hy]; exact DGet.k h1, fun q => g1 (e2.trans q), fun d q => g2 d (e2.trans q)⟩
  cases o with
  | dk kds =>
    cases k with
    | tup ks => cases e
    | _ => exact dkc h e
  | dt kds =>
    cases k with
    | tup ks =>
      obtain ⟨kvs, h1, h2⟩ := h
      obtain ⟨kk, e1, e2⟩ := Option.map_eq_some_iff.mp (show (keysOf ks).map (fun k => kget kds k) = some r from e)
      cases ry with
      | tup t1 t2 =>
        have hy := keysOf_rep t2 e1
        subst hy
        obtain ⟨g1, g2⟩ := kget_rep kk h2
        exact ⟨valV kvs kk, DGet.t h1 t1, fun q => g1 (e2.trans q), fun d q => g2 d (e2.trans q)⟩
    | _ => cases e
  | lst ds => cases k <;> cases e
  | ins C fs => cases k <;> cases e
/-! ### the comparisons -/
theorem in_D (hu : X.A.units + 64 < cLine) (hK : X.K = T.K) (hW : X.w = T.w) (neg : Bool) : OpR X (compareOp (if neg then .NotIn else .In)) (rD T (cmpD (if neg then .nin else .isin))) := by
  intro pins s σ H x y v u Q I rx ry ⟨W, φ, S, d, e, r, rd, re, p⟩
  cases e with
  | tup ds =>
    cases re with
    | tup t1 t2 =>
      cases ry
      cases neg with
      | false =>
        obtain ⟨b, hb, q⟩ := boolR_some (show Post T W (RV T) φ H (boolR (inDs d ds) S) Q by cases d <;> exact p) r
        exact in_seqD (neg := false) hu hK I rx rd (.inr (SqT.of t1)) t2 hb q
      | true =>
        obtain ⟨b', hb, q⟩ := boolR_some (show Post T W (RV T) φ H (boolR ((inDs d ds).map not) S) Q by cases d <;> exact p) r
        obtain ⟨b, hb2, rfl⟩ := Option.map_eq_some_iff.mp hb
        exact in_seqD (neg := true) hu hK I rx rd (.inr (SqT.of t1)) t2 hb2 q
  | ktup ds =>
    cases re with
    | ktup h1 h2 h3 h4 h5 t2 =>
      cases ry
      have hT : SqT X.K H _ _ := .inr ⟨_, _, _, by rw [hK]; exact h1, h2, h3, h4, h5⟩
      cases neg with
      | false =>
        obtain ⟨b, hb, q⟩ := boolR_some (show Post T W (RV T) φ H (boolR (inDs d ds) S) Q by cases d <;> exact p) r
        exact in_seqD (neg := false) hu hK I rx rd (.inr hT) t2 hb q
      | true =>
        obtain ⟨b', hb, q⟩ := boolR_some (show Post T W (RV T) φ H (boolR ((inDs d ds).map not) S) Q by cases d <;> exact p) r
        obtain ⟨b, hb2, rfl⟩ := Option.map_eq_some_iff.mp hb
        exact in_seqD (neg := true) hu hK I rx rd (.inr hT) t2 hb2 q
  | str z =>
    cases d with
    | str w =>
      cases rd; cases re
      have key : ∀ c, w.cps.toList = [c] → w = ⟨#[c]⟩ := fun c h => by
        obtain ⟨cps⟩ := w
        obtain ⟨l⟩ := cps
        dsimp only at h
        subst h; rfl
      cases neg with
      | false =>
        have p : Post T W (RV T) φ H (match w.cps.toList with
          | [c] => .ok (.bl (decide (c ∈ z.cps.toList))) S
          | _ => .bad) Q := p
        split at p
        · rename_i c hc
          have := key c hc; subst this
          exact op_in_sign pins s σ H _ _ v u Q I rx ry ⟨c, z, rfl, rfl, p.ok r (.bl _)⟩
        · exact False.elim p
      | true =>
        have p : Post T W (RV T) φ H (match w.cps.toList with
          | [c] => .ok (.bl (!decide (c ∈ z.cps.toList))) S
          | _ => .bad) Q := p
        split at p
        · rename_i c hc
          have := key c hc; subst this
          exact op_notIn_sign pins s σ H _ _ v u Q I rx ry ⟨c, z, rfl, rfl, p.ok r (.bl _)⟩
        · exact False.elim p
    | _ => cases neg <;> exact False.elim p
  | loc l =>
    cases re with
    | loc hl =>
      cases ry
      cases neg with
      | false =>
        have p' : Post T W (RV T) φ H (match S[l]? with
          | some (.lst ds) => boolR (inDs d ds) S
          | some o => boolR ((obGet o d).map (·.isSome)) S
          | none => .bad) Q := by cases d <;> exact p
        cases hS : S[l]? with
        | none => rw [hS] at p'; exact False.elim p'
        | some o =>
          rw [hS] at p'
          have ho := r.ob _ _ _ hS hl
          have dict : Post T W (RV T) φ H (boolR ((obGet o d).map (·.isSome)) S) Q → wpAny (model X.prog X.w) X.A (compareOp .In v (.ref _)) (EP X pins σ Q) X.xe s := fun p' => by
            obtain ⟨b, hb, q⟩ := boolR_some p' r
            obtain ⟨g, hg, rfl⟩ := Option.map_eq_some_iff.mp hb
            obtain ⟨w, dg, w1, w2⟩ := obGet_rep (S := S) ho rd hg
            refine d_in (by omega) I dg rx fun s' I' => ⟨.bl _, H, I', rfl, ?_⟩
            cases g with
            | none => rw [w1 rfl]; exact q
            | some gd => obtain ⟨v', e', _⟩ := w2 gd rfl; rw [e']; exact q
          cases o with
          | lst ds =>
            obtain ⟨b, hb, q⟩ := boolR_some p' r
            obtain ⟨vs, h1, h2⟩ := ho
            exact in_seqD (neg := false) hu hK I rx rd (.inl (SqL.of h1)) h2 hb q
          | _ => exact dict p'
      | true =>
        have p' : Post T W (RV T) φ H (match S[l]? with
          | some (.lst ds) => boolR ((inDs d ds).map not) S
          | some o => boolR ((obGet o d).map fun r => !r.isSome) S
          | none => .bad) Q := by cases d <;> exact p
        cases hS : S[l]? with
        | none => rw [hS] at p'; exact False.elim p'
        | some o =>
          rw [hS] at p'
          have ho := r.ob _ _ _ hS hl
          have dict : Post T W (RV T) φ H (boolR ((obGet o d).map fun r => !r.isSome) S) Q → wpAny (model X.prog X.w) X.A (compareOp .NotIn v (.ref _)) (EP X pins σ Q) X.xe s := fun p' => by
            obtain ⟨b, hb, q⟩ := boolR_some p' r
            obtain ⟨g, hg, rfl⟩ := Option.map_eq_some_iff.mp hb
            obtain ⟨w, dg, w1, w2⟩ := obGet_rep (S := S) ho rd hg
            refine d_notIn (by omega) I dg rx fun s' I' => ⟨.bl _, H, I', rfl, ?_⟩
            cases g with
            | none => rw [w1 rfl]; exact q
            | some gd => obtain ⟨v', e', _⟩ := w2 gd rfl; rw [e']; exact q
          cases o with
          | lst ds =>
            obtain ⟨b', hb, q⟩ := boolR_some p' r
            obtain ⟨b, hb2, rfl⟩ := Option.map_eq_some_iff.mp hb
            obtain ⟨vs, h1, h2⟩ := ho
            exact in_seqD (neg := true) hu hK I rx rd (.inl (SqL.of h1)) h2 hb2 q
          | _ => exact dict p'
  | kd ks ds =>
    cases re with
    | @kd a es n _ _ h1 h2 =>
      cases d with
      | str z =>
        cases rd
        have D : KDict X.K X.w a es n := by rw [hK, hW]; exact h1
        obtain ⟨g1, g2⟩ := nsIn_kd h1.at_ h2 z
        have key : ∃ r, PySem.W.nsIn X.K a z = some r ∧ r.isSome = (kdGet ks ds z).isSome := by
          rw [hK]
          cases q : kdGet ks ds z with
          | none => exact ⟨_, g1 q, rfl⟩
          | some d =>
            obtain ⟨u, e, _⟩ := g2 d q
            exact ⟨_, e, rfl⟩
        obtain ⟨o, e, eo⟩ := key
        cases neg with
        | false => exact op_in_kd D pins s σ H _ _ v u Q I rx ry ⟨z, o, rfl, rfl, e, by rw [eo]; exact p.ok r (.bl _)⟩
        | true => exact op_notIn_kd D pins s σ H _ _ v u Q I rx ry ⟨z, o, rfl, rfl, e, by rw [eo]; exact p.ok r (.bl _)⟩
      | _ => cases neg <;> exact False.elim p
  | _ => cases neg <;> (cases d <;> exact False.elim p)
theorem cmp_int {op : Cm} {c : CmpOp} {f : Int → Int → Bool} (ho : OpR X (compareOp c) (rI0 fun i j => .bl (f i j))) (hf : ∀ i j S, cmpD op (.int i) (.int j) S = .ok (.bl (f i j)) S) (hn : ∀ d e S, (∀ i j, ¬ (d = .int i ∧ e = .int j)) → cmpD op d e S = .bad) : OpR X (compareOp c) (rD T (cmpD op)) := by
  intro pins s σ H x y v u Q I rx ry ⟨W, φ, S, d, e, r, rd, re, p⟩
  by_cases h : ∃ i j, d = .int i ∧ e = .int j
  · obtain ⟨i, j, rfl, rfl⟩ := h
    cases rd; cases re
    rw [hf] at p
    exact ho pins s σ H _ _ v u Q I rx ry ⟨i, j, rfl, rfl, p.ok r (.bl _)⟩
  · rw [hn d e S fun i j q => h ⟨i, j, q⟩] at p
    exact False.elim p
theorem op_isD (neg : Bool) : OpR X (compareOp (if neg then .IsNot else .Is)) (rD T (cmpD (if neg then .isn else .is))) := by
  intro pins s σ H x y v u Q I rx ry ⟨W, φ, S, d, e, r, rd, re, p⟩
  cases e with
  | non =>
    cases re
    cases neg with
    | false =>
      refine op_isN pins s σ H _ _ v u Q I rx ry ⟨rfl, ?_⟩
      cases rd <;> exact p.ok r (.bl _)
    | true =>
      refine op_notN pins s σ H _ _ v u Q I rx ry ⟨rfl, ?_⟩
      cases rd <;> exact p.ok r (.bl _)
  | bl b =>
    cases d with
    | bl a =>
      cases rd; cases re
      cases neg with
      | false => exact op_isBl pins s σ H _ _ v u Q I rx ry ⟨a, b, rfl, rfl, p.ok r (.bl _)⟩
      | true => exact op_notBl pins s σ H _ _ v u Q I rx ry ⟨a, b, rfl, rfl, p.ok r (.bl _)⟩
    | _ => cases neg <;> exact False.elim p
  | _ => cases neg <;> (cases d <;> exact False.elim p)
theorem cmp_ok (hu : X.A.units + 64 < cLine) (hK : X.K = T.K) (hW : X.w = T.w) (op : Cm) : OpR X (compareOp (cmpOf op)) (rD T (cmpD op)) := by
  cases op with
  | eq => exact op_eqDD hu hK
  | ne => exact op_neDD hu hK
  | lt => exact cmp_int op_lt (fun _ _ _ => rfl) fun d e S h => by cases d <;> cases e <;> first | rfl | exact absurd ⟨rfl, rfl⟩ (h _ _)
  | le => exact cmp_int op_le (fun _ _ _ => rfl) fun d e S h => by cases d <;> cases e <;> first | rfl | exact absurd ⟨rfl, rfl⟩ (h _ _)
  | gt => exact cmp_int op_gt (fun _ _ _ => rfl) fun d e S h => by cases d <;> cases e <;> first | rfl | exact absurd ⟨rfl, rfl⟩ (h _ _)
  | ge => exact cmp_int op_ge (fun _ _ _ => rfl) fun d e S h => by cases d <;> cases e <;> first | rfl | exact absurd ⟨rfl, rfl⟩ (h _ _)
  | is => exact op_isD false
  | isn => exact op_isD true
  | isin => exact in_D hu hK hW false
  | nin => exact in_D hu hK hW true
end
end Ev
end

section
set_option Elab.async false
set_option linter.all false
set_option maxRecDepth 100000
set_option maxHeartbeats 4000000
namespace SrtO
open PySem PyProof.Rows Srt
section
variable {prog : Program} {w : World} {A : Around} {E : Value → Shared → Prop} {s : Shared}
theorem collect_tup {l : Addr} {vs : List Value} {Q : List Value → Shared → Prop} (hl : IsTup s.heap l vs.toArray)
    (h : Q vs { s with heap := (s.heap.push (seqObj "list" #[] 0)).update s.heap.objs.size (Obj.mapSeq (· ++ vs.toArray)) }) (hsz : vs.length ≤ sizeLine) :
    wpAny (model prog w) A (collect (.ref l)) Q E s := by
  obtain ⟨o, ho, hc, n, hd⟩ := id hl
  unfold collect
  refine wpAny_bind (wpAny_runValue (codeAny_builtin entry_proto_collect' ?_))
  show wpAny _ _ (do again (.builtin "list.__iadd__" ⟨[← newList [], .ref l], []⟩)) _ _ s
  refine wpAny_bind (wpAny_newList (wpAny_pure ⟨Code.quiet_builtin _ (by decide +kernel), codeAny_builtin entry_list_iadd' ?_⟩))
  show wpAny _ _ (Builtin.List.listExtendWith (.ref s.heap.objs.size) (.ref l) (.ref s.heap.objs.size)) _ _ { s with heap := s.heap.push (seqObj "list" #[] 0) }
  unfold Builtin.List.listExtendWith
  have ho' : (s.heap.push (seqObj "list" #[] 0)).get? l = some o := Heap.get?_push_of_some _ ho
  refine wpAny_bind (wpAny_typeOf (T := "tuple") ⟨o, ho', hc⟩ ?_)
  have ht : (Value.type "tuple" == Value.type "tuple") = true := by rfl
  rw [if_pos (by rw [ht]; simp)]
  refine wpAny_bind (listItems_at ho' hd ?_)
  refine wpAny_bind (listItems_at (xs := #[]) (n := 0) (Heap.get?_push_size _ rfl) rfl ?_)
  rw [if_neg (by simp)]
  refine wpAny_bind (listUpdate_at (xs := #[]) (n := 0) (Heap.get?_push_size _ rfl) rfl ?_ (Nat.zero_le _) (by show (#[] ++ vs.toArray).size ≤ sizeLine + 1; simp only [Array.size_append, List.size_toArray, List.length_nil]; omega))
  refine wpAny_pure ?_
  show wpAny (model prog w) A (do
      let o ← load s.heap.objs.size
      match o.data with
      | .seq xs _ => pure xs.toList
      | _ => unsupported "internal:collect") Q E { s with heap := (s.heap.push (seqObj "list" #[] 0)).update s.heap.objs.size (Obj.mapSeq (· ++ vs.toArray)) }
  refine wpAny_bind (wpAny_load (get?_update_seq (Heap.get?_push_size _ rfl) _) ?_)
  show wpAny _ _ (pure ((#[] : Array Value) ++ vs.toArray).toList) Q E _
  rw [show ((#[] : Array Value) ++ vs.toArray).toList = vs by simp]
  exact wpAny_pure h
theorem sorted_ordT {l : Addr} {vs : List Value} {ltv : Value → Value → Bool} {Q : Value → Shared → Prop} (O : Swo ltv) (hl : IsTup s.heap l vs.toArray) (hz : vs.length ≤ sizeLine)
    (hS : 2 ≤ vs.length → ∀ (h₁ : Heap) (a : Addr), h₁.get? a = some (seqObj "list" vs.toArray 0) → (∀ b o, s.heap.get? b = some o → b ≠ a ∧ h₁.get? b = some o) → SortableO prog w A.in1.in1 { s with heap := h₁ } a vs ltv)
    (h : ∀ out : List Value, Srtd ltv out → Stb ltv out vs → Q (.ref (s.heap.objs.size + 1)) { s with heap := sortedAll s.heap vs out.toArray }) :
    wpAny (model prog w) A (call (.builtin "sorted") [.ref l]) Q E s := by
  refine Calls.call_function_entry kind_sorted plain_sorted entry_sorted (args_sorted1 _) ?_
  unfold Builtin.«sorted»
  refine wpAny_bind (m := checkCount "sorted" 1 1 _) (wpAny_pure ?_)
  refine wpAny_bind (collect_tup hl ?_ hz)
  refine wpAny_bind (wpAny_newList ?_ hz)
  have hsz : ((s.heap.push (seqObj "list" #[] 0)).update s.heap.objs.size (Obj.mapSeq (· ++ vs.toArray))).objs.size = s.heap.objs.size + 1 := by
    rw [Heap.size_update, size_push']
  have hoL : (((s.heap.push (seqObj "list" #[] 0)).update s.heap.objs.size (Obj.mapSeq (· ++ vs.toArray))).push (seqObj "list" vs.toArray 0)).get? (s.heap.objs.size + 1) = some (seqObj "list" vs.toArray 0) := by
    rw [← hsz]; exact Heap.get?_push_size _ rfl
  have keep : ∀ b o, s.heap.get? b = some o → b ≠ s.heap.objs.size + 1 ∧ (((s.heap.push (seqObj "list" #[] 0)).update s.heap.objs.size (Obj.mapSeq (· ++ vs.toArray))).push (seqObj "list" vs.toArray 0)).get? b = some o := fun b o q => by
    have hlt : b < s.heap.objs.size := Heap.lt_size q
    refine ⟨Nat.ne_of_lt (Nat.lt_succ_of_lt hlt), Heap.get?_push_of_some _ ?_⟩
    rw [Heap.get?_update_ne _ _ _ _ (Nat.ne_of_lt hlt)]
    exact Heap.get?_push_of_some _ q
  show wpAny _ _ _ _ _ { s with heap := ((s.heap.push (seqObj "list" #[] 0)).update s.heap.objs.size (Obj.mapSeq (· ++ vs.toArray))).push (seqObj "list" vs.toArray 0) }
  rw [hsz]
  refine wpAny_bind (wpAny_holding (wpAny_call_entry slot_list_sort ⟨_, hoL, rfl⟩ entry_list_sort (list_sort_ord O hoL hz (fun h2 => hS h2 _ _ hoL keep) fun out hs hb => ⟨_, rfl, ?_⟩) (args_list_sort _)))
  exact wpAny_pure ⟨_, rfl, h out hs hb⟩
end
end SrtO

namespace L2
open PySem PySem.Spec PyProof.Rows
section
variable {X : Cx}
/-- sorted of a tuple of ints -/
theorem cr_sortedIT : CallR X (.builtin "sorted") (fun vs H Q => ∃ (a : Addr) (ns : List Int), vs = [V.ref a] ∧ SqT X.K H a (ns.map V.int) ∧ ∀ (ns' : List Int) (p : Addr), ns'.Perm ns → ns'.Pairwise (· ≤ ·) → H p = none → Q (.ref p) (upd H p (.lst (ns'.map V.int)))) := by
  intro pins s σ H vs us Q I r h
  obtain ⟨a, ns, rfl, hs, q⟩ := h
  obtain ⟨its, rv, hl, hz⟩ := I.tuple hs
  rw [Vals.ref1 r]
  have hi := rv.ints
  refine SrtO.sorted_ordT SrtO.swo_int hl (by rw [← rv.length]; exact hz) (fun h2 h₁ a' _ _ => SrtO.ints_sortable hi h2) fun out h1 h2 => ?_
  obtain ⟨k1, k2, k3⟩ := SrtO.ints_out hi h1 h2
  obtain ⟨ep, he'⟩ := PyProof.Rows.sortedAll_at s.heap its out.toArray
  have hlen : ((out.map SrtO.iv).map V.int).length ≤ sizeLine := by
    rw [List.length_map, k2.length_eq]
    rw [List.length_map] at hz
    exact hz
  exact ⟨.ref _, upd H (s.heap.objs.size + 1) (.lst ((out.map SrtO.iv).map V.int)), I.laid (t' := s.toks) (fun _ _ => PyProof.Rows.sortedAll_old) (Nat.le_succ _) ⟨hlen, out, ep, vals_of_ints k1, he'⟩, rfl, q _ _ k2 k3 (I.hok.fresh (Nat.le_succ _))⟩
end
end L2
end

section
set_option Elab.async false
set_option linter.all false
set_option maxRecDepth 100000
set_option maxHeartbeats 4000000
namespace L2
open PySem PySem.Spec PyProof.Rows
section
variable {X : Cx}
/-- set of a tuple of ints -/
theorem cr_setTI (hc : X.calm = true) : CallR X (.type "set") (fun vs H Q => ∃ (a : Addr) (ns : List Int), vs = [V.ref a] ∧ SqT X.K H a (ns.map V.int) ∧ ns.length ≤ 1000 ∧ ∀ (p : Addr) (c : Nat), c ≤ ns.length → H p = none → Q (.ref p) (upd H p (SetO X.w p (fun j => decide (j ∈ ns)) c))) := by
  intro pins s σ H vs us Q I r h
  obtain ⟨a, ns, rfl, hs, hl, q⟩ := h
  obtain ⟨its, rv, pt, hz⟩ := I.tuple hs
  rw [Vals.ref1 r]
  have hi : IntsAre its.toArray.toList ns := ints_of_vals rv
  refine call_set_tupI ns (I.ok.hd hc) pt hi (by unfold scanBound; omega) fun h' tk c R1 hcn k => ?_
  exact ⟨.ref _, upd H s.heap.objs.size (SetO X.w s.heap.objs.size (fun j => decide (j ∈ ns)) c), I.laid (t' := tk) k (Nat.le_refl _) (setO_new R1), rfl, q _ _ hcn (I.hok.fresh (Nat.le_refl _))⟩
end
end L2
end

section
set_option Elab.async false
set_option linter.all false
set_option maxRecDepth 100000
set_option autoImplicit false
/-! Ev5: subscripts, slices, truth, built-ins, methods, stores. -/
namespace Ev
open PySem PySem.Spec L2
open PyProof.Rows hiding St

section
variable {X : Cx} {T : Wr}
/-! ### subscripts -/
theorem okR_some {W : WXk} {φ : List Addr} {H : Hp} {S : Store} {o : Option D} {Q : VK} (p : Post T W (RV T) φ H (okR o S) Q) : ∃ d, o = some d ∧ Post T W (RV T) φ H (.ok d S) Q := by
  cases o with
  | none => exact False.elim p
  | some d => exact ⟨d, rfl, p⟩
theorem atI_rep {K : Wr} {φ : List Addr} {H : Hp} {vs : List V} {ds : List D} {i : Int} {d : D} (r : RepVs K φ H vs ds) (h : atI ds i = some d) : ∃ v, atI vs i = some v ∧ RepV K φ H v d := by
  unfold atI at h ⊢
  rw [r.length]
  cases e : ixN ds.length i with
  | none => rw [e] at h; cases h
  | some j =>
    rw [e] at h
    exact r.get h
theorem ix_dict (hu : X.A.units + 1 < cLine) : IxR X (fun x y H Q => ∃ a v, x = .ref a ∧ DGet H a y (some v) ∧ Q v H) := by
  intro value slice pins s σ H x y v u Q I rx ry h hs
  obtain ⟨a, z, rfl, g, q⟩ := h
  cases rx
  exact tail_any (dict_typeIs I g) PySem.F.slot_dict_getitem.lookup (d_getItem hu I g ry fun w' s3 I3 rw' => ⟨z, H, I3, rw', q⟩) hs
theorem ix_D (hu : X.A.units + 64 < cLine) (hK : X.K = T.K) (hW : X.w = T.w) : IxR X (rD T subD) := by
  intro value slice pins s σ H x y v u Q I rx ry ⟨W, φ, S, d, e, r, rd, re, p⟩ hs
  cases d with
  | tup ds =>
    cases e with
    | int i =>
      obtain ⟨g, hg, p⟩ := okR_some (o := atI ds i) p
      cases rd with
      | tup h1 h2 =>
        cases re
        obtain ⟨w, e1, e2⟩ := atI_rep h2 hg
        exact ix_tup value slice pins s σ H _ _ v u Q I rx ry ⟨_, _, i, w, rfl, rfl, SqT.of h1, e1, p.ok r e2⟩ hs
    | _ => exact False.elim p
  | ktup ds =>
    cases e with
    | int i =>
      obtain ⟨g, hg, p⟩ := okR_some (o := atI ds i) p
      cases rd with
      | ktup h1 h2 h3 h4 h5 h6 =>
        cases re
        obtain ⟨w, e1, e2⟩ := atI_rep h6 hg
        exact ix_tup value slice pins s σ H _ _ v u Q I rx ry ⟨_, _, i, w, rfl, rfl, .inr ⟨_, _, _, by rw [hK]; exact h1, h2, h3, h4, h5⟩, e1, p.ok r e2⟩ hs
    | _ => exact False.elim p
  | str z =>
    cases e with
    | int i =>
      cases rd; cases re
      have p : Post T W (RV T) φ H (match atI z.cps.toList i with
        | some c => if z.length ≤ LIM then .ok (.str ⟨#[c]⟩) S else .bad
        | none => .bad) Q := p
      cases hc : atI z.cps.toList i with
      | none => rw [hc] at p; exact False.elim p
      | some c =>
        rw [hc] at p
        dsimp only at p
        split at p
        · rename_i hl
          exact ix_str value slice pins s σ H _ _ v u Q I rx ry ⟨z, i, c, rfl, rfl, LIM_le hl, hc, p.ok r (.str _)⟩ hs
        · exact False.elim p
    | _ => exact False.elim p
  | loc l =>
    cases rd with
    | loc hl =>
      have p' : Post T W (RV T) φ H (match (generalizing := false) S[l]?, e with
        | some (.lst ds), .int i => okR (L2.atI ds i) S
        | some o, k => match obGet o k with
          | some (some v) => .ok v S
          | _ => .bad
        | none, _ => .bad) Q := by cases e <;> exact p
      cases hS : S[l]? with
      | none => rw [hS] at p'; exact False.elim p'
      | some o =>
        rw [hS] at p'
        have ho := r.ob _ _ _ hS hl
        have dict : Post T W (RV T) φ H (match obGet o e with
          | some (some v) => .ok v S
          | _ => .bad) Q → wpAny (model X.prog X.w) X.A (subscriptTail value slice v u) (EP X pins σ Q) X.xe s := fun p' => by
          cases hg : obGet o e with
          | none => rw [hg] at p'; exact False.elim p'
          | some g =>
            rw [hg] at p'
            cases g with
            | none => exact False.elim p'
            | some gd =>
              obtain ⟨w, dg, w1, w2⟩ := obGet_rep (S := S) ho re hg
              obtain ⟨v', e', rv⟩ := w2 gd rfl
              subst e'
              exact ix_dict (by omega) value slice pins s σ H _ _ v u Q I rx ry ⟨_, v', rfl, dg, p'.ok r rv⟩ hs
        cases o with
        | lst ds =>
          cases e with
          | int i =>
            obtain ⟨g, hg, p⟩ := okR_some (o := atI ds i) p'
            obtain ⟨vs, h1, h2⟩ := ho
            cases re
            obtain ⟨w, e1, e2⟩ := atI_rep h2 hg
            exact ix_list value slice pins s σ H _ _ v u Q I rx ry ⟨_, _, i, w, rfl, rfl, SqL.of h1, e1, p.ok r e2⟩ hs
          | _ => exact dict p'
        | _ => cases e <;> exact dict p'
  | kd ks ds =>
    cases rd with
    | @kd a es n _ _ h1 h2 =>
      cases e with
      | str z =>
        cases re
        obtain ⟨g, hg, p⟩ := okR_some (o := kdGet ks ds z) p
        have D : KDict X.K X.w a es n := by rw [hK, hW]; exact h1
        obtain ⟨u0, e1, e2⟩ := (nsIn_kd h1.at_ h2 z).2 g hg
        obtain ⟨v0, e3, e4⟩ := datB_ok e2
        cases rx
        exact tail_any (kd_type D I) PySem.F.slot_dict_getitem.lookup (op_item_kd D pins s σ H (.ref a) (.str z) (.ref a) u Q I rfl ry ⟨z, u0, v0, rfl, rfl, by rw [hK]; exact e1, e3, p.ok r (e4 φ H)⟩) hs
      | _ => exact False.elim p
  | _ => cases e <;> exact False.elim p
/-! ### slices -/
def rSl (T : Wr) : V → Option Int → Option Int → Hp → VK → Prop := fun x lo hi H Q => ∃ (W : WXk) (φ : List Addr) (S : Store) (d : D), RepS T φ H S ∧ RepV T φ H x d ∧ Post T W (RV T) φ H (slcD d lo hi S) Q
theorem cut_rep {K : Wr} {φ : List Addr} {H : Hp} {vs : List V} {ds : List D} (r : RepVs K φ H vs ds) (lo hi : Option Int) : RepVs K φ H (cutV vs lo hi) (cutL ds lo hi) := by
  unfold cutV cutL
  rw [r.length]
  exact (r.drop _).take _
theorem cutV_whole {vs : List V} {lo hi : Option Int} (h : HT.sIx vs.length 0 lo = 0 ∧ HT.sIx vs.length vs.length hi = vs.length) : cutV vs lo hi = vs := by
  unfold cutV
  rw [h.1, h.2]
  simp
theorem sl_D (hK : X.K = T.K) : SlR X (rSl T) := by
  intro pins s σ H x v vl vu lo hi sl Q I rx hs pl pu ⟨W, φ, S, d, r, rd, p⟩
  cases d with
  | tup ds =>
    cases rd with
    | @tup a vs _ h1 h2 =>
      have p : Post T W (RV T) φ H (.ok (.tup (cutL ds lo hi)) S) Q := p
      refine sl_tupA pins s σ H _ v vl vu lo hi sl Q I rx hs pl pu ⟨a, vs, rfl, SqT.of h1, fun hw => ?_, fun _ q hq => p.tup r hq (cut_rep h2 lo hi)⟩
      refine p.ok r ?_
      have e := cut_rep h2 lo hi
      rw [cutV_whole hw] at e
      exact .tup h1 e
  | loc l =>
    cases rd with
    | loc hl =>
      have p : Post T W (RV T) φ H (match S[l]? with
        | some (.lst ds) => alloc (.lst (cutL ds lo hi)) S
        | _ => .bad) Q := p
      split at p
      · rename_i ds hS
        obtain ⟨vs, h1, h2⟩ := r.ob _ _ _ hS hl
        refine sl_list pins s σ H _ v vl vu lo hi sl Q I rx hs pl pu ⟨_, vs, rfl, SqL.of h1, fun q hq => ?_⟩
        exact p.alloc r hq ⟨_, upd_same, (cut_rep h2 lo hi).ext r (Ext.alloc hq (r.fresh hq))⟩
      · exact False.elim p
  | scr ns =>
    have p : Post T W (RV T) φ H (alloc (.lst ((cutL ns lo hi).map D.int)) S) Q := p
    have e : cutV (ns.map V.int) lo hi = (cutL ns lo hi).map V.int := by
      unfold cutV cutL
      rw [List.length_map, List.map_take, List.map_drop]
    have fin : ∀ {a : Addr}, SqL X.K H a (ns.map V.int) → L2.RelV (.ref a) v → ∃ T id, typeLookup (.type T) "__getitem__" = pure (some (.builtin id)) ∧ s.TypeIs v T ∧ wpAny (model X.prog X.w) X.A (getItem v (.ref sl)) (EP X pins σ Q) X.xe s := fun {a} hq rx => by
      refine sl_list pins s σ H _ v vl vu lo hi sl Q I rx hs pl pu ⟨a, _, rfl, hq, fun q hq => ?_⟩
      rw [e]
      exact p.alloc r hq ⟨_, upd_same, RepVs.ints _⟩
    cases rd with
    | scrF h => exact fin (.inl (.inr ⟨_, h⟩)) rx
    | scrK h1 h2 h3 h4 h5 h6 => exact fin (.inr ⟨_, _, _, by rw [hK]; exact h1, h2, h3, h4, h5, h6⟩) rx
  | _ => exact False.elim p
/-! ### truth -/
theorem isEmpty_rep {K : Wr} {φ : List Addr} {H : Hp} {vs : List V} {ds : List D} (r : RepVs K φ H vs ds) : vs.isEmpty = ds.isEmpty := by cases r <;> rfl
theorem truD_rep (hK : X.K = T.K) {φ : List Addr} {H : Hp} {S : Store} {x : V} {d : D} {b : Bool} (r : RepS T φ H S) (rd : RepV T φ H x d) (h : truD d S = some b) : TruV X.K x H b := by
  cases d with
  | non => cases rd; cases h; rfl
  | bl k => cases rd; cases h; rfl
  | int i => cases rd; cases h; rfl
  | str z =>
    cases rd
    simp only [truD] at h
    split at h
    · cases h
      exact ⟨LIM_le (by assumption), rfl⟩
    · cases h
  | tup ds =>
    cases rd with
    | tup h1 h2 =>
      cases h
      exact .inr (.inl ⟨_, SqT.of h1, by rw [isEmpty_rep h2]⟩)
  | loc l =>
    cases rd with
    | loc hl =>
      simp only [truD] at h
      split at h
      · rename_i ds hS
        cases h
        obtain ⟨vs, h1, h2⟩ := r.ob _ _ _ hS hl
        exact .inl ⟨vs, SqL.of h1, by rw [isEmpty_rep h2]⟩
      · rename_i ds hS
        cases h
        obtain ⟨vs, h1, h2⟩ := r.ob _ _ _ hS hl
        exact .inr (.inr ⟨vs, h1, by cases h2 <;> rfl⟩)
      · cases h
  | _ => cases h
/-! ### built-ins -/
def rBf (T : Wr) (f : List D → Store → Res D) : List V → Hp → VK → Prop := fun xs H Q => ∃ (W : WXk) (φ : List Addr) (S : Store) (ds : List D), RepS T φ H S ∧ RepVs T φ H xs ds ∧ Post T W (RV T) φ H (f ds S) Q
def tyNames : List String := ["NoneType", "bool", "int", "str", "tuple", "list", "dict"]
def isiNames : List String := ["int", "bool", "str", "tuple", "list", "dict"]
theorem kit_all : (tyNames.all fun t => isiNames.all fun u => decide (kitB t u = isiB t u)) = true := by decide +kernel
theorem isiB_some {t u : String} {b : Bool} (h : isiB t u = some b) (ht : t ∈ tyNames) : kitB t u = some b := by
  have hu : u ∈ isiNames := by
    unfold isiB at h
    split at h
    · rename_i hc
      unfold isiNames
      rcases hc with rfl | rfl | rfl | rfl | rfl | rfl <;> simp
    · cases h
  have h1 := List.all_eq_true.mp (List.all_eq_true.mp kit_all t ht) u hu
  rw [of_decide_eq_true h1]
  exact h
theorem tyD_rep (hK : X.K = T.K) {φ : List Addr} {H : Hp} {S : Store} {x : V} {d : D} {t : String} (r : RepS T φ H S) (rd : RepV T φ H x d) (h : tyD d S = some t) : TyX X.K H x (.type t) ∧ t ∈ tyNames := by
  cases d with
  | non => cases rd; cases h; exact ⟨.base .non, by decide⟩
  | bl k => cases rd; cases h; exact ⟨.base (.bl _), by decide⟩
  | int i => cases rd; cases h; exact ⟨.base (.int _), by decide⟩
  | str z => cases rd; cases h; exact ⟨.base (.str _), by decide⟩
  | tup ds => cases rd with | tup h1 h2 => cases h; exact ⟨.base (.tup h1), by decide⟩
  | ktup ds => cases rd with | ktup h1 h2 h3 h4 h5 h6 => cases h; exact ⟨.kTuple (by rw [hK]; exact h1) h2, by decide⟩
  | loc l =>
    cases rd with
    | loc hl =>
      simp only [tyD] at h
      split at h
      · rename_i ds hS
        cases h
        obtain ⟨vs, h1, h2⟩ := r.ob _ _ _ hS hl
        exact ⟨.base (.lst h1), by decide⟩
      · rename_i ds hS
        cases h
        obtain ⟨vs, h1, h2⟩ := r.ob _ _ _ hS hl
        exact ⟨.base (.dK h1), by decide⟩
      · rename_i ds hS
        cases h
        obtain ⟨vs, h1, h2⟩ := r.ob _ _ _ hS hl
        exact ⟨.base (.dT h1), by decide⟩
      · cases h
  | _ => cases h
theorem reps1 {K : Wr} {φ : List Addr} {H : Hp} {xs : List V} {d : D} (r : RepVs K φ H xs [d]) : ∃ x, xs = [x] ∧ RepV K φ H x d := by
  cases r with | cons r t => cases t; exact ⟨_, rfl, r⟩
theorem reps2 {K : Wr} {φ : List Addr} {H : Hp} {xs : List V} {d e : D} (r : RepVs K φ H xs [d, e]) : ∃ x y, xs = [x, y] ∧ RepV K φ H x d ∧ RepV K φ H y e := by
  cases r with | cons r t => obtain ⟨y, rfl, h⟩ := reps1 t; exact ⟨_, _, rfl, r, h⟩
theorem cl_abs : CallR X (.builtin "abs") (rBf T (bltD .abs)) := by
  intro pins s σ H xs us Q I rv ⟨W, φ, S, ds, r, rs, p⟩
  unfold bltD at p
  split at p
  all_goals first | exact False.elim p | skip
  all_goals (rename_i hf; first | (cases hf; done) | skip)
  all_goals (obtain ⟨x, rfl, rx⟩ := reps1 rs; cases rx; exact call_abs pins s σ H _ us Q I rv ⟨_, rfl, p.ok r (.int _)⟩)
theorem cl_int : CallR X (.type "int") (rBf T (bltD .int)) := by
  intro pins s σ H xs us Q I rv ⟨W, φ, S, ds, r, rs, p⟩
  unfold bltD at p
  split at p
  all_goals first | exact False.elim p | skip
  all_goals (rename_i hf; first | (cases hf; done) | skip)
  · obtain ⟨x, rfl, rx⟩ := reps1 rs; cases rx; exact call_int1 pins s σ H _ us Q I rv (.inl ⟨_, rfl, p.ok r (.int _)⟩)
  · obtain ⟨x, rfl, rx⟩ := reps1 rs; cases rx; exact call_int1 pins s σ H _ us Q I rv (.inr ⟨_, rfl, p.ok r (.int _)⟩)
theorem intsD_rep {K : Wr} {φ : List Addr} {H : Hp} : ∀ {vs : List V} {ds : List D} {is : List Int}, RepVs K φ H vs ds → intsD ds = some is → vs = is.map V.int
  | _, _, _, .nil, h => by cases h; rfl
  | _, d :: ds, is, .cons r t, h => by
    cases d with
    | int i =>
      obtain ⟨js, e1, e2⟩ := Option.map_eq_some_iff.mp (show (intsD ds).map (i :: ·) = some is from h)
      subst e2
      cases r
      rw [List.map_cons, ← intsD_rep t e1]
    | _ => cases h
theorem foldmin : ∀ (is : List Int) (i : Int), (is.foldl (fun a b => if b < a then b else a) i ∈ i :: is) ∧ ∀ y ∈ i :: is, is.foldl (fun a b => if b < a then b else a) i ≤ y
  | [], i => ⟨by simp, by simp⟩
  | j :: is, i => by
    obtain ⟨h1, h2⟩ := foldmin is (if j < i then j else i)
    rw [List.foldl_cons]
    generalize List.foldl (fun a b => if b < a then b else a) (if j < i then j else i) is = m at h1 h2 ⊢
    refine ⟨?_, fun y hy => ?_⟩
    · rcases List.mem_cons.mp h1 with h | h
      · rw [h]
        split <;> simp
      · simp [h]
    · have h3 := h2 _ List.mem_cons_self
      rcases List.mem_cons.mp hy with rfl | hy
      · split at h3 <;> omega
      · rcases List.mem_cons.mp hy with rfl | hy
        · split at h3 <;> omega
        · exact h2 y (List.mem_cons_of_mem _ hy)
theorem cl_min (hc : X.calm = true) (hK : X.K = T.K) : CallR X (.builtin "min") (rBf T (bltD .min)) := by
  intro pins s σ H xs us Q I rv ⟨W, φ, S, ds, r, rs, p⟩
  unfold bltD at p
  split at p
  all_goals first | exact False.elim p | skip
  all_goals (rename_i hf; first | (cases hf; done) | skip)
  · obtain ⟨x, y, rfl, rx, ry⟩ := reps2 rs
    cases rx; cases ry; exact call_min2 hc pins s σ H _ us Q I rv ⟨_, _, rfl, p.ok r (.int _)⟩
  · obtain ⟨x, rfl, rx⟩ := reps1 rs
    cases rx with
    | loc hl =>
      split at p
      · rename_i es hS
        obtain ⟨vs, h1, h2⟩ := r.ob _ _ _ hS hl
        unfold minI at p
        cases hi : intsD es with
        | none => rw [hi] at p; exact False.elim p
        | some is =>
          rw [hi] at p
          have e := intsD_rep h2 hi
          subst e
          cases is with
          | nil => exact False.elim p
          | cons i is =>
            refine cr_min hc pins s σ H _ us Q I rv ⟨_, i :: is, rfl, by rw [hK]; exact SqL.of h1, by simp, fun m hm hle => ?_⟩
            obtain ⟨g1, g2⟩ := foldmin is i
            have : m = is.foldl (fun a b => if b < a then b else a) i := Int.le_antisymm (hle _ g1) (g2 _ hm)
            rw [this]
            exact p.ok r (.int _)
      · exact False.elim p
theorem foldmax : ∀ (is : List Int) (i : Int), (is.foldl (fun a b => if a < b then b else a) i ∈ i :: is) ∧ ∀ y ∈ i :: is, y ≤ is.foldl (fun a b => if a < b then b else a) i
  | [], i => ⟨by simp, by simp⟩
  | j :: is, i => by
    obtain ⟨h1, h2⟩ := foldmax is (if i < j then j else i)
    rw [List.foldl_cons]
    generalize List.foldl (fun a b => if a < b then b else a) (if i < j then j else i) is = m at h1 h2 ⊢
    refine ⟨?_, fun y hy => ?_⟩
    · rcases List.mem_cons.mp h1 with h | h
      · rw [h]
        split <;> simp
      · simp [h]
    · have h3 := h2 _ List.mem_cons_self
      rcases List.mem_cons.mp hy with rfl | hy
      · split at h3 <;> omega
      · rcases List.mem_cons.mp hy with rfl | hy
        · split at h3 <;> omega
        · exact h2 y (List.mem_cons_of_mem _ hy)
theorem cl_max (hc : X.calm = true) (hK : X.K = T.K) : CallR X (.builtin "max") (rBf T (bltD .max)) := by
  intro pins s σ H xs us Q I rv ⟨W, φ, S, ds, r, rs, p⟩
  unfold bltD at p
  split at p
  all_goals first | exact False.elim p | skip
  all_goals (rename_i hf; first | (cases hf; done) | skip)
  · obtain ⟨x, y, rfl, rx, ry⟩ := reps2 rs
    cases rx; cases ry; exact call_max2 hc pins s σ H _ us Q I rv ⟨_, _, rfl, p.ok r (.int _)⟩
  · obtain ⟨x, rfl, rx⟩ := reps1 rs
    cases rx with
    | loc hl =>
      split at p
      · rename_i es hS
        obtain ⟨vs, h1, h2⟩ := r.ob _ _ _ hS hl
        unfold maxI at p
        cases hi : intsD es with
        | none => rw [hi] at p; exact False.elim p
        | some is =>
          rw [hi] at p
          have e := intsD_rep h2 hi
          subst e
          cases is with
          | nil => exact False.elim p
          | cons i is =>
            refine cr_max hc pins s σ H _ us Q I rv ⟨_, i :: is, rfl, by rw [hK]; exact SqL.of h1, by simp, fun m hm hle => ?_⟩
            obtain ⟨g1, g2⟩ := foldmax is i
            have : m = is.foldl (fun a b => if a < b then b else a) i := Int.le_antisymm (g2 _ hm) (hle _ g1)
            rw [this]
            exact p.ok r (.int _)
      · exact False.elim p
/-! ### sorted -/
theorem perm_sorted_eq {α : Type} {r : α → α → Prop} (anti : ∀ a b, r a b → r b a → a = b) : ∀ {l m : List α}, l.Perm m → l.Pairwise r → m.Pairwise r → l = m
  | [], m, h, _, _ => (List.Perm.nil_eq h)
  | a :: l, [], h, _, _ => absurd h.length_eq (by simp)
  | a :: l, b :: m, h, h1, h2 => by
    rw [List.pairwise_cons] at h1 h2
    have e : a = b := by
      have ha : a ∈ b :: m := h.mem_iff.mp List.mem_cons_self
      have hb : b ∈ a :: l := h.mem_iff.mpr List.mem_cons_self
      rcases List.mem_cons.mp ha with q | q
      · exact q
      · rcases List.mem_cons.mp hb with q2 | q2
        · exact q2.symm
        · exact anti a b (h1.1 b q2) (h2.1 a q)
    subst e
    rw [perm_sorted_eq anti ((List.perm_cons a).mp h) h1.2 h2.2]
theorem insI_perm (x : Int) : ∀ l : List Int, (insI x l).Perm (x :: l)
  | [] => .refl _
  | y :: r => by
    unfold insI
    split
    · exact .refl _
    · exact ((insI_perm x r).cons y).trans (.swap x y r)
theorem insI_sorted (x : Int) : ∀ l : List Int, l.Pairwise (· ≤ ·) → (insI x l).Pairwise (· ≤ ·)
  | [], _ => by simp [insI]
  | y :: r, h => by
    unfold insI
    rw [List.pairwise_cons] at h
    split
    · rename_i hx
      rw [List.pairwise_cons, List.pairwise_cons]
      exact ⟨fun z hz => by rcases List.mem_cons.mp hz with rfl | hz; exact hx; exact Int.le_trans hx (h.1 z hz), h⟩
    · rename_i hx
      rw [List.pairwise_cons]
      refine ⟨fun z hz => ?_, insI_sorted x r h.2⟩
      rcases List.mem_cons.mp ((insI_perm x r).mem_iff.mp hz) with rfl | hz
      · omega
      · exact h.1 z hz
theorem sortI_perm : ∀ l : List Int, (sortI l).Perm l
  | [] => .refl _
  | x :: l => (insI_perm x (sortI l)).trans ((sortI_perm l).cons x)
theorem sortI_sorted : ∀ l : List Int, (sortI l).Pairwise (· ≤ ·)
  | [] => .nil
  | x :: l => insI_sorted x _ (sortI_sorted l)
theorem sortI_of {l m : List Int} (h : m.Perm l) (hm : m.Pairwise (· ≤ ·)) : m = sortI l :=
  perm_sorted_eq (fun a b h1 h2 => Int.le_antisymm h1 h2) (h.trans (sortI_perm l).symm) hm (sortI_sorted l)
/-- texts in order -/
def leX (x y : Str) : Prop := PySem.Spec.ltCps y.cps.toList x.cps.toList = false
theorem ltCps_lt : ∀ a b : List Nat, PySem.Spec.ltCps a b = decide (a < b)
  | [], [] => by simp [PySem.Spec.ltCps]
  | [], _ :: _ => by simp [PySem.Spec.ltCps]
  | _ :: _, [] => by simp [PySem.Spec.ltCps]
  | a :: r, b :: t => by
    rw [PySem.Spec.ltCps, ltCps_lt r t, Bool.eq_iff_iff]
    simp [List.cons_lt_cons_iff]
theorem leX_le (x y : Str) : leX x y ↔ x.cps.toList ≤ y.cps.toList := by
  unfold leX
  rw [ltCps_lt]
  simp
theorem leX_anti (x y : Str) (h1 : leX x y) (h2 : leX y x) : x = y := by
  have := List.le_antisymm ((leX_le x y).mp h1) ((leX_le y x).mp h2)
  obtain ⟨⟨a⟩⟩ := x
  obtain ⟨⟨b⟩⟩ := y
  dsimp only at this
  rw [this]
theorem leX_trans (x y z : Str) (h1 : leX x y) (h2 : leX y z) : leX x z := (leX_le x z).mpr (List.le_trans ((leX_le x y).mp h1) ((leX_le y z).mp h2))
theorem leX_total (x y : Str) (h : ¬ leX x y) : leX y x := by
  rw [leX_le] at h ⊢
  rcases List.le_total x.cps.toList y.cps.toList with q | q
  · exact absurd q h
  · exact q
theorem insS_perm (x : Str) : ∀ l : List Str, (insS x l).Perm (x :: l)
  | [] => .refl _
  | y :: r => by
    unfold insS
    split
    · exact ((insS_perm x r).cons y).trans (.swap x y r)
    · exact .refl _
theorem insS_sorted (x : Str) : ∀ l : List Str, l.Pairwise leX → (insS x l).Pairwise leX
  | [], _ => by simp [insS]
  | y :: r, h => by
    unfold insS
    rw [List.pairwise_cons] at h
    split
    · rename_i hx
      rw [List.pairwise_cons]
      refine ⟨fun z hz => ?_, insS_sorted x r h.2⟩
      rcases List.mem_cons.mp ((insS_perm x r).mem_iff.mp hz) with rfl | hz
      · exact leX_total _ _ fun q => by unfold leX at q; rw [q] at hx; cases hx
      · exact h.1 z hz
    · rename_i hx
      have hx : leX x y := by
        unfold leX
        cases q : PySem.Spec.ltCps y.cps.toList x.cps.toList with
        | false => rfl
        | true => exact absurd q hx
      rw [List.pairwise_cons, List.pairwise_cons]
      exact ⟨fun z hz => by rcases List.mem_cons.mp hz with rfl | hz; exact hx; exact leX_trans _ _ _ hx (h.1 z hz), h⟩
theorem sortX_perm : ∀ l : List Str, (sortX l).Perm l
  | [] => .refl _
  | x :: l => (insS_perm x (sortX l)).trans ((sortX_perm l).cons x)
theorem sortX_sorted : ∀ l : List Str, (sortX l).Pairwise leX
  | [] => .nil
  | x :: l => insS_sorted x _ (sortX_sorted l)
theorem rising_pair : ∀ (l : List Str) (p : Str), PyProof.Rows.risingS p l = true → (p :: l).Pairwise leX
  | [], p, _ => by simp
  | x :: l, p, h => by
    have h : (!PySem.Spec.ltCps x.cps.toList p.cps.toList && PyProof.Rows.risingS x l) = true := h
    rw [Bool.and_eq_true, Bool.not_eq_true'] at h
    have i := rising_pair l x h.2
    rw [List.pairwise_cons]
    refine ⟨fun z hz => ?_, i⟩
    rcases List.mem_cons.mp hz with rfl | hz
    · exact h.1
    · exact leX_trans _ _ _ h.1 ((List.pairwise_cons.mp i).1 z hz)
theorem sortX_of {l m : List Str} (h : m.Perm l) (hm : PyProof.Rows.sortedS m = true) : m = sortX l := by
  refine perm_sorted_eq leX_anti (h.trans (sortX_perm l).symm) ?_ (sortX_sorted l)
  cases m with
  | nil => exact .nil
  | cons x m => exact rising_pair m x hm
theorem keysS_rep {φ : List Addr} {H : Hp} : ∀ {kvs : List (Key × V)} {kds : List (Key × D)} {xs : List Str}, RepK T φ H kvs kds → keysS kds = some xs → kvs.map (·.1) = xs.map Sum.inr
  | _, _, _, .nil, h => by cases h; rfl
  | (k1, v1) :: r1, (k2, d2) :: r2, xs, .cons h t, e => by
    obtain ⟨e1, hv⟩ := h
    have e1 : k1 = k2 := e1
    subst e1
    cases k1 with
    | inl i => cases e
    | inr x =>
      obtain ⟨ys, q1, q2⟩ := Option.map_eq_some_iff.mp (show (keysS r2).map (x :: ·) = some xs from e)
      subst q2
      rw [List.map_cons, keysS_rep t q1, List.map_cons]
theorem RepVs.strs {φ : List Addr} {H : Hp} : ∀ xs : List Str, RepVs T φ H (xs.map V.str) (xs.map D.str)
  | [] => .nil
  | x :: xs => .cons (.str x) (RepVs.strs xs)
theorem cl_sorted (hc : X.calm = true) (hK : X.K = T.K) : CallR X (.builtin "sorted") (rBf T (bltD .sorted)) := by
  intro pins s σ H xs us Q I rv ⟨W, φ, S, ds, r, rs, p⟩
  unfold bltD at p
  split at p
  all_goals first | exact False.elim p | skip
  all_goals (rename_i hf; first | (cases hf; done) | skip)
  · obtain ⟨x, rfl, rx⟩ := reps1 rs
    cases rx with
    | tup h1 h2 =>
      rename_i es _ _
      cases hi : intsD es with
      | none => rw [hi] at p; exact False.elim p
      | some is =>
        rw [hi] at p
        have e := intsD_rep h2 hi
        subst e
        refine cr_sortedIT pins s σ H _ us Q I rv ⟨_, is, rfl, by rw [hK]; exact SqT.of h1, fun ns' q hp hs hq => ?_⟩
        rw [sortI_of hp hs]
        exact p.alloc r hq ⟨_, upd_same, RepVs.ints _⟩
  · obtain ⟨x, rfl, rx⟩ := reps1 rs
    cases rx with
    | loc hl =>
      split at p
      · rename_i es hS
        obtain ⟨vs, h1, h2⟩ := r.ob _ _ _ hS hl
        cases hi : intsD es with
        | none => rw [hi] at p; exact False.elim p
        | some is =>
          rw [hi] at p
          have e := intsD_rep h2 hi
          subst e
          refine cr_sortedI pins s σ H _ us Q I rv ⟨_, is, rfl, by rw [hK]; exact SqL.of h1, fun ns' q hp hs hq => ?_⟩
          rw [sortI_of hp hs]
          exact p.alloc r hq ⟨_, upd_same, RepVs.ints _⟩
      · rename_i kds hS
        obtain ⟨kvs, h1, h2⟩ := r.ob _ _ _ hS hl
        cases hi : keysS kds with
        | none => rw [hi] at p; exact False.elim p
        | some ks =>
          rw [hi] at p
          dsimp only at p
          split at p
          · rename_i h64
            refine call_sortedD hc pins s σ H _ us Q I rv ⟨_, kvs, ks, rfl, .inl h1, keysS_rep h2 hi, h64, fun ys q hp hs hq => ?_⟩
            rw [sortX_of hp hs]
            exact p.alloc r hq ⟨_, upd_same, RepVs.strs _⟩
          · exact False.elim p
      · exact False.elim p
theorem cl_isi (hK : X.K = T.K) : CallR X (.builtin "isinstance") (rBf T (bltD .isi)) := by
  intro pins s σ H xs us Q I rv ⟨W, φ, S, ds, r, rs, p⟩
  unfold bltD at p
  split at p
  all_goals first | exact False.elim p | skip
  all_goals (rename_i hf; first | (cases hf; done) | skip)
  rename_i d u
  obtain ⟨x, y, rfl, rx, ry⟩ := reps2 rs
  cases ry
  cases ht : tyD d S with
  | none => rw [ht] at p; exact False.elim p
  | some t =>
    rw [ht] at p
    obtain ⟨b, hb, q⟩ := boolR_some p r
    obtain ⟨t1, t2⟩ := tyD_rep hK r rx ht
    exact call_isi pins s σ H _ us Q I rv ⟨x, .ty u, .type t, .type u, b, rfl, .ty u, t1, kit_ty (isiB_some hb t2), q⟩
theorem cl_len (hK : X.K = T.K) : CallR X (.builtin "len") (rBf T (bltD .len)) := by
  intro pins s σ H xs us Q I rv ⟨W, φ, S, ds, r, rs, p⟩
  unfold bltD at p
  split at p
  all_goals first | exact False.elim p | skip
  all_goals (rename_i hf; first | (cases hf; done) | skip)
  · obtain ⟨x, rfl, rx⟩ := reps1 rs
    cases rx
    split at p
    · exact call_len pins s σ H _ us Q I rv ⟨_, _, rfl, ⟨LIM_le (by assumption), rfl⟩, p.ok r (.int _)⟩
    · exact False.elim p
  · obtain ⟨x, rfl, rx⟩ := reps1 rs
    cases rx with
    | tup h1 h2 => exact call_len pins s σ H _ us Q I rv ⟨_, _, rfl, .inr ⟨_, SqT.of h1, rfl⟩, by rw [h2.length]; exact p.ok r (.int _)⟩
  · obtain ⟨x, rfl, rx⟩ := reps1 rs
    cases rx with
    | ktup h1 h2 h3 h4 h5 h6 => exact call_len pins s σ H _ us Q I rv ⟨_, _, rfl, .inr ⟨_, .inr ⟨_, _, _, by rw [hK]; exact h1, h2, h3, h4, h5⟩, rfl⟩, by rw [h6.length]; exact p.ok r (.int _)⟩
  · obtain ⟨x, rfl, rx⟩ := reps1 rs
    cases rx with
    | loc hl =>
      split at p
      · rename_i es hS
        obtain ⟨vs, h1, h2⟩ := r.ob _ _ _ hS hl
        exact call_len pins s σ H _ us Q I rv ⟨_, _, rfl, .inl ⟨_, SqL.of h1, rfl⟩, by rw [h2.length]; exact p.ok r (.int _)⟩
      · exact False.elim p
theorem cl_tuple : CallR X (.type "tuple") (rBf T (bltD .tuple)) := by
  intro pins s σ H xs us Q I rv ⟨W, φ, S, ds, r, rs, p⟩
  unfold bltD at p
  split at p
  all_goals first | exact False.elim p | skip
  all_goals (rename_i hf; first | (cases hf; done) | skip)
  · obtain ⟨x, rfl, rx⟩ := reps1 rs
    cases rx with
    | tup h1 h2 => exact call_tuple_of pins s σ H _ us Q I rv ⟨_, _, rfl, .inr ⟨SqT.of h1, p.ok r (.tup h1 h2)⟩⟩
  · obtain ⟨x, rfl, rx⟩ := reps1 rs
    cases rx with
    | loc hl =>
      split at p
      · rename_i es hS
        obtain ⟨vs, h1, h2⟩ := r.ob _ _ _ hS hl
        exact call_tuple_of pins s σ H _ us Q I rv ⟨_, _, rfl, .inl ⟨SqL.of h1, fun q hq => p.tup r hq h2⟩⟩
      · exact False.elim p
theorem cl_list : CallR X (.type "list") (rBf T (bltD .list)) := by
  intro pins s σ H xs us Q I rv ⟨W, φ, S, ds, r, rs, p⟩
  unfold bltD at p
  split at p
  all_goals first | exact False.elim p | skip
  all_goals (rename_i hf; first | (cases hf; done) | skip)
  · obtain ⟨x, rfl, rx⟩ := reps1 rs
    cases rx with
    | tup h1 h2 => exact call_list_of pins s σ H _ us Q I rv ⟨_, _, rfl, .inr (SqT.of h1), fun q hq => p.alloc r hq ⟨_, upd_same, h2.ext r (Ext.alloc hq (r.fresh hq))⟩⟩
  · obtain ⟨x, rfl, rx⟩ := reps1 rs
    cases rx with
    | loc hl =>
      split at p
      · rename_i es hS
        obtain ⟨vs, h1, h2⟩ := r.ob _ _ _ hS hl
        exact call_list_of pins s σ H _ us Q I rv ⟨_, _, rfl, .inl (SqL.of h1), fun q hq => p.alloc r hq ⟨_, upd_same, h2.ext r (Ext.alloc hq (r.fresh hq))⟩⟩
      · exact False.elim p
/-! ### built-ins of a list that nobody else holds -/
def rBl (T : Wr) (f : List D → Store → Res D) : List V → Hp → VK → Prop := fun xs H Q => ∃ (W : WXk) (φ : List Addr) (S : Store) (ds : List D) (a : Addr) (vs : List V), xs = [.ref a] ∧ H a = some (.lst vs) ∧ RepS T φ H S ∧ RepVs T φ H vs ds ∧ Post T W (RV T) φ H (f ds S) Q
theorem blsOf_rep {K : Wr} {φ : List Addr} {H : Hp} : ∀ {vs : List V} {ds : List D} {bs : List Bool}, RepVs K φ H vs ds → blsOf ds = some bs → vs = bs.map V.bl
  | _, _, _, .nil, h => by cases h; rfl
  | _, d :: ds, bs, .cons r t, h => by
    cases d with
    | bl b =>
      obtain ⟨cs, e1, e2⟩ := Option.map_eq_some_iff.mp (show (blsOf ds).map (b :: ·) = some bs from h)
      subst e2
      cases r
      rw [List.map_cons, ← blsOf_rep t e1]
    | _ => cases h
theorem cb_all (hc : X.calm = true) : CallR X (.builtin "all") (rBl T (bllD .all)) := by
  intro pins s σ H xs us Q I rv h
  obtain ⟨W, φ, S, ds, a, vs, rfl, ha, r, rs, p⟩ := h
  unfold bllD at p
  dsimp only at p
  split at p
  · rename_i bs hb
    have e := blsOf_rep rs hb
    subst e
    exact cr_all hc pins s σ H _ us Q I rv ⟨a, bs, rfl, SqL.of ha, p.ok r (.bl _)⟩
  · exact False.elim p
theorem cb_any (hc : X.calm = true) : CallR X (.builtin "any") (rBl T (bllD .any)) := by
  intro pins s σ H xs us Q I rv h
  obtain ⟨W, φ, S, ds, a, vs, rfl, ha, r, rs, p⟩ := h
  unfold bllD at p
  dsimp only at p
  split at p
  · rename_i bs hb
    have e := blsOf_rep rs hb
    subst e
    exact cr_any hc pins s σ H _ us Q I rv ⟨a, bs, rfl, SqL.of ha, p.ok r (.bl _)⟩
  · exact False.elim p
theorem cb_tuple : CallR X (.type "tuple") (rBl T (bllD .tuple)) := by
  intro pins s σ H xs us Q I rv h
  obtain ⟨W, φ, S, ds, a, vs, rfl, ha, r, rs, p⟩ := h
  exact call_tuple_of pins s σ H _ us Q I rv ⟨_, _, rfl, .inl ⟨SqL.of ha, fun q hq => Post.tup p r hq rs⟩⟩
theorem cb_len : CallR X (.builtin "len") (rBl T (bllD .len)) := by
  intro pins s σ H xs us Q I rv h
  obtain ⟨W, φ, S, ds, a, vs, rfl, ha, r, rs, p⟩ := h
  exact call_len pins s σ H _ us Q I rv ⟨_, _, rfl, .inl ⟨_, SqL.of ha, rfl⟩, by rw [rs.length]; exact Post.ok p r (.int _)⟩
def ptD (p : Int × Int) : PyData := .tuple [.int p.1, .int p.2]
theorem pairsD_rep {φ : List Addr} {H : Hp} : ∀ {vs : List V} {ds : List D} {ps : List (Int × Int)}, RepVs T φ H vs ds → pairsD ds = some ps → ds = ps.map (fun p => .tup [.int p.1, .int p.2]) ∧ DpAll T.K H vs (ps.map ptD)
  | _, _, _, .nil, h => by cases h; exact ⟨rfl, .nil⟩
  | _, d :: ds, ps, .cons r t, h => by
    unfold pairsD at h
    split at h
    · rename_i e; cases e
    · rename_i i j ds' e
      cases e
      obtain ⟨js, e1, e2⟩ := Option.map_eq_some_iff.mp h
      subst e2
      obtain ⟨g1, g2⟩ := pairsD_rep t e1
      exact ⟨by rw [List.map_cons, ← g1], .cons (RepV.dp r (p := ptD (i, j)) rfl) g2⟩
    · cases h
theorem minD_pairs : ∀ (ps : List (Int × Int)) (p : Int × Int), PySem.W.minD (ptD p) (ps.map ptD) = ptD (ps.foldl (fun a b => if ltP b a then b else a) p)
  | [], p => rfl
  | q :: ps, p => by
    have e : PySem.W.dataLt (ptD q) (ptD p) = ltP q p := by
      unfold ptD
      rw [PySem.W.dataLt_ii]
      unfold ltP
      rw [Bool.eq_iff_iff]
      simp
    rw [List.foldl_cons, ← minD_pairs ps]
    show PySem.W.minD (if PySem.W.dataLt (ptD q) (ptD p) = true then ptD q else ptD p) (ps.map ptD) = _
    rw [e]
    split <;> rfl
theorem alike_pairs (ps : List (Int × Int)) : PySem.W.AlikeAll (ps.map ptD) := by
  refine ⟨fun x hx y hy => ?_, fun x hx => ?_⟩
  · obtain ⟨p, _, rfl⟩ := List.mem_map.mp hx
    obtain ⟨q, _, rfl⟩ := List.mem_map.mp hy
    rfl
  · obtain ⟨p, _, rfl⟩ := List.mem_map.mp hx
    intro z; cases z
theorem depth_pairs : ∀ ps : List (Int × Int), PyData.depthAll (ps.map ptD) ≤ 1
  | [] => by simp [PyData.depthAll]
  | p :: ps => by
    rw [List.map_cons, PyData.depthAll]
    refine Nat.max_le.mpr ⟨?_, depth_pairs ps⟩
    simp [ptD, PyData.depth, PyData.depthAll]
theorem cb_min (hc : X.calm = true) (hu : X.A.units + 64 < cLine) (hK : X.K = T.K) : CallR X (.builtin "min") (rBl T (bllD .min)) := by
  intro pins s σ H xs us Q I rv h
  obtain ⟨W, φ, S, ds, a, vs, rfl, ha, r, rs, p⟩ := h
  unfold bllD minP at p
  dsimp only at p
  cases hp : pairsD ds with
  | none => rw [hp] at p; exact False.elim p
  | some ps =>
    rw [hp] at p
    cases ps with
    | nil => exact False.elim p
    | cons q ps =>
      obtain ⟨e1, e2⟩ := pairsD_rep rs hp
      obtain ⟨its, rv', hl, _⟩ := I.list (SqL.of (K := X.K) ha)
      obtain ⟨as, hr⟩ := Dp.readsAll I _ vs its (by rw [hK]; exact e2) rv'
      rw [Vals.ref1 rv]
      refine PySem.W.min_list_data (I.ok.hd hc) hl.isList hr (alike_pairs (q :: ps)) (by have := depth_pairs (q :: ps); rw [List.map_cons] at this; omega) fun i v h' tk bs hv rd hk => ?_
      have I1 : L2.Inv X pins σ H { s with heap := h', toks := tk } := I.kept (t' := tk) hk
      have hv : its[i]? = some v := by simpa using hv
      obtain ⟨x, hx, rx⟩ : ∃ x, vs[i]? = some x ∧ L2.RelV x v := by
        have hl2 := rv'.length
        have hi : i < vs.length := by rw [hl2]; exact (List.getElem?_eq_some_iff.mp hv).1
        obtain ⟨u, hu', ru⟩ := rv'.get (List.getElem?_eq_getElem hi)
        rw [hv] at hu'
        cases hu'
        exact ⟨_, List.getElem?_eq_getElem hi, ru⟩
      refine ⟨x, H, I1, rx, ?_⟩
      obtain ⟨d, hd, rd'⟩ := rs.getV hx
      rw [e1, List.getElem?_map] at hd
      cases hq : (q :: ps)[i]? with
      | none => rw [hq] at hd; cases hd
      | some q' =>
        rw [hq] at hd
        cases hd
        have dq : Dp X.K H x (ptD q') := by rw [hK]; exact RepV.dp rd' (p := ptD q') rfl
        obtain ⟨as', r1⟩ := Dp.reads I1 (ptD q') x v dq rx
        rw [minD_pairs] at rd
        obtain ⟨e3, _⟩ := PyProof.Rows.reads_det (fun _ _ e _ => e) r1 rd
        have e4 : q' = ps.foldl (fun a b => if ltP b a then b else a) q := by
          generalize ps.foldl (fun a b => if ltP b a then b else a) q = m at e3
          unfold ptD at e3
          simp at e3
          exact Prod.ext e3.1.symm e3.2.symm
        dsimp only at p
        rw [← e4] at p
        exact Post.ok p r rd'
/-! ### methods -/
def rMt (T : Wr) (m : Mt) : V → List V → Hp → VK → Prop := fun x xs H Q => ∃ (W : WXk) (φ : List Addr) (S : Store) (d : D) (ds : List D), RepS T φ H S ∧ RepV T φ H x d ∧ RepVs T φ H xs ds ∧ Post T W (RV T) φ H (methD d m ds S) Q
theorem reps0 {K : Wr} {φ : List Addr} {H : Hp} {xs : List V} (r : RepVs K φ H xs []) : xs = [] := by cases r; rfl
theorem mt_appendD : MtR X "list.append" (rMt T .append) := by
  intro pins s σ H x xs v us Q I rx rxs ⟨W, φ, S, d, ds, r, rd, rs, p⟩
  unfold methD at p
  split at p
  · split at p
    all_goals first | exact False.elim p | skip
    all_goals (rename_i hf; first | (cases hf; done) | skip)
    · rename_i l ys y hS
      split at p
      · rename_i hl
        obtain ⟨x', rfl, rx'⟩ := reps1 rs
        cases rd with
        | loc ha =>
          obtain ⟨vs, h1, h2⟩ := r.ob _ _ _ hS ha
          refine mt_append pins s σ H _ _ v us Q I rx rxs ⟨_, vs, x', rfl, rfl, h1, LIM_lt (by rw [h2.length]; exact hl), ?_⟩
          obtain ⟨w, ew, _, ht⟩ := (r.ob _ _ _ hS ha).mut
          have x := Ext.write (u := HO.lst (vs ++ [x'])) (List.mem_of_getElem? ha) ew ht
          exact p.write r hS ha ⟨_, upd_same, (h2.append (.cons rx' .nil)).ext r x⟩ .non
      · exact False.elim p
  · exact False.elim p
end
end Ev
end

section
set_option Elab.async false
set_option linter.all false
set_option maxRecDepth 100000
set_option autoImplicit false
/-! Ev6: methods, stores, fields; names; a list that becomes a place of the store. -/
namespace Ev
open PySem PySem.Spec L2
open PyProof.Rows hiding St

theorem ofString_inj {a b : String} (h : Str.ofString a = Str.ofString b) : a = b := by
  rw [Str.ofString_eq_toList, Str.ofString_eq_toList] at h
  have h1 : (a.toList.map Char.toNat).toArray = (b.toList.map Char.toNat).toArray := congrArg Str.cps h
  have h2 : a.toList.map Char.toNat = b.toList.map Char.toNat := by simpa using congrArg Array.toList h1
  have h3 : a.toList = b.toList := by
    refine (List.map_inj_right fun x y e => ?_).mp h2
    exact Char.toNat_inj.mp e
  exact String.toList_inj.mp h3
theorem ofString_eq {a b : String} : (Str.ofString a = Str.ofString b) = (a = b) := propext ⟨ofString_inj, fun h => by rw [h]⟩
theorem ofString_beq {a b : String} : (Str.ofString a == Str.ofString b) = (a == b) := by
  by_cases h : a = b
  · subst h; simp
  · rw [beq_eq_false_iff_ne.mpr h, beq_eq_false_iff_ne.mpr fun e => h (ofString_inj e)]
theorem strOk_ofString (a : String) : PyData.strOk (Str.ofString a) = true := by
  rw [Str.ofString_eq_toList]
  unfold PyData.strOk
  simp only [List.all_toArray, List.all_map, List.all_eq_true, Function.comp, decide_eq_true_eq]
  intro c _
  have := c.valid
  unfold UInt32.isValidChar Nat.isValidChar at this
  show c.val.toNat < 1114112
  omega

section
variable {X : Cx} {T : Wr}
theorem mt_extendD : MtR X "list.extend" (rMt T .extend) := by
  intro pins s σ H x xs v us Q I rx rxs ⟨W, φ, S, d, ds, r, rd, rs, p⟩
  unfold methD at p
  split at p
  · split at p
    all_goals first | exact False.elim p | skip
    all_goals (rename_i hf; first | (cases hf; done) | skip)
    rename_i l ys b hS
    split at p
    · rename_i zs hB
      split at p
      · rename_i hl
        obtain ⟨x', rfl, rx'⟩ := reps1 rs
        cases rd with
        | loc ha =>
          cases rx' with
          | loc hb =>
            obtain ⟨vs, h1, h2⟩ := r.ob _ _ _ hS ha
            obtain ⟨ws, k1, k2⟩ := r.ob _ _ _ hB hb
            refine mt_extend pins s σ H _ _ v us Q I rx rxs ⟨_, _, vs, ws, rfl, rfl, h1, k1, LIM_le (by rw [h2.length, k2.length]; exact hl), ?_⟩
            obtain ⟨w, ew, _, ht⟩ := (r.ob _ _ _ hS ha).mut
            have x := Ext.write (u := HO.lst (vs ++ ws)) (List.mem_of_getElem? ha) ew ht
            exact p.write r hS ha ⟨_, upd_same, (h2.append k2).ext r x⟩ .non
      · exact False.elim p
    · exact False.elim p
  · exact False.elim p
theorem mt_popD : MtR X "list.pop" (rMt T .pop) := by
  intro pins s σ H x xs v us Q I rx rxs ⟨W, φ, S, d, ds, r, rd, rs, p⟩
  unfold methD at p
  split at p
  · split at p
    all_goals first | exact False.elim p | skip
    all_goals (rename_i hf; first | (cases hf; done) | skip)
    rename_i l ys hS
    split at p
    · rename_i y hy
      have := reps0 rs
      subst this
      cases rd with
      | loc ha =>
        obtain ⟨vs, h1, h2⟩ := r.ob _ _ _ hS ha
        rw [← h2.length] at hy
        obtain ⟨y', e1, e2⟩ := h2.get hy
        refine mt_pop pins s σ H _ _ v us Q I rx rxs ⟨_, vs, y', rfl, rfl, h1, e1, ?_⟩
        obtain ⟨w, ew, _, ht⟩ := (r.ob _ _ _ hS ha).mut
        have x := Ext.write (u := HO.lst vs.dropLast) (List.mem_of_getElem? ha) ew ht
        exact p.write r hS ha ⟨_, upd_same, h2.dropLast.ext r x⟩ (e2.ext r x)
    · exact False.elim p
  · exact False.elim p
theorem mt_indexF (hu : X.A.units + 65 < cLine) (hK : X.K = T.K) : MtR X "list.index" (rMt T .index) := by
  intro pins s σ H x xs v us Q I rx rxs ⟨W, φ, S, d, ds, r, rd, rs, p⟩
  unfold methD at p
  split at p
  · split at p
    all_goals first | exact False.elim p | skip
    all_goals (rename_i hf; first | (cases hf; done) | skip)
    rename_i l ys y hS
    split at p
    · rename_i hb
      rw [Bool.and_eq_true] at hb
      cases hi : ys.findIdx? fun z => eqS z y with
      | none => rw [hi] at p; exact False.elim p
      | some j =>
        rw [hi] at p
        obtain ⟨hj, e1, e2⟩ := List.findIdx?_eq_some_iff_getElem.mp hi
        obtain ⟨x', rfl, rx'⟩ := reps1 rs
        cases rd with
        | loc ha =>
          obtain ⟨vs, h1, h2⟩ := r.ob _ _ _ hS ha
          obtain ⟨z, z1, z2⟩ := h2.get (List.getElem?_eq_getElem hj)
          refine mt_index pins s σ H _ _ v us Q I rx rxs ⟨_, vs, x', j, z, rfl, rfl, by rw [hK]; exact SqL.of h1, rx'.flat hb.1, h2.flat hb.2, z1, ?_, fun m z' hm hz => ?_, p.ok r (.int _)⟩
          · rw [eqS_of z2 rx' (List.all_eq_true.mp hb.2 _ (List.getElem_mem hj)) hb.1]
            exact e1
          · obtain ⟨d', g1, g2⟩ := h2.getV hz
            have hm2 : m < ys.length := by omega
            rw [List.getElem?_eq_getElem hm2] at g1
            cases g1
            rw [eqS_of g2 rx' (List.all_eq_true.mp hb.2 _ (List.getElem_mem hm2)) hb.1]
            exact Bool.eq_false_iff.mpr (e2 m hm)
    · split at p
      · rename_i pd qs e1 e2
        split at p
        · rename_i hd
          cases hi : qs.findIdx? fun q => q.eqv pd with
          | none => rw [hi] at p; exact False.elim p
          | some j =>
            rw [hi] at p
            obtain ⟨hj, f1, f2⟩ := List.findIdx?_eq_some_iff_getElem.mp hi
            obtain ⟨x', rfl, rx'⟩ := reps1 rs
            have dl := dataOf_dp r (p := .list qs) rd (by simp only [dataOf, hS, e2]; rfl)
            have dy := dataOf_dp (S := S) r rx' (p := pd) (by cases y <;> first | exact e1 | cases e1)
            cases rd with
            | loc ha =>
              refine mt_indexD hu pins s σ H _ _ v us Q I rx rxs ⟨_, x', pd, qs, j, qs[j], rfl, rfl, by rw [hK]; exact dl.1, by rw [hK]; exact dy.1, ?_, ?_, List.getElem?_eq_getElem hj, f1, fun m z' hm hz => ?_, p.ok r (.int _)⟩
              · exact shaped_of dl.2 hd.2
              · exact shaped_of dy.2 hd.1
              · have hm2 : m < qs.length := by omega
                rw [List.getElem?_eq_getElem hm2] at hz
                cases hz
                exact Bool.eq_false_iff.mpr (f2 m hm)
        · exact False.elim p
      · exact False.elim p
  · exact False.elim p
theorem mt_get2 (hu : X.A.units + 1 < cLine) : MtR X "dict.get" (fun x xs H Q => ∃ a y z o, x = .ref a ∧ xs = [y, z] ∧ DGet H a y o ∧ Q (o.getD z) H) := by
  intro pins s σ H x xs v us Q I rx rxs h
  obtain ⟨a, y, z, o, rfl, rfl, g, q⟩ := h
  obtain ⟨u1, u2, rfl, r1, r2⟩ := vals2 rxs
  cases rx
  exact d_get2 hu I g r1 r2 fun w' s' I' rw' => ⟨_, H, I', rw', q⟩
theorem mt_getD (hu : X.A.units + 64 < cLine) : MtR X "dict.get" (rMt T .get) := by
  intro pins s σ H x xs v us Q I rx rxs ⟨W, φ, S, d, ds, r, rd, rs, p⟩
  unfold methD at p
  split at p
  · split at p
    all_goals first | exact False.elim p | skip
    all_goals (rename_i hf; first | (cases hf; done) | skip)
    rename_i l o k e hS
    split at p
    · rename_i g hg
      obtain ⟨y, z, rfl, ry, rz⟩ := reps2 rs
      cases rd with
      | loc ha =>
        have ho := r.ob _ _ _ hS ha
        obtain ⟨w, dg, w1, w2⟩ := obGet_rep (S := S) ho ry hg
        refine mt_get2 (by omega) pins s σ H _ _ v us Q I rx rxs ⟨_, y, z, w, rfl, rfl, dg, ?_⟩
        cases g with
        | none => rw [w1 rfl]; exact p.ok r rz
        | some gd => obtain ⟨v', e', rv⟩ := w2 gd rfl; rw [e']; exact p.ok r rv
    · exact False.elim p
  · exact False.elim p
/-! ### o[i] = v -/
def rSto (T : Wr) : TSet := fun o i v H Q => ∃ (W : WXk) (φ : List Addr) (S : Store) (d e f : D), RepS T φ H S ∧ RepV T φ H o d ∧ RepV T φ H i e ∧ RepV T φ H v f ∧ Post T W (RE (α := Unit)) φ H (stoD d e f S) fun _ H' => Q H'
theorem obPut_rep {φ : List Addr} {H : Hp} {S : Store} {a : Addr} {o o' : Ob} {y z : V} {k v : D} (r : RepS T φ H S) {l : Nat} (hl : S[l]? = some o) (ha : φ[l]? = some a) (ry : RepV T φ H y k) (rz : RepV T φ H z v) (e : obPut o k v = some o') :
    ∃ u, DPut H a y z (upd H a u) ∧ RepO T φ (upd H a u) a o' := by
  have h := r.ob _ _ _ hl ha
  obtain ⟨w, ew, _, ht⟩ := h.mut
  cases o with
  | dk kds =>
    have e : ((keyOf k).bind fun k => if kds.length < LIM then some (.dk (kput kds k v)) else none) = some o' := by
      unfold obPut at e
      cases k <;> exact e
    obtain ⟨kk, e1, e2⟩ := Option.bind_eq_some_iff.mp e
    split at e2
    · rename_i hz
      cases e2
      obtain ⟨kvs, h1, h2⟩ := h
      have hy := keyOf_rep ry e1
      subst hy
      have x := Ext.write (u := HO.dK (putK kvs kk z)) (List.mem_of_getElem? ha) ew ht
      refine ⟨.dK (putK kvs kk z), DPut.k h1 (LIM_lt (by rw [h2.length]; exact hz)), _, upd_same, ?_⟩
      exact kput_rep (rz.ext r x) (RepK.ext r x h2)
    · cases e2
  | dt kds =>
    cases k with
    | tup ks =>
      have e : ((keysOf ks).bind fun k => if kds.length < LIM then some (.dt (kput kds k v)) else none) = some o' := e
      obtain ⟨kk, e1, e2⟩ := Option.bind_eq_some_iff.mp e
      split at e2
      · rename_i hz
        cases e2
        obtain ⟨kvs, h1, h2⟩ := h
        cases ry with
        | tup t1 t2 =>
          have hy := keysOf_rep t2 e1
          subst hy
          have x := Ext.write (u := HO.dT (putK kvs kk z)) (List.mem_of_getElem? ha) ew ht
          refine ⟨.dT (putK kvs kk z), DPut.t h1 t1 (LIM_lt (by rw [h2.length]; exact hz)), _, upd_same, ?_⟩
          exact kput_rep (rz.ext r x) (RepK.ext r x h2)
      · cases e2
    | _ => cases e
  | lst ds => cases k <;> cases e
  | ins C fs => cases k <;> cases e
theorem set_D (hu : X.A.units + 64 < cLine) : PSet X (rSto T) := by
  intro pins s σ H o i v ov iv u Q I ro ri rv ⟨W, φ, S, d, e, f, r, rd, re, rf, p⟩
  cases d with
  | loc l =>
    cases rd with
    | loc ha =>
      have p' : Post T W (RE (α := Unit)) φ H (match (generalizing := false) S[l]?, e with
        | some (.lst xs), .int i => match L2.ixN xs.length i with
          | some j => .ok () (S.set l (.lst (xs.set j f)))
          | none => .bad
        | some ob, k => match obPut ob k f with
          | some ob' => .ok () (S.set l ob')
          | none => .bad
        | none, _ => .bad) fun _ H' => Q H' := by cases e <;> exact p
      cases hS : S[l]? with
      | none => rw [hS] at p'; exact False.elim p'
      | some o =>
        rw [hS] at p'
        have ho := r.ob _ _ _ hS ha
        have dict : Post T W (RE (α := Unit)) φ H (match obPut o e f with
          | some ob' => .ok () (S.set l ob')
          | none => .bad) (fun _ H' => Q H') → wpAny (model X.prog X.w) X.A (setItem ov iv u) (fun _ s' => ∃ H', L2.Inv X pins σ H' s' ∧ Q H') X.xe s := fun p' => by
          cases hg : obPut o e f with
          | none => rw [hg] at p'; exact False.elim p'
          | some o' =>
            rw [hg] at p'
            obtain ⟨w, dp, ro'⟩ := obPut_rep r hS ha re rf hg
            exact set_dict (by omega) pins s σ H _ i v ov iv u Q I ro ri rv ⟨_, _, rfl, dp, p'.write r hS ha ro' rfl⟩
        cases o with
        | lst ds =>
          cases e with
          | int k =>
            dsimp only at p'
            cases hj : ixN ds.length k with
            | none => rw [hj] at p'; exact False.elim p'
            | some j =>
              rw [hj] at p'
              obtain ⟨vs, h1, h2⟩ := ho
              cases re
              obtain ⟨w, ew, _, ht⟩ := (r.ob _ _ _ hS ha).mut
              have x := Ext.write (u := HO.lst (vs.set j v)) (List.mem_of_getElem? ha) ew ht
              exact set_list pins s σ H _ _ v ov iv u Q I ro ri rv ⟨_, vs, k, j, rfl, rfl, h1, by rw [h2.length]; exact hj, p'.write r hS ha ⟨_, upd_same, (RepVs.set rf j h2).ext r x⟩ rfl⟩
          | _ => exact dict p'
        | _ => cases e <;> exact dict p'
  | _ => exact False.elim p
/-! ### fields -/
theorem fs_lookup {K : Wr} {φ : List Addr} {H : Hp} (f : String) : ∀ {vfs : List (Str × V)} {fs : List (String × D)}, RepF K φ H vfs fs →
    (fs.lookup f = none → vfs.lookup (Str.ofString f) = none) ∧ ∀ d, fs.lookup f = some d → ∃ v, vfs.lookup (Str.ofString f) = some v ∧ RepV K φ H v d
  | _, _, .nil => ⟨fun _ => rfl, fun d h => by cases h⟩
  | (g1, v1) :: r1, (g2, d2) :: r2, .cons h t => by
    obtain ⟨e, hv⟩ := h
    have e : g1 = Str.ofString g2 := e
    subst e
    obtain ⟨i1, i2⟩ := fs_lookup f t
    rw [List.lookup_cons, List.lookup_cons, ofString_beq]
    cases q : f == g2 with
    | true => exact ⟨fun z => (Option.some_ne_none _ z).elim, fun d z => by cases z; exact ⟨_, rfl, hv⟩⟩
    | false => exact ⟨i1, i2⟩
theorem putF_rep {K : Wr} {φ : List Addr} {H : Hp} {f : String} {v : V} {d : D} (rv : RepV K φ H v d) : ∀ {vfs : List (Str × V)} {fs : List (String × D)}, RepF K φ H vfs fs → RepF K φ H (L2.putF (Str.ofString f) v vfs) (Ev.putF f d fs)
  | _, _, .nil => .cons ⟨rfl, rv⟩ .nil
  | (g1, v1) :: r1, (g2, d2) :: r2, .cons h t => by
    obtain ⟨e, hv⟩ := h
    have e : g1 = Str.ofString g2 := e
    subst e
    unfold L2.putF Ev.putF
    by_cases q : g2 = f
    · subst q
      rw [if_pos rfl, if_pos rfl]
      exact .cons ⟨rfl, rv⟩ t
    · rw [if_neg q, if_neg fun z => q (ofString_inj z)]
      exact .cons ⟨rfl, hv⟩ (putF_rep rv t)
theorem RepF.length {K : Wr} {φ : List Addr} {H : Hp} {vfs : List (Str × V)} {fs : List (String × D)} (r : RepF K φ H vfs fs) : vfs.length = fs.length := Paired.length r
end

/-! ### a list that becomes a place -/
section
variable {T : Wr} {φ φ' : List Addr} {H H' : Hp} {S S' : Store} {a : Addr}
mutual
theorem RepV.more {K : Wr} (x : φ <+: φ') : ∀ {v : V} {d : D}, RepV K φ H v d → RepV K φ' H v d
  | _, _, .non => .non
  | _, _, .bl b => .bl b
  | _, _, .int b => .int b
  | _, _, .str b => .str b
  | _, _, .ty b => .ty b
  | _, _, .tup h hs => .tup h (RepVs.more x hs)
  | _, _, .ktup h1 h2 h3 h4 h5 hs => .ktup h1 h2 h3 h4 h5 (RepVs.more x hs)
  | _, _, .loc h => .loc (pre_at x h)
  | _, _, .scrF h => .scrF h
  | _, _, .scrK h1 h2 h3 h4 h5 h6 => .scrK h1 h2 h3 h4 h5 h6
  | _, _, .fn y => .fn y
  | _, _, .bm h1 h2 => .bm h1 (pre_at x h2)
  | _, _, .kd h1 h2 => .kd h1 h2
theorem RepVs.more {K : Wr} (x : φ <+: φ') : ∀ {vs : List V} {ds : List D}, RepVs K φ H vs ds → RepVs K φ' H vs ds
  | _, _, .nil => .nil
  | _, _, .cons h hs => .cons (RepV.more x h) (RepVs.more x hs)
end
mutual
theorem RepV.keep {K : Wr} (ht : ∀ b xs, H b = some (.tup xs) → H' b = some (.tup xs)) (hf : ∀ b o u, H b = some (.frz o u) → H' b = some (.frz o u)) (hm : ∀ b f x, H b = some (.met f x) → H' b = some (.met f x)) : ∀ {v : V} {d : D}, RepV K φ H v d → RepV K φ H' v d
  | _, _, .non => .non
  | _, _, .bl b => .bl b
  | _, _, .int b => .int b
  | _, _, .str b => .str b
  | _, _, .ty b => .ty b
  | _, _, .tup h hs => .tup (ht _ _ h) (RepVs.keep ht hf hm hs)
  | _, _, .ktup h1 h2 h3 h4 h5 hs => .ktup h1 h2 h3 h4 h5 (RepVs.keep ht hf hm hs)
  | _, _, .loc h => .loc h
  | _, _, .scrF h => .scrF (hf _ _ _ h)
  | _, _, .scrK h1 h2 h3 h4 h5 h6 => .scrK h1 h2 h3 h4 h5 h6
  | _, _, .fn y => .fn y
  | _, _, .bm h1 h2 => .bm (hm _ _ _ h1) h2
  | _, _, .kd h1 h2 => .kd h1 h2
theorem RepVs.keep {K : Wr} (ht : ∀ b xs, H b = some (.tup xs) → H' b = some (.tup xs)) (hf : ∀ b o u, H b = some (.frz o u) → H' b = some (.frz o u)) (hm : ∀ b f x, H b = some (.met f x) → H' b = some (.met f x)) : ∀ {vs : List V} {ds : List D}, RepVs K φ H vs ds → RepVs K φ H' vs ds
  | _, _, .nil => .nil
  | _, _, .cons h hs => .cons (RepV.keep ht hf hm h) (RepVs.keep ht hf hm hs)
end
theorem RepO.more (x : φ <+: φ') {b : Addr} {o : Ob} (h : RepO T φ H b o) : RepO T φ' H b o := by
  cases o with
  | lst ds => obtain ⟨vs, e1, h1⟩ := h; exact ⟨vs, e1, h1.more x⟩
  | dk ds => obtain ⟨vs, e1, h1⟩ := h; exact ⟨vs, e1, Paired.mapP h1 fun _ _ q => ⟨q.1, q.2.more x⟩⟩
  | dt ds => obtain ⟨vs, e1, h1⟩ := h; exact ⟨vs, e1, Paired.mapP h1 fun _ _ q => ⟨q.1, q.2.more x⟩⟩
  | ins C fs => obtain ⟨dx, vs, e1, h1⟩ := h; exact ⟨dx, vs, e1, Paired.mapP h1 fun _ _ q => ⟨q.1, q.2.more x⟩⟩
theorem RepS.adopt {o : Ob} (r : RepS T φ H S) (ha : a ∉ φ) (h : RepO T φ H a o) : RepS T (φ ++ [a]) H (S ++ [o]) := by
  have pre : φ <+: φ ++ [a] := List.prefix_append _ _
  refine ⟨by simp [r.len], ?_, fun l ob b e1 e2 => ?_, r.tab⟩
  · rw [List.nodup_append]
    exact ⟨r.nd, by simp, fun c hc b hb => by rw [List.mem_singleton.mp hb]; rintro rfl; exact ha hc⟩
  · by_cases hl : l < S.length
    · rw [List.getElem?_append_left hl] at e1
      rw [List.getElem?_append_left (by rw [r.len]; exact hl)] at e2
      exact (r.ob l ob b e1 e2).more pre
    · have hl2 : l = S.length := by
        have := (List.getElem?_eq_some_iff.mp e1).1
        simp at this; omega
      subst hl2
      rw [List.getElem?_append_right (Nat.le_refl _)] at e1
      rw [← r.len, List.getElem?_append_right (Nat.le_refl _)] at e2
      simp at e1 e2
      subst e1 e2
      exact h.more pre
theorem Ext.adopt (x : Ext φ φ' H H') (hn : Nw H a) : Ext φ (φ' ++ [a]) H H' :=
  ⟨x.pre.trans (List.prefix_append _ _), fun b hb => by
    rcases List.mem_append.mp hb with h | h
    · exact x.new b h
    · rw [List.mem_singleton.mp h]; exact .inr hn, x.kp⟩
/-- what is free behind was free ahead -/
theorem Ext.none (x : Ext φ φ' H H') (s : RepS T φ' H' S') (h : Nw H' a) : Nw H a := fun o q => by
  by_cases hm : a ∈ φ
  · obtain ⟨l, ob, _, _, rp⟩ := s.mem (x.pre.subset hm)
    obtain ⟨u, e, _, ht⟩ := rp.mut
    obtain ⟨ps, z⟩ := h u e
    exact absurd z (ht ps)
  · cases o with
    | tbl ps => exact ⟨ps, rfl⟩
    | _ => exact h _ (x.kp a _ q hm (fun _ z => by cases z))
end
end Ev
end

section
set_option Elab.async false
set_option linter.all false
set_option maxRecDepth 100000
set_option autoImplicit false
/-! Ev6d: repr; dicts of pairs. -/
namespace Ev
open PySem PySem.Spec L2
open PyProof.Rows hiding St

section
variable {X : Cx} {T : Wr}
/-! ### repr -/
theorem cl_repr (hK : X.K = T.K) (hu : X.A.units + 128 < cLine) (hg : X.A.guards = some []) : CallR X (.builtin "repr") (rBf T (bltD .repr)) := by
  intro pins s σ H xs us Q I rv ⟨W, φ, S, ds, r, rs, p⟩
  unfold bltD at p
  split at p
  all_goals first | exact False.elim p | skip
  all_goals (rename_i hf; first | (cases hf; done) | skip)
  rename_i d
  obtain ⟨x, rfl, rx⟩ := reps1 rs
  obtain ⟨u, rfl, ru⟩ := vals1 rv
  cases hp : d.data with
  | none => rw [hp] at p; exact False.elim p
  | some q =>
    rw [hp] at p
    dsimp only at p
    split at p
    · rename_i hc
      obtain ⟨h1, h2, h3⟩ := hc
      have dp := rx.dp hp
      rw [← hK] at dp
      have lay := D.lay hp
      obtain ⟨as, rd⟩ := Dp.reads I q x u dp ru
      have out : ∀ h' tk u', (∀ b o, s.heap.get? b = some o → h'.get? b = some o) → EP X pins σ Q (.str q.shown u') { s with heap := h', toks := tk } := fun h' tk u' k => ⟨.str q.shown, H, I.kept (t' := tk) k, ⟨u', rfl⟩, p.ok r (.str _)⟩
      cases u with
      | ref a => exact repr_of_reads' rd h1 (fun z => by rw [PyData.hasDict_of_canLay q lay] at z; cases z) hg (by omega) (fun _ _ e => e) (fun h' u tk k => out h' tk u k) (LIM_le h2)
      | none => cases rd; exact PySem.P.repr_of_none (by simpa only [PyData.shown] using out s.heap _ _ fun _ _ e => e)
      | bool b => cases rd; exact PySem.P.repr_of_bool (by simpa only [PyData.shown] using out s.heap _ _ fun _ _ e => e)
      | int i t => cases rd; exact PySem.P.repr_of_int (by simpa [PyData.showable] using h1) (by simpa only [PyData.shown] using out s.heap _ _ fun _ _ e => e)
      | str z t => cases rd; exact PySem.P.repr_of_str (by simpa only [PyData.shown] using out s.heap _ _ fun _ _ e => e) (by simpa only [PyData.shown] using LIM_le h2)
      | _ => cases rd
    · exact False.elim p

/-! ### dicts of pairs -/
/-- the pairs' parts, in the heap -/
theorem pairsT_rep {K : Wr} {φ : List Addr} {H : Hp} : ∀ {vs : List V} {ds : List D} {kds : List (List Key × D)}, RepVs K φ H vs ds → pairsT ds = some kds →
    ∃ (kvs : List (List Key × V)) (ts : List (Addr × Addr)), RepK K φ H kvs kds ∧ vs = ts.map (fun t => V.ref t.1) ∧ Paired (fun p t => H t.1 = some (.tup [.ref t.2, p.2]) ∧ H t.2 = some (.tup (p.1.map kV))) kvs ts
  | _, _, kds, .nil, e => by
    cases e
    exact ⟨[], [], .nil, rfl, .nil⟩
  | _, d :: ds, kds, .cons rd rs, e => by
    unfold pairsT at e
    split at e
    · cases ‹_ = []›
    · rename_i ks v r heq
      cases heq
      split at e
      · rename_i k kvs' h1 h2
        cases e
        obtain ⟨kvs, ts, g1, g2, g3⟩ := pairsT_rep rs h2
        cases rd with
        | @tup a _ _ a1 a2 =>
          obtain ⟨y, z, rfl, ry, rz⟩ := reps2 a2
          cases ry with
          | @tup b _ _ b1 b2 =>
            have ek := keysOf_rep b2 h1
            subst ek
            exact ⟨(k, z) :: kvs, (a, b) :: ts, .cons ⟨rfl, rz⟩ g1, by rw [g2]; rfl, .cons ⟨a1, b1⟩ g3⟩
      · cases e
    · cases e
/-- the values in the model's heap -/
theorem pairs_vals {H : Hp} {pins : List (Addr × Obj)} {σ : L2.St} {s : Shared} (I : L2.Inv X pins σ H s) : ∀ {kvs : List (List Key × V)} {ts : List (Addr × Addr)}, Paired (fun p t => H t.1 = some (.tup [.ref t.2, p.2]) ∧ H t.2 = some (.tup (p.1.map kV))) kvs ts →
    ∃ ps : List (List Key × Addr × Value), KT H kvs ps ∧ ps.length = ts.length ∧ ∀ (j : Nat) (q : List Key × Addr × Value), ps[j]? = some q → ∃ t : Addr × Addr, ts[j]? = some t ∧ q.2.1 = t.2 ∧ IsTup s.heap t.1 #[.ref q.2.1, q.2.2]
  | _, _, .nil => ⟨[], .nil, rfl, fun j q e => by simp at e⟩
  | _, _, .cons (a := p) (b := t) h r => by
    obtain ⟨ps, g1, g2, g3⟩ := pairs_vals I r
    obtain ⟨its, rv, it, _⟩ := I.tuple (SqT.of h.1)
    obtain ⟨u1, u2, rfl, r1, r2⟩ := vals2 rv
    cases r1
    refine ⟨(p.1, t.2, u2) :: ps, .cons ⟨rfl, h.2, r2⟩ g1, by simp [g2], fun j q e => ?_⟩
    cases j with
    | zero =>
      cases e
      exact ⟨t, rfl, rfl, it⟩
    | succ j => exact g3 j q (by simpa using e)
theorem putAll_rep {K : Wr} {φ : List Addr} {H : Hp} {κ : Type} [DecidableEq κ] : ∀ {mv : List (κ × V)} {md : List (κ × D)} {av : List (κ × V)} {ad : List (κ × D)}, RepK K φ H mv md → RepK K φ H av ad → RepK K φ H (mv.foldl (fun acc p => putK acc p.1 p.2) av) (putAll ad md)
  | _, _, _, _, .nil, h => h
  | _, _, _, _, .cons (a := p) (b := q) h t, ha => by
    obtain ⟨e, hv⟩ := h
    have := putAll_rep t (kput_rep (k := p.1) hv ha)
    rw [e] at this
    show RepK K φ H (List.foldl _ (putK _ p.1 p.2) _) (putAll (kput _ q.1 q.2) _)
    rw [e]
    exact this
theorem putAll_kt {H : Hp} : ∀ {mv : List (List Key × V)} {ps : List (List Key × Addr × Value)} {av : List (List Key × V)} {xs : List (List Key × Addr × Value)}, KT H mv ps → KT H av xs → KT H (mv.foldl (fun acc p => putK acc p.1 p.2) av) (storedAllH xs ps)
  | _, _, _, _, .nil, h => h
  | _, _, _, _, .cons (a := p) (b := q) h t, ha => by
    obtain ⟨e, h1, h2⟩ := h
    have := putAll_kt t (KT.put ha p.1 h1 h2)
    show KT H _ (storedAllH (storedH _ q.1 q.2.1 q.2.2) _)
    rw [← e]
    exact this
theorem foldK_len {κ : Type} [DecidableEq κ] : ∀ (mv av : List (κ × V)), (mv.foldl (fun acc p => putK acc p.1 p.2) av).length ≤ av.length + mv.length
  | [], av => Nat.le_refl _
  | p :: mv, av => by
    have h1 := foldK_len mv (putK av p.1 p.2)
    have h2 := length_putK av p.1 p.2
    show (List.foldl _ (putK av p.1 p.2) mv).length ≤ av.length + (mv.length + 1)
    omega
theorem pairsK_rep {φ : List Addr} {H : Hp} : ∀ {vs : List V} {ds : List D} {kds : List (Key × D)}, RepVs T φ H vs ds → pairsK ds = some kds →
    ∃ (kvs : List (Key × V)) (ps : List Addr), RepK T φ H kvs kds ∧ vs = ps.map V.ref ∧ Paired (fun p kv => SqT T.K H p [kV kv.1, kv.2]) ps kvs
  | _, _, kds, .nil, e => by
    cases e
    exact ⟨[], [], .nil, rfl, .nil⟩
  | _, d :: ds, kds, .cons rd rs, e => by
    unfold pairsK at e
    split at e
    · cases ‹_ = []›
    · rename_i kd v r heq
      cases heq
      split at e
      · rename_i k kvs' h1 h2
        cases e
        obtain ⟨kvs, ps, g1, g2, g3⟩ := pairsK_rep rs h2
        cases rd with
        | @tup a _ _ a1 a2 =>
          obtain ⟨y, z, rfl, ry, rz⟩ := reps2 a2
          have ek := keyOf_rep ry h1
          subst ek
          exact ⟨(k, z) :: kvs, a :: ps, .cons ⟨rfl, rz⟩ g1, by rw [g2]; rfl, .cons (SqT.of a1) g3⟩
      · cases e
    · cases e
theorem cb_dict (hu : X.A.units + 128 < cLine) (hc : X.calm = true) (hK : X.K = T.K) : CallR X (.type "dict") (rBl T (bllD .dict)) := by
  intro pins s σ H xs us Q I rv ⟨W, φ, S, ds, a, vs, ex, ha, r, rs, p⟩
  subst ex
  obtain ⟨u, rfl, ru⟩ := vals1 rv
  cases ru
  unfold bllD at p
  dsimp only at p
  split at p
  · rename_i kds hk
    split at p
    · rename_i hl
      obtain ⟨kvs, ts, g1, g2, g3⟩ := pairsT_rep rs hk
      obtain ⟨ps, k1, k2, k3⟩ := pairs_vals I g3
      have l1 : kvs.length = kds.length := Paired.length g1
      have l2 : kvs.length = ps.length := Paired.length k1
      obtain ⟨its, iv, ⟨o, n, ho, hcl, hd, hdat⟩, hz⟩ := I.list (SqL.of ha)
      have ei : its = ts.map fun t => Value.ref t.1 := by
        rw [g2] at iv
        clear hdat
        have : ∀ {ts : List (Addr × Addr)} {its : List Value}, Vals (ts.map fun t => V.ref t.1) its → its = ts.map fun t => Value.ref t.1 := by
          intro ts
          induction ts with
          | nil => intro its h; cases h; rfl
          | cons t ts ih => intro its h; cases h with | cons h1 h2 => cases h1; rw [List.map_cons, ← ih h2]
        exact this iv
      subst ei
      have PI0 : PairItems s.heap (ts.map fun t => Value.ref t.1).toArray (fun j => (ts[j]?.map (·.1)).getD 0) (ps.map fun q => (Value.ref q.2.1, q.2.2)) := by
        refine ⟨by simp [k2], fun j k v e => ?_⟩
        rw [List.getElem?_map] at e
        obtain ⟨q, e1, e2⟩ := Option.map_eq_some_iff.mp e
        cases e2
        obtain ⟨t, t1, t2, t3⟩ := k3 j q e1
        obtain ⟨ot, q1, q2, m, q3⟩ := t3
        refine ⟨by simp [t1], .inl ?_⟩
        dsimp only
        rw [t1]
        exact ⟨ot, q1, q2, m, q3⟩
      have key : ∀ x ∈ ps, (tupleKind (mixKind X.prog X.w)).is s.heap x.1 x.2.1 ∧ x.2.1 < s.heap.objs.size := by
        have gen : ∀ {kvs : List (List Key × V)} {ps : List (List Key × Addr × Value)}, KT H kvs ps → ∀ x ∈ ps, (tupleKind (mixKind X.prog X.w)).is s.heap x.1 x.2.1 ∧ x.2.1 < s.heap.objs.size := by
          intro kvs ps h
          induction h with
          | nil => intro x hx; cases hx
          | @cons p q ps qs h t ih =>
            intro x hx
            rcases List.mem_cons.mp hx with rfl | hx
            · obtain ⟨e1, e2, _⟩ := h
              rw [e1] at e2
              have kk := key_of (P := X.prog) (w := X.w) I.hok e2
              obtain ⟨o, its, n, h1, _⟩ := id kk
              exact ⟨kk, Heap.lt_size h1⟩
            · exact ih x hx
        exact gen k1
      refine PySem.call_dict_pairsH (knd := tupleKind (mixKind X.prog X.w)) (ps := ps) (PairArg.list a _ (fun j => (ts[j]?.map (·.1)).getD 0) (ps.map fun q => (Value.ref q.2.1, q.2.2))) (I.ok.hd hc) (show X.A.in1.in1.units < cLine from by show X.A.units + 1 + 1 < cLine; omega) ⟨⟨o, n, ho, hcl, hd, hdat⟩, PI0⟩ ⟨by simp, fun i k v e => ?_⟩ (fun h' hk x hx => ?_) (by rw [List.length_map, ← l2, l1]; exact LIM_le hl) fun h' tk hd' hk => ?_
      · have e : (ps.map fun q => (Value.ref q.2.1, q.2.2))[i]? = some (k, v) := e
        rw [List.getElem?_map] at e
        obtain ⟨q, e1, e2⟩ := Option.map_eq_some_iff.mp e
        cases e2
        exact ⟨q.1, q.2.1, e1, rfl⟩
      · obtain ⟨⟨o, its, n, h1, h2⟩, hlt⟩ := key x hx
        exact ⟨o, its, n, hk _ _ (Nat.ne_of_lt hlt) (by simp) h1, h2⟩
      · have hnew : H s.heap.objs.size = none := I.hok.fresh (Nat.le_refl _)
        have hm : (s.heap.objs.size == sysModules) = false := beq_eq_false_iff_ne.mpr (Nat.ne_of_gt I.big)
        obtain ⟨q, es, ep, b1, b2, b3, b4, _, b5⟩ := hd'
        have hlen := foldK_len kvs []
        have ok : ObjOk X.prog X.w (upd H s.heap.objs.size (.dT (kvs.foldl (fun acc p => putK acc p.1 p.2) []))) h' s.heap.objs.size (.dT (kvs.foldl (fun acc p => putK acc p.1 p.2) [])) := by
          refine ⟨?_, hm, storedAllH [] ps, KT.keeps (putAll_kt k1 .nil) fun b ys e => ?_, q, es, ep, b1, b2, b3, b4, b5⟩
          · refine Nat.le_trans hlen ?_
            show 0 + kvs.length ≤ sizeLine
            rw [Nat.zero_add, l1]
            exact LIM_le hl
          · rw [upd_ne (ne_of_none e hnew)]
            exact e
        refine ⟨.ref s.heap.objs.size, _, I.laid (t' := tk) (fun b o e => hk b o (by simp) e) (Nat.le_refl _) ok, rfl, ?_⟩
        exact p.alloc r hnew ⟨_, upd_same, putAll_rep (RepK.ext r (Ext.alloc hnew (r.fresh hnew)) g1) .nil⟩
    · exact False.elim p
  · split at p
    · rename_i kds hk
      split at p
      · obtain ⟨kvs, ps, g1, g2, g3⟩ := pairsK_rep rs hk
        subst g2
        refine call_dictP hc pins s σ H [.ref a] [.ref a] Q I rv ⟨a, ps, kvs, rfl, SqL.of ha, by rw [hK]; exact g3, fun q hq => ?_⟩
        exact p.alloc r hq ⟨_, upd_same, putAll_rep (RepK.ext r (Ext.alloc hq (r.fresh hq)) g1) .nil⟩
      · exact False.elim p
    · exact False.elim p

/-! ### d.pop(k), d.pop(k, x) -/
theorem dropK_rep {φ : List Addr} {H : Hp} {k : Key} : ∀ {kvs : List (Key × V)} {kds : List (Key × D)}, RepK T φ H kvs kds → RepK T φ H (dropK kvs k) (kds.filter fun p => !decide (p.1 = k))
  | _, _, .nil => .nil
  | (k1, v1) :: r1, (k2, d2) :: r2, .cons h t => by
    obtain ⟨e, hv⟩ := h
    have e : k1 = k2 := e
    subst e
    have i := dropK_rep (k := k) t
    unfold dropK at i ⊢
    by_cases hk : k1 = k
    · simpa [hk] using i
    · simp only [List.filter_cons, hk, ne_eq, not_false_eq_true, decide_true, if_true, decide_false, Bool.not_false]
      exact .cons ⟨rfl, hv⟩ i
theorem set_selfS {S : Store} {l : Nat} {o : Ob} (h : S[l]? = some o) : S.set l o = S := by
  obtain ⟨g1, g2⟩ := List.getElem?_eq_some_iff.mp h
  rw [← g2, List.set_getElem_self]
theorem mt_dpopD : MtR X "dict.pop" (rMt T .dpop) := by
  intro pins s σ H x xs v us Q I rx rxs ⟨W, φ, S, d, ds, r, rd, rs, p⟩
  unfold methD at p
  split at p
  rotate_left
  · exact False.elim p
  split at p
  all_goals first | exact False.elim p | skip
  all_goals (rename_i hf; first | (cases hf; done) | skip)
  · rename_i l kds k hS
    split at p
    · rename_i kk hk
      split at p
      · rename_i w hw
        obtain ⟨y, rfl, ry⟩ := reps1 rs
        cases rd with
        | @loc a _ ha =>
          obtain ⟨kvs, h1, h2⟩ := r.ob _ _ _ hS ha
          have ek := keyOf_rep ry hk
          subst ek
          obtain ⟨u, rfl, ru⟩ := vals1 rxs
          cases rx
          obtain ⟨v', e', rv'⟩ := (kget_rep kk h2).2 w hw
          refine d_pop I h1 ru e' (.inl rfl) fun w' s' I' rw' => ⟨v', _, I', rw', ?_⟩
          obtain ⟨ww, ew, _, ht⟩ := (r.ob _ _ _ hS ha).mut
          have xw := Ext.write (u := HO.dK (dropK kvs kk)) (List.mem_of_getElem? ha) ew ht
          exact p.write r hS ha ⟨_, upd_same, RepK.ext r xw (dropK_rep h2)⟩ (rv'.ext r xw)
      · exact False.elim p
    · exact False.elim p
  · rename_i l kds k dd hS
    split at p
    · rename_i kk hk
      obtain ⟨y, z, rfl, ry, rz⟩ := reps2 rs
      cases rd with
      | @loc a _ ha =>
        obtain ⟨kvs, h1, h2⟩ := r.ob _ _ _ hS ha
        have ek := keyOf_rep ry hk
        subst ek
        obtain ⟨u1, u2, rfl, ru, ru2⟩ := vals2 rxs
        cases rx
        obtain ⟨ww, ew, _, ht⟩ := (r.ob _ _ _ hS ha).mut
        have xw := Ext.write (u := HO.dK (dropK kvs kk)) (List.mem_of_getElem? ha) ew ht
        cases hw : kget kds kk with
        | none =>
          have e' := (kget_rep kk h2).1 hw
          rw [hw] at p
          refine d_popD I h1 ru e' fun s' I' => ⟨z, _, I', ru2, ?_⟩
          have same : (kds.filter fun p => !decide (p.1 = kk)) = kds := by
            rw [List.filter_eq_self]
            intro q hq
            unfold kget at hw
            have := List.find?_eq_none.mp (Option.map_eq_none_iff.mp hw) q hq
            simpa using this
          rw [same] at p
          have p2 : Post T W (RV T) φ H (.ok dd S) Q := by
            rw [set_selfS hS] at p
            exact p
          exact p2.ok r rz
        | some w =>
          rw [hw] at p
          obtain ⟨v', e', rv'⟩ := (kget_rep kk h2).2 w hw
          refine d_pop I h1 ru e' (.inr ⟨_, rfl⟩) fun w' s' I' rw' => ⟨v', _, I', rw', ?_⟩
          exact p.write r hS ha ⟨_, upd_same, RepK.ext r xw (dropK_rep h2)⟩ (rv'.ext r xw)
    · exact False.elim p

/-! ### d.update(e) -/
theorem mt_updateD (hu : X.A.units + 128 < cLine) : MtR X "dict.update" (rMt T .update) := by
  intro pins s σ H x xs v us Q I rx rxs ⟨W, φ, S, d, ds, r, rd, rs, p⟩
  unfold methD at p
  split at p
  rotate_left
  · exact False.elim p
  split at p
  all_goals first | exact False.elim p | skip
  all_goals (rename_i hf; first | (cases hf; done) | skip)
  · rename_i l kds b hS
    split at p
    · rename_i mds hB
      split at p
      · rename_i hc
        obtain ⟨c1, c2, c3⟩ := hc
        obtain ⟨x', rfl, rx'⟩ := reps1 rs
        cases rd with
        | @loc a _ hla =>
          cases rx' with
          | @loc o _ hlo =>
            obtain ⟨kvs, a1, a2⟩ := r.ob _ _ _ hS hla
            obtain ⟨mvs, o1, o2⟩ := r.ob _ _ _ hB hlo
            obtain ⟨u, rfl, ru⟩ := vals1 rxs
            cases rx
            cases ru
            have hne : a ≠ o := by
              rintro rfl
              obtain ⟨h1, q1⟩ := List.getElem?_eq_some_iff.mp hla
              obtain ⟨h2, q2⟩ := List.getElem?_eq_some_iff.mp hlo
              exact c1 ((List.getElem_inj r.nd).mp (q1.trans q2.symm))
            obtain ⟨z1, d1, xs1, rel1, dd1⟩ := dt_of I.hok a1
            obtain ⟨z2, d2, xs2, rel2, dd2⟩ := dt_of I.hok o1
            have l1 : kvs.length = kds.length := Paired.length a2
            have l2 : mvs.length = mds.length := Paired.length o2
            have l3 : kvs.length = xs1.length := Paired.length rel1
            have l4 : mvs.length = xs2.length := Paired.length rel2
            have hne1 : xs1 ≠ [] := by
              rintro rfl
              simp only [List.length_nil] at l3
              have : kds.length = 0 := by omega
              rw [List.length_eq_zero_iff.mp this] at c2
              simp at c2
            refine PySem.call_update_dictH (knd := tupleKind (mixKind X.prog X.w)) (show X.A.in1.units < cLine from by show X.A.units + 1 < cLine; omega) hne d2 dd1 dd2 (.inl hne1) (by rw [← l3, ← l4, l1, l2]; exact LIM_le c3) fun h' dd1' dd2' hs => ?_
            obtain ⟨q, es, ep, b1, b2, b3, b4, _, b5⟩ := dd1'
            have hlen := foldK_len mvs kvs
            have keepT : ∀ c ys, H c = some (.tup ys) → upd H a (.dT (mvs.foldl (fun acc p => putK acc p.1 p.2) kvs)) c = some (.tup ys) := fun c ys ec => by
              rw [upd_ne (by rintro rfl; rw [a1] at ec; cases ec)]
              exact ec
            have I2 := d_write (t' := s.toks) (ob := .dT (mvs.foldl (fun acc p => putK acc p.1 p.2) kvs)) I (by rw [a1]; exact True.intro) hs ⟨q, b1⟩ ⟨Nat.le_trans hlen (by rw [l1, l2]; exact LIM_le c3), d1, storedAllH xs1 xs2, KT.keeps (putAll_kt rel2 rel1) keepT, q, es, ep, b1, b2, b3, b4, b5⟩
            refine ⟨.non, _, I2, rfl, ?_⟩
            obtain ⟨w, ew, _, ht⟩ := (r.ob _ _ _ hS hla).mut
            have xw := Ext.write (u := HO.dT (mvs.foldl (fun acc p => putK acc p.1 p.2) kvs)) (List.mem_of_getElem? hla) ew ht
            exact p.write r hS hla ⟨_, upd_same, RepK.ext r xw (putAll_rep o2 a2)⟩ .non
      · exact False.elim p
    · exact False.elim p
  · rename_i l kds b hS
    split at p
    · rename_i mds hB
      split at p
      · rename_i hc
        obtain ⟨c1, c3⟩ := hc
        obtain ⟨x', rfl, rx'⟩ := reps1 rs
        cases rd with
        | @loc a _ hla =>
          cases rx' with
          | @loc o _ hlo =>
            obtain ⟨kvs, a1, a2⟩ := r.ob _ _ _ hS hla
            obtain ⟨mvs, o1, o2⟩ := r.ob _ _ _ hB hlo
            obtain ⟨u, rfl, ru⟩ := vals1 rxs
            cases rx
            cases ru
            have hne : a ≠ o := by
              rintro rfl
              obtain ⟨h1, q1⟩ := List.getElem?_eq_some_iff.mp hla
              obtain ⟨h2, q2⟩ := List.getElem?_eq_some_iff.mp hlo
              exact c1 ((List.getElem_inj r.nd).mp (q1.trans q2.symm))
            obtain ⟨z1, d1, xs1, rel1, dd1⟩ := dk_of I.hok a1
            obtain ⟨z2, d2, xs2, rel2, dd2⟩ := dk_of I.hok o1
            have l1 : kvs.length = kds.length := Paired.length a2
            have l2 : mvs.length = mds.length := Paired.length o2
            have l3 : kvs.length = xs1.length := Paired.length rel1
            have l4 : mvs.length = xs2.length := Paired.length rel2
            refine call_meetsIn PySem.F.slot_dict_update dd1.typeIs PySem.F.entry_dict_update (PySem.F.args_dict_update_2 _ _) (meets_dict_update (mixKind X.prog X.w) a o hne d2)
              ⟨xs1, xs2, dd1, dd2, by rw [← l3, ← l4, l1, l2]; exact LIM_le c3, fun h' dd1' dd2' hs => ?_⟩
            have he : ∃ q, h'.get? a = some q := let ⟨q, _, _, hq, _⟩ := dd1'; ⟨q, hq⟩
            have hlen := length_mergeK mvs kvs
            have I2 := d_write (t' := s.toks) (ob := .dK (mergeK kvs mvs)) I (by rw [a1]; exact True.intro) hs he (dk_new (Nat.le_trans hlen (by rw [l1, l2]; exact LIM_le c3)) d1 (rel2.merge rel1) dd1')
            refine ⟨.non, _, I2, rfl, ?_⟩
            obtain ⟨w, ew, _, ht⟩ := (r.ob _ _ _ hS hla).mut
            have xw := Ext.write (u := HO.dK (mergeK kvs mvs)) (List.mem_of_getElem? hla) ew ht
            exact p.write r hS hla ⟨_, upd_same, RepK.ext r xw (putAll_rep o2 a2)⟩ .non
      · exact False.elim p
    · exact False.elim p
end
end Ev
end

section
set_option Elab.async false
set_option linter.all false
set_option maxRecDepth 100000
set_option autoImplicit false
/-! Ev7: the text against the evaluator's syntax; calls. -/
namespace Ev
open PySem PySem.Spec L2
open PyProof.Rows hiding St

/-! ### the text is what the evaluator's syntax says -/
def visB (sc : Scope) (x : Str) : Bool := match sc.names.lookup x with
  | some .local => true
  | some .cell => true
  | some .free => true
  | _ => false
def locB (sc : Scope) (x : Str) : Bool := match sc.names.lookup x with
  | some .local => true
  | some .cell => true
  | _ => false
def glB (sc : Scope) (x : Str) : Bool := match sc.names.lookup x with
  | some .globalImplicit => true
  | _ => false
def plainN (x : Str) : Bool := !(x == ("__debug__" : Str)) && !(x == ("__classdict__" : Str)) && !(x == ("__name__" : Str))
def lclB (sc : Scope) (x : Str) : Bool := match sc.names.lookup x with
  | some .local => true
  | _ => false
/-- a name in a slot -/
def okV (N : List Str) (sc : Scope) (i : Nat) (x : Str) : Bool := decide (N[i]? = some x) && visB sc x && plainN x
def okG (sc : Scope) (y : String) (x : Str) : Bool := decide (x = Str.ofString y) && glB sc x && plainN x
def Bf.nm : Bf → String
  | .len => "len"
  | .abs => "abs"
  | .int => "int"
  | .max => "max"
  | .min => "min"
  | .isi => "isinstance"
  | .tuple => "tuple"
  | .list => "list"
  | .repr => "repr"
  | .sorted => "sorted"
def Bl.nm : Bl → String
  | .all => "all"
  | .any => "any"
  | .tuple => "tuple"
  | .len => "len"
  | .dict => "dict"
  | .min => "min"
def Mt.nm : Mt → String
  | .append => "append"
  | .extend => "extend"
  | .pop => "pop"
  | .get => "get"
  | .update => "update"
  | .index => "index"
  | .dpop => "pop"
  | .own m => m
/-- what may stand as a method's receiver -/
def rcvB : Expr → Bool
  | .Name .. => true
  | .Subscript .. => true
  | .Attribute .. => true
  | _ => false
def fewB (es : List Expr) : Bool := decide (es.length < 20)
def lineB (apos pos : Pos) : Bool := apos.endLine == pos.line
mutual
def okTG (N : List Str) (sc : Scope) : TG → Expr → Bool
  | .name i, e => match e with
    | .Name x _ => decide (N[i]? = some x) && locB sc x && plainN x
    | _ => false
  | .tup ts, e => match e with
    | .Tuple es _ _ => okTGs N sc ts es
    | _ => false
def okTGs (N : List Str) (sc : Scope) : TGs → List Expr → Bool
  | .nil, es => es.isEmpty
  | .cons t ts, es => match es with
    | e :: es => okTG N sc t e && okTGs N sc ts es
    | [] => false
end
mutual
def slT : TG → List Nat
  | .name i => [i]
  | .tup ts => slTs ts
def slTs : TGs → List Nat
  | .nil => []
  | .cons t ts => slT t ++ slTs ts
end
/-- the def makes lambdas -/
def lamMark (N : List Str) : Bool := N.contains "<lambda>"
/-- the mark taken away -/
def unmark (N : List Str) : List Str := N.map fun (x : Str) => if x = ("<lambda>" : Str) then ("<none>" : Str) else x
/-- no parameters -/
def lamP : Arguments → Bool
  | ⟨[], [], none, [], [], none, []⟩ => true
  | _ => false
/-- enumerate(..) wants a tuple as its target -/
def enmOk : IT → Expr → Bool
  | .enm _, e => match e with
    | .Tuple .. => true
    | _ => false
  | _, _ => true
/-- the keys of a display: texts -/
def keysTx : List Str → List (Option Expr) → Bool
  | [], [] => true
  | k :: ks, some (.Constant (.str y) _ _) :: es => decide (k = y) && keysTx ks es
  | _, _ => false
mutual
def okE (N : List Str) (sc : Scope) : EX → Expr → Bool
  | .non, e => match e with
    | .Constant .none _ _ => true
    | _ => false
  | .bl b, e => match e with
    | .Constant (.bool c) _ _ => b == c
    | _ => false
  | .int i, e => match e with
    | .Constant (.int j) _ _ => decide (i = j)
    | _ => false
  | .str x, e => match e with
    | .Constant (.str y) _ _ => decide (x = y)
    | _ => false
  | .var i, e => match e with
    | .Name x _ => okV N sc i x
    | _ => false
  | .glb y, e => match e with
    | .Name x _ => okG sc y x
    | _ => false
  | .bty y, e => match e with
    | .Name x _ => okG sc y x
    | _ => false
  | .tup xs, e => match e with
    | .Tuple es _ _ => okEs N sc xs es
    | _ => false
  | .ofl l, e => okL N sc l e
  | .dk0, e => match e with
    | .Dict [] [] _ => true
    | _ => false
  | .dt0, e => match e with
    | .Dict [] [] _ => true
    | _ => false
  | .bin op a b, e => match e with
    | .BinOp l o r _ => decide (o = opOf op) && okE N sc a l && okE N sc b r
    | _ => false
  | .neg a, e => match e with
    | .UnaryOp .USub l _ => okE N sc a l
    | _ => false
  | .cmp op a b, e => match e with
    | .Compare l [o] [r] _ => decide (o = cmpOf op) && okE N sc a l && okE N sc b r
    | _ => false
  | .chn op a b op' c, e => match e with
    | .Compare l [o, o'] [r, z] _ => decide (o = cmpOf op) && decide (o' = cmpOf op') && okE N sc a l && okE N sc b r && okE N sc c z
    | _ => false
  | .bop isAnd xs, e => match e with
    | .BoolOp op es _ => decide (op = if isAnd then .And else .Or) && okEs N sc xs es
    | _ => false
  | .nt a, e => match e with
    | .UnaryOp .Not l _ => okE N sc a l
    | _ => false
  | .ife t a b, e => match e with
    | .IfExp c l r _ => okE N sc t c && okE N sc a l && okE N sc b r
    | _ => false
  | .sub a i, e => match e with
    | .Subscript l r _ => okE N sc a l && okE N sc i r
    | _ => false
  | .slc0 a, e => match e with
    | .Subscript l (.Slice none none none _) _ => okE N sc a l
    | _ => false
  | .slcF a lo, e => match e with
    | .Subscript l (.Slice (some r) none none _) _ => okE N sc a l && okE N sc lo r
    | _ => false
  | .slcT a hi, e => match e with
    | .Subscript l (.Slice none (some r) none _) _ => okE N sc a l && okE N sc hi r
    | _ => false
  | .slcB a lo hi, e => match e with
    | .Subscript l (.Slice (some r) (some z) none _) _ => okE N sc a l && okE N sc lo r && okE N sc hi z
    | _ => false
  | .fld a f, e => match e with
    | .Attribute l y _ => decide (y = Str.ofString f) && rcvB l && okE N sc a l
    | _ => false
  | .call y xs, e => match e with
    | .Call (.Name x _) es [] _ => okG sc y x && okEs N sc xs es
    | _ => false
  | .new y xs, e => match e with
    | .Call (.Name x _) es [] _ => okG sc y x && okEs N sc xs es
    | _ => false
  | .meth a m xs, e => match e with
    | .Call (.Attribute l y apos) es [] pos => decide (y = Str.ofString m.nm) && rcvB l && lineB apos pos && fewB es && okE N sc a l && okEs N sc xs es
    | _ => false
  | .blt f xs, e => match e with
    | .Call (.Name x _) es [] _ => okG sc f.nm x && !es.isEmpty && okEs N sc xs es
    | _ => false
  | .bll f l, e => match e with
    | .Call (.Name x _) [r] [] _ => okG sc f.nm x && okL N sc l r
    | _ => false
  | .lamw y b, e => match e with
    | .Call (.Name x _) [.Lambda ps body scope _] [] _ => okG sc y x && lamMark N && lamP ps && LamX.lamSB sc scope && (decide (unmark N).Nodup && !lamMark (unmark N) && !visB scope "<lambda>" && !visB scope "<none>") && okE (unmark N) scope b body
    | _ => false
  | .fnv y, e => match e with
    | .Name x _ => okG sc y x
    | _ => false
  | .bmv a m, e => match e with
    | .Attribute l y _ => decide (y = Str.ofString m) && rcvB l && okE N sc a l
    | _ => false
  | .cval i xs, e => match e with
    | .Call (.Name x _) es [] _ => okV N sc i x && !es.isEmpty && okEs N sc xs es
    | _ => false
  | .dsp ks xs, e => match e with
    | .Dict keys vals _ => keysTx ks keys && okEs N sc xs vals && (!ks.isEmpty && decide (ks.length ≤ 15) && decide (keys.length = vals.length))
    | _ => false
  | .dcp _ own t it k v, e => match e with
    | .DictComp kx vx [⟨tg, iter, [], 0⟩] scope _ => blkC N sc scope (own.map fun p => (Str.ofString p.1, p.2)) && okTG N (relS scope sc) t tg && okI N sc it iter && enmOk it tg && (slT t).all (fun i => decide (i ∈ own.map (·.2))) && own.all (fun p => (scope.names.lookup (Str.ofString p.1) == some .cell) || lclB (relS scope sc) (Str.ofString p.1)) && okE N (relS scope sc) k kx && okE N (relS scope sc) v vx
    | _ => false
  | .lrg a, e => match e with
    | .Call (.Name x _) [.Call (.Name y _) [l] [] _] [] _ => okG sc "list" x && okG sc "range" y && okE N sc a l
    | _ => false
  | .srs a, e => match e with
    | .Call (.Name x _) [.Call (.Name y _) [l] [] _] [] _ => okG sc "sorted" x && okG sc "set" y && okE N sc a l
    | _ => false
  | .rev a, e => match e with
    | .Subscript l (.Slice none none (some (.UnaryOp .USub (.Constant (.int 1) _ _) _)) _) _ => okE N sc a l
    | _ => false
def okEs (N : List Str) (sc : Scope) : EXs → List Expr → Bool
  | .nil, es => es.isEmpty
  | .cons x xs, es => match es with
    | e :: es => okE N sc x e && okEs N sc xs es
    | [] => false
def okI (N : List Str) (sc : Scope) : IT → Expr → Bool
  | .val a, e => okE N sc a e
  | .rng1 a, e => match e with
    | .Call (.Name x _) [l] [] _ => okG sc "range" x && okE N sc a l
    | _ => false
  | .rng2 a b, e => match e with
    | .Call (.Name x _) [l, r] [] _ => okG sc "range" x && okE N sc a l && okE N sc b r
    | _ => false
  | .rng3 a b c, e => match e with
    | .Call (.Name x _) [l, r, z] [] _ => okG sc "range" x && okE N sc a l && okE N sc b r && okE N sc c z
    | _ => false
  | .enm a, e => match e with
    | .Call (.Name x _) [l] [] _ => okG sc "enumerate" x && okE N sc a l
    | _ => false
def okL (N : List Str) (sc : Scope) : LX → Expr → Bool
  | .dis xs, e => match e with
    | .List es _ => okEs N sc xs es
    | _ => false
  | .comp own t it ifs x, e => match e with
    | .ListComp elt [⟨tg, iter, cs, 0⟩] scope _ => blkC N sc scope (own.map fun p => (Str.ofString p.1, p.2)) && okTG N (relS scope sc) t tg && okI N sc it iter && enmOk it tg && okEs N (relS scope sc) ifs cs && decide (cs.length ≤ 1) && (slT t).all (fun i => decide (i ∈ own.map (·.2))) && own.all (fun p => (scope.names.lookup (Str.ofString p.1) == some .cell) || lclB (relS scope sc) (Str.ofString p.1)) && okE N (relS scope sc) x elt
    | _ => false
end

/-! ### what follows of the text -/
def plainX : Expr → Bool
  | .Starred .. => false
  | .Slice .. => false
  | .Set .. => false
  | .GeneratorExp .. => false
  | _ => true
theorem okL_plain {N : List Str} {sc : Scope} {l : LX} {e : Expr} (h : okL N sc l e = true) : plainX e = true := by
  cases l <;> (unfold okL at h; split at h <;> first | rfl | cases h)
theorem okE_plain {N : List Str} {sc : Scope} {x : EX} {e : Expr} (h : okE N sc x e = true) : plainX e = true := by
  cases x <;> (unfold okE at h; first | exact okL_plain h | (split at h <;> first | rfl | cases h))
theorem starEach_plain {e : Expr} {es : List Expr} {env : PySem.Env} (h : plainX e = true) : starEach (e :: es) env = (false, eval e env) :: starEach es env := by
  cases e <;> first | rfl | cases h
theorem starEach_none {N : List Str} {sc : Scope} {env : PySem.Env} : ∀ {xs : EXs} {es : List Expr}, okEs N sc xs es = true → ∀ pos, (backTo pos (starEach es env)).any (·.1) = false
  | .nil, es, h, pos => by
    have : es = [] := List.isEmpty_iff.mp h
    subst this; rfl
  | .cons x xs, [], h, pos => by cases h
  | .cons x xs, e :: es, h, pos => by
    have h : (okE N sc x e && okEs N sc xs es) = true := h
    rw [Bool.and_eq_true] at h
    rw [starEach_plain (okE_plain h.1)]
    show (false || (backTo pos (starEach es env)).any (·.1)) = false
    rw [starEach_none h.2]; rfl
theorem starEach_all {N : List Str} {sc : Scope} {env : PySem.Env} : ∀ {xs : EXs} {es : List Expr}, okEs N sc xs es = true → ∀ pos, (backTo pos (starEach es env)).all (fun x => !x.1) = true
  | .nil, es, h, pos => by
    have : es = [] := List.isEmpty_iff.mp h
    subst this; rfl
  | .cons x xs, [], h, pos => by cases h
  | .cons x xs, e :: es, h, pos => by
    have h : (okE N sc x e && okEs N sc xs es) = true := h
    rw [Bool.and_eq_true] at h
    rw [starEach_plain (okE_plain h.1)]
    show (true && (backTo pos (starEach es env)).all (fun x => !x.1)) = true
    rw [starEach_all h.2]; rfl
theorem few_ok {N : List Str} {sc : Scope} {env : PySem.Env} {xs : EXs} {es : List Expr} {pos : Pos} (h : okEs N sc xs es = true) (hf : fewB es = true) :
    ((backTo pos (starEach es env)).all (fun x => !x.1) && (backToKw pos (keywordEach [] env)).all (fun x => x.1.isSome) && decide (es.length + ([] : List Keyword).length + (if ([] : List Keyword).isEmpty then 0 else 1) < 30)) = true := by
  rw [starEach_all h]
  have hl : es.length < 20 := of_decide_eq_true hf
  simp only [Bool.true_and, Bool.and_eq_true, decide_eq_true_eq]
  refine ⟨rfl, ?_⟩
  show es.length + 0 + 0 < 30
  omega
theorem nomark_plain {b : Expr} {op : CmpOp} (h : plainX b = true) : behindInMarks op b = false := by
  cases b <;> first | rfl | cases h
theorem plainIx_of {b : Expr} (h : plainX b = true) : PlainIx b := by
  intro o i
  cases b <;> first | rfl | cases h
theorem base_rcv {o : Expr} {f : Str} {env : PySem.Env} (h : rcvB o = true) : attributeBase o f env (eval o env) = eval o env := by
  cases o <;> first | rfl | cases h
theorem visB_ok {sc : Scope} {x : Str} (h : visB sc x = true) : Vis sc x := by
  unfold visB at h
  split at h
  · exact .inl (by assumption)
  · exact .inr (.inl (by assumption))
  · exact .inr (.inr (by assumption))
  · cases h
theorem locB_ok {sc : Scope} {x : Str} (h : locB sc x = true) : Loc sc x := by
  unfold locB at h
  split at h
  · exact .inl (by assumption)
  · exact .inr (by assumption)
  · cases h
theorem glB_ok {sc : Scope} {x : Str} (h : glB sc x = true) : sc.names.lookup x = some .globalImplicit := by
  unfold glB at h
  split at h
  · assumption
  · cases h
theorem plainN_ok {x : Str} (h : plainN x = true) : (x == ("__debug__" : Str)) = false ∧ (x == ("__classdict__" : Str)) = false ∧ x ≠ "__name__" := by
  unfold plainN at h
  simp only [Bool.and_eq_true, Bool.not_eq_true'] at h
  exact ⟨h.1.1, h.1.2, fun e => by rw [e] at h; simp at h⟩

/-! ### what is known where a body runs -/
def spD (T : Wr) (f : List D → Store → Res D) : Sp := fun vs H Q E => ∃ (φ : List Addr) (S : Store) (ds : List D), RepS T φ H S ∧ RepVs T φ H vs ds ∧ Post T E (RV T) φ H (f ds S) Q
/-- a def's promise where the guards are known -/
structure FnG (G : Around → Prop) (prog : Program) (w : World) (K : PySem.W.Frag) (mg : Str → Option Value) (base : Heap) (Z : CXT) (k : Nat) (f : Addr) (fd : FuncData) (ps : List Str) (sp : Sp) : Prop where
  many : ∀ vs H Q E, sp vs H Q E → vs.length = ps.length
  goes : ∀ (A : Around), G A → Room k A → ∀ (outer : List PySem.Env) (s : Shared) (H : Hp) (args : Args) (us : List Value) (vs : List V) (Q : VK) (E : XK), Env0 prog w K mg base A outer s H → BindsTo s fd args (ps.zip us) → L2.Vals vs us → sp vs H Q E →
    codeAny (model prog w) A (.call (.ref f) args) (CR Z outer prog w H s Q E) s
theorem FnG.all {G : Around → Prop} {prog : Program} {w : World} {K : PySem.W.Frag} {mg : Str → Option Value} {base : Heap} {Z : CXT} {k : Nat} {f : Addr} {fd : FuncData} {ps : List Str} {sp : Sp} (F : FnG G prog w K mg base Z k f fd ps sp) (h : ∀ A, G A) : FnOk prog w K mg base Z k f fd ps sp :=
  ⟨F.many, fun A outer s H args us vs Q E hr e0 hb r q => F.goes A (h A) hr outer s H args us vs Q E e0 hb r q⟩
theorem FnG.call {G : Around → Prop} {X : Cx} {W : WX} {k : Nat} {f : Addr} {fd : FuncData} {ps : List Str} {sp : Sp} {pins : List (Addr × Obj)} {σ : L2.St} {H : Hp} {s : Shared} {Q : VK} {us : List Value} {vs : List V}
    (F : FnG G X.prog X.w X.K X.mg X.base (L2.CX X.prog X.w) k f fd ps sp) (hG : G X.A) (hr : Room k X.A) (hb : Binds X.K fd ps []) (tk : Takes X W) (I : L2.Inv X pins σ H s) (r : L2.Vals vs us) (h : sp vs H Q (WE W σ)) : wpAny (model X.prog X.w) X.A (call (.ref f) us) (EP X pins σ Q) X.xe s := by
  have n1 : us.length = ps.length := r.length.symm.trans (F.many _ _ _ _ h)
  have n2 : BindsTo s fd ⟨us, []⟩ (ps.zip us) := by
    have q := hb s us I.kIn (by simpa using n1)
    simpa using q
  have n3 := F.goes X.A hG hr X.stack s H ⟨us, []⟩ us vs Q (WE W σ) I.env0 n2 r h
  refine wpAny_call (codeAny_mono n3 fun res s' q => ?_)
  match res, q with
  | .error e, q => exact passAt tk σ pins H s e s' I q
  | .ok (.ret u), q => exact I.after q
/-- what is known of the guards -/
def Gd (P : Prg) (A : Around) : Prop := P.gd = true → A.guards = some []
def bltNames : List String := ["len", "abs", "int", "max", "min", "isinstance", "tuple", "list", "all", "any", "range", "repr", "dict", "enumerate", "sorted", "set"]
/-- the text of a def that calls what it got, and tells a word -/
def hdTx (sg : Scope) : List (String × Str) → List ExceptHandler → Bool
  | [], [] => true
  | (C, w) :: hs, .ExceptHandler (some (.Name e _)) none [.Return (some (.Constant (.str r) _ _)) _] _ :: hds => okG sg C e && decide (r = w) && hdTx sg hs hds
  | _, _ => false
def wordTx (sg : Scope) (a : Str) (hs : List (String × Str)) (told : Str) : List Stmt → Bool
  | [.Try [.Expr (.Call (.Name b _) [] [] _) _] hds [] [] _, .Return (some (.Constant (.str r) _ _)) _] => decide (b = a) && decide (r = told) && !hs.isEmpty && hdTx sg hs hds
  | _ => false
def veBases : List Value := [.type "ValueError", .type "Exception", .type "BaseException", .type "object"]
structure Facts (P : Prg) (T : Wr) (prog : Program) (w : World) (mg : Str → Option Value) (base : Heap) (k : Nat) : Prop where
  glb : ∀ x d, P.glb x = some d → ∃ u v, mg (Str.ofString x) = some u ∧ L2.RelV v u ∧ ∀ φ H, RepV T φ H v d
  bty : ∀ x, P.bty x = true → mg (Str.ofString x) = none ∧ bootBuiltins (Str.ofString x) = some (.type x)
  blt : ∀ x ∈ bltNames, mg (Str.ofString x) = none
  att : ∀ C f, P.att C f = true → Cls T.K (T.ca C) ∧ NoAttr T.K (T.ca C) (Str.ofString f)
  fn : ∀ x d, P.defs x = some d → ∃ f fd ps, mg (Str.ofString x) = some (.ref f) ∧ PySem.W.keepIn T.K (.ref f) = true ∧ Binds T.K fd ps [] ∧ FnG (Gd P) prog w T.K mg base (L2.CX prog w) k f fd ps (spD T fun ds S => (cxK P k).call x ds S)
  mt : ∀ C m d, P.meths C m = some d → Cls T.K (T.ca C) ∧ ∃ f fd ps, Meth T.K (T.ca C) (Str.ofString m) f ∧ Binds T.K fd ps [] ∧ FnG (Gd P) prog w T.K mg base (L2.CX prog w) k f fd ps (spD T fun ds S => (cxK P k).meth C m ds S)
  nw : P.gd = false → ∀ C d, P.meths C "__init__" = some d → ∃ f fd ps, mg (Str.ofString C) = some (.ref (T.ca C)) ∧ Mk T.K (T.ca C) f ∧ Binds T.K fd ps [] ∧ FnOk prog w T.K mg base (L2.CX prog w) (k - 1) f fd ps (spD T fun ds S => (cxK P k).init C ds S)
  xc : ∀ C, P.xc C = true → mg (Str.ofString C) = some (.ref (T.ca C)) ∧ PySem.W.excIn T.K (T.ca C) veBases "ValueError.__new__" = true ∧ PySem.W.keepIn T.K (.ref (T.ca C)) = true ∧ PySem.W.subIn T.K (.ref (T.ca C)) (.type "BaseException") = some true ∧ PySem.W.typeIn T.K (.ref (T.ca C)) = some (.type "type")
  exm : ∀ C C', P.xc C = true → P.xc C' = true → PySem.W.exmOne T.K (.ref (T.ca C)) (.ref (T.ca C')) = some (decide (C = C'))
  wrd : ∀ x hs told, P.wrd x = some (hs, told) → ∃ (g : Addr) (fd : FuncData) (pg : Arguments) (bg : List Stmt) (sg : Scope) (a : Str), mg (Str.ofString x) = some (.ref g) ∧ FunD T.K (Str.ofString x) (Str.ofString x) pg bg sg [] [] g fd ∧ Binds T.K fd [a] [] ∧ FnScope [a] [a] sg ∧ okV [a] sg 0 a = true ∧ wordTx sg a hs told bg = true ∧ ∀ h ∈ hs, P.xc h.1 = true
  tbs : ∀ p ∈ T.tabs, LamX.TabB base mg T.lc p.1
  fna : ∀ x d, P.defs x = some d → mg (Str.ofString x) = some (.ref (T.ca x))
  bma : ∀ C m, P.bm C m = true → Cls T.K (T.ca C) ∧ BMeth T.K (T.ca C) (Str.ofString m) (T.ma C m)
structure Sit (P : Prg) (T : Wr) (X : Cx) (k : Nat) (W : WX) : Prop where
  calm : X.calm = true
  nd : X.N.Nodup
  room : Room k X.A
  gd : Gd P X.A
  tk : Takes X W
  K : X.K = T.K
  W : X.w = T.w
  fx : Facts P T X.prog X.w X.mg X.base k
  low : ∀ j, j + 2 ≤ k → Facts P T X.prog X.w X.mg X.base j
  lm : lamMark X.N = true → X.env.code = .ref T.lc ∧ ∃ q : Addr, T.tabs = [(q, X.env.qual ++ "<lambda>")]
theorem Sit.hu2 {P : Prg} {T : Wr} {X : Cx} {k : Nat} {W : WX} (s : Sit P T X k W) : X.A.units + 128 < cLine := by have := s.room.un; omega
theorem Sit.hu {P : Prg} {T : Wr} {X : Cx} {k : Nat} {W : WX} (s : Sit P T X k W) : X.A.units + 64 < cLine := s.room.units

/-! ### readings -/
/-- an expression's reading by the evaluator -/
def rd {β : Type} (T : Wr) (W : WX) (R : Rl D β) (f : EnvD → Store → Res D) : St → Hp → (β → Hp → Prop) → Prop := fun σ H Q => ∃ (φ : List Addr) (env : EnvD) (S : Store), Rep T φ σ H env S ∧ Post T (fun c d H => W c d σ H) R φ H (f env S) Q
def rds (T : Wr) (W : WX) (f : EnvD → Store → Res (List D)) : L2.TA := fun σ H Q => ∃ (φ : List Addr) (env : EnvD) (S : Store), Rep T φ σ H env S ∧ Post T (fun c d H => W c d σ H) (RVs T) φ H (f env S) Q
abbrev rdV (T : Wr) (W : WX) (f : EnvD → Store → Res D) : TE := rd T W (RV T) f
def rdB (T : Wr) (W : WX) (f : EnvD → Store → Res Bool) : TT := fun σ H Q => ∃ (φ : List Addr) (env : EnvD) (S : Store), Rep T φ σ H env S ∧ Post T (fun c d H => W c d σ H) RE φ H (f env S) Q
/-- a list that is no place yet -/
def PostL (T : Wr) (W : WXk) (φ : List Addr) (H : Hp) (r : Res (List D)) (Q : V → Hp → Prop) : Prop := match r with
  | .ok ds S' => ∀ φ' H' a vs, Ext φ φ' H H' → RepS T φ' H' S' → a ∉ φ' → Nw H a → H' a = some (.lst vs) → RepVs T φ' H' vs ds → Q (.ref a) H'
  | .exc x S' => ∀ φ' H' cls dx, Ext φ φ' H H' → RepS T φ' H' S' → RepX T φ' H' cls dx x → W cls dx H'
  | .bad => False
def rdL (T : Wr) (W : WX) (f : EnvD → Store → Res (List D)) : TE := fun σ H Q => ∃ (φ : List Addr) (env : EnvD) (S : Store), Rep T φ σ H env S ∧ PostL T (fun c d H => W c d σ H) φ H (f env S) Q
theorem _root_.L2.PE.imp {X : Cx} {e : Expr} {t t' : TE} (h : PE X e t) (i : ∀ σ H Q, t' σ H Q → t σ H Q) : PE X e t' := ⟨fun pins s σ H Q I q => h.run pins s σ H Q I (i σ H Q q)⟩
theorem _root_.L2.PT.imp {X : Cx} {e : Expr} {t t' : TT} (h : PT X e t) (i : ∀ σ H Q, t' σ H Q → t σ H Q) : PT X e t' := ⟨fun pins s σ H Q I q => h.run pins s σ H Q I (i σ H Q q)⟩
theorem _root_.L2.PA.imp {X : Cx} {es : List Expr} {t t' : L2.TA} (h : PA X es t) (i : ∀ σ H Q, t' σ H Q → t σ H Q) : PA X es t' := ⟨fun pos pins s σ H Q I q => h.run pos pins s σ H Q I (i σ H Q q)⟩
theorem _root_.L2.PE.never {X : Cx} {e : Expr} : PE X e (fun _ _ _ => False) := ⟨fun _ _ _ _ _ _ q => q.elim⟩

/-! ### calls -/
section
variable {X : Cx} {f C : Addr} {x m : Str} {p pos apos : Pos} {o e : Expr} {es : List Expr} {t : L2.TA}
/-- a call of a def of the module, whatever is said of it -/
theorem pe_callFn {N : List Str} {sc : Scope} {xs : EXs} {R : St → List V → Hp → VK → Prop} (hm : X.mg x = some (.ref f)) (hk : PySem.W.keepIn X.K (.ref f) = true) (hg : Gl X x) (hdb : (x == ("__debug__" : Str)) = false) (ha : PA X (e :: es) t)
    (he : plainX e = true) (hes : okEs N sc xs es = true)
    (h : ∀ (pins : List (Addr × Obj)) (s : Shared) (σ : St) (H : Hp) (us : List Value) (vs : List V) (Q : VK), L2.Inv X pins σ H s → L2.Vals vs us → R σ vs H Q → wpAny (model X.prog X.w) X.A (call (.ref f) us) (EP X pins σ Q) X.xe s) :
    PE X (.Call (.Name x p) (e :: es) [] pos) (fun σ H Q => t σ H fun vs H1 => R σ vs H1 Q) := by
  refine ⟨fun pins s σ H Q I hq => ?_⟩
  refine wpAny_Call_Name_kw (ld_glob I hg hm ?_ hdb)
  refine PySem.W.callWith_K (h₀ := X.base) I.ok.mod.kin hk (thn (ha.run pos pins s σ H _ I hq) fun us s1 ⟨vs, H1, I1, r, q⟩ => ⟨I1.kIn, ?_⟩) (starEach_plain he) (starEach_none hes pos)
  exact h pins s1 σ H1 us vs Q I1 r q
theorem pe_callFn0 {R : St → List V → Hp → VK → Prop} (hm : X.mg x = some (.ref f)) (hk : PySem.W.keepIn X.K (.ref f) = true) (hg : Gl X x) (hdb : (x == ("__debug__" : Str)) = false)
    (h : ∀ (pins : List (Addr × Obj)) (s : Shared) (σ : St) (H : Hp) (us : List Value) (vs : List V) (Q : VK), L2.Inv X pins σ H s → L2.Vals vs us → R σ vs H Q → wpAny (model X.prog X.w) X.A (call (.ref f) us) (EP X pins σ Q) X.xe s) :
    PE X (.Call (.Name x p) [] [] pos) (fun σ H Q => R σ [] H Q) := by
  refine ⟨fun pins s σ H Q I hq => ?_⟩
  refine wpAny_Call_Name_kw (ld_glob I hg hm ?_ hdb)
  exact PySem.W.callWith_K0 I.kIn hk (h pins s σ H [] [] Q I .nil hq)
/-- a method of the module's own class: what is known of the receiver is said when it has come -/
def rcvOk (X : Cx) (m : Str) (R : Addr → St → List V → Hp → VK → Prop) (a : Addr) (C f : Addr) : Prop := Cls X.K C ∧ Meth X.K C m f ∧
  ∀ (pins : List (Addr × Obj)) (s : Shared) (σ : St) (H : Hp) (us : List Value) (vs : List V) (Q : VK), L2.Inv X pins σ H s → L2.Vals vs us → R a σ vs H Q → wpAny (model X.prog X.w) X.A (call (.ref f) (.ref a :: us)) (EP X pins σ Q) X.xe s
theorem eval_meth {es : List Expr} (hb : attributeBase o m X.env (eval o X.env) = eval o X.env) (hf : methodCallForm (es.length + ([] : List Keyword).length) (backTo pos (starEach es X.env)) (backToKw pos (keywordEach [] X.env)) = true) (hl : lineB apos pos = true) :
    eval (.Call (.Attribute o m apos) es [] pos) X.env = (do
      let ov ← eval o X.env
      standAt apos.atName
      let (f, first) ← holding [ov] (getMethod ov m (do return (← importBound o X.env).getD true))
      callWith pos f first (backTo pos (starEach es X.env)) (backToKw pos (keywordEach [] X.env))) := by
  have hl' : (apos.endLine == pos.line) = true := hl
  rw [arm_eval_Call, hb]
  congr 1; funext ov
  congr 1; funext _
  unfold methodCall
  rw [hf]
  show (holding [ov] (calleeOf true o X.env ov m) >>= fun p => _) = _
  congr 1; funext p
  obtain ⟨f, first⟩ := p
  unfold methodCallPos
  rw [hl']
  rfl
theorem pe_methFn {N : List Str} {sc : Scope} {xs : EXs} {ta : TE} {R : Addr → St → List V → Hp → VK → Prop} (he : PE X o ta) (hr : rcvB o = true) (hl : lineB apos pos = true) (hf : fewB (e :: es) = true) (hp : plainX e = true) (hes : okEs N sc xs es = true) (hall : ∀ p, (backTo p (starEach (e :: es) X.env)).all (fun x => !x.1) = true) (ha : PA X (e :: es) t) :
    PE X (.Call (.Attribute o m apos) (e :: es) [] pos) (fun σ H Q => ta σ H fun x H1 => ∃ a C f dx fs, x = .ref a ∧ H1 a = some (.ins C dx fs) ∧ fs.lookup m = none ∧ rcvOk X m R a C f ∧ t σ H1 fun vs H2 => R a σ vs H2 Q) := by
  have hlen : (e :: es).length < 20 := of_decide_eq_true hf
  refine ⟨fun pins s σ H Q I h => ?_⟩
  refine PySem.W.methodCall_KW (pl := (do return (← importBound o X.env).getD true)) (thn (he.run pins s σ H _ I h) fun u s1 ⟨x, H1, I1, rx, a, C, f, dx, fs, ex, ea, l, ⟨c, hm, run⟩, q⟩ => ?_) (eval_meth (base_rcv hr) ?_ hl)
  · subst ex
    obtain rfl : u = Value.ref a := rx
    refine getmeth_ok I1 ea c hm l ?_
    refine PySem.W.callWith_K (first := [.ref a]) (h₀ := X.base) I.ok.mod.kin hm.kp (thn (ha.run pos pins s1 σ H1 _ I1 q) fun us s2 ⟨vs, H2, I2, r, q2⟩ => ⟨I2.kIn, ?_⟩) (starEach_plain hp) (starEach_none hes pos)
    exact run pins s2 σ H2 us vs Q I2 r q2
  · unfold methodCallForm
    rw [hall]
    simp only [Bool.true_and, Bool.and_eq_true, decide_eq_true_eq]
    refine ⟨rfl, ?_⟩
    show (e :: es).length + 0 + 0 < 30
    omega
theorem pe_methFn0 {ta : TE} {R : Addr → St → List V → Hp → VK → Prop} (he : PE X o ta) (hr : rcvB o = true) (hl : lineB apos pos = true) :
    PE X (.Call (.Attribute o m apos) [] [] pos) (fun σ H Q => ta σ H fun x H1 => ∃ a C f dx fs, x = .ref a ∧ H1 a = some (.ins C dx fs) ∧ fs.lookup m = none ∧ rcvOk X m R a C f ∧ R a σ [] H1 Q) := by
  refine ⟨fun pins s σ H Q I h => ?_⟩
  refine PySem.W.methodCall_KW (pl := (do return (← importBound o X.env).getD true)) (thn (he.run pins s σ H _ I h) fun u s1 ⟨x, H1, I1, rx, a, C, f, dx, fs, ex, ea, l, ⟨c, hm, run⟩, q⟩ => ?_) (eval_meth (base_rcv hr) rfl hl)
  subst ex
  obtain rfl : u = Value.ref a := rx
  refine getmeth_ok I1 ea c hm l ?_
  exact PySem.W.callWith_K0 (first := [.ref a]) I1.kIn hm.kp (run pins s1 σ H1 [] [] Q I1 .nil q)
end
end Ev
end

section
set_option Elab.async false
set_option linter.all false
set_option maxRecDepth 100000
set_option autoImplicit false
/-! Ev8: targets, what is walked, the turns. -/
namespace Ev
open PySem PySem.Spec L2
open PyProof.Rows hiding St

/-! ### targets -/
mutual
def gTG (K : PySem.W.Frag) : TG → L2.TG
  | .name i => gName i
  | .tup ts => gTup K (lenT ts) (gTGs K ts)
def gTGs (K : PySem.W.Frag) : TGs → L2.TGs
  | .nil => gNil
  | .cons t ts => gCons (gTG K t) (gTGs K ts)
def lenT : TGs → Nat
  | .nil => 0
  | .cons _ ts => lenT ts + 1
end
section
variable {X : Cx} {T : Wr}
theorem assignEach_plain {e : Expr} {es : List Expr} {env : PySem.Env} (h : plainX e = true) : assignEach (e :: es) env = (false, assign e env) :: assignEach es env := by
  cases e <;> first | rfl | cases h
theorem okTG_plain {N : List Str} {sc : Scope} {t : TG} {e : Expr} (h : okTG N sc t e = true) : plainX e = true := by
  cases t <;> (unfold okTG at h; split at h <;> first | rfl | cases h)
theorem okTGs_len {N : List Str} {sc : Scope} {env : PySem.Env} : ∀ {ts : TGs} {es : List Expr}, okTGs N sc ts es = true → (assignEach es env).length = lenT ts ∧ (assignEach es env).findIdx? (·.1) = none
  | .nil, es, h => by
    have : es = [] := List.isEmpty_iff.mp h
    subst this; exact ⟨rfl, rfl⟩
  | .cons t ts, [], h => by cases h
  | .cons t ts, e :: es, h => by
    have h : (okTG N sc t e && okTGs N sc ts es) = true := h
    rw [Bool.and_eq_true] at h
    obtain ⟨h1, h2⟩ := okTGs_len (env := env) h.2
    rw [assignEach_plain (okTG_plain h.1)]
    refine ⟨by show (assignEach es env).length + 1 = lenT ts + 1; rw [h1], ?_⟩
    rw [List.findIdx?_cons]
    simp [h2]
mutual
theorem pg_ok (hc : X.calm = true) (hN : X.N.Nodup) : ∀ {t : TG} {e : Expr}, (∀ i x, i ∈ slT t → X.N[i]? = some x → Loc X.env.scope x → X.fn x = true ∨ X.env.scope.names.lookup x = some .local) → okTG X.N X.env.scope t e = true → PG X e (gTG X.K t)
  | .name i, e, hf, h => by
    unfold okTG at h
    split at h
    · simp only [Bool.and_eq_true, decide_eq_true_eq] at h
      exact pg_name hN h.1.1 (locB_ok h.1.2) (hf i _ (by simp [slT]) h.1.1 (locB_ok h.1.2))
    · cases h
  | .tup ts, e, hf, h => by
    unfold okTG at h
    split at h
    · obtain ⟨h1, h2⟩ := okTGs_len (env := X.env) h
      exact pg_tup hc (pgs_ok hc hN (fun i x hi => hf i x (by simpa [slT] using hi)) h) h1 h2
    · cases h
theorem pgs_ok (hc : X.calm = true) (hN : X.N.Nodup) : ∀ {ts : TGs} {es : List Expr}, (∀ i x, i ∈ slTs ts → X.N[i]? = some x → Loc X.env.scope x → X.fn x = true ∨ X.env.scope.names.lookup x = some .local) → okTGs X.N X.env.scope ts es = true → PGs X es (gTGs X.K ts)
  | .nil, es, hf, h => by
    have : es = [] := List.isEmpty_iff.mp h
    subst this; exact pgs_nil
  | .cons t ts, [], hf, h => by cases h
  | .cons t ts, e :: es, hf, h => by
    have h : (okTG X.N X.env.scope t e && okTGs X.N X.env.scope ts es) = true := h
    rw [Bool.and_eq_true] at h
    exact pgs_cons (pg_ok hc hN (fun i x hi => hf i x (by simp [slTs, hi])) h.1) (pgs_ok hc hN (fun i x hi => hf i x (by simp [slTs, hi])) h.2) (by rw [assignEach_plain (okTG_plain h.1)]; rfl)
end
theorem Rep.set {φ : List Addr} {σ : St} {H : Hp} {env : EnvD} {S : Store} {i : Nat} {v : V} {d : D} (r : Rep T φ σ H env S) (rv : RepV T φ H v d) (hi : i < env.length) : Rep T φ (σ.set i (some v)) H (env.set i (some d)) S := by
  refine ⟨r.sto, by simp [r.len], fun j e h => ?_⟩
  by_cases hj : j = i
  · subst hj
    rw [List.getElem?_set_self hi] at h
    cases h
    exact ⟨v, List.getElem?_set_self (by rw [r.len]; exact hi), rv⟩
  · rw [List.getElem?_set_ne (Ne.symm hj)] at h
    obtain ⟨w, h1, h2⟩ := r.env j e h
    exact ⟨w, by rw [List.getElem?_set_ne (Ne.symm hj)]; exact h1, h2⟩
theorem wipe_set {σ : St} {i : Nat} {v : Option V} : ∀ {vs : List Nat}, i ∈ vs → wipe (σ.set i v) vs = wipe σ vs
  | j :: vs, h => by
    unfold wipe
    by_cases hm : i ∈ vs
    · rw [wipe_set hm]
    · have hj : i = j := by
        rcases List.mem_cons.mp h with e | e
        · exact e
        · exact absurd e hm
      subst hj
      have gen : ∀ ws : List Nat, i ∉ ws → wipe (σ.set i v) ws = (wipe σ ws).set i v := by
        intro ws
        induction ws with
        | nil => intro _; rfl
        | cons a ws ih =>
          intro hn
          simp only [List.mem_cons, not_or] at hn
          unfold wipe
          rw [ih hn.2, List.set_comm _ _ hn.1]
      rw [gen vs hm, List.set_set]
mutual
theorem bindT_rep {φ : List Addr} {H : Hp} {S : Store} : ∀ {t : TG} {d : D} {σ : St} {env env' : EnvD} {x : V} {Q : St → Hp → Prop}, RepV T φ H x d → Rep T φ σ H env S → bindT t d env = some env' →
    (∀ σ', Rep T φ σ' H env' S → (∀ vs, (∀ i ∈ slT t, i ∈ vs) → wipe σ' vs = wipe σ vs) → Q σ' H) → gTG T.K t x σ H Q
  | .name i, d, σ, env, env', x, Q, rx, r, e, h => by
    unfold bindT at e
    split at e
    · cases e
      exact h _ (r.set rx (by assumption)) fun vs hv => wipe_set (hv i (by simp [slT]))
    · cases e
  | .tup ts, .tup ds, σ, env, env', _, Q, .tup h1 h2, r, e, h => by
    have e : bindTs ts ds env = some env' := e
    refine ⟨_, _, rfl, SqT.of h1, ?_, bindTs_rep h2 r e fun σ' r' hw => h σ' r' fun vs hv => hw vs hv⟩
    rw [h2.length]
    exact bindTs_len e
  | .tup ts, .non, _, _, _, _, _, _, _, e, _ => by cases e
  | .tup ts, .bl _, _, _, _, _, _, _, _, e, _ => by cases e
  | .tup ts, .int _, _, _, _, _, _, _, _, e, _ => by cases e
  | .tup ts, .str _, _, _, _, _, _, _, _, e, _ => by cases e
  | .tup ts, .loc _, _, _, _, _, _, _, _, e, _ => by cases e
  | .tup ts, .scr _, _, _, _, _, _, _, _, e, _ => by cases e
  | .tup ts, .ty _, _, _, _, _, _, _, _, e, _ => by cases e
  | .tup ts, .ktup _, _, _, _, _, _, _, _, e, _ => by cases e
theorem bindTs_len : ∀ {ts : TGs} {ds : List D} {env env' : EnvD}, bindTs ts ds env = some env' → ds.length = lenT ts
  | .nil, [], _, _, _ => rfl
  | .nil, _ :: _, _, _, e => by cases e
  | .cons t ts, [], _, _, e => by cases e
  | .cons t ts, d :: ds, env, env', e => by
    unfold bindTs at e
    split at e
    · show ds.length + 1 = lenT ts + 1
      rw [bindTs_len e]
    · cases e
theorem bindTs_rep {φ : List Addr} {H : Hp} {S : Store} : ∀ {ts : TGs} {ds : List D} {σ : St} {env env' : EnvD} {xs : List V} {Q : St → Hp → Prop}, RepVs T φ H xs ds → Rep T φ σ H env S → bindTs ts ds env = some env' →
    (∀ σ', Rep T φ σ' H env' S → (∀ vs, (∀ i ∈ slTs ts, i ∈ vs) → wipe σ' vs = wipe σ vs) → Q σ' H) → gTGs T.K ts xs σ H Q
  | .nil, [], σ, env, env', _, Q, .nil, r, e, h => by
    cases e
    exact ⟨rfl, h σ r fun _ _ => rfl⟩
  | .nil, _ :: _, _, _, _, _, _, _, _, e, _ => by cases e
  | .cons t ts, [], _, _, _, _, _, _, _, e, _ => by cases e
  | .cons t ts, d :: ds, σ, env, env', _, Q, .cons rx rs, r, e, h => by
    unfold bindTs at e
    split at e
    · rename_i env1 h1
      refine ⟨_, _, rfl, bindT_rep rx r h1 fun σ1 r1 w1 => bindTs_rep rs r1 e fun σ2 r2 w2 => h σ2 r2 fun vs hv => ?_⟩
      rw [w2 vs fun i hi => hv i (by simp [slTs, hi]), w1 vs fun i hi => hv i (by simp [slTs, hi])]
    · cases e
end
theorem Rep.wipe {φ : List Addr} {σ : St} {H : Hp} {env : EnvD} {S : Store} (r : Rep T φ σ H env S) : ∀ vs : List Nat, Rep T φ (L2.wipe σ vs) H (wipeE env vs) S
  | [] => r
  | v :: vs => by
    have ih := r.wipe vs
    refine ⟨r.sto, by show ((L2.wipe σ vs).set v none).length = ((wipeE env vs).set v none).length; simp [ih.len], fun j e h => ?_⟩
    have h : ((wipeE env vs).set v none)[j]? = some (some e) := h
    show ∃ w, ((L2.wipe σ vs).set v none)[j]? = some (some w) ∧ _
    by_cases hj : j = v
    · subst hj
      by_cases hl : j < (wipeE env vs).length
      · rw [List.getElem?_set_self hl] at h; cases h
      · rw [List.getElem?_eq_none (by simpa using hl)] at h; cases h
    · rw [List.getElem?_set_ne (Ne.symm hj)] at h ⊢
      exact ih.env j e h

/-! ### what is walked -/
def RI (T : Wr) : Rl ItV It := fun φ H J iv => match iv with
  | .ds ds => bds φ.length ds = true ∧ ∀ n φ' H' S', bds n ds = true → ExtN n φ φ' H H' → RepS T φ' H' S' → ∀ i, (ds.length ≤ i → J.stop i H') ∧ (i < ds.length → J.go i H' ∧ ∀ x H'', J.yld i H' x H'' → ∃ d, ds[i]? = some d ∧ RepV T φ' H'' x d ∧ Ext φ' φ' H' H'' ∧ RepS T φ' H'' S')
  | .lst l => ∃ a, φ[l]? = some a ∧ J = Itl T.K a
  | .enl l => ∃ a, φ[l]? = some a ∧ J = Ite T.K a
theorem RI.ext {φ φ' : List Addr} {H H' : Hp} {J : It} {iv : ItV} (x : Ext φ φ' H H') (h : RI T φ H J iv) : RI T φ' H' J iv := by
  cases iv with
  | ds ds => exact ⟨bds_mono x.pre.length_le h.1, fun n φ2 H2 S2 hb x2 => h.2 n φ2 H2 S2 hb ((x.toN n).trans x2)⟩
  | lst l => obtain ⟨a, h1, h2⟩ := h; exact ⟨a, pre_at x.pre h1, h2⟩
  | enl l => obtain ⟨a, h1, h2⟩ := h; exact ⟨a, pre_at x.pre h1, h2⟩
theorem RI.extN {n : Nat} {φ φ' : List Addr} {H H' : Hp} {J : It} {iv : ItV} {S : Store} (x : ExtN (itBase n iv S) φ φ' H H') (hl : φ.length = S.length) (h : RI T φ H J iv) : RI T φ' H' J iv := by
  cases iv with
  | ds ds =>
    have hb : bds (itBase n (.ds ds) S) ds = true := by
      unfold itBase
      dsimp only
      split
      · assumption
      · exact bds_mono (Nat.le_max_right _ _) (by rw [← hl]; exact h.1)
    generalize itBase n (.ds ds) S = m at x hb
    refine ⟨?_, fun k φ2 H2 S2 hk x2 => ?_⟩
    · refine bds_mono ?_ (bds_min hb h.1)
      have := x.pre.length_le
      rw [List.length_take] at this
      exact this
    · exact h.2 (min m k) φ2 H2 S2 (bds_min hb hk) ((x.le (Nat.min_le_left _ _)).trans (x2.le (Nat.min_le_right _ _)))
  | lst l => obtain ⟨a, h1, h2⟩ := h; exact ⟨a, preN_at x.pre h1 (by show l < max n (l + 1); omega), h2⟩
  | enl l => obtain ⟨a, h1, h2⟩ := h; exact ⟨a, preN_at x.pre h1 (by show l < max n (l + 1); omega), h2⟩
theorem RI.tup {φ : List Addr} {H : Hp} {S : Store} {a : Addr} {vs : List V} {ds : List D} (r : RepS T φ H S) (hs : SqT T.K H a vs) (h : RepVs T φ H vs ds) : RI T φ H (Itt T.K a) (.ds ds) := by
  refine ⟨h.low, ?_⟩
  intro n φ' H' S' hb x r' i
  have h' := h.extN r x hb
  have hs' := SqT.extN r x hs
  refine ⟨fun hi => ⟨vs, hs', by rw [h.length]; exact hi⟩, fun hi => ?_⟩
  obtain ⟨v, e, rv⟩ := h'.get (List.getElem?_eq_getElem hi)
  refine ⟨⟨vs, v, hs', e⟩, fun y H'' hy => ?_⟩
  obtain ⟨rfl, hy⟩ := hy
  have e2 := hy vs hs'
  rw [e] at e2; cases e2
  exact ⟨_, List.getElem?_eq_getElem hi, rv, Ext.refl, r'⟩
theorem rngL_len (c : Int) : ∀ (n : Nat) (lo : Int), (rngL lo c n).length = n
  | 0, _ => rfl
  | n + 1, lo => by unfold rngL; rw [List.length_cons, rngL_len c n]
theorem rngL_get (c : Int) : ∀ (n : Nat) (lo : Int) (i : Nat), i < n → (rngL lo c n)[i]? = some (.int (lo + i * c))
  | 0, _, _, h => absurd h (Nat.not_lt_zero _)
  | n + 1, lo, 0, _ => by unfold rngL; simp
  | n + 1, lo, i + 1, h => by
    unfold rngL
    rw [List.getElem?_cons_succ, rngL_get c n (lo + c) i (by omega)]
    congr 2
    rw [Int.natCast_add, Int.add_mul]
    show lo + c + i * c = lo + (i * c + (1 : Nat) * c)
    omega
theorem rngL_bd {m : Nat} (c : Int) : ∀ (n : Nat) (lo : Int), bds m (rngL lo c n) = true
  | 0, _ => rfl
  | n + 1, lo => by unfold rngL; show (true && bds m (rngL (lo + c) c n)) = true; rw [rngL_bd c n]; rfl
theorem RI.rng {φ : List Addr} {H : Hp} {lo : Int} {n : Nat} : RI T φ H (Itr lo n) (.ds (rngL lo 1 n)) := by
  refine ⟨rngL_bd _ _ _, ?_⟩
  intro m φ' H' S' hb x r' i
  rw [rngL_len]
  refine ⟨fun h => h, fun h => ⟨h, fun y H'' hy => ?_⟩⟩
  obtain ⟨rfl, rfl⟩ := hy
  refine ⟨_, rngL_get 1 n lo i h, ?_, Ext.refl, r'⟩
  rw [Int.mul_one]
  exact .int _
theorem RI.rngC {φ : List Addr} {H : Hp} {lo c : Int} {n : Nat} : RI T φ H (Itc lo c n) (.ds (rngL lo c n)) := by
  refine ⟨rngL_bd _ _ _, ?_⟩
  intro m φ' H' S' hb x r' i
  rw [rngL_len]
  refine ⟨fun h => h, fun h => ⟨h, fun y H'' hy => ?_⟩⟩
  obtain ⟨rfl, rfl⟩ := hy
  exact ⟨_, rngL_get c n lo i h, .int _, Ext.refl, r'⟩
theorem RI.str {φ : List Addr} {H : Hp} {z : Str} : RI T φ H (Its z) (.ds (z.cps.toList.map fun c => .str ⟨#[c]⟩)) := by
  refine ⟨by generalize z.cps.toList = l; induction l with
    | nil => rfl
    | cons c l ih => show (true && _) = true; rw [ih]; rfl, ?_⟩
  intro m φ' H' S' hb x r' i
  rw [List.length_map]
  refine ⟨fun h => show z.cps.size ≤ i by simpa using h, fun h => ⟨show i < z.cps.size by simpa using h, fun y H'' hy => ?_⟩⟩
  obtain ⟨rfl, c, hc, rfl⟩ := hy
  refine ⟨_, ?_, .str _, Ext.refl, r'⟩
  rw [List.getElem?_map, Array.getElem?_toList, hc]
  rfl
/-- iter(v) by the evaluator's value -/
def rIt (T : Wr) (f : D → Store → Res ItV) (x : V) (H : Hp) (R : It → Hp → Prop) : Prop := ∃ (W : WXk) (φ : List Addr) (S : Store) (d : D), RepS T φ H S ∧ RepV T φ H x d ∧ Post T W (RI T) φ H (f d S) R
theorem pyIter_D (hK : X.K = T.K) {tg : Expr} {pins : List (Addr × Obj)} {s : Shared} {σ : St} {H : Hp} {x : V} {v : Value} {R : It → Hp → Prop} (I : L2.Inv X pins σ H s) (rx : L2.RelV x v) (h : rIt T itD x H R) : wpAny (model X.prog X.w) X.A (pyIter v) (PIE X pins σ tg R) X.xe s := by
  obtain ⟨W, φ, S, d, r, rd, p⟩ := h
  have tup : ∀ {a : Addr} {vs : List V} {ds : List D}, SqT T.K H a vs → RepVs T φ H vs ds → Post T W (RI T) φ H (.ok (.ds ds) S) R → v = .ref a → wpAny (model X.prog X.w) X.A (pyIter v) (PIE X pins σ tg R) X.xe s := fun {a vs ds} hq hs p e => by
    subst e
    have q := p.ok r (RI.tup r hq hs)
    rw [← hK] at hq
    obtain ⟨its, rv, pl, hz⟩ := I.tuple hq
    refine wpAny_pyIter_tuple (show s.heap.IsTuple a its.toArray from pl) ?_
    refine ⟨s.heap.objs.size, [s.heap.objs.size], _, _, H, rfl, I.kept (t' := s.toks) fun b o e => Heap.get?_push_of_some _ e, turn_tuple a _, ⟨_, Heap.get?_push_size _ rfl, rfl, rfl⟩, fun b hb => ?_, by rw [hK]; exact q⟩
    have e : b = s.heap.objs.size := by simpa using hb
    subst e
    exact I.fpOk (Nat.le_refl _) (I.hok.fresh (Nat.le_refl _))
  cases d with
  | tup ds =>
    cases rd with
    | tup h1 h2 => cases rx; exact tup (SqT.of h1) h2 p rfl
  | ktup ds =>
    cases rd with
    | ktup h1 h2 h3 h4 h5 h6 => cases rx; exact tup (.inr ⟨_, _, _, h1, h2, h3, h4, h5⟩) h6 p rfl
  | str z =>
    cases rd
    obtain ⟨t, rfl⟩ := rx
    have q := Post.ok p r RI.str
    cases ha : z.cps.all (· < 128)
    · exact wpAny_pyIter_wide ha (pi_one (tk := s.toks) I _ (turn_str _ z t "str_iterator" (.inr rfl)) ⟨_, Heap.get?_push_size _ rfl, rfl, rfl⟩ q)
    · exact wpAny_pyIter_ascii ha (pi_one (tk := s.toks) I _ (turn_str _ z t "str_ascii_iterator" (.inl rfl)) ⟨_, Heap.get?_push_size _ rfl, rfl, rfl⟩ q)
  | loc l =>
    cases rd with
    | loc hl =>
      have p : Post T W (RI T) φ H (match S[l]? with
        | some (.lst _) => .ok (.lst l) S
        | _ => .bad) R := p
      split at p
      · rename_i ds hS
        obtain ⟨vs, h1, h2⟩ := r.ob _ _ _ hS hl
        have q := p.ok r ⟨_, hl, rfl⟩
        cases rx
        obtain ⟨its, rv, pl, hz⟩ := I.list (SqL.of h1)
        refine wpAny_pyIter_list pl.isList ?_
        refine ⟨s.heap.objs.size, [s.heap.objs.size], _, _, H, rfl, I.kept (t' := s.toks) fun b o e => Heap.get?_push_of_some _ e, turn_list _ _, ⟨_, Heap.get?_push_size _ rfl, rfl, rfl⟩, fun b hb => ?_, by rw [hK]; exact q⟩
        have e : b = s.heap.objs.size := by simpa using hb
        subst e
        exact I.fpOk (Nat.le_refl _) (I.hok.fresh (Nat.le_refl _))
      · exact False.elim p
  | _ => exact False.elim p

/-! ### the turns of a comprehension's walk -/
/-- so far, by place i, the walk comes to r0; m is left -/
def Wk {α : Type} (f : D → α → Store → Res α) (iv : ItV) (i m : Nat) (a : α) (S : Store) (r0 : Res α) : Prop := match iv with
  | .ds ds => i ≤ ds.length ∧ m = ds.length - i ∧ walkT f (ds.drop i) a S = r0
  | .lst l => walkL f l m i a S = r0
  | .enl l => walkE f l m i a S = r0
theorem wk_start {α : Type} {f : D → α → Store → Res α} {iv : ItV} {a : α} {S : Store} : ∃ m, Wk f iv 0 m a S (walkI f iv a S) := by
  cases iv with
  | ds ds => exact ⟨ds.length, Nat.zero_le _, rfl, by rw [List.drop_zero]; rfl⟩
  | lst l => exact ⟨LIM, rfl⟩
  | enl l => exact ⟨LIM, rfl⟩
theorem wk_turn {α : Type} {f : D → α → Store → Res α} {iv : ItV} {i m : Nat} {a : α} {S : Store} {r0 : Res α} {φ : List Addr} {H : Hp} {J : It} (w : Wk f iv i m a S r0) (hb : r0 ≠ .bad) (r : RepS T φ H S) (ri : RI T φ H J iv) :
    (J.stop i H ∧ r0 = .ok a S) ∨ (J.go i H ∧ ∃ d, (∀ x H', J.yld i H x H' → RepV T φ H' x d ∧ Ext φ φ H H' ∧ RepS T φ H' S) ∧ ∃ g : α → Store → Res α, r0 = (f d a S).bind g ∧ ∀ a' S', f d a S = .ok a' S' → ∃ m', m' < m ∧ Wk f iv (i + 1) m' a' S' r0) := by
  cases iv with
  | ds ds =>
    obtain ⟨hi, hm, hw⟩ := w
    obtain ⟨h1, h2⟩ := ri.2 _ φ H S ri.1 (Ext.refl.toN _) r i
    by_cases hlt : i < ds.length
    · obtain ⟨h3, h4⟩ := h2 hlt
      rw [List.drop_eq_getElem_cons hlt] at hw
      refine .inr ⟨h3, ds[i], fun x H' hy => ?_, fun a S => walkT f (ds.drop (i + 1)) a S, hw.symm, fun a' S' e => ⟨ds.length - (i + 1), by omega, hlt, rfl, ?_⟩⟩
      · obtain ⟨d, e1, e2, e3, e4⟩ := h4 x H' hy
        rw [List.getElem?_eq_getElem hlt] at e1; cases e1
        exact ⟨e2, e3, e4⟩
      · have hw : (f ds[i] a S).bind (fun a S => walkT f (ds.drop (i + 1)) a S) = r0 := hw
        rw [e] at hw
        exact hw
    · have hi2 : i = ds.length := by omega
      subst hi2
      rw [List.drop_length] at hw
      exact .inl ⟨h1 (Nat.le_refl _), hw.symm⟩
  | lst l =>
    obtain ⟨b, hl, rfl⟩ := ri
    have w : walkL f l m i a S = r0 := w
    cases m with
    | zero => exact absurd w.symm hb
    | succ n =>
      unfold walkL at w
      split at w
      · rename_i ds hS
        obtain ⟨vs, h1, h2⟩ := r.ob _ _ _ hS hl
        have hq : SqL T.K H b vs := SqL.of h1
        split at w
        · rename_i d hd
          obtain ⟨v, e1, e2⟩ := h2.get hd
          refine .inr ⟨⟨vs, v, hq, e1⟩, d, fun x H' hy => ?_, fun a S => walkL f l n (i + 1) a S, w.symm, fun a' S' e => ⟨n, Nat.lt_succ_self n, ?_⟩⟩
          · obtain ⟨rfl, hy⟩ := hy
            have e3 := hy vs hq
            rw [e1] at e3; cases e3
            exact ⟨e2, Ext.refl, r⟩
          · rw [e] at w
            exact w
        · rename_i hd
          refine .inl ⟨⟨vs, hq, ?_⟩, w.symm⟩
          rw [h2.length]
          exact List.getElem?_eq_none_iff.mp hd
      · exact absurd w.symm hb
  | enl l =>
    obtain ⟨b, hl, rfl⟩ := ri
    have w : walkE f l m i a S = r0 := w
    cases m with
    | zero => exact absurd w.symm hb
    | succ n =>
      unfold walkE at w
      split at w
      · rename_i ds hS
        obtain ⟨vs, h1, h2⟩ := r.ob _ _ _ hS hl
        have hq : SqL T.K H b vs := SqL.of h1
        split at w
        · rename_i d hd
          obtain ⟨v, e1, e2⟩ := h2.get hd
          refine .inr ⟨⟨vs, v, hq, e1⟩, .tup [.int (i : Nat), d], fun x H' hy => ?_, fun a S => walkE f l n (i + 1) a S, w.symm, fun a' S' e => ⟨n, Nat.lt_succ_self n, ?_⟩⟩
          · obtain ⟨t, z, rfl, ht, rfl, hy⟩ := hy
            have e3 := hy vs hq
            rw [e1] at e3; cases e3
            exact ⟨.tup upd_same (.cons (.int _) (.cons (e2.ext r (Ext.aside ht)) .nil)), Ext.aside ht, r.aside ht⟩
          · rw [e] at w
            exact w
        · rename_i hd
          refine .inl ⟨⟨vs, hq, ?_⟩, w.symm⟩
          rw [h2.length]
          exact List.getElem?_eq_none_iff.mp hd
      · exact absurd w.symm hb
end
end Ev
end

section
set_option Elab.async false
set_option linter.all false
set_option maxRecDepth 100000
set_option maxHeartbeats 1000000
set_option autoImplicit false
/-! Ev8e: enumerate(tuple). -/
namespace PySem
open Sem (wp)
open AutoSeq1 (wpAny_loadPart')
theorem enumT_new (t : Addr) (us : Array Value) (n : Nat) (dt : Option Addr) (sl : Array (Option Value)) :
    Meets (Builtin.«enumerate.__new__» ⟨[.type "enumerate", .ref t], []⟩) (fun _ R s =>
      s.heap.get? t = some { cls := .type "tuple", dict := dt, data := .seq us n, slots := sl } ∧
      R (.ok (.ret (.ref (s.heap.push { cls := .type "tuple_iterator", data := .fields #[.ref t, .int 0 0] }).objs.size)))
        { s with heap := ((s.heap.push { cls := .type "tuple_iterator", data := .fields #[.ref t, .int 0 0] }).push
          { cls := .type "enumerate", data := .fields #[.none, .bool false, .ref s.heap.objs.size, rawInt 0, .none, .none] }) }) :=
  .of_wp fun prog w A R s hh => by
    obtain ⟨hp, gs, dr, tk, os⟩ := s
    obtain ⟨at_t, goal⟩ := hh
    have subE := sub_enumerate
    have isT : Heap.IsTuple (Shared.heap ⟨hp, gs, dr, tk, os⟩) t us := ⟨_, at_t, rfl, n, rfl⟩
    wp_walk using wpAny_loadPart' at_t
    refine wpAny_stack_any fun _ => wpAny_pure ?_
    split
    · rename_i c _ _ _ _ _
      cases (c == Value.type "enumerate") <;> (wp_walk using wpAny_loadPart' at_t, wpAny_pyIter_tuple isT; exact ⟨_, rfl, goal⟩)
    · wp_walk using wpAny_loadPart' at_t, wpAny_pyIter_tuple isT
      exact ⟨_, rfl, goal⟩
theorem enumT_call {prog : Program} {w : World} {A : Around} {E : Value → Shared → Prop} {s : Shared} {t : Addr} {us : Array Value} {Q : Value → Shared → Prop} (isT : s.heap.IsTuple t us)
    (k : ∀ h', IsEnum h' (s.heap.objs.size + 1) s.heap.objs.size 0 .none → h'.IsTupleIter s.heap.objs.size t 0 → (∀ b o, s.heap.get? b = some o → h'.get? b = some o) → Q (.ref (s.heap.objs.size + 1)) { s with heap := h' }) :
    wpAny (model prog w) A (call (.type "enumerate") [.ref t]) Q E s := by
  obtain ⟨⟨c, dct, dta, sl⟩, at_t, hc, n, hd⟩ := isT
  cases (show c = .type "tuple" from hc)
  cases (show dta = .seq us n from hd)
  have len1 : (s.heap.push { cls := .type "tuple_iterator", data := .fields #[.ref t, .int 0 0] }).objs.size = s.heap.objs.size + 1 := Heap.size_push ..
  refine callType_new F.called_enumerate (by decide) (F.typeCall_enumerate_1 _) (F.newCall_enumerate_1 _) (fun o => F.args_object_init_2 o _) F.entry_enumerate_new (enumT_new t us n dct sl) ⟨at_t, ?_⟩
  show _ ∧ _
  rw [len1]
  have isE : IsEnum ((s.heap.push { cls := .type "tuple_iterator", data := .fields #[.ref t, .int 0 0] }).push { cls := .type "enumerate", data := .fields #[.none, .bool false, .ref s.heap.objs.size, rawInt 0, .none, .none] })
      (s.heap.objs.size + 1) s.heap.objs.size 0 .none := by
    have z := Heap.get?_push_size (s.heap.push { cls := .type "tuple_iterator", data := .fields #[.ref t, .int 0 0] }) (o := { cls := .type "enumerate", data := .fields #[.none, .bool false, .ref s.heap.objs.size, rawInt 0, .none, .none] }) rfl
    rwa [len1] at z
  exact ⟨⟨_, isE, rfl⟩, k _ isE ⟨_, Heap.get?_push_of_some _ (Heap.get?_push_size _ rfl), rfl, rfl⟩ fun b o e => Heap.get?_push_of_some _ (Heap.get?_push_of_some _ e)⟩
end PySem
namespace Ev
open PySem PySem.Spec L2
open PyProof.Rows hiding St
/-- the tuple at a, of n items, each item in a new pair -/
def Itet (K : PySem.W.Frag) (a : Addr) (n : Nat) : It where
  go i H := ∃ (xs : List V) (x : V), SqT K H a xs ∧ xs.length = n ∧ xs[i]? = some x
  yld i H v H' := ∃ t x, v = .ref t ∧ H t = none ∧ H' = upd H t (.tup [.int (i : Nat), x]) ∧ ∀ xs, SqT K H a xs → xs[i]? = some x
  stop i H := ∃ xs : List V, SqT K H a xs ∧ xs.length = n ∧ n ≤ i
theorem turn_enT {P : Program} {w : World} {K : PySem.W.Frag} {elts : List Expr} {kk : Nat} {tpos : Pos} (a e it : Addr) (n : Nat) :
    Turn P w K (.Tuple elts kk tpos) (Itet K a n) [e, it] e (fun i h => (∃ old, IsEnum h e it ((i : Nat) : Int) old) ∧ h.IsTupleIter it a i ∧ e ≠ it ∧ i ≤ n) where
  mem := List.mem_cons_self
  obj := fun i h st b hb => by
    obtain ⟨⟨_, isE⟩, ⟨o, at_it, _, dat⟩, _, _⟩ := st
    rcases List.mem_cons.mp hb with rfl | hb
    · exact ⟨_, isE, fun v q => nomatch q⟩
    · rw [List.mem_singleton.mp hb]
      exact ⟨o, at_it, fun v q => by rw [dat] at q; cases q⟩
  keep := fun i h h' st k => ⟨let ⟨old, isE⟩ := st.1; ⟨old, k e (by simp) _ isE⟩, st.2.1.at fun o q => k it (by simp) o q, st.2.2⟩
  item := by
    intro X hP hw hK hc i pins s σ H E I fp st going
    subst hP hw hK
    obtain ⟨⟨old, isE⟩, isI, ne, _⟩ := st
    obtain ⟨xs, x, sq, hn, hx⟩ := going
    obtain ⟨us, rv, isT, _⟩ := I.tuple sq
    obtain ⟨u, hu, ru⟩ := rv.get hx
    have le : e < s.heap.objs.size := Heap.lt_size isE
    have li : it < s.heap.objs.size := by obtain ⟨_, q, _⟩ := isI; exact Heap.lt_size q
    have isT : s.heap.IsTuple a us.toArray := isT
    have ae : a ≠ e := by
      rintro rfl
      obtain ⟨o, q, c, _⟩ := isT
      rw [show s.heap.get? a = _ from isE] at q
      cases q
      simp at c
    have ai : a ≠ it := by
      rintro rfl
      obtain ⟨o, q, c, _⟩ := isT
      obtain ⟨o', q', c', _⟩ := isI
      rw [q] at q'
      cases q'
      rw [c] at c'
      simp at c'
    have dr := Draws.tuple (prog := X.prog) (w := X.w) (A := X.A.in1) (I.ok.hd hc) it a ai us.toArray
    have lt : i < us.toArray.size := by
      have := (List.getElem?_eq_some_iff.mp hu).1
      simpa using this
    refine wpAny_pyNext_enum_itemD dr isE ⟨isI, isT⟩ lt ne (by simp [ne, Ne.symm ae]) fun y h' tk hy out st' at_T _ kept => ?_
    have hy : us[i]? = some y := by simpa using hy
    rw [hu] at hy
    cases hy
    refine ⟨_, rfl, wpAny_letOwnedTupleGo_enum (s := { s with heap := h', toks := tk + 1 }) out fun h'' isE' same => ?_⟩
    have at_T' : h''.get? s.heap.objs.size = some { cls := .type "tuple", data := .seq #[.int i tk, u] } := (same.2 _ (Nat.ne_of_gt le)).trans at_T
    have fresh := I.hok.fresh (Nat.le_refl s.heap.objs.size)
    have ok : ObjOk X.prog X.w (upd H s.heap.objs.size (.tup [.int (i : Nat), x])) h'' s.heap.objs.size (.tup [.int (i : Nat), x]) :=
      ⟨by show 2 ≤ sizeLine; decide, [.int i tk, u], .cons ⟨_, rfl⟩ (.cons ru .nil), ⟨_, at_T', rfl, _, rfl⟩⟩
    have I' : L2.Inv X pins σ (upd H s.heap.objs.size (.tup [.int (i : Nat), x])) { s with heap := h'', toks := tk + 1 } := by
      refine I.turnedNew (ch := [e, it]) (fun b o nb at_b => ?_) fp (Nat.le_refl _) ok
      have n1 : b ≠ e := fun z => nb (by simp [z])
      exact (same.2 b n1).trans (kept b o n1 (fun z => nb (by simp [z])) at_b)
    refine ⟨.ref s.heap.objs.size, _, I', rfl, ⟨_, x, rfl, fresh, rfl, fun ys q => by rw [I.tuple_inj q sq]; exact hx⟩, ⟨⟨u, ?_⟩, st'.1.at fun o q => (same.2 it (Ne.symm ne)).trans q, ne, by have := (List.getElem?_eq_some_iff.mp hx).1; omega⟩, fun b hb => ?_⟩
    · rw [show ((i + 1 : Nat) : Int) = (i : Int) + 1 from by omega]
      exact isE'
    · have lb : b < s.heap.objs.size := by
        rcases List.mem_cons.mp hb with rfl | hb
        · exact le
        · rw [List.mem_singleton.mp hb]; exact li
      rw [upd_ne (Nat.ne_of_lt lb)]
      exact (fp b hb).1
  done := by
    intro X hP hw hK hc i pins s σ H E I fp st stops
    subst hP hw hK
    obtain ⟨⟨old, isE⟩, isI, ne, le⟩ := st
    obtain ⟨xs, sq, hn, hx⟩ := stops
    obtain ⟨us, rv, isT, _⟩ := I.tuple sq
    have isT : s.heap.IsTuple a us.toArray := isT
    have ai : a ≠ it := by
      rintro rfl
      obtain ⟨o, q, c, _⟩ := isT
      obtain ⟨o', q', c', _⟩ := isI
      rw [q] at q'
      cases q'
      rw [c] at c'
      simp at c'
    obtain ⟨f0, f1, f2, f3, f4, f5⟩ := fp it (by simp)
    have dr := Draws.tuple (prog := X.prog) (w := X.w) (A := X.A.in1) (I.ok.hd hc) it a ai us.toArray
    have sz : us.toArray.size = i := by
      have := rv.length
      simp
      omega
    exact wpAny_pyNext_enum_endD dr isE (by rw [sz]; exact ⟨isI, isT⟩) fun h' same => ⟨rfl, I.turned (t' := s.toks) (fun b o nb q => same b o nb q) f0 f1 f3 f4 f5⟩
  self := fun _ _ _ _ _ st goal => let ⟨⟨_, isE⟩, _⟩ := st; wpAny_pyIter_enum isE goal
section
variable {X : Cx} {T : Wr}
theorem RI.enm {φ : List Addr} {H : Hp} {S : Store} {a : Addr} {vs : List V} {ds : List D} (r : RepS T φ H S) (at_a : H a = some (.tup vs)) (h : RepVs T φ H vs ds) : RI T φ H (Itet T.K a vs.length) (.ds (enumL 0 ds)) := by
  have len : ∀ (ds : List D) (i : Nat), (enumL i ds).length = ds.length := by
    intro ds
    induction ds with
    | nil => intro i; rfl
    | cons d ds ih => intro i; simp [enumL, ih]
  have get : ∀ (ds : List D) (i j : Nat) (d : D), ds[j]? = some d → (enumL i ds)[j]? = some (.tup [.int ((i + j : Nat) : Int), d]) := by
    intro ds
    induction ds with
    | nil => intro i j d e; simp at e
    | cons d ds ih =>
      intro i j e hj
      cases j with
      | zero => simp at hj; subst hj; rfl
      | succ j =>
        have := ih (i + 1) j e (by simpa using hj)
        rw [show i + 1 + j = i + (j + 1) from by omega] at this
        simpa [enumL] using this
  have bd : ∀ (m : Nat) (ds : List D) (i : Nat), bds m (enumL i ds) = bds m ds := by
    intro m ds
    induction ds with
    | nil => intro i; rfl
    | cons d ds ih =>
      intro i
      show (D.bd m (.tup [.int (i : Nat), d]) && bds m (enumL (i + 1) ds)) = (d.bd m && bds m ds)
      rw [ih]
      have e : D.bd m (.tup [.int (i : Nat), d]) = d.bd m := by
        simp only [D.bd]
        show (true && (d.bd m && true)) = d.bd m
        simp
      rw [e]
  refine ⟨by rw [bd]; exact h.low, ?_⟩
  intro m φ' H' S' hb x r' i
  rw [bd] at hb
  have h' := h.extN r x hb
  have sq := SqT.extN (K := T.K) r x (SqT.of at_a)
  rw [len]
  have hl := h.length
  refine ⟨fun hi => ⟨vs, sq, rfl, by omega⟩, fun hi => ?_⟩
  obtain ⟨v, e, rv⟩ := h'.get (List.getElem?_eq_getElem hi)
  refine ⟨⟨vs, v, sq, rfl, e⟩, fun y H'' hy => ?_⟩
  obtain ⟨t, z, rfl, ht, rfl, hz⟩ := hy
  have e2 := hz vs sq
  rw [e] at e2
  cases e2
  refine ⟨_, get ds 0 i _ (List.getElem?_eq_getElem hi), .tup upd_same (.cons ?_ (.cons (rv.ext r' (Ext.aside ht)) .nil)), Ext.aside ht, r'.aside ht⟩
  rw [Nat.zero_add]
  exact .int _
theorem pi_enT {e : Expr} {ta : TA} {p pos tpos : Pos} {elts : List Expr} {kk : Nat} (hg : Gl X "enumerate") (hm : X.mg "enumerate" = none) (ha : PA X [e] ta) (hs : starEach [e] X.env = [(false, eval e X.env)]) :
    PI X (.Tuple elts kk tpos) (.Call (.Name "enumerate" p) [e] [] pos) (fun σ H R => ta σ H fun vs H1 => ∃ a xs, vs = [.ref a] ∧ SqT X.K H1 a xs ∧ R (Itet X.K a xs.length) H1) := by
  constructor
  intro pins s σ H R I q
  refine Call_ (ld_blt I hg hm boot_enumerate (PyProof.Rows.callWith_type1 (thn (ha.run pos pins s σ H _ I q) ?_) hs rfl))
  rintro us s1 ⟨vs, H1, I1, rv, a, xs, rfl, sq, q⟩
  cases rv with
  | cons r1 r2 =>
    cases r2
    cases r1
    obtain ⟨its, rits, isT, _⟩ := I1.tuple sq
    refine enumT_call isT fun h' isE isI kept => wpAny_pyIter_enum isE ?_
    have I2 : L2.Inv X pins σ H1 { s1 with heap := h' } := I1.kept (t' := s1.toks) kept
    refine ⟨s1.heap.objs.size + 1, [s1.heap.objs.size + 1, s1.heap.objs.size], _, _, H1, rfl, I2, turn_enT a _ _ xs.length, ⟨⟨.none, isE⟩, isI, Nat.succ_ne_self _, Nat.zero_le _⟩, fun b hb => ?_, q⟩
    have above : s1.heap.objs.size ≤ b := by
      rcases List.mem_cons.mp hb with z | hb
      · rw [z]; exact Nat.le_add_right _ _
      · rw [List.mem_singleton.mp hb]; exact Nat.le_refl _
    exact I1.fpOk above (I1.hok.fresh above)
/-- enumerate(..) of a tuple or a list -/
theorem pi_enB {e : Expr} {ta : TA} {p pos tpos : Pos} {elts : List Expr} {kk : Nat} (hg : Gl X "enumerate") (hm : X.mg "enumerate" = none) (ha : PA X [e] ta) (hs : starEach [e] X.env = [(false, eval e X.env)]) :
    PI X (.Tuple elts kk tpos) (.Call (.Name "enumerate" p) [e] [] pos) (fun σ H R => ta σ H fun vs H1 => ∃ a xs, vs = [.ref a] ∧ ((SqT X.K H1 a xs ∧ R (Itet X.K a xs.length) H1) ∨ (SqL X.K H1 a xs ∧ R (Ite X.K a) H1))) := by
  constructor
  intro pins s σ H R I q
  refine Call_ (ld_blt I hg hm boot_enumerate (PyProof.Rows.callWith_type1 (thn (ha.run pos pins s σ H _ I q) ?_) hs rfl))
  rintro us s1 ⟨vs, H1, I1, rv, a, xs, rfl, q⟩
  cases rv with
  | cons r1 r2 =>
    cases r2
    cases r1
    rcases q with ⟨sq, q⟩ | ⟨hq, q⟩
    · obtain ⟨its, rits, isT, _⟩ := I1.tuple sq
      refine enumT_call isT fun h' isE isI kept => wpAny_pyIter_enum isE ?_
      have I2 : L2.Inv X pins σ H1 { s1 with heap := h' } := I1.kept (t' := s1.toks) kept
      refine ⟨s1.heap.objs.size + 1, [s1.heap.objs.size + 1, s1.heap.objs.size], _, _, H1, rfl, I2, turn_enT a _ _ xs.length, ⟨⟨.none, isE⟩, isI, Nat.succ_ne_self _, Nat.zero_le _⟩, fun b hb => ?_, q⟩
      have above : s1.heap.objs.size ≤ b := by
        rcases List.mem_cons.mp hb with z | hb
        · rw [z]; exact Nat.le_add_right _ _
        · rw [List.mem_singleton.mp hb]; exact Nat.le_refl _
      exact I1.fpOk above (I1.hok.fresh above)
    · obtain ⟨its, rv, p', hz⟩ := I1.list hq
      refine call_enumerate_list p'.isList fun h' he hit hsz hk => wpAny_pyIter_enum he ?_
      have I2 : L2.Inv X pins σ H1 { s1 with heap := h' } := I1.kept (t' := s1.toks) hk
      refine ⟨s1.heap.objs.size + 1, [s1.heap.objs.size + 1, s1.heap.objs.size], _, _, H1, rfl, I2, turn_enum a (s1.heap.objs.size + 1) s1.heap.objs.size, ⟨⟨.none, he⟩, hit, Nat.succ_ne_self _⟩, fun b hb => ?_, q⟩
      have above : s1.heap.objs.size ≤ b := by
        rcases List.mem_cons.mp hb with z | hb
        · rw [z]; exact Nat.le_add_right _ _
        · rw [List.mem_singleton.mp hb]; exact Nat.le_refl _
      exact I1.fpOk above (I1.hok.fresh above)
end
end Ev
end

section
set_option Elab.async false
set_option linter.all false
set_option maxRecDepth 100000
set_option maxHeartbeats 1000000
set_option autoImplicit false
/-! Ev9: the evaluator's word of an expression holds of the model's. -/
namespace Ev
open PySem PySem.Spec L2
open PyProof.Rows hiding St

section
variable {P : Prg} {T : Wr} {X : Cx} {k : Nat} {W : WX}
theorem cxK_glb : (cxK P k).glb = P.glb := by cases k <;> simp only [cxK]
theorem cxK_bty : (cxK P k).bty = P.bty := by cases k <;> simp only [cxK]
theorem cxK_att : (cxK P k).att = P.att := by cases k <;> simp only [cxK]
/-- a test by its value's truth -/
theorem pt_of_pe {e : Expr} {f : EnvD → Store → Res D} (st : Sit P T X k W) (h : PE X e (rdV T W f)) (he : ∀ whole, isTrue e X.env whole = (do let v ← whole; standAt e.pos; holding [v] (truthy v))) : PT X e (rdB T W fun env S => (f env S).bind truR) := by
  refine (pt_truth h he).imp fun σ H Q ⟨φ, env, S, r, p⟩ => ⟨φ, env, S, r, p.bind fun d S1 φ1 H1 x e1 x1 s1 r1 p1 => ?_⟩
  cases ht : truD d S1 with
  | none => unfold truR at p1; rw [ht] at p1; exact p1.elim
  | some b =>
    unfold truR at p1
    rw [ht] at p1
    exact ⟨b, truD_rep st.K s1 r1 ht, p1.ok s1 rfl⟩
theorem cmpD_bl {op : Cm} {d e x : D} {S S' : Store} (h : cmpD op d e S = .ok x S') : ∃ b, x = .bl b ∧ S' = S := by
  have bo : ∀ {o : Option Bool}, boolR o S = .ok x S' → ∃ b, x = .bl b ∧ S' = S := fun {o} h => by
    cases o with
    | none => cases h
    | some b => cases h; exact ⟨b, rfl, rfl⟩
  unfold cmpD at h
  split at h
  all_goals first
    | exact bo h
    | (cases h; exact ⟨_, rfl, rfl⟩)
    | (cases h; done)
    | (split at h <;> first | exact bo h | (cases h; exact ⟨_, rfl, rfl⟩) | (cases h; done))
theorem Post.tru {R : Rl D V} {op : Cm} {d e : D} {S : Store} {φ : List Addr} {H : Hp} {Wk : WXk} {Q : Bool → Hp → Prop} (p : Post T Wk RE φ H ((cmpD op d e S).bind truR) Q) : Post T Wk (RV T) φ H (cmpD op d e S) (fun x H' => ∃ k, x = .bl k ∧ Q k H') := by
  refine p.bind fun a S1 φ1 H1 b e1 x1 s1 r1 p1 => ?_
  obtain ⟨k, rfl, rfl⟩ := cmpD_bl e1
  cases r1
  exact ⟨k, rfl, p1.ok s1 rfl⟩
/-- what stands of an operator's operands -/
theorem two {f g : EnvD → Store → Res D} {h : D → D → Store → Res D} {σ : St} {H : Hp} {β : Type} {R : Rl D β} {Q : β → Hp → Prop} {Q2 : V → V → Hp → Prop}
    (hq : rd T W R (fun env S => (f env S).bind fun x S => (g env S).bind fun y S => h x y S) σ H Q)
    (h2 : ∀ (φ : List Addr) (S : Store) (d e : D) (H2 : Hp) (x y : V), RepS T φ H2 S → RepV T φ H2 x d → RepV T φ H2 y e → Post T (fun c d H => W c d σ H) R φ H2 (h d e S) Q → Q2 x y H2) :
    rdV T W f σ H fun x H1 => rdV T W g σ H1 fun y H2 => Q2 x y H2 := by
  obtain ⟨φ, env, S, r, p⟩ := hq
  refine ⟨φ, env, S, r, p.bind fun d S1 φ1 H1 x _ x1 s1 r1 p1 => ⟨φ1, env, S1, r.ext x1 s1, p1.bind fun e S2 φ2 H2 y _ x2 s2 r2 p2 => ?_⟩⟩
  exact h2 φ2 S2 d e H2 x y s2 (r1.ext s1 x2) r2 p2
/-- one operand -/
theorem one {f : EnvD → Store → Res D} {h : D → Store → Res D} {σ : St} {H : Hp} {β : Type} {R : Rl D β} {Q : β → Hp → Prop} {Q2 : V → Hp → Prop}
    (hq : rd T W R (fun env S => (f env S).bind h) σ H Q)
    (h2 : ∀ (φ : List Addr) (S : Store) (d : D) (H2 : Hp) (x : V), RepS T φ H2 S → RepV T φ H2 x d → Post T (fun c d H => W c d σ H) R φ H2 (h d S) Q → Q2 x H2) :
    rdV T W f σ H Q2 := by
  obtain ⟨φ, env, S, r, p⟩ := hq
  exact ⟨φ, env, S, r, p.bind fun d S1 φ1 H1 x _ x1 s1 r1 p1 => h2 φ1 S1 d H1 x s1 r1 p1⟩

/-- what is shown of an expression -/
def GoE (P : Prg) (T : Wr) (k : Nat) (x : EX) : Prop := ∀ (X : Cx) (W : WX), Sit P T X k W → ∀ e, okE X.N X.env.scope x e = true → PE X e (rdV T W (evE (cxK P k) x)) ∧ PT X e (rdB T W (evTest (cxK P k) x))
def GoEs (P : Prg) (T : Wr) (k : Nat) (xs : EXs) : Prop := ∀ (X : Cx) (W : WX), Sit P T X k W → ∀ es, okEs X.N X.env.scope xs es = true → PA X es (rds T W (evEs (cxK P k) xs)) ∧
  ∀ (isAnd : Bool) (pos : Pos), xs ≠ .nil → PE X (.BoolOp (if isAnd then .And else .Or) es pos) (rdV T W (evBs (cxK P k) isAnd xs)) ∧ PW X (.BoolOp (if isAnd then .And else .Or) es pos) (rdB T W fun env S => (evBs (cxK P k) isAnd xs env S).bind truR)
def rdI (T : Wr) (W : WX) (f : EnvD → Store → Res ItV) : TI := fun σ H R => ∃ (φ : List Addr) (env : EnvD) (S : Store), Rep T φ σ H env S ∧ Post T (fun c d H => W c d σ H) (RI T) φ H (f env S) R
def GoI (P : Prg) (T : Wr) (k : Nat) (x : IT) : Prop := ∀ (X : Cx) (W : WX), Sit P T X k W → ∀ tg e, okI X.N X.env.scope x e = true → enmOk x tg = true → PI X tg e (rdI T W (evIt (cxK P k) x))
def GoL (P : Prg) (T : Wr) (k : Nat) (x : LX) : Prop := ∀ (X : Cx) (W : WX), Sit P T X k W → ∀ e, okL X.N X.env.scope x e = true → PE X e (rdL T W (evL (cxK P k) x))
/-- where the test is the value's truth -/
def truX : Expr → Bool
  | .UnaryOp .Not _ _ => false
  | .BoolOp .. => false
  | .IfExp .. => false
  | .Compare .. => false
  | _ => true
theorem tru_of {e : Expr} (h : truX e = true) {env : PySem.Env} (whole : Sem Value) : isTrue e env whole = (do let v ← whole; standAt e.pos; holding [v] (truthy v)) := by
  cases e <;> first | rfl | (cases h; done) | (rename_i op _ _; cases op <;> first | rfl | cases h)
theorem GoE.of {x : EX} (h : ∀ (X : Cx) (W : WX), Sit P T X k W → ∀ e, okE X.N X.env.scope x e = true → PE X e (rdV T W (evE (cxK P k) x)) ∧ truX e = true) : GoE P T k x := fun X W st e he =>
  ⟨(h X W st e he).1, pt_of_pe st (h X W st e he).1 fun w => tru_of (h X W st e he).2 w⟩

theorem go_const {x : EX} {v : V} {d : D} (hr : ∀ K φ H, RepV K φ H v d) (hev : ∀ env S, evE (cxK P k) x env S = .ok d S) (h : ∀ (X : Cx) e, okE X.N X.env.scope x e = true → PE X e (tC v) ∧ truX e = true) : GoE P T k x :=
  GoE.of fun X W st e he => by
    obtain ⟨h1, h2⟩ := h X e he
    refine ⟨h1.imp fun σ H Q ⟨φ, env, S, r, p⟩ => ?_, h2⟩
    rw [hev] at p
    exact p.ok r.sto (hr _ _ _)
theorem go_var {i : Nat} : GoE P T k (.var i) := GoE.of fun X W st e he => by
  unfold okE at he
  split at he
  · rename_i x pos
    unfold okV at he
    simp only [Bool.and_eq_true, decide_eq_true_eq] at he
    obtain ⟨n1, n2, _⟩ := plainN_ok he.2
    refine ⟨(pe_var he.1.1 (visB_ok he.1.2) n1 n2).imp fun σ H Q ⟨φ, env, S, r, p⟩ => ?_, rfl⟩
    simp only [evE] at p
    split at p
    · rename_i d hd
      obtain ⟨v, e1, e2⟩ := r.env i d hd
      exact ⟨v, e1, p.ok r.sto e2⟩
    · exact p.elim
  · cases he
theorem okG_ok {sc : Scope} {y : String} {x : Str} (h : okG sc y x = true) : x = Str.ofString y ∧ sc.names.lookup x = some .globalImplicit ∧ (x == ("__debug__" : Str)) = false ∧ x ≠ "__name__" := by
  unfold okG at h
  simp only [Bool.and_eq_true, decide_eq_true_eq] at h
  obtain ⟨n1, n2, n3⟩ := plainN_ok h.2
  exact ⟨h.1.1, glB_ok h.1.2, n1, n3⟩
theorem go_glb {y : String} : GoE P T k (.glb y) := GoE.of fun X W st e he => by
  unfold okE at he
  split at he
  · rename_i x pos
    obtain ⟨rfl, hg, n1, _⟩ := okG_ok he
    refine ⟨?_, rfl⟩
    have hgl : (cxK P k).glb = P.glb := cxK_glb
    cases hd : P.glb y with
    | none =>
      refine PE.never.imp fun σ H Q ⟨φ, env, S, r, p⟩ => ?_
      simp only [evE, hgl, hd, okR] at p
      exact p
    | some d =>
      obtain ⟨u, v, hm, rv, hr⟩ := st.fx.glb y d hd
      refine (pe_glob hg hm rv n1).imp fun σ H Q ⟨φ, env, S, r, p⟩ => ?_
      simp only [evE, hgl, hd, okR] at p
      exact p.ok r.sto (hr _ _)
  · cases he
theorem go_bty {y : String} : GoE P T k (.bty y) := GoE.of fun X W st e he => by
  unfold okE at he
  split at he
  · rename_i x pos
    obtain ⟨rfl, hg, n1, n2⟩ := okG_ok he
    refine ⟨?_, rfl⟩
    have hgl : (cxK P k).bty = P.bty := cxK_bty
    cases hd : P.bty y with
    | false =>
      refine PE.never.imp fun σ H Q ⟨φ, env, S, r, p⟩ => ?_
      simp only [evE, hgl, hd] at p
      exact p
    | true =>
      obtain ⟨hm, hv⟩ := st.fx.bty y hd
      refine (pe_bltn (v := .ty y) hg hm hv rfl n2 n1).imp fun σ H Q ⟨φ, env, S, r, p⟩ => ?_
      simp only [evE, hgl, hd] at p
      exact p.ok r.sto (.ty y)
  · cases he
theorem go_tup {xs : EXs} (ih : GoEs P T k xs) : GoE P T k (.tup xs) := GoE.of fun X W st e he => by
  unfold okE at he
  split at he
  · refine ⟨(pe_tup (ih X W st _ he).1).imp fun σ H Q ⟨φ, env, S, r, p⟩ => ?_, rfl⟩
    simp only [evE] at p
    refine ⟨φ, env, S, r, p.bind fun ds S1 φ1 H1 vs _ x1 s1 r1 p1 => ?_⟩
    split at p1
    · rename_i hl
      exact ⟨LIM_le (by rw [RepVs.length r1]; exact hl), fun q hq => p1.tup s1 hq r1⟩
    · exact p1.elim
  · cases he
theorem go_ofl {l : LX} (ih : GoL P T k l) : GoE P T k (.ofl l) := GoE.of fun X W st e he => by
  have he' : okL X.N X.env.scope l e = true := he
  refine ⟨(ih X W st e he').imp fun σ H Q ⟨φ, env, S, r, p⟩ => ?_, ?_⟩
  · simp only [evE] at p
    refine ⟨φ, env, S, r, ?_⟩
    cases hl : evL (cxK P k) l env S with
    | ok ds S' =>
      rw [hl] at p
      intro φ' H' a vs x s ha hn hv rv
      exact p (φ' ++ [a]) H' (.ref a) (x.adopt hn) (s.adopt ha ⟨vs, hv, rv⟩) (.loc (by rw [← s.len]; simp))
    | exc x S' => rw [hl] at p; exact p
    | bad => rw [hl] at p; exact p
  · cases l <;> (unfold okL at he'; split at he' <;> first | rfl | cases he')
theorem go_dk0 : GoE P T k .dk0 := GoE.of fun X W st e he => by
  unfold okE at he
  split at he
  · refine ⟨pe_dnewK.imp fun σ H Q ⟨φ, env, S, r, p⟩ => fun q hq => ?_, rfl⟩
    exact Post.alloc p r.sto hq ⟨[], upd_same, .nil⟩
  · cases he
theorem go_dt0 : GoE P T k .dt0 := GoE.of fun X W st e he => by
  unfold okE at he
  split at he
  · refine ⟨pe_dnewT.imp fun σ H Q ⟨φ, env, S, r, p⟩ => fun q hq => ?_, rfl⟩
    exact Post.alloc p r.sto hq ⟨[], upd_same, .nil⟩
  · cases he
theorem go_bin {op : Op} {a b : EX} (iha : GoE P T k a) (ihb : GoE P T k b) : GoE P T k (.bin op a b) := GoE.of fun X W st e he => by
  unfold okE at he
  split at he
  · simp only [Bool.and_eq_true, decide_eq_true_eq] at he
    obtain ⟨⟨rfl, h1⟩, h2⟩ := he
    refine ⟨(pe_op (op_ok st.K op) (iha X W st _ h1).1 (ihb X W st _ h2).1).imp fun σ H Q hq => ?_, rfl⟩
    exact two (h := binD op) hq fun φ S d e H2 x y s r1 r2 p => ⟨_, φ, S, d, e, s, r1, r2, p⟩
  · cases he
theorem go_neg {a : EX} (iha : GoE P T k a) : GoE P T k (.neg a) := GoE.of fun X W st e he => by
  unfold okE at he
  split at he
  · refine ⟨(pe_un un_neg (iha X W st _ he).1).imp fun σ H Q hq => ?_, rfl⟩
    refine one (Q2 := fun x H1 => rU (fun i => .int (-i)) x H1 Q) hq fun φ S d H2 x s r1 p => ?_
    cases d with
    | int i => cases r1; exact ⟨i, rfl, p.ok s (.int _)⟩
    | _ => exact p.elim
  · cases he
theorem go_cmp {op : Cm} {a b : EX} (iha : GoE P T k a) (ihb : GoE P T k b) : GoE P T k (.cmp op a b) := fun X W st e he => by
  unfold okE at he
  split at he
  · simp only [Bool.and_eq_true, decide_eq_true_eq] at he
    obtain ⟨⟨rfl, h1⟩, h2⟩ := he
    have hm := nomark_plain (op := cmpOf op) (okE_plain h2)
    refine ⟨(pe_cmpR (cmp_ok st.hu st.K st.W op) (iha X W st _ h1).1 (ihb X W st _ h2).1 hm).imp fun σ H Q hq => ?_, (pt_cmpR (cmp_ok st.hu st.K st.W op) (iha X W st _ h1).1 (ihb X W st _ h2).1 hm).imp fun σ H Q hq => ?_⟩
    · exact two (h := cmpD op) hq fun φ S d e H2 x y s r1 r2 p => ⟨_, φ, S, d, e, s, r1, r2, p⟩
    · obtain ⟨φ, env, S, r, p⟩ := hq
      refine ⟨φ, env, S, r, ?_⟩
      simp only [evTest, evE] at p
      have as : ∀ {α β γ : Type} (r : Res α) (f : α → Store → Res β) (g : β → Store → Res γ), (r.bind f).bind g = r.bind fun a S => (f a S).bind g := fun r f g => by cases r <;> rfl
      rw [as] at p
      refine p.bind fun d S1 φ1 H1 x _ x1 s1 r1 p1 => ⟨φ1, env, S1, r.ext x1 s1, ?_⟩
      rw [as] at p1
      refine p1.bind fun e S2 φ2 H2 y _ x2 s2 r2 p2 => ?_
      exact ⟨_, φ2, S2, d, e, s2, r1.ext s1 x2, r2, Post.tru (R := RV T) p2⟩
  · cases he
theorem bind_as {α β γ : Type} (r : Res α) (f : α → Store → Res β) (g : β → Store → Res γ) : (r.bind f).bind g = r.bind fun a S => (f a S).bind g := by cases r <;> rfl
theorem go_nt {a : EX} (iha : GoE P T k a) : GoE P T k (.nt a) := fun X W st e he => by
  unfold okE at he
  split at he
  · obtain ⟨h1, h2⟩ := iha X W st _ he
    refine ⟨(pe_not h1).imp fun σ H Q hq => ?_, (pt_not h2).imp fun σ H Q hq => ?_⟩
    · refine one (Q2 := fun x H1 => ∃ c, x = .bl c ∧ Q (.bl (!c)) H1) hq fun φ S d H2 x s r1 p => ?_
      cases d with
      | bl b => cases r1; exact ⟨b, rfl, p.ok s (.bl _)⟩
      | _ => exact p.elim
    · obtain ⟨φ, env, S, r, p⟩ := hq
      refine ⟨φ, env, S, r, ?_⟩
      simp only [evTest, evE] at p ⊢
      rw [bind_as] at p
      cases hd : evE (cxK P k) a env S with
      | ok d S' =>
        rw [hd] at p
        cases d with
        | bl b => exact fun φ' H' c x s rc => by cases rc; exact p φ' H' (!b) x s rfl
        | _ => exact p.elim
      | exc x S' => rw [hd] at p; exact p
      | bad => rw [hd] at p; exact p
  · cases he
end
end Ev
end

section
set_option Elab.async false
set_option linter.all false
set_option maxRecDepth 100000
set_option maxHeartbeats 1000000
set_option autoImplicit false
/-! Ev10: expressions, further. -/
namespace Ev
open PySem PySem.Spec L2
open PyProof.Rows hiding St

section
variable {P : Prg} {T : Wr} {X : Cx} {k : Nat} {W : WX}
theorem lastMarks_plain {o o' : CmpOp} {c : Expr} (h : plainX c = true) (b : Expr) : lastMarks [o, o'] [b, c] = false := nomark_plain (op := o') h
theorem chn_read {fa fb fc : EnvD → Store → Res D} {op op' : Cm} {σ : St} {H : Hp} {Q : VK} {β : Type} {R : Rl D β} {Qb : β → Hp → Prop}
    (last : ∀ (φ : List Addr) (S : Store) (d : D) (H2 : Hp) (x : V), RepS T φ H2 S → RepV T φ H2 x d → (∃ b, d = .bl b) → Post T (fun c d H => W c d σ H) R φ H2 (.ok d S) Qb → Q x H2)
    (lastc : ∀ (φ : List Addr) (S : Store) (H2 : Hp) (d e : D), Post T (fun c d H => W c d σ H) R φ H2 (cmpD op' d e S) Qb → Post T (fun c d H => W c d σ H) (RV T) φ H2 (cmpD op' d e S) Q)
    (hq : rd T W R (fun env S => (fa env S).bind fun x S => (fb env S).bind fun y S => (cmpD op x y S).bind fun r S => match r with
      | .bl true => (fc env S).bind fun z S => cmpD op' y z S
      | .bl false => .ok (.bl false) S
      | _ => .bad) σ H Qb) :
    tChain (rD T (cmpD op)) (rD T (cmpD op')) (rdV T W fa) (rdV T W fb) (rdV T W fc) σ H Q := by
  obtain ⟨φ, env, S, r, p⟩ := hq
  refine ⟨φ, env, S, r, p.bind fun d S1 φ1 H1 x _ x1 s1 r1 p1 => ⟨φ1, env, S1, r.ext x1 s1, p1.bind fun e S2 φ2 H2 y _ x2 s2 r2 p2 => ?_⟩⟩
  refine ⟨_, φ2, S2, d, e, s2, r1.ext s1 x2, r2, p2.bind fun z S3 φ3 H3 w e3 x3 s3 r3 p3 => ?_⟩
  obtain ⟨b, rfl, rfl⟩ := cmpD_bl e3
  cases r3
  refine ⟨b, rfl, ?_⟩
  cases b with
  | false =>
    rw [if_neg Bool.false_ne_true]
    exact last φ3 _ _ H3 _ s3 (.bl false) ⟨_, rfl⟩ p3
  | true =>
    rw [if_pos rfl]
    refine ⟨φ3, env, _, (r.ext (x1.trans (x2.trans x3)) s3), p3.bind fun c S4 φ4 H4 v _ x4 s4 r4 p4 => ?_⟩
    exact ⟨_, φ4, S4, e, c, s4, (r2.ext s2 x3).ext s3 x4, r4, lastc φ4 S4 H4 e c p4⟩
theorem bind_ok_inv {α β : Type} {r : Res α} {f : α → Store → Res β} {b : β} {S' : Store} (h : r.bind f = .ok b S') : ∃ a S1, r = .ok a S1 ∧ f a S1 = .ok b S' := by
  cases r with
  | ok a S1 => exact ⟨a, S1, rfl, h⟩
  | exc x S => cases h
  | bad => cases h
theorem post_bl {r : Res D} {φ : List Addr} {H : Hp} {Wk : WXk} {Q : Bool → Hp → Prop} (h : ∀ d S', r = .ok d S' → ∃ b, d = .bl b) (p : Post T Wk RE φ H (r.bind truR) Q) : Post T Wk (RE : Rl D D) φ H r (fun d H' => ∃ b, d = .bl b ∧ Q b H') := by
  cases r with
  | ok d S' =>
    obtain ⟨b, rfl⟩ := h d S' rfl
    intro φ' H' d' x s rd
    have rd : d' = .bl b := rd
    exact ⟨b, rd, p φ' H' b x s rfl⟩
  | exc x S' => exact p
  | bad => exact p
theorem go_chn {op op' : Cm} {a b c : EX} (iha : GoE P T k a) (ihb : GoE P T k b) (ihc : GoE P T k c) : GoE P T k (.chn op a b op' c) := fun X W st e he => by
  unfold okE at he
  split at he
  · simp only [Bool.and_eq_true, decide_eq_true_eq] at he
    obtain ⟨⟨⟨⟨rfl, rfl⟩, h1⟩, h2⟩, h3⟩ := he
    have hm := lastMarks_plain (o := cmpOf op) (o' := cmpOf op') (okE_plain h3)
    refine ⟨(pe_chain (cmp_ok st.hu st.K st.W op) (cmp_ok st.hu st.K st.W op') (iha X W st _ h1).1 (ihb X W st _ h2).1 (ihc X W st _ h3).1 (hm _)).imp fun σ H Q hq => ?_,
      (pt_chain (cmp_ok st.hu st.K st.W op) (cmp_ok st.hu st.K st.W op') (iha X W st _ h1).1 (ihb X W st _ h2).1 (ihc X W st _ h3).1 (hm _)).imp fun σ H Q hq => ?_⟩
    · exact chn_read (R := RV T) (Qb := Q) (fun φ S d H2 x s r _ p => p.ok s r) (fun φ S H2 d e p => p) hq
    · obtain ⟨φ, env, S, r, p⟩ := hq
      refine chn_read (R := (RE : Rl D D)) (Qb := fun d H' => ∃ b, d = .bl b ∧ Q b H') (fun φ S d H2 x s r ⟨b, e⟩ p => ?_) (fun φ S H2 d e p => ?_) ⟨φ, env, S, r, post_bl (fun d S' hd => ?_) p⟩
      · subst e
        cases r
        obtain ⟨b', e', q⟩ := p.ok s rfl
        cases e'
        exact ⟨_, rfl, q⟩
      · cases hc : cmpD op' d e S with
        | ok z S' =>
          rw [hc] at p
          obtain ⟨b, rfl, _⟩ := cmpD_bl hc
          intro φ' H' v x s rv
          cases rv
          obtain ⟨b', e', q⟩ := p φ' H' _ x s rfl
          cases e'
          exact ⟨_, rfl, q⟩
        | exc x S' => rw [hc] at p; exact p
        | bad => rw [hc] at p; exact p
      · simp only [evE] at hd
        obtain ⟨x1, S1, _, hd⟩ := bind_ok_inv hd
        obtain ⟨x2, S2, _, hd⟩ := bind_ok_inv hd
        obtain ⟨x3, S3, h3, hd⟩ := bind_ok_inv hd
        obtain ⟨b, rfl, _⟩ := cmpD_bl h3
        cases b with
        | true =>
          obtain ⟨x4, S4, _, hd⟩ := bind_ok_inv hd
          obtain ⟨b, rfl, _⟩ := cmpD_bl hd
          exact ⟨b, rfl⟩
        | false => cases hd; exact ⟨false, rfl⟩
  · cases he
/-! ### and, or -/
theorem ge_nil : GoEs P T k .nil := fun X W st es he => by
  have : es = [] := List.isEmpty_iff.mp he
  subst this
  exact ⟨pa_nil.imp fun σ H Q ⟨φ, env, S, r, p⟩ => Post.ok p r.sto .nil, fun _ _ h => absurd rfl h⟩
theorem truR_bl {b : Bool} {S : Store} : truR (.bl b) S = .ok b S := rfl
theorem ge_cons {x : EX} {xs : EXs} (ih : GoE P T k x) (ihs : GoEs P T k xs) : GoEs P T k (.cons x xs) := fun X W st es he => by
  cases es with
  | nil => cases he
  | cons e es =>
    have he : (okE X.N X.env.scope x e && okEs X.N X.env.scope xs es) = true := he
    rw [Bool.and_eq_true] at he
    obtain ⟨h1, h2⟩ := ih X W st e he.1
    obtain ⟨k1, k2⟩ := ihs X W st es he.2
    refine ⟨(pa_cons h1 k1 (starEach_plain (okE_plain he.1))).imp fun σ H Q ⟨φ, env, S, r, p⟩ => ?_, fun isAnd pos _ => ?_⟩
    · simp only [evEs] at p
      refine ⟨φ, env, S, r, p.bind fun d S1 φ1 H1 v _ x1 s1 r1 p1 => ⟨φ1, env, S1, r.ext x1 s1, p1.bind fun ds S2 φ2 H2 vs _ x2 s2 r2 p2 => ?_⟩⟩
      exact p2.ok s2 (.cons (r1.ext s1 x2) r2)
    · cases xs with
      | nil =>
        have : es = [] := List.isEmpty_iff.mp he.2
        subst this
        refine ⟨pe_one h1, ?_⟩
        cases isAnd with
        | true => exact pw_and1 h2
        | false => exact pw_or1 h2
      | cons y ys =>
        cases es with
        | nil => cases he.2
        | cons e' es =>
          obtain ⟨m1, m2⟩ := k2 isAnd pos (fun z => nomatch z)
          have ev : ∀ env S, evBs (cxK P k) isAnd (.cons x (.cons y ys)) env S = (evE (cxK P k) x env S).bind fun x S => match x with
            | .bl b => if b = isAnd then evBs (cxK P k) isAnd (.cons y ys) env S else .ok (.bl b) S
            | _ => .bad := fun env S => by
            simp only [evBs]
            try rfl
          have step : ∀ {σ : St} {H : Hp} {Q : VK}, rdV T W (evBs (cxK P k) isAnd (.cons x (.cons y ys))) σ H Q → rdV T W (evE (cxK P k) x) σ H fun z H1 => ∃ c, z = .bl c ∧ (c = isAnd → rdV T W (evBs (cxK P k) isAnd (.cons y ys)) σ H1 Q) ∧ (c ≠ isAnd → Q (.bl c) H1) := fun {σ H Q} ⟨φ, env, S, r, p⟩ => by
            rw [ev] at p
            refine ⟨φ, env, S, r, p.bind fun d S1 φ1 H1 v _ x1 s1 r1 p1 => ?_⟩
            cases d with
            | bl b =>
              cases r1
              refine ⟨b, rfl, fun hb => ⟨φ1, env, S1, r.ext x1 s1, ?_⟩, fun hb => ?_⟩
              · have p1 : Post T _ (RV T) φ1 H1 (if b = isAnd then evBs (cxK P k) isAnd (.cons y ys) env S1 else .ok (.bl b) S1) Q := p1
                rw [if_pos hb] at p1
                exact p1
              · have p1 : Post T _ (RV T) φ1 H1 (if b = isAnd then evBs (cxK P k) isAnd (.cons y ys) env S1 else .ok (.bl b) S1) Q := p1
                rw [if_neg hb] at p1
                exact p1.ok s1 (.bl b)
            | _ => exact p1.elim
          have stepT : ∀ {σ : St} {H : Hp} {Q : Bool → Hp → Prop}, rdB T W (fun env S => (evBs (cxK P k) isAnd (.cons x (.cons y ys)) env S).bind truR) σ H Q → rdB T W (evTest (cxK P k) x) σ H fun c H1 => (c = isAnd → rdB T W (fun env S => (evBs (cxK P k) isAnd (.cons y ys) env S).bind truR) σ H1 Q) ∧ (c ≠ isAnd → Q c H1) := fun {σ H Q} ⟨φ, env, S, r, p⟩ => by
            dsimp only at p
            rw [ev, bind_as] at p
            refine ⟨φ, env, S, r, ?_⟩
            unfold evTest
            cases hd : evE (cxK P k) x env S with
            | ok d S1 =>
              rw [hd] at p
              cases d with
              | bl b =>
                have p : Post T _ RE φ H ((if b = isAnd then evBs (cxK P k) isAnd (.cons y ys) env S1 else .ok (.bl b) S1).bind truR) Q := p
                intro φ1 H1 c x1 s1 rc
                have rc : c = b := rc
                subst rc
                refine ⟨fun hb => ⟨φ1, env, S1, r.ext x1 s1, ?_⟩, fun hb => ?_⟩
                · rw [if_pos hb] at p
                  exact p.ext x1
                · rw [if_neg hb] at p
                  exact p φ1 H1 c x1 s1 rfl
              | _ => exact p.elim
            | exc x S1 => rw [hd] at p; exact p
            | bad => rw [hd] at p; exact p
          cases isAnd with
          | true =>
            refine ⟨(pe_and h1 m1).imp fun σ H Q hq => ?_, ⟨fun wh pins s σ H Q I hq => (pw_and h2 m2).run wh pins s σ H Q I ?_⟩⟩
            · obtain ⟨φ, env, S, r, p⟩ := step hq
              refine ⟨φ, env, S, r, p.imp fun z H1 ⟨c, e, a, b⟩ => ⟨c, e, ?_⟩⟩
              cases c with
              | true => rw [if_pos rfl]; exact a rfl
              | false => rw [if_neg Bool.false_ne_true]; exact b Bool.false_ne_true
            · obtain ⟨φ, env, S, r, p⟩ := stepT hq
              refine ⟨φ, env, S, r, p.imp fun c H1 ⟨a, b⟩ => ?_⟩
              cases c with
              | true => rw [if_pos rfl]; exact a rfl
              | false => rw [if_neg Bool.false_ne_true]; exact b Bool.false_ne_true
          | false =>
            refine ⟨(pe_or h1 m1).imp fun σ H Q hq => ?_, ⟨fun wh pins s σ H Q I hq => (pw_or h2 m2).run wh pins s σ H Q I ?_⟩⟩
            · obtain ⟨φ, env, S, r, p⟩ := step hq
              refine ⟨φ, env, S, r, p.imp fun z H1 ⟨c, e, a, b⟩ => ⟨c, e, ?_⟩⟩
              cases c with
              | true => rw [if_pos rfl]; exact b (fun z => Bool.false_ne_true z.symm)
              | false => rw [if_neg Bool.false_ne_true]; exact a rfl
            · obtain ⟨φ, env, S, r, p⟩ := stepT hq
              refine ⟨φ, env, S, r, p.imp fun c H1 ⟨a, b⟩ => ?_⟩
              cases c with
              | true => rw [if_pos rfl]; exact b (fun z => Bool.false_ne_true z.symm)
              | false => rw [if_neg Bool.false_ne_true]; exact a rfl
theorem go_bop {isAnd : Bool} {xs : EXs} (ih : GoEs P T k xs) : GoE P T k (.bop isAnd xs) := fun X W st e he => by
  unfold okE at he
  split at he
  · simp only [Bool.and_eq_true, decide_eq_true_eq] at he
    obtain ⟨rfl, h1⟩ := he
    cases xs with
    | nil =>
      refine ⟨PE.never.imp fun σ H Q ⟨φ, env, S, r, p⟩ => p, ⟨fun pins s σ H Q I ⟨φ, env, S, r, p⟩ => False.elim p⟩⟩
    | cons y ys =>
      obtain ⟨m1, m2⟩ := (ih X W st _ h1).2 isAnd ‹_› (fun z => nomatch z)
      exact ⟨m1, m2.pt⟩
  · cases he
/-! ### a if t else b -/
theorem go_ife {t a b : EX} (iht : GoE P T k t) (iha : GoE P T k a) (ihb : GoE P T k b) : GoE P T k (.ife t a b) := fun X W st e he => by
  unfold okE at he
  split at he
  · simp only [Bool.and_eq_true] at he
    obtain ⟨⟨h1, h2⟩, h3⟩ := he
    have ev : ∀ env S, evE (cxK P k) (.ife t a b) env S = (evTest (cxK P k) t env S).bind fun k' S => match k' with
      | true => evE (cxK P k) a env S
      | false => evE (cxK P k) b env S := fun env S => by
      simp only [evE, evTest, bind_as]
      try rfl
    refine ⟨(pe_ifExp (iht X W st _ h1).2 (iha X W st _ h2).1 (ihb X W st _ h3).1).imp fun σ H Q ⟨φ, env, S, r, p⟩ => ?_, ⟨fun pins s σ H Q I ⟨φ, env, S, r, p⟩ => ?_⟩⟩
    · rw [ev] at p
      refine ⟨φ, env, S, r, p.bind fun c S1 φ1 H1 c' e1 x1 s1 r1 p1 => ?_⟩
      have r1 : c' = c := r1
      subst r1
      cases c' with
      | true => rw [if_pos rfl]; exact ⟨φ1, env, S1, r.ext x1 s1, p1⟩
      | false => rw [if_neg Bool.false_ne_true]; exact ⟨φ1, env, S1, r.ext x1 s1, p1⟩
    · unfold evTest at p
      rw [ev, bind_as] at p
      refine isTrue_IfExp ?_
      have q : rdB T W (evTest (cxK P k) t) σ H fun c H1 => if c = true then rdB T W (evTest (cxK P k) a) σ H1 Q else rdB T W (evTest (cxK P k) b) σ H1 Q := by
        refine ⟨φ, env, S, r, p.bind fun c S1 φ1 H1 c' e1 x1 s1 r1 p1 => ?_⟩
        have r1 : c' = c := r1
        subst r1
        cases c' with
        | true => rw [if_pos rfl]; exact ⟨φ1, env, S1, r.ext x1 s1, p1⟩
        | false => rw [if_neg Bool.false_ne_true]; exact ⟨φ1, env, S1, r.ext x1 s1, p1⟩
      refine thn ((iht X W st _ h1).2.run pins s σ H _ I q) fun c s1 ⟨H1, I1, q1⟩ => ?_
      cases c with
      | true =>
        rw [if_pos rfl] at q1
        exact (iha X W st _ h2).2.run pins s1 σ H1 Q I1 q1
      | false =>
        rw [if_neg Bool.false_ne_true] at q1
        exact (ihb X W st _ h3).2.run pins s1 σ H1 Q I1 q1
  · cases he
/-! ### subscripts, slices, fields -/
theorem go_sub {a i : EX} (iha : GoE P T k a) (ihi : GoE P T k i) : GoE P T k (.sub a i) := GoE.of fun X W st e he => by
  unfold okE at he
  split at he
  · rw [Bool.and_eq_true] at he
    refine ⟨(pe_ix (ix_D st.hu st.K st.W) (iha X W st _ he.1).1 (ihi X W st _ he.2).1 (plainIx_of (okE_plain he.2))).imp fun σ H Q hq => ?_, rfl⟩
    exact two (h := subD) hq fun φ S d e H2 x y s r1 r2 p => ⟨_, φ, S, d, e, s, r1, r2, p⟩
  · cases he
theorem partR_some {S : Store} {d : D} {φ : List Addr} {H : Hp} {Wk : WXk} {β : Type} {R : Rl D β} {Q : β → Hp → Prop} {f : Int → Store → Res D} {x : V} (rx : RepV T φ H x d) (p : Post T Wk R φ H ((partR d S).bind f) Q) : ∃ i, x = .int i ∧ Post T Wk R φ H (f i S) Q := by
  cases d with
  | int i => cases rx; exact ⟨i, rfl, p⟩
  | _ => exact p.elim
theorem go_slc0 {a : EX} (iha : GoE P T k a) : GoE P T k (.slc0 a) := GoE.of fun X W st e he => by
  unfold okE at he
  split at he
  · refine ⟨(pe_slice (sl_D st.K) (iha X W st _ he).1 po_none po_none).imp fun σ H Q hq => ?_, rfl⟩
    exact one (h := fun x S => slcD x none none S) hq fun φ S d H2 x s r1 p => ⟨_, φ, S, d, s, r1, p⟩
  · cases he
theorem go_slcF {a lo : EX} (iha : GoE P T k a) (ihl : GoE P T k lo) : GoE P T k (.slcF a lo) := GoE.of fun X W st e he => by
  unfold okE at he
  split at he
  · rw [Bool.and_eq_true] at he
    refine ⟨(pe_slice (sl_D st.K) (iha X W st _ he.1).1 (po_some (ihl X W st _ he.2).1) po_none).imp fun σ H Q hq => ?_, rfl⟩
    refine two (Q2 := fun x y H2 => ∃ i, y = .int i ∧ rSl T x (some i) none H2 Q) (h := fun x l S => (partR l S).bind fun l S => slcD x (some l) none S) hq fun φ S d e H2 x y s r1 r2 p => ?_
    obtain ⟨i, rfl, p⟩ := partR_some r2 p
    exact ⟨i, rfl, _, φ, S, d, s, r1, p⟩
  · cases he
theorem go_slcT {a hi : EX} (iha : GoE P T k a) (ihl : GoE P T k hi) : GoE P T k (.slcT a hi) := GoE.of fun X W st e he => by
  unfold okE at he
  split at he
  · rw [Bool.and_eq_true] at he
    refine ⟨(pe_slice (sl_D st.K) (iha X W st _ he.1).1 po_none (po_some (ihl X W st _ he.2).1)).imp fun σ H Q hq => ?_, rfl⟩
    refine two (Q2 := fun x y H2 => ∃ i, y = .int i ∧ rSl T x none (some i) H2 Q) (h := fun x l S => (partR l S).bind fun l S => slcD x none (some l) S) hq fun φ S d e H2 x y s r1 r2 p => ?_
    obtain ⟨i, rfl, p⟩ := partR_some r2 p
    exact ⟨i, rfl, _, φ, S, d, s, r1, p⟩
  · cases he
theorem go_slcB {a lo hi : EX} (iha : GoE P T k a) (ihl : GoE P T k lo) (ihh : GoE P T k hi) : GoE P T k (.slcB a lo hi) := GoE.of fun X W st e he => by
  unfold okE at he
  split at he
  · simp only [Bool.and_eq_true] at he
    obtain ⟨⟨h1, h2⟩, h3⟩ := he
    refine ⟨(pe_slice (sl_D st.K) (iha X W st _ h1).1 (po_some (ihl X W st _ h2).1) (po_some (ihh X W st _ h3).1)).imp fun σ H Q ⟨φ, env, S, r, p⟩ => ?_, rfl⟩
    simp only [evE] at p
    refine ⟨φ, env, S, r, p.bind fun d S1 φ1 H1 x _ x1 s1 r1 p1 => ⟨φ1, env, S1, r.ext x1 s1, p1.bind fun l S2 φ2 H2 y _ x2 s2 r2 p2 => ?_⟩⟩
    obtain ⟨i, rfl, p2⟩ := partR_some r2 p2
    refine ⟨i, rfl, φ2, env, S2, r.ext (x1.trans x2) s2, p2.bind fun h S3 φ3 H3 z _ x3 s3 r3 p3 => ?_⟩
    obtain ⟨j, rfl, p3⟩ := partR_some r3 p3
    exact ⟨j, rfl, _, φ3, S3, d, s3, (r1.ext s1 x2).ext s2 x3, p3⟩
  · cases he
theorem go_fld {a : EX} {f : String} (iha : GoE P T k a) : GoE P T k (.fld a f) := GoE.of fun X W st e he => by
  unfold okE at he
  split at he
  · simp only [Bool.and_eq_true, decide_eq_true_eq] at he
    obtain ⟨⟨rfl, h1⟩, h2⟩ := he
    refine ⟨(pe_fld (iha X W st _ h2).1 (base_rcv h1)).imp fun σ H Q hq => ?_, rfl⟩
    refine one (h := fun x S => match x with
      | .loc l => match S[l]? with
        | some (.ins C fs) => if (cxK P k).att C f then okR (fs.lookup f) S else .bad
        | _ => .bad
      | _ => .bad) (by
        obtain ⟨φ, env, S, r, p⟩ := hq
        simp only [evE] at p
        exact ⟨φ, env, S, r, p⟩) fun φ S d H2 x s r1 p => ?_
    cases d with
    | loc l =>
      cases r1 with
      | loc hl =>
        dsimp only at p
        split at p
        · rename_i C fs hS
          split at p
          · rename_i hatt
            rw [cxK_att] at hatt
            obtain ⟨dx, vfs, e1, e2⟩ := s.ob _ _ _ hS hl
            obtain ⟨g, hg, p⟩ := okR_some p
            obtain ⟨v, l1, l2⟩ := (fs_lookup f e2).2 g hg
            obtain ⟨c1, c2⟩ := st.fx.att C f hatt
            exact ⟨_, _, dx, vfs, v, rfl, e1, by rw [st.K]; exact c1, by rw [st.K]; exact c2, l1, p.ok s l2⟩
          · exact p.elim
        · exact p.elim
    | _ => exact p.elim
  · cases he
end
end Ev
end

section
set_option Elab.async false
set_option linter.all false
set_option maxRecDepth 100000
set_option maxHeartbeats 1000000
set_option autoImplicit false
/-! Ev11: calls, comprehensions; all expressions. -/
namespace Ev
open PySem PySem.Spec L2
open PyProof.Rows hiding St

section
variable {P : Prg} {T : Wr} {X : Cx} {k : Nat} {W : WX}
theorem RepVs.vals {K : Wr} {φ : List Addr} {H : Hp} {vs : List V} {ds : List D} (r : RepVs K φ H vs ds) : vs.length = ds.length := r.length
theorem cxK_defd {y : String} (h : (cxK P k).defd y = true) : ∃ d, P.defs y = some d := by
  cases k with
  | zero => simp only [cxK] at h; cases h
  | succ n => simp only [cxK] at h; exact Option.isSome_iff_exists.mp h
theorem cxK_newd {C : String} (h : (cxK P k).newd C = true) : P.gd = false ∧ ∃ d j, P.meths C "__init__" = some d ∧ k = j + 1 := by
  cases k with
  | zero => simp only [cxK] at h; cases h
  | succ n =>
    simp only [cxK, Bool.and_eq_true, Bool.not_eq_true'] at h
    obtain ⟨d, hd⟩ := Option.isSome_iff_exists.mp h.2
    exact ⟨h.1, d, n, hd, rfl⟩
/-- the arguments, then what is called -/
theorem args_read {xs : EXs} {g : List D → Store → Res D} {σ : St} {H : Hp} {Q : VK} {Q2 : List V → Hp → Prop} (hq : rdV T W (fun env S => (evEs (cxK P k) xs env S).bind g) σ H Q)
    (h : ∀ (φ : List Addr) (S : Store) (ds : List D) (H1 : Hp) (vs : List V), RepS T φ H1 S → RepVs T φ H1 vs ds → Post T (fun c d H => W c d σ H) (RV T) φ H1 (g ds S) Q → Q2 vs H1) : rds T W (evEs (cxK P k) xs) σ H Q2 := by
  obtain ⟨φ, env, S, r, p⟩ := hq
  exact ⟨φ, env, S, r, p.bind fun ds S1 φ1 H1 vs _ x1 s1 r1 p1 => h φ1 S1 ds H1 vs s1 r1 p1⟩
theorem call_def {y : String} {d : Def} (st : Sit P T X k W) (hd : P.defs y = some d) : ∃ f, X.mg (Str.ofString y) = some (.ref f) ∧ PySem.W.keepIn X.K (.ref f) = true ∧
    ∀ (pins : List (Addr × Obj)) (s : Shared) (σ : St) (H : Hp) (us : List Value) (vs : List V) (Q : VK), L2.Inv X pins σ H s → L2.Vals vs us → spD T (fun ds S => (cxK P k).call y ds S) vs H Q (WE W σ) → wpAny (model X.prog X.w) X.A (call (.ref f) us) (EP X pins σ Q) X.xe s := by
  obtain ⟨f, fd, ps, h1, h2, h3, h4⟩ := st.fx.fn y d hd
  refine ⟨f, h1, by rw [st.K]; exact h2, fun pins s σ H us vs Q I r hq => ?_⟩
  rw [← st.K] at h3 h4
  exact h4.call st.gd st.room h3 st.tk I r hq
theorem go_call {y : String} {xs : EXs} (ih : GoEs P T k xs) : GoE P T k (.call y xs) := GoE.of fun X W st e he => by
  unfold okE at he
  split at he
  · rename_i x p0 es pos0
    rw [Bool.and_eq_true] at he
    obtain ⟨rfl, hg, n1, _⟩ := okG_ok he.1
    refine ⟨?_, rfl⟩
    cases hdf : (cxK P k).defd y with
    | true =>
      have hq' : ∀ {σ H Q}, rdV T W (evE (cxK P k) (.call y xs)) σ H Q → rdV T W (fun env S => (evEs (cxK P k) xs env S).bind fun ds S => (cxK P k).call y ds S) σ H Q := fun {σ H Q} ⟨φ, env, S, r, p⟩ => ⟨φ, env, S, r, by
        simp only [evE] at p; rw [hdf, if_pos rfl] at p; exact p⟩
      obtain ⟨ha, _⟩ := ih X W st es he.2
      obtain ⟨d, hd⟩ := cxK_defd hdf
      obtain ⟨f, h1, h2, h3⟩ := call_def st hd
      cases es with
      | nil =>
        refine (pe_callFn0 (p := p0) (pos := pos0) (R := fun σ vs H Q => spD T (fun ds S => (cxK P k).call y ds S) vs H Q (WE W σ)) h1 h2 hg n1 h3).imp fun σ H Q hq => ?_
        cases xs with
        | nil =>
          obtain ⟨φ, env, S, r, p⟩ := hq' hq
          exact ⟨φ, S, [], r.sto, .nil, p⟩
        | cons x' xs => cases he.2
      | cons e es =>
        cases xs with
        | nil => cases he.2
        | cons x' xs =>
          have hes : (okE X.N X.env.scope x' e && okEs X.N X.env.scope xs es) = true := he.2
          rw [Bool.and_eq_true] at hes
          refine (pe_callFn (p := p0) (pos := pos0) (R := fun σ vs H Q => spD T (fun ds S => (cxK P k).call y ds S) vs H Q (WE W σ)) h1 h2 hg n1 ha (okE_plain hes.1) hes.2 h3).imp fun σ H Q hq => ?_
          exact args_read (hq' hq) fun φ S ds H1 vs s r p => ⟨φ, S, ds, s, r, p⟩
    | false =>
      refine PE.never.imp fun σ H Q ⟨φ, env, S, r, p⟩ => ?_
      simp only [evE] at p
      rw [hdf, if_neg Bool.false_ne_true] at p
      exact p
  · cases he
/-! ### C(..) -/
def newR (T : Wr) (W : WX) (C : String) (g : List D → Store → Res D) : St → List V → Hp → VK → Prop := fun σ vs H Q => ∃ (φ : List Addr) (S : Store) (ds : List D), RepS T φ H S ∧ RepVs T φ H vs ds ∧
  Post T (fun c d H => W c d σ H) (RV T) φ H ((noExc (g (.loc S.length :: ds) (S ++ [.ins C []]))).bind fun r S' => match r with
    | .non => .ok (.loc S.length) S'
    | _ => .bad) Q
theorem new_def {C : String} {d : Def} {j : Nat} (hgd : P.gd = false) (st : Sit P T X k W) (hk : k = j + 1) (hd : P.meths C "__init__" = some d) : X.mg (Str.ofString C) = some (.ref (T.ca C)) ∧ PySem.W.keepIn X.K (.ref (T.ca C)) = true ∧
    ∀ (pins : List (Addr × Obj)) (s : Shared) (σ : St) (H : Hp) (us : List Value) (vs : List V) (Q : VK), L2.Inv X pins σ H s → L2.Vals vs us → newR T W C (fun ds S => (cxK P k).init C ds S) σ vs H Q → wpAny (model X.prog X.w) X.A (call (.ref (T.ca C)) us) (EP X pins σ Q) X.xe s := by
  obtain ⟨f, fd, ps, h1, h2, h3, h4⟩ := st.fx.nw hgd C d hd
  subst hk
  refine ⟨h1, by rw [st.K]; exact h2.kp, fun pins s σ H us vs Q I r ⟨φ, S, ds, s1, rs, p⟩ => ?_⟩
  have hK := st.K
  rw [← hK] at h2 h3 h4
  refine run_make (E := fun _ _ _ => False) (dvs := []) h2 h4 st.room h3 .nil (passes_call st.tk fun _ _ _ _ z => z.elim) I r fun x dx hx hdx hne => ?_
  rw [List.append_nil]
  have s2 : RepS T φ (upd H dx (.own x)) S := s1.aside hdx
  have x1 : Ext φ φ H (upd H dx (.own x)) := Ext.aside hdx
  have hx' : (upd H dx (.own x)) x = none := by rw [upd_ne (Ne.symm hne)]; exact hx
  have hxφ := s2.fresh hx'
  have x2 : Ext φ (φ ++ [x]) (upd H dx (.own x)) (upd (upd H dx (.own x)) x (.ins (T.ca C) dx [])) := Ext.alloc hx' hxφ
  have s3 : RepS T (φ ++ [x]) (upd (upd H dx (.own x)) x (.ins (T.ca C) dx [])) (S ++ [.ins C []]) := s2.alloc hx' ⟨dx, [], upd_same, .nil⟩
  have hloc : (φ ++ [x])[S.length]? = some x := by rw [← s1.len]; simp
  refine ⟨φ ++ [x], S ++ [.ins C []], .loc S.length :: ds, s3, .cons (.loc hloc) ((rs.ext s1 x1).ext s2 x2), ?_⟩
  have p := p.ext (x1.trans x2)
  dsimp only at p ⊢
  cases hr : (cxK P (j + 1)).init C (.loc S.length :: ds) (S ++ [.ins C []]) with
  | ok r S' =>
    rw [hr] at p
    cases r with
    | non =>
      intro φ' H' b x' s' rb
      cases rb
      exact ⟨rfl, p φ' H' (.ref x) x' s' (.loc (pre_at x'.pre hloc))⟩
    | _ => exact p.elim
  | exc y S' => rw [hr] at p; exact p.elim
  | bad => rw [hr] at p; exact p.elim
theorem go_new {y : String} {xs : EXs} (ih : GoEs P T k xs) : GoE P T k (.new y xs) := GoE.of fun X W st e he => by
  unfold okE at he
  split at he
  · rename_i x p0 es pos0
    rw [Bool.and_eq_true] at he
    obtain ⟨rfl, hg, n1, _⟩ := okG_ok he.1
    refine ⟨?_, rfl⟩
    cases hdf : (cxK P k).newd y with
    | true =>
      have hq' : ∀ {σ H Q}, rdV T W (evE (cxK P k) (.new y xs)) σ H Q → rdV T W (fun env S => (evEs (cxK P k) xs env S).bind fun ds S => (noExc ((cxK P k).init y (.loc S.length :: ds) (S ++ [.ins y []]))).bind fun r S' => match r with
        | .non => .ok (.loc S.length) S'
        | _ => .bad) σ H Q := fun {σ H Q} ⟨φ, env, S, r, p⟩ => ⟨φ, env, S, r, by
        simp only [evE] at p; rw [hdf, if_pos rfl] at p; exact p⟩
      obtain ⟨ha, _⟩ := ih X W st es he.2
      obtain ⟨hgd, d, j, hd, hk⟩ := cxK_newd hdf
      obtain ⟨h1, h2, h3⟩ := new_def hgd st hk hd
      cases es with
      | nil =>
        refine (pe_callFn0 (p := p0) (pos := pos0) (R := newR T W y fun ds S => (cxK P k).init y ds S) h1 h2 hg n1 h3).imp fun σ H Q hq => ?_
        cases xs with
        | nil =>
          obtain ⟨φ, env, S, r, p⟩ := hq' hq
          exact ⟨φ, S, [], r.sto, .nil, p⟩
        | cons x' xs => cases he.2
      | cons e es =>
        cases xs with
        | nil => cases he.2
        | cons x' xs =>
          have hes : (okE X.N X.env.scope x' e && okEs X.N X.env.scope xs es) = true := he.2
          rw [Bool.and_eq_true] at hes
          refine (pe_callFn (p := p0) (pos := pos0) (R := newR T W y fun ds S => (cxK P k).init y ds S) h1 h2 hg n1 ha (okE_plain hes.1) hes.2 h3).imp fun σ H Q hq => ?_
          exact args_read (hq' hq) fun φ S ds H1 vs s r p => ⟨φ, S, ds, s, r, p⟩
    | false =>
      refine PE.never.imp fun σ H Q ⟨φ, env, S, r, p⟩ => ?_
      simp only [evE] at p
      rw [hdf, if_neg Bool.false_ne_true] at p
      exact p
  · cases he
/-! ### methods -/
def Mt.id : Mt → String × String
  | .append => ("list", "list.append")
  | .extend => ("list", "list.extend")
  | .pop => ("list", "list.pop")
  | .get => ("dict", "dict.get")
  | .update => ("dict", "dict.update")
  | .index => ("list", "list.index")
  | .dpop => ("dict", "dict.pop")
  | .own _ => ("", "")
theorem kind_ty {m : Mt} {x : V} {d : D} {φ : List Addr} {S : Store} {H : Hp} (hK : X.K = T.K) (r : RepS T φ H S) (rd : RepV T φ H x d) (h : kindOk m d S = true) : tyV X.K m.id.1 x H := by
  cases d with
  | loc l =>
    cases rd with
    | loc hl =>
      cases m with
      | get =>
        simp only [kindOk] at h
        split at h
        · rename_i kvs hS
          obtain ⟨vs, h1, _⟩ := r.ob _ _ _ hS hl
          exact .inr (.inr (.inl ⟨rfl, .inl ⟨vs, h1⟩⟩))
        · rename_i kvs hS
          obtain ⟨vs, h1, _⟩ := r.ob _ _ _ hS hl
          exact .inr (.inr (.inl ⟨rfl, .inr ⟨vs, h1⟩⟩))
        · cases h
      | update =>
        simp only [kindOk] at h
        split at h
        · rename_i kvs hS
          obtain ⟨vs, h1, _⟩ := r.ob _ _ _ hS hl
          exact .inr (.inr (.inl ⟨rfl, .inl ⟨vs, h1⟩⟩))
        · rename_i kvs hS
          obtain ⟨vs, h1, _⟩ := r.ob _ _ _ hS hl
          exact .inr (.inr (.inl ⟨rfl, .inr ⟨vs, h1⟩⟩))
        · cases h
      | own q => cases h
      | dpop =>
        simp only [kindOk] at h
        split at h
        · rename_i kvs hS
          obtain ⟨vs, h1, _⟩ := r.ob _ _ _ hS hl
          exact .inr (.inr (.inl ⟨rfl, .inl ⟨vs, h1⟩⟩))
        · cases h
      | _ =>
        simp only [kindOk] at h
        split at h
        · rename_i kvs hS
          obtain ⟨vs, h1, _⟩ := r.ob _ _ _ hS hl
          exact .inl ⟨rfl, vs, SqL.of h1⟩
        · cases h
  | _ => cases m <;> cases h
theorem meth_read {a : EX} {m : Mt} {xs : EXs} (hm : ∀ q, m ≠ .own q) (st : Sit P T X k W) {σ : St} {H : Hp} {Q : VK} (hq : rdV T W (evE (cxK P k) (.meth a m xs)) σ H Q) :
    rdV T W (evE (cxK P k) a) σ H fun x H1 => tyV X.K m.id.1 x H1 ∧ rds T W (evEs (cxK P k) xs) σ H1 fun vs H2 => rMt T m x vs H2 Q := by
  obtain ⟨φ, env, S, r, p⟩ := hq
  have ev : evE (cxK P k) (.meth a m xs) env S = (evE (cxK P k) a env S).bind fun x S => if kindOk m x S then (evEs (cxK P k) xs env S).bind fun ds S => methD x m ds S else .bad := by
    cases m with
    | own q => exact absurd rfl (hm q)
    | _ => simp only [evE]
  rw [ev] at p
  refine ⟨φ, env, S, r, p.bind fun d S1 φ1 H1 x _ x1 s1 r1 p1 => ?_⟩
  split at p1
  · rename_i hk
    refine ⟨kind_ty st.K s1 r1 hk, φ1, env, S1, r.ext x1 s1, p1.bind fun ds S2 φ2 H2 vs _ x2 s2 r2 p2 => ?_⟩
    exact ⟨_, φ2, S2, d, ds, s2, r1.ext s1 x2, r2, p2⟩
  · exact p1.elim
theorem go_bm {a : EX} {m : Mt} {xs : EXs} (hm : ∀ q, m ≠ .own q) {T' id : String} (hid : m.id = (T', id)) (iha : GoE P T k a) (ih : GoEs P T k xs) (pa : PlainAttrs T') (slot : Slot T' (Str.ofString m.nm) id) (hty : typeOf (.builtin id) = pure (.type "method_descriptor"))
    (hmt : ∀ X W, Sit P T X k W → MtR X id (rMt T m)) : GoE P T k (.meth a m xs) := GoE.of fun X W st e he => by
  unfold okE at he
  split at he
  · simp only [Bool.and_eq_true, decide_eq_true_eq] at he
    obtain ⟨⟨⟨⟨⟨rfl, h2⟩, h3⟩, h4⟩, h5⟩, h6⟩ := he
    refine ⟨?_, rfl⟩
    have hid1 : m.id.1 = T' := by rw [hid]
    rename_i l _ apos es pos
    cases es with
    | nil =>
      refine (pe_bm0 pa slot hty (hmt X W st) (iha X W st _ h5).1 (base_rcv h2) h3).imp fun σ H Q hq => ?_
      obtain ⟨φ, env, S, r, p⟩ := meth_read hm st hq
      refine ⟨φ, env, S, r, p.imp fun x H1 ⟨h7, φ', env', S', r', p'⟩ => ⟨by rw [← hid1]; exact h7, ?_⟩⟩
      cases xs with
      | nil => exact p'.ok r'.sto .nil
      | cons _ _ => cases h6
    | cons e es =>
      cases xs with
      | nil => cases h6
      | cons x' xs =>
        have hes : (okE X.N X.env.scope x' e && okEs X.N X.env.scope xs es) = true := h6
        rw [Bool.and_eq_true] at hes
        refine (pe_bm pa slot hty (hmt X W st) (iha X W st _ h5).1 (ih X W st _ h6).1 (base_rcv h2) (few_ok h6 h4) h3 (starEach_plain (okE_plain hes.1)) (starEach_none hes.2 _)).imp fun σ H Q hq => ?_
        obtain ⟨φ, env, S, r, p⟩ := meth_read hm st hq
        exact ⟨φ, env, S, r, p.imp fun x H1 ⟨h7, q⟩ => ⟨by rw [← hid1]; exact h7, q⟩⟩
  · cases he
theorem meth_def {C m : String} {d : Def} (st : Sit P T X k W) (hd : P.meths C m = some d) : ∃ f, ∀ a, rcvOk X (Str.ofString m) (fun a σ vs H Q => spD T (fun ds S => (cxK P k).meth C m ds S) (.ref a :: vs) H Q (WE W σ)) a (T.ca C) f := by
  obtain ⟨c, f, fd, ps, h1, h3, h4⟩ := st.fx.mt C m d hd
  rw [← st.K] at c h1 h3 h4
  refine ⟨f, fun a => ⟨c, h1, fun pins s σ H us vs Q I r hq => ?_⟩⟩
  exact h4.call st.gd st.room h3 st.tk I (.cons (show L2.RelV (.ref a) (.ref a) from rfl) r) hq
theorem cxK_methd {C m : String} (h : (cxK P k).methd C m = true) : ∃ d, P.meths C m = some d := by
  cases k with
  | zero => simp only [cxK] at h; cases h
  | succ n => simp only [cxK] at h; exact Option.isSome_iff_exists.mp h
theorem own_read {a : EX} {m : String} {xs : EXs} (st : Sit P T X k W) {σ : St} {H : Hp} {Q : VK} (hq : rdV T W (evE (cxK P k) (.meth a (.own m) xs)) σ H Q) :
    rdV T W (evE (cxK P k) a) σ H fun x H1 => ∃ a C f dx fs, x = .ref a ∧ H1 a = some (.ins C dx fs) ∧ fs.lookup (Str.ofString m) = none ∧ ∃ C', C = T.ca C' ∧ rcvOk X (Str.ofString m) (fun a σ vs H Q => spD T (fun ds S => (cxK P k).meth C' m ds S) (.ref a :: vs) H Q (WE W σ)) a C f ∧
      rds T W (evEs (cxK P k) xs) σ H1 fun vs H2 => spD T (fun ds S => (cxK P k).meth C' m ds S) (.ref a :: vs) H2 Q (WE W σ) := by
  obtain ⟨φ, env, S, r, p⟩ := hq
  simp only [evE] at p
  refine ⟨φ, env, S, r, p.bind fun d S1 φ1 H1 x _ x1 s1 r1 p1 => ?_⟩
  cases d with
  | loc l =>
    cases r1 with
    | @loc a0 _ hl =>
      dsimp only at p1
      split at p1
      · rename_i C fs hS
        split at p1
        · rename_i hc
          rw [Bool.and_eq_true] at hc
          obtain ⟨d, hd⟩ := cxK_methd hc.2
          obtain ⟨f, hf⟩ := meth_def st hd
          obtain ⟨dx, vfs, e1, e2⟩ := s1.ob _ _ _ hS hl
          refine ⟨a0, _, f, dx, vfs, rfl, e1, (fs_lookup m e2).1 (Option.isNone_iff_eq_none.mp hc.1), C, rfl, hf a0, φ1, env, S1, r.ext x1 s1, p1.bind fun ds S2 φ2 H2 vs _ x2 s2 r2 p2 => ?_⟩
          exact ⟨φ2, S2, .loc l :: ds, s2, .cons (.loc (pre_at x2.pre hl)) r2, p2⟩
        · exact p1.elim
      · exact p1.elim
  | _ => exact p1.elim
theorem go_own {a : EX} {m : String} {xs : EXs} (iha : GoE P T k a) (ih : GoEs P T k xs) : GoE P T k (.meth a (.own m) xs) := GoE.of fun X W st e he => by
  unfold okE at he
  split at he
  · simp only [Bool.and_eq_true, decide_eq_true_eq] at he
    obtain ⟨⟨⟨⟨⟨rfl, h2⟩, h3⟩, h4⟩, h5⟩, h6⟩ := he
    refine ⟨?_, rfl⟩
    rename_i l apos es pos
    cases es with
    | nil =>
      refine ⟨fun pins s σ H Q I hq => ?_⟩
      cases xs with
      | nil =>
        have hq := own_read st hq
        refine PySem.W.methodCall_KW (pl := (do return (← importBound l X.env).getD true)) (thn ((iha X W st _ h5).1.run pins s σ H _ I hq) fun u s1 ⟨x, H1, I1, rx, a, C, f, dx, fs, ex, ea, hl, C', _, ⟨c, hm, run⟩, q⟩ => ?_) (eval_meth (base_rcv h2) rfl h3)
        subst ex
        obtain rfl : u = Value.ref a := rx
        refine getmeth_ok I1 ea c hm hl ?_
        obtain ⟨φ', env', S', r', p'⟩ := q
        exact PySem.W.callWith_K0 (first := [.ref a]) I1.kIn hm.kp (run pins s1 σ H1 [] [] Q I1 .nil (p'.ok r'.sto .nil))
      | cons _ _ => cases h6
    | cons e es =>
      cases xs with
      | nil => cases h6
      | cons x' xs =>
        have hes : (okE X.N X.env.scope x' e && okEs X.N X.env.scope xs es) = true := h6
        rw [Bool.and_eq_true] at hes
        have hlen : (e :: es).length < 20 := of_decide_eq_true h4
        refine ⟨fun pins s σ H Q I hq => ?_⟩
        have hq := own_read st hq
        refine PySem.W.methodCall_KW (pl := (do return (← importBound l X.env).getD true)) (thn ((iha X W st _ h5).1.run pins s σ H _ I hq) fun u s1 ⟨x, H1, I1, rx, a, C, f, dx, fs, ex, ea, hl, C', _, ⟨c, hm, run⟩, q⟩ => ?_) (eval_meth (base_rcv h2) ?_ h3)
        · subst ex
          obtain rfl : u = Value.ref a := rx
          refine getmeth_ok I1 ea c hm hl ?_
          refine PySem.W.callWith_K (first := [.ref a]) (h₀ := X.base) I.ok.mod.kin hm.kp (thn ((ih X W st _ h6).1.run pos pins s1 σ H1 _ I1 q) fun us s2 ⟨vs, H2, I2, r, q2⟩ => ⟨I2.kIn, ?_⟩) (starEach_plain (okE_plain hes.1)) (starEach_none hes.2 pos)
          exact run pins s2 σ H2 us vs Q I2 r q2
        · unfold methodCallForm
          rw [starEach_all h6]
          simp only [Bool.true_and, Bool.and_eq_true, decide_eq_true_eq]
          refine ⟨rfl, ?_⟩
          show (e :: es).length + 0 + 0 < 30
          omega
  · cases he
theorem go_meth {a : EX} {m : Mt} {xs : EXs} (iha : GoE P T k a) (ih : GoEs P T k xs) : GoE P T k (.meth a m xs) := by
  cases m with
  | append => exact go_bm (fun q z => by cases z) rfl iha ih PySem.F.plainAttrs_list PySem.F.slot_list_append PySem.F.type_list_append fun X W st => mt_appendD
  | extend => exact go_bm (fun q z => by cases z) rfl iha ih PySem.F.plainAttrs_list PySem.F.slot_list_extend PySem.F.type_list_extend fun X W st => mt_extendD
  | pop => exact go_bm (fun q z => by cases z) rfl iha ih PySem.F.plainAttrs_list PySem.F.slot_list_pop PySem.F.type_list_pop fun X W st => mt_popD
  | get => exact go_bm (fun q z => by cases z) rfl iha ih PySem.F.plainAttrs_dict PySem.F.slot_dict_get PySem.F.type_dict_get fun X W st => mt_getD st.hu
  | update => exact go_bm (fun q z => by cases z) rfl iha ih PySem.F.plainAttrs_dict PySem.F.slot_dict_update PySem.F.type_dict_update fun X W st => mt_updateD st.hu2
  | index => exact go_bm (fun q z => by cases z) rfl iha ih PySem.F.plainAttrs_list PySem.F.slot_list_index PySem.F.type_list_index fun X W st => mt_indexF (by have := st.hu2; omega) st.K
  | dpop => exact go_bm (fun q z => by cases z) rfl iha ih PySem.F.plainAttrs_dict PySem.F.slot_dict_pop PySem.F.type_dict_pop fun X W st => mt_dpopD
  | own m => exact go_own iha ih
/-! ### built-ins -/
def Bf.val : Bf → Value
  | .int => .type "int"
  | .tuple => .type "tuple"
  | .list => .type "list"
  | f => .builtin f.nm
theorem bf_ok (st : Sit P T X k W) (f : Bf) (ho : okBf f P.gd = true) : CallR X f.val (rBf T (bltD f)) := by
  cases f
  · exact cl_len st.K
  · exact cl_abs
  · exact cl_int
  · exact cl_max st.calm st.K
  · exact cl_min st.calm st.K
  · exact cl_isi st.K
  · exact cl_tuple
  · exact cl_list
  · exact cl_repr st.K st.hu2 (st.gd ho)
  · exact cl_sorted st.calm st.K
theorem bf_boot (f : Bf) : bootBuiltins (Str.ofString f.nm) = some f.val := by cases f <;> decide +kernel
theorem bf_name (f : Bf) : f.nm ∈ bltNames := by cases f <;> decide
theorem go_blt {f : Bf} {xs : EXs} (ih : GoEs P T k xs) : GoE P T k (.blt f xs) := GoE.of fun X W st e he => by
  unfold okE at he
  split at he
  · rename_i x p0 es pos0
    simp only [Bool.and_eq_true] at he
    obtain ⟨⟨h1, h2⟩, h3⟩ := he
    obtain ⟨rfl, hg, n1, n2⟩ := okG_ok h1
    refine ⟨?_, rfl⟩
    cases es with
    | nil => cases h2
    | cons e es =>
      cases xs with
      | nil => cases h3
      | cons x' xs =>
        have hes : (okE X.N X.env.scope x' e && okEs X.N X.env.scope xs es) = true := h3
        rw [Bool.and_eq_true] at hes
        have hm := st.fx.blt _ (bf_name f)
        have hv := bf_boot f
        have hgd : (cxK P k).gd = P.gd := by cases k <;> simp only [cxK]
        cases ho : okBf f P.gd with
        | false =>
          refine PE.never.imp fun σ H Q ⟨φ, env, S, r, p⟩ => ?_
          simp only [evE, hgd, ho, Bool.false_eq_true, if_false] at p
          exact False.elim p
        | true =>
        have hc := bf_ok st f ho
        have main : PE X (.Call (.Name (Str.ofString f.nm) p0) (e :: es) [] pos0) (tCB (rBf T (bltD f)) (rds T W (evEs (cxK P k) (.cons x' xs)))) := by
          cases f with
          | int => exact pe_callTy hc hg hm hv (ih X W st _ h3).1 n2 n1 (starEach_plain (okE_plain hes.1)) (starEach_none hes.2 _)
          | tuple => exact pe_callTy hc hg hm hv (ih X W st _ h3).1 n2 n1 (starEach_plain (okE_plain hes.1)) (starEach_none hes.2 _)
          | list => exact pe_callTy hc hg hm hv (ih X W st _ h3).1 n2 n1 (starEach_plain (okE_plain hes.1)) (starEach_none hes.2 _)
          | _ => exact pe_callB hc hg hm hv (ih X W st _ h3).1 n2 n1 (starEach_plain (okE_plain hes.1)) (starEach_none hes.2 _)
        refine main.imp fun σ H Q hq => ?_
        refine args_read (g := bltD f) ?_ fun φ S ds H1 vs s r p => ⟨_, φ, S, ds, s, r, p⟩
        obtain ⟨φ, env, S, r, p⟩ := hq
        simp only [evE, hgd, ho, if_true] at p
        exact ⟨φ, env, S, r, p⟩
  · cases he
def Bl.val : Bl → Value
  | .tuple => .type "tuple"
  | .dict => .type "dict"
  | f => .builtin f.nm
theorem bl_ok (st : Sit P T X k W) (f : Bl) : CallR X f.val (rBl T (bllD f)) := by
  cases f
  · exact cb_all st.calm
  · exact cb_any st.calm
  · exact cb_tuple
  · exact cb_len
  · exact cb_dict st.hu2 st.calm st.K
  · exact cb_min st.calm st.hu st.K
theorem bl_boot (f : Bl) : bootBuiltins (Str.ofString f.nm) = some f.val := by cases f <;> decide +kernel
theorem bl_name (f : Bl) : f.nm ∈ bltNames := by cases f <;> decide
theorem go_bll {f : Bl} {l : LX} (ih : GoL P T k l) : GoE P T k (.bll f l) := GoE.of fun X W st e he => by
  unfold okE at he
  split at he
  · rename_i x p0 r0 pos0
    rw [Bool.and_eq_true] at he
    obtain ⟨rfl, hg, n1, n2⟩ := okG_ok he.1
    refine ⟨?_, rfl⟩
    have hm := st.fx.blt _ (bl_name f)
    have hv := bl_boot f
    have hc := bl_ok st f
    have hp := okL_plain he.2
    have ha : PA X [r0] (tCons (rdL T W (evL (cxK P k) l)) tNil) := pa_cons (ih X W st _ he.2) pa_nil (starEach_plain hp)
    have main : PE X (.Call (.Name (Str.ofString f.nm) p0) [r0] [] pos0) (tCB (rBl T (bllD f)) (tCons (rdL T W (evL (cxK P k) l)) tNil)) := by
      cases f with
      | tuple => exact pe_callTy hc hg hm hv ha n2 n1 (starEach_plain hp) rfl
      | dict => exact pe_callTy hc hg hm hv ha n2 n1 (starEach_plain hp) rfl
      | _ => exact pe_callB hc hg hm hv ha n2 n1 (starEach_plain hp) rfl
    refine main.imp fun σ H Q ⟨φ, env, S, r, p⟩ => ?_
    simp only [evE] at p
    refine ⟨φ, env, S, r, ?_⟩
    cases hl : evL (cxK P k) l env S with
    | ok ds S' =>
      rw [hl] at p
      intro φ' H' a vs x s ha hn hv rv
      exact ⟨_, φ', S', ds, a, vs, rfl, hv, s, rv, p.ext x⟩
    | exc x S' => rw [hl] at p; exact p
    | bad => rw [hl] at p; exact p
  · cases he
end
end Ev
end

section
set_option Elab.async false
set_option linter.all false
set_option maxRecDepth 100000
set_option maxHeartbeats 1000000
set_option autoImplicit false
/-! Ev11l: f(lambda: e), f a def that calls it and tells a word. -/
namespace Ev
open PySem PySem.Spec L2
open PyProof.Rows hiding St

/-- where the def g runs that got a lambda -/
abbrev inG (X : Cx) (x a : Str) (sg : Scope) (g : Addr) (cdg : Value) (s : Shared) (H : Hp) : Cx := cxOf C8.CX0 X.prog X.w X.K X.mg X.base [a] x sg g cdg X.A X.stack s H C8.E0
section
variable {X : Cx} {pins : List (Addr × Obj)} {σ : L2.St} {H : Hp} {s : Shared}
theorem thunk {x a : Str} {sg scope : Scope} {g f c' : Addr} {cdg pm ctv : Value} {ps : Arguments} {body : Expr} {j : Nat} {pn : List (Addr × Obj)} {xe : Value → Shared → Prop} {V0 : WX} {E : XK} {tb : TE} {p1 p2 : Pos}
    (I : L2.Inv X pins σ H s) (L : LamX.LamS X.env.scope scope)
    (at_f : s.heap.get? f = some (PySem.W.kla_obj "<lambda>" (X.env.qual ++ "<lambda>") ps body scope (cloFrom X.env.cells scope.names []) pm c' ctv))
    (new_f : H f = none) (out_f : f ∉ frs X.stack)
    (bound : bindArgs (PySem.W.kla_fn "<lambda>" (X.env.qual ++ "<lambda>") ps body scope (cloFrom X.env.cells scope.names []) pm (.ref c') ctv) ⟨[], []⟩ = pure [])
    (tk : Takes ((inG X x a sg g cdg s H).tr pn xe) V0) (pass : ∀ c d σ' H', E c d H' → V0 c d σ' H')
    (room : Room (j + 1) (X.A.deeper (envOfC x sg s.heap.objs.size g cdg)))
    (run : ∀ (s1 : Shared) (H1 : Hp), Room j ((X.A.deeper (envOfC x sg s.heap.objs.size g cdg)).deeper (LamX.lamEnv X scope s1.heap.objs.size f c')) →
      PE (LamX.lamCx X (X.A.deeper (envOfC x sg s.heap.objs.size g cdg)) (envOfC x sg s.heap.objs.size g cdg :: X.stack) s1 H1 E scope f c') body tb)
    (vis : okV [a] sg 0 a = true) :
    PE ((inG X x a sg g cdg s H).tr pn xe) (.Call (.Name a p1) [] [] p2) (fun σZ HZ Q => σZ[0]? = some (some (.ref f)) ∧ HZ c' = some (LamX.CodeO c' (X.env.qual ++ "<lambda>")) ∧ tb σ HZ Q) := by
  unfold okV at vis
  simp only [Bool.and_eq_true, decide_eq_true_eq] at vis
  obtain ⟨n1, n2, _⟩ := plainN_ok vis.2
  constructor
  rintro pins2 s2 σ2 H2 Q I2 ⟨slot, code, q⟩
  refine wpAny_Call_Name_kw (thn ((pe_var (pos := p1) (i := 0) rfl (visB_ok vis.1.2) n1 n2).run pins2 s2 σ2 H2 (fun v K => v = .ref f ∧ K = H2) I2 ⟨.ref f, slot, rfl, rfl⟩) ?_)
  rintro u s3 ⟨v, H3, I3, rv, rfl, rfl⟩
  obtain rfl : u = Value.ref f := rv
  have none_in : ∀ {b : Addr}, b ∉ ([] : List Addr) := fun z => nomatch z
  have at3 := I3.base.keep f _ at_f new_f out_f none_in
  refine PySem.W.callWith_F0 ⟨_, _, _, _, at3⟩ ?_
  have un : Un (frs X.stack) [] H H3 s.heap s3.heap := I3.base
  obtain ⟨⟨oc, vs, t, k1, k2, k3⟩, -, -⟩ := I3.hok c' _ code
  have depth := room.depth
  have E0 := I3.env0
  have inner : codeAny (model X.prog X.w) (X.A.deeper (envOfC x sg s.heap.objs.size g cdg)) (.call (.ref f) ⟨[], []⟩) (CR (L2.CX X.prog X.w) (envOfC x sg s.heap.objs.size g cdg :: X.stack) X.prog X.w H3 s3 Q E) s3 := by
    refine PySem.W.kla_callFunE depth at3 rfl L.co L.gen rfl ⟨c', oc, vs, t, rfl, k1, k2, k3⟩ ?_
    rw [bound]
    refine wpAny_pure (wpAny_newFunctionEnv (fun y hy => (L.own y hy).2) (fun y hy => nomatch hy) (fun h1 ns sub => ⟨I3.nolimit.fresh _ sub, ?_⟩) L.kind)
    show codeAny _ _ (.expr body (LamX.lamEnv X scope s3.heap.objs.size f c')) _ _
    have older : ∀ b o, s3.heap.get? b = some o → h1.get? b = some o := fun b o e => by
      have := Heap.lt_size e
      exact sub.extBut b o (Nat.ne_of_lt this) (Heap.get?_push_of_some _ e)
    have J := LamX.lam_start2 (E := E) (f := f) (c' := c') (tk := s3.toks + ([] : List (Str × Value)).length) I L E0 room.hd un ns older
    have go := (run s3 H3 (room.deeper _)).run [] _ _ H3 Q J q
    refine PySem.W.kla_codeExpr (wpAny_mono go ?_ fun e s' z => z)
    rintro v s' ⟨w, H', J', rw', q'⟩
    exact ⟨w, H', J'.os, J'.bare, J'.base, J'.hok, rw', q'⟩
  have out := passes_call tk pass
  refine wpAny_call (codeAny_mono inner ?_)
  intro r s' z
  rcases r with e | fl
  · exact out pins2 σ2 H3 s3 e s' I3 z
  · cases fl with
    | ret u => exact I3.after z
    | next => exact z.elim
    | brk => exact z.elim
    | cont => exact z.elim
/-- the clauses -/
def hdsL (T : Wr) (hs : List (String × Str)) : List (Value × (Addr → Value → Option Addr → TS)) := hs.map fun h => (.ref (T.ca h.1), fun _ _ _ D σ H => D.rt (.str h.2) H)
theorem hds_ok {P : Prg} {T : Wr} {Z : Cx} {sg : Scope} {j : Nat} (fx : Facts P T Z.prog Z.w Z.mg Z.base j) (hsg : Z.env.scope = sg) : ∀ (hs : List (String × Str)) (hds : List ExceptHandler), hdTx sg hs hds = true → (∀ h ∈ hs, P.xc h.1 = true) → HdsOk Z hds (hdsL T hs)
  | [], [], _, _ => .nil
  | [], _ :: _, h, _ => by cases h
  | h :: hs, [], e, _ => by cases e
  | (C, w) :: hs, hd :: hds, e, q => by
    unfold hdTx at e
    split at e
    · rename_i h; cases h
    · rename_i C' w' hs' e' p1 r j' p2 p3 p4 hds' e1 e2
      cases e1; cases e2
      simp only [Bool.and_eq_true, decide_eq_true_eq] at e
      obtain ⟨⟨g1, rfl⟩, g3⟩ := e
      obtain ⟨rfl, hg, d1, d2⟩ := okG_ok g1
      obtain ⟨m1, _⟩ := fx.xc C (q _ List.mem_cons_self)
      refine .cons ⟨by show Z.env.scope.names.lookup _ = _; rw [hsg]; exact hg, d1, .inl m1⟩ (fun a oe cls d pn _ _ => ?_) (hds_ok fx hsg hs hds g3 fun h hh => q h (List.mem_cons_of_mem _ hh))
      exact pss_one (ps_ret pe_str)
    · cases e
/-- what the clauses make of an exception -/
theorem wish_ok {P : Prg} {T : Wr} {K : PySem.W.Frag} {D : Ends} {C : String} {d : Option Addr} {σ : L2.St} {H : Hp} (hx : ∀ C', P.xc C' = true → PySem.W.exmOne K (.ref (T.ca C)) (.ref (T.ca C')) = some (decide (C = C'))) : ∀ (hs : List (String × Str)), (∀ h ∈ hs, P.xc h.1 = true) →
    (∀ h, hs.find? (fun h => decide (h.1 = C)) = some h → D.rt (.str h.2) H) → (hs.find? (fun h => decide (h.1 = C))).isSome = true → wMany K (fun _ _ _ _ => False) D (hdsL T hs) (.ref (T.ca C)) d σ H
  | [], _, _, h => by cases h
  | (C', w') :: hs, q, r, h => by
    refine ⟨decide (C = C'), hx C' (q _ List.mem_cons_self), fun e a _ => ?_, fun e => ?_⟩
    · have e := of_decide_eq_true e
      exact r (C', w') (by rw [List.find?_cons, decide_eq_true e.symm])
    · have e := of_decide_eq_false e
      have e2 : decide (C' = C) = false := decide_eq_false fun z => e z.symm
      rw [List.find?_cons, e2] at h
      exact wish_ok hx hs (fun h hh => q h (List.mem_cons_of_mem _ hh)) (fun g hg => r g (by rw [List.find?_cons, e2]; exact hg)) h
end
/-! ### other names in the slots that nobody sees -/
section
variable {X : Cx} {N' : List Str} {pins : List (Addr × Obj)} {σ : L2.St} {H : Hp} {s : Shared}
theorem Inv_ren (I : L2.Inv X pins σ H s) (len : N'.length = X.N.length) (h : ∀ (i : Nat) (x : Str), N'[i]? = some x → Vis X.env.scope x → X.N[i]? = some x) : L2.Inv { X with N := N' } pins σ H s := by
  obtain ⟨ok, g1, g2, g3, ⟨m, l1, l2⟩, g5, g6, g7, g8, g9, g10⟩ := I
  obtain ⟨k1, k2, k3, k4, k5, k6, k7, k8, k9, k10, k11, k12, k13, k14, k15, k16, k17, k18⟩ := ok
  exact ⟨⟨k1, k2, k3, k4, k5, k6, k7, k8, k9, k10, k11, k12, k13, k14, k15, k16, k17, k18⟩, g1, g2, g3, ⟨m, l1, fun i x v e1 e2 e3 => l2 i x v (h i x e1 e3) e2 e3⟩, g5, g6, g7, g8, g9, g10.trans len.symm⟩
theorem Inv_back (I : L2.Inv { X with N := N' } pins σ H s) (len : N'.length = X.N.length) (h : ∀ (i : Nat) (x : Str), X.N[i]? = some x → Vis X.env.scope x → N'[i]? = some x) : L2.Inv X pins σ H s := by
  obtain ⟨ok, g1, g2, g3, ⟨m, l1, l2⟩, g5, g6, g7, g8, g9, g10⟩ := I
  obtain ⟨k1, k2, k3, k4, k5, k6, k7, k8, k9, k10, k11, k12, k13, k14, k15, k16, k17, k18⟩ := ok
  exact ⟨⟨k1, k2, k3, k4, k5, k6, k7, k8, k9, k10, k11, k12, k13, k14, k15, k16, k17, k18⟩, g1, g2, g3, ⟨m, l1, fun i x v e1 e2 e3 => l2 i x v (h i x e1 e3) e2 e3⟩, g5, g6, g7, g8, g9, g10.trans len⟩
theorem PE_ren {e : Expr} {t : TE} (p : PE { X with N := N' } e t) (len : N'.length = X.N.length) (h1 : ∀ (i : Nat) (x : Str), N'[i]? = some x → Vis X.env.scope x → X.N[i]? = some x) (h2 : ∀ (i : Nat) (x : Str), X.N[i]? = some x → Vis X.env.scope x → N'[i]? = some x) : PE X e t :=
  ⟨fun pins s σ H Q I q => wpAny_mono (p.run pins s σ H Q (Inv_ren I len h1) q) (fun u s' ⟨v, H', I', rv, z⟩ => ⟨v, H', Inv_back I' len h2, rv, z⟩) fun _ _ z => z⟩
end
theorem vis_B {sc : Scope} {x : Str} (h : Vis sc x) : visB sc x = true := by
  unfold visB
  rcases h with h | h | h <;> rw [h]
theorem unmark_vis {N : List Str} {sc : Scope} (h1 : visB sc "<lambda>" = false) (h2 : visB sc "<none>" = false) (i : Nat) (x : Str) (hv : Vis sc x) : (unmark N)[i]? = some x ↔ N[i]? = some x := by
  have hv := vis_B hv
  unfold unmark
  rw [List.getElem?_map]
  cases N[i]? with
  | none => simp
  | some y =>
    simp only [Option.map_some, Option.some.injEq]
    by_cases e : y = "<lambda>"
    · rw [if_pos e, e]
      constructor
      · rintro rfl; rw [h2] at hv; cases hv
      · rintro rfl; rw [h1] at hv; cases hv
    · rw [if_neg e]
section
variable {P : Prg} {T : Wr} {k : Nat}
theorem ext_tabs {φ : List Addr} {H H1 : Hp} {S : Store} (s : RepS T φ H S) (e : LamX.ExtN H H1) (t : LamX.Tabs T.tabs H1) : Ext φ φ H H1 ∧ RepS T φ H1 S := by
  have x : Ext φ φ H H1 := ⟨List.prefix_refl _, fun a h => .inl h, fun b o h _ n => e b o h n⟩
  refine ⟨x, s.len, s.nd, fun l o a e1 e2 => ?_, t⟩
  have h := s.ob l o a e1 e2
  obtain ⟨u, eu, _, hu⟩ := h.mut
  exact h.ext s x ((e a u eu hu).trans eu.symm)
theorem lamP_ok {ps : Arguments} (h : lamP ps = true) : ps = ⟨[], [], none, [], [], none, []⟩ := by
  unfold lamP at h
  split at h
  · rfl
  · cases h
theorem go_lamw {x : String} {b : EX} (ih : ∀ j, GoE P T j b) : GoE P T k (.lamw x b) := GoE.of fun X W st e he => by
  unfold okE at he
  split at he
  · rename_i xn p0 ps body scope lpos pos
    simp only [Bool.and_eq_true] at he
    obtain ⟨⟨⟨⟨⟨h1, h2⟩, h3⟩, h4⟩, ⟨⟨⟨u1, u2⟩, u3⟩, u4⟩⟩, h5⟩ := he
    simp only [decide_eq_true_eq, Bool.not_eq_true'] at u1 u2 u3 u4
    obtain ⟨rfl, hg, n1, _⟩ := okG_ok h1
    refine ⟨?_, rfl⟩
    have never : (∀ env S, evE (cxK P k) (.lamw x b) env S = .bad) → PE X (.Call (.Name (Str.ofString x) p0) [.Lambda ps body scope lpos] [] pos) (rdV T W (evE (cxK P k) (.lamw x b))) := fun z => by
      refine PE.never.imp fun σ H Q ⟨φ, env, S, r, p⟩ => ?_
      rw [z] at p
      exact p
    match k, st with
    | 0, st => exact never fun env S => by simp only [evE, cxK]
    | 1, st => exact never fun env S => by simp only [evE, cxK]
    | j + 2, st =>
      cases hw : P.wrd x with
      | none => exact never fun env S => by simp only [evE, cxK, hw, wordR]
      | some ht =>
        obtain ⟨hs, told⟩ := ht
        obtain ⟨g, fd, pg, bg, sg, a, mg, F, hb, SG, va, tx, xcs⟩ := st.fx.wrd x hs told hw
        obtain ⟨hcode, Pt, hT⟩ := st.lm h2
        have TB := st.fx.tbs (Pt, X.env.qual ++ "<lambda>") (by rw [hT]; exact List.mem_singleton.mpr rfl)
        have L := LamX.lamS_by h4
        obtain rfl := lamP_ok h3
        have low := st.low j (Nat.le_refl _)
        obtain ⟨oc, od, dV, kV, doc, pm0, an, cdv, ct, osl, rfl, lk, hcd, -, -⟩ := F.ex
        rw [← st.K] at lk hcd
        -- the def's text
        unfold wordTx at tx
        split at tx
        rotate_left
        · cases tx
        rename_i b1 q1 q2 q3 hds q4 r1 i1 q5 q6
        simp only [Bool.and_eq_true, decide_eq_true_eq, Bool.not_eq_true'] at tx
        obtain ⟨⟨⟨rfl, rfl⟩, t3⟩, t4⟩ := tx
        cases hds with
        | nil => cases hs with
          | nil => cases t3
          | cons h hs => cases t4
        | cons h0 hds =>
        constructor
        rintro pins s σ H Q I ⟨φ, env, S, r, p⟩
        simp only [evE, cxK, hw] at p
        have hfree := L.has I.ok
        refine wpAny_Call_Name_kw (ld_glob I hg mg ?_ n1)
        refine PySem.W.callWith_K (h₀ := X.base) I.ok.mod.kin (by rw [st.K]; exact F.kp) ?_ (by rfl) (by rfl)
        change wpAny _ _ (spliced [(false, eval (.Lambda ⟨[], [], none, [], [], none, []⟩ body scope lpos) X.env)]) _ _ s
        have sole : ∀ p ∈ T.tabs, p.1 = Pt → p.2 = X.env.qual ++ "<lambda>" := fun p hp _ => by
          rw [hT] at hp
          rw [List.mem_singleton.mp hp]
        refine Calls.spliced_cons (LamX.lam_make2 (T := T.tabs) I TB hcode (by rw [hT]; exact List.mem_singleton.mpr rfl) sole r.sto.tab (by rfl) hfree ?_)
        intro f c' pm ctv H1 s1 I1 eN T1 at_f new_f out_f co
        refine Calls.spliced_nil ⟨I1.kIn, ?_⟩
        obtain ⟨x1, s1'⟩ := ext_tabs r.sto eN T1
        have rr := r.ext x1 s1'
        have pp := p.ext x1
        have inner : codeAny (model X.prog X.w) X.A (.call (.ref g) ⟨[.ref f], []⟩) (CR C8.CX0 X.stack X.prog X.w H1 s1 Q C8.E0) s1 := by
          refine LamX.run_ofS (N := [b1]) (ps := [b1]) (us := [.ref f]) (vs := [.ref f]) lk hcd SG st.room I1.env0 (by have := hb s1 [.ref f] (by rw [← st.K]; exact I1.kIn) rfl; exact this) (.cons rfl .nil) rfl fun room => ?_
          refine ⟨_, PSs.nox (pss_cons (ps_try_many (X := (inG X (Str.ofString x) b1 sg g cdv s1 H1).nox) (Wout := fun _ _ _ _ => False)
            (tb := fun V0 D σ2 H2 => ∃ E : XK, (∀ c d σ' H', E c d H' → V0 c d σ' H') ∧ σ2[0]? = some (some (.ref f)) ∧ H2 c' = some (LamX.CodeO c' (X.env.qual ++ "<lambda>")) ∧ rdV T (fun c d _ H => E c d H) (evE (cxK P j) b) σ H2 fun _ H' => D.nx σ2 H')
            rfl rfl LamX.takes0 (fun V0 pn xe tk _ => ?_) (hds_ok (Z := (inG X (Str.ofString x) b1 sg g cdv s1 H1).nox) (sg := sg) (j := j) low rfl hs (h0 :: hds) t4 xcs)) (pss_one (ps_ret pe_str))), ?_⟩
          · refine ⟨fun pins3 s3 σ3 H3 D I3 ⟨E, pass, g1, g2, g3⟩ => ?_⟩
            have hp := thunk (E := E) (tb := rdV T (fun c d _ H => E c d H) (evE (cxK P j) b)) (p1 := q1) (p2 := q2) (xe := xe) (pn := pn) I1 L at_f new_f out_f (by rfl) tk pass room (fun s4 H4 rm => ?_) va
            · have hq := pss_one (ps_expr (pos := q3) hp (by rfl))
              exact hq.run pins3 s3 σ3 H3 D I3 ⟨g1, g2, g3⟩
            · refine PE_ren (N' := unmark X.N) ?_ (by unfold unmark; rw [List.length_map]; rfl) (fun i y e v => (unmark_vis u3 u4 i y v).mp e) (fun i y e v => (unmark_vis u3 u4 i y v).mpr e)
              refine ((ih j) { LamX.lamCx X (X.A.deeper (envOfC (Str.ofString x) sg s1.heap.objs.size g cdv)) (envOfC (Str.ofString x) sg s1.heap.objs.size g cdv :: X.stack) s4 H4 E scope f c' with N := unmark X.N } (fun c d _ H => E c d H) ⟨rfl, u1, rm, st.gd, takes_of rfl rfl rfl rfl, st.K, st.W, low, fun i hi => st.low i (by omega), fun z => ?_⟩ body h5).1
              rw [show lamMark (unmark X.N) = true from z] at u2
              cases u2
          · refine ⟨fun c d H' => ∀ σ', wMany X.K (fun _ _ _ _ => False) { nx := fun _ H' => Q (.str r1) H', rt := Q } (hdsL T hs) c d σ' H', fun c d σ' H' z => z σ', rfl, co, φ, env, S, rr, ?_⟩
            cases he' : evE (cxK P j) b env S with
            | ok d S' =>
              rw [he'] at pp
              intro φ2 H2 v x2 s2 rv
              exact pp φ2 H2 (.str r1) x2 s2 (.str r1)
            | exc y S' =>
              rw [he'] at pp
              unfold wordR at pp
              dsimp only at pp
              split at pp
              · rename_i hy
                split at pp
                · rename_i h hh
                  rintro φ2 H2 cls dx x2 s2 ⟨rfl, _, _⟩ σ'
                  refine wish_ok (P := P) (fun C' hC => by rw [st.K]; exact low.exm _ C' hy hC) hs xcs (fun h' e => ?_) (by rw [hh]; rfl)
                  rw [hh] at e
                  cases e
                  exact pp φ2 H2 (.str h.2) x2 s2 (.str h.2)
                · exact pp.elim
              · exact pp.elim
            | bad => rw [he'] at pp; exact pp
        refine wpAny_call (codeAny_mono inner fun r s2 z => ?_)
        rcases r with e | fl
        · exact (show False from z).elim
        · cases fl with
          | ret u => exact I1.after z
          | next => exact z.elim
          | brk => exact z.elim
          | cont => exact z.elim
  · cases he
end
end Ev
end

section
set_option Elab.async false
set_option linter.all false
set_option maxRecDepth 100000
set_option maxHeartbeats 1000000
set_option autoImplicit false
/-! Ev11v: functions and bound methods as values, displays of dicts, list(range(..)). -/
namespace Ev
open PySem PySem.Spec L2
open PyProof.Rows hiding St

section
variable {P : Prg} {T : Wr} {X : Cx} {k : Nat} {W : WX}
theorem cxK_bmd : (cxK P k).bmd = P.bm := by cases k <;> simp only [cxK]
theorem go_fnv {x : String} : GoE P T k (.fnv x) := GoE.of fun X W st e he => by
  unfold okE at he
  split at he
  · rename_i y pos
    obtain ⟨rfl, hg, n1, _⟩ := okG_ok he
    refine ⟨?_, rfl⟩
    cases hd : (cxK P k).defd x with
    | false =>
      refine PE.never.imp fun σ H Q ⟨φ, env, S, r, p⟩ => ?_
      simp only [evE] at p
      rw [hd, if_neg Bool.false_ne_true] at p
      exact p
    | true =>
      obtain ⟨d, hd'⟩ := cxK_defd hd
      have hm := st.fx.fna x d hd'
      refine (pe_glob (v := .ref (T.ca x)) hg hm rfl n1).imp fun σ H Q ⟨φ, env, S, r, p⟩ => ?_
      simp only [evE] at p
      rw [hd, if_pos rfl] at p
      exact p.ok r.sto (.fn x)
  · cases he
/-- x.m as a value -/
theorem pe_bmv {o : Expr} {m : Str} {pos : Pos} {ta : TE} (he : PE X o ta) (hb : attributeBase o m X.env (eval o X.env) = eval o X.env) : PE X (.Attribute o m pos) (fun σ H Q => ta σ H fun x H1 => ∃ a C dx fs g, x = .ref a ∧ H1 a = some (.ins C dx fs) ∧ Cls X.K C ∧ BMeth X.K C m g ∧ fs.lookup m = none ∧ ∀ p, H1 p = none → Q (.ref p) (upd H1 p (.met g a))) := by
  refine ⟨fun pins s σ H Q I h => ?_⟩
  refine attr_of hb (thn (he.run pins s σ H _ I h) fun u s1 ⟨x, H1, I1, rx, a, C, dx, fs, g, ex, ea, c, b, l, q⟩ => ?_)
  subst ex
  obtain rfl : u = Value.ref a := rx
  exact getbound_ok I1 ea c b l fun p s2 hp I2 => ⟨.ref p, _, I2, rfl, q p hp⟩
theorem go_bmv {a : EX} {m : String} (iha : GoE P T k a) : GoE P T k (.bmv a m) := GoE.of fun X W st e he => by
  unfold okE at he
  split at he
  · simp only [Bool.and_eq_true, decide_eq_true_eq] at he
    obtain ⟨⟨rfl, h1⟩, h2⟩ := he
    refine ⟨(pe_bmv (iha X W st _ h2).1 (base_rcv h1)).imp fun σ H Q hq => ?_, rfl⟩
    refine one (h := fun x S => match x with
      | .loc l => match S[l]? with
        | some (.ins C fs) => if (fs.lookup m).isNone && (cxK P k).bmd C m then .ok (.bm C m l) S else .bad
        | _ => .bad
      | _ => .bad) (by
        obtain ⟨φ, env, S, r, p⟩ := hq
        simp only [evE] at p
        exact ⟨φ, env, S, r, p⟩) fun φ S d H2 x s r1 p => ?_
    cases d with
    | loc l =>
      cases r1 with
      | loc hl =>
        dsimp only at p
        split at p
        · rename_i C fs hS
          split at p
          · rename_i hc
            rw [Bool.and_eq_true, cxK_bmd] at hc
            obtain ⟨dx, vfs, e1, e2⟩ := s.ob _ _ _ hS hl
            obtain ⟨cl, bm⟩ := st.fx.bma C m hc.2
            have ln := (fs_lookup m e2).1 (Option.isNone_iff_eq_none.mp hc.1)
            refine ⟨_, _, dx, vfs, _, rfl, e1, by rw [st.K]; exact cl, by rw [st.K]; exact bm, ln, fun q hq => ?_⟩
            exact p φ _ (.ref q) (Ext.aside hq) (s.aside hq) (.bm upd_same hl)
          · exact p.elim
        · exact p.elim
    | _ => exact p.elim
  · cases he
/-- a call of what a name holds -/
theorem FnG.code {G : Around → Prop} {X : Cx} {W : WX} {k : Nat} {f : Addr} {fd : FuncData} {ps : List Str} {sp : Sp} {pins : List (Addr × Obj)} {σ : L2.St} {H : Hp} {s : Shared} {Q : VK} {us : List Value} {vs : List V}
    (F : FnG G X.prog X.w X.K X.mg X.base (L2.CX X.prog X.w) k f fd ps sp) (hG : G X.A) (hr : Room k X.A) (hb : Binds X.K fd ps []) (tk : Takes X W) (I : L2.Inv X pins σ H s) (r : L2.Vals vs us) (h : sp vs H Q (WE W σ)) :
    codeAny (model X.prog X.w) X.A (.call (.ref f) ⟨us, []⟩) (fun r s' => match r with | .ok (.ret v) => EP X pins σ Q v s' | .ok _ => False | .error e => X.xe e s') s := by
  have n1 : us.length = ps.length := r.length.symm.trans (F.many _ _ _ _ h)
  have n2 : BindsTo s fd ⟨us, []⟩ (ps.zip us) := by
    have q := hb s us I.kIn (by simpa using n1)
    simpa using q
  have n3 := F.goes X.A hG hr X.stack s H ⟨us, []⟩ us vs Q (WE W σ) I.env0 n2 r h
  refine codeAny_mono n3 fun res s' q => ?_
  match res, q with
  | .error e, q => exact passAt tk σ pins H s e s' I q
  | .ok (.ret u), q => exact I.after q
theorem pe_cval {i : Nat} {x : Str} {p pos : Pos} {e : Expr} {es : List Expr} {t : L2.TA} {N : List Str} {sc : Scope} {xs : EXs} {R : Addr → St → List V → Hp → VK → Prop} {R' : Addr → Addr → St → List V → Hp → VK → Prop} (hN : X.N[i]? = some x) (hv : Vis X.env.scope x)
    (hdb : (x == ("__debug__" : Str)) = false) (hcd : (x == ("__classdict__" : Str)) = false) (ha : PA X (e :: es) t) (he : plainX e = true) (hes : okEs N sc xs es = true) :
    PE X (.Call (.Name x p) (e :: es) [] pos) (fun σ H Q =>
      (∃ f, σ[i]? = some (some (.ref f)) ∧ PySem.W.keepIn X.K (.ref f) = true ∧
        (∀ (pins : List (Addr × Obj)) (s : Shared) (σ : St) (H : Hp) (us : List Value) (vs : List V) (Q : VK), L2.Inv X pins σ H s → L2.Vals vs us → R f σ vs H Q → wpAny (model X.prog X.w) X.A (call (.ref f) us) (EP X pins σ Q) X.xe s) ∧ t σ H fun vs H1 => R f σ vs H1 Q) ∨
      (∃ q g a, σ[i]? = some (some (.ref q)) ∧ PySem.W.fnIn X.K g = true ∧
        (∀ (pins : List (Addr × Obj)) (s : Shared) (σ : St) (H : Hp) (us : List Value) (vs : List V) (Q : VK), L2.Inv X pins σ H s → L2.Vals vs us → R' g a σ vs H Q → codeAny (model X.prog X.w) X.A (.call (.ref g) ⟨.ref a :: us, []⟩) (fun r s' => match r with | .ok (.ret v) => EP X pins σ Q v s' | .ok _ => False | .error e => X.xe e s') s) ∧
        t σ H fun vs H1 => H1 q = some (.met g a) ∧ R' g a σ vs H1 Q)) := by
  refine ⟨fun pins s σ H Q I h => ?_⟩
  rcases h with ⟨f, hs, hk, run, ht⟩ | ⟨q, g, a, hs, hf, run, ht⟩
  · refine wpAny_Call_Name_kw (thn ((pe_var (pos := p) hN hv hdb hcd).run pins s σ H (fun v H1 => v = .ref f ∧ H1 = H) I ⟨.ref f, hs, rfl, rfl⟩) fun u s1 ⟨v, H1, I1, r1, q1⟩ => ?_)
    obtain ⟨rfl, rfl⟩ := q1
    cases r1
    refine PySem.W.callWith_K (h₀ := X.base) I.ok.mod.kin hk (thn (ha.run pos pins s1 σ _ _ I1 ht) fun us s2 ⟨vs, H2, I2, r, q⟩ => ⟨I2.kIn, ?_⟩) (starEach_plain he) (starEach_none hes pos)
    exact run pins s2 σ H2 us vs Q I2 r q
  · refine wpAny_Call_Name_kw (thn ((pe_var (pos := p) hN hv hdb hcd).run pins s σ H (fun v H1 => v = .ref q ∧ H1 = H) I ⟨.ref q, hs, rfl, rfl⟩) fun u s1 ⟨v, H1, I1, r1, q1⟩ => ?_)
    obtain ⟨rfl, rfl⟩ := q1
    cases r1
    have h : wpAny (model X.prog X.w) X.A (spliced (backTo pos (starEach (e :: es) X.env))) (fun vs s₁ => PySem.W.MethP X.K q g (.ref a) s₁.heap ∧ wpAny (model X.prog X.w) X.A (call (.ref q) ([] ++ vs)) (EP X pins σ Q) X.xe s₁) X.xe s1 :=
      thn (ha.run pos pins s1 σ _ _ I1 ht) fun us s2 ⟨vs, H2, I2, r, hm, q2⟩ => ⟨met_P I2 hm, wpAny_call (PySem.W.method_call (I2.hok q _ hm) (run pins s2 σ H2 us vs Q I2 r q2))⟩
    rw [starEach_plain he] at h ⊢
    exact PySem.W.callWith_of (by show ((false || (backTo pos (starEach es X.env)).any (·.1)) || false) = false; rw [starEach_none hes pos]; rfl) (PySem.W.keeps_M hf) (PySem.Calls.evalArgs_plain h)
theorem Meth.uniq {K : PySem.W.Frag} {C f g : Addr} {m : Str} (h1 : L2.Meth K C m f) (h2 : L2.Meth K C m g) : f = g := by
  have := h1.at_.symm.trans h2.at_
  cases this
  rfl
theorem cxK_methd' {C m : String} (h : (cxK P k).methd C m = true) : ∃ d, P.meths C m = some d := cxK_methd h
theorem go_cval {i : Nat} {xs : EXs} (ih : GoEs P T k xs) : GoE P T k (.cval i xs) := GoE.of fun X W st e he => by
  unfold okE at he
  split at he
  · rename_i x p0 es pos0
    simp only [Bool.and_eq_true] at he
    obtain ⟨⟨h1, h2⟩, h3⟩ := he
    unfold okV at h1
    simp only [Bool.and_eq_true, decide_eq_true_eq] at h1
    obtain ⟨n1, n2, _⟩ := plainN_ok h1.2
    refine ⟨?_, rfl⟩
    cases es with
    | nil => cases h2
    | cons e es =>
      cases xs with
      | nil => cases h3
      | cons x' xs =>
        have hes : (okE X.N X.env.scope x' e && okEs X.N X.env.scope xs es) = true := h3
        rw [Bool.and_eq_true] at hes
        refine (pe_cval (R := fun f σ vs H Q => ∃ y, f = T.ca y ∧ (∃ d, P.defs y = some d) ∧ spD T (fun ds S => (cxK P k).call y ds S) vs H Q (WE W σ)) (R' := fun g a σ vs H Q => ∃ C m, g = T.ma C m ∧ (∃ d, P.meths C m = some d) ∧ P.bm C m = true ∧ spD T (fun ds S => (cxK P k).meth C m ds S) (.ref a :: vs) H Q (WE W σ)) h1.1.1 (visB_ok h1.1.2) n1 n2 (ih X W st _ h3).1 (okE_plain hes.1) hes.2).imp fun σ H Q hq => ?_
        obtain ⟨φ, env, S, r, p⟩ := hq
        simp only [evE] at p
        split at p
        · rename_i y hy
          split at p
          · rename_i hd
            obtain ⟨d, hd⟩ := cxK_defd hd
            obtain ⟨v, e1, e2⟩ := r.env i _ hy
            cases e2
            obtain ⟨f, m1, m2, m3⟩ := call_def st hd
            have m4 := st.fx.fna y d hd
            rw [m1] at m4
            cases m4
            refine .inl ⟨_, e1, m2, fun pins s σ H us vs Q I rv ⟨z, ez, ⟨d', hd'⟩, hz⟩ => ?_, ?_⟩
            · obtain ⟨f', a1, a2, a3⟩ := call_def st hd'
              have a4 := st.fx.fna z d' hd'
              rw [a1] at a4
              cases a4
              rw [ez]
              exact a3 pins s σ H us vs Q I rv hz
            · refine args_read (g := fun ds S => (cxK P k).call y ds S) ⟨φ, env, S, r, p⟩ fun φ S ds H1 vs s r p => ⟨y, rfl, ⟨d, hd⟩, φ, S, ds, s, r, p⟩
          · exact p.elim
        · rename_i C m l hy
          split at p
          · rename_i hc
            rw [Bool.and_eq_true, cxK_bmd] at hc
            obtain ⟨d, hd⟩ := cxK_methd hc.1
            obtain ⟨v, e1, e2⟩ := r.env i _ hy
            cases e2 with
            | @bm q a _ _ _ b1 b2 =>
              obtain ⟨cl, bm⟩ := st.fx.bma C m hc.2
              obtain ⟨c, f, fd, ps, k1, k2, k3⟩ := st.fx.mt C m d hd
              have ef := Meth.uniq k1 bm.mt
              subst ef
              rw [← st.K] at k1 k2 k3 bm
              refine .inr ⟨q, _, a, e1, bm.fi, fun pins s σ H us vs Q I rv ⟨C', m', eg, ⟨d', hd'⟩, hb', hz⟩ => ?_, ?_⟩
              · obtain ⟨c', f', fd', ps', a1, a2, a3⟩ := st.fx.mt C' m' d' hd'
                have ef := Meth.uniq a1 (st.fx.bma C' m' hb').2.mt
                subst ef
                rw [← st.K] at a1 a2 a3
                rw [eg]
                exact a3.code st.gd st.room a2 st.tk I (.cons (show L2.RelV (.ref a) (.ref a) from rfl) rv) hz
              · exact ⟨φ, env, S, r, p.bind fun ds S1 φ1 H1 vs _ x1 s1 r1 p1 => ⟨x1.kp _ _ b1 (r.sto.out b1 fun z => z) (fun _ z => by cases z), C, m, rfl, ⟨d, hd⟩, hc.2, φ1, S1, .loc l :: ds, s1, .cons (.loc (pre_at x1.pre b2)) r1, p1⟩⟩
          · exact p.elim
        · exact p.elim
  · cases he
end
end Ev
end

section
set_option Elab.async false
set_option linter.all false
set_option maxRecDepth 100000
set_option maxHeartbeats 1000000
set_option autoImplicit false
/-! Ev12: what is walked, lists, comprehensions; every expression. -/
namespace Ev
open PySem PySem.Spec L2
open PyProof.Rows hiding St

section
variable {P : Prg} {T : Wr} {X : Cx} {k : Nat} {W : WX}
theorem gi_val {e : EX} (ih : GoE P T k e) : GoI P T k (.val e) := fun X W st tg pe he _ => by
  refine ⟨fun pins s σ H R I ⟨φ, env, S, r, p⟩ => ?_⟩
  simp only [evIt] at p
  refine thn ((ih X W st pe he).1.run pins s σ H _ I ⟨φ, env, S, r, p.bind fun d S1 φ1 H1 x _ x1 s1 r1 p1 => (⟨_, φ1, S1, d, s1, r1, p1⟩ : rIt T itD x H1 R)⟩) fun v s1 ⟨x, H1, I1, rx, q⟩ => ?_
  exact pyIter_D st.K I1 rx q
theorem PI.imp' {tg e : Expr} {t t' : TI} (h : PI X tg e t) (i : ∀ σ H R, t' σ H R → t σ H R) : PI X tg e t' := ⟨fun pins s σ H R I q => h.run pins s σ H R I (i σ H R q)⟩
theorem small62_ok {i : Int} (h : small62 i = true) : -(2 ^ 62) ≤ i ∧ i < 2 ^ 62 := by
  unfold small62 at h
  have := of_decide_eq_true h
  omega
theorem range_nm : "range" ∈ bltNames := by decide
theorem gi_rng1 {a : EX} (iha : GoE P T k a) : GoI P T k (.rng1 a) := fun X W st tg e he _ => by
  unfold okI at he
  split at he
  · rw [Bool.and_eq_true] at he
    obtain ⟨rfl, hg, n1, n2⟩ := okG_ok he.1
    have hp := okE_plain he.2
    refine PI.imp' (pi_range1 (tg := tg) hg (st.fx.blt _ range_nm) (pa_cons (iha X W st _ he.2).1 pa_nil (starEach_plain hp)) (starEach_plain hp)) fun σ H R ⟨φ, env, S, r, p⟩ => ?_
    simp only [evIt] at p
    refine ⟨φ, env, S, r, p.bind fun d S1 φ1 H1 x _ x1 s1 r1 p1 => ?_⟩
    cases d with
    | int n =>
      cases r1
      dsimp only at p1
      split at p1
      · rename_i hs
        obtain ⟨b1, b2⟩ := small62_ok hs
        exact ⟨n, rfl, b1, b2, p1.ok s1 RI.rng⟩
      · exact p1.elim
    | _ => exact p1.elim
  · cases he
theorem gi_rng2 {a b : EX} (iha : GoE P T k a) (ihb : GoE P T k b) : GoI P T k (.rng2 a b) := fun X W st tg e he _ => by
  unfold okI at he
  split at he
  · simp only [Bool.and_eq_true] at he
    obtain ⟨⟨h1, h2⟩, h3⟩ := he
    obtain ⟨rfl, hg, n1, n2⟩ := okG_ok h1
    have hp := okE_plain h2
    have hp2 := okE_plain h3
    refine PI.imp' (pi_range2 (tg := tg) hg (st.fx.blt _ range_nm) (pa_cons (iha X W st _ h2).1 (pa_cons (ihb X W st _ h3).1 pa_nil (starEach_plain hp2)) (starEach_plain hp)) (by rw [starEach_plain hp, starEach_plain hp2]; rfl) (by rw [starEach_plain hp2]; rfl)) fun σ H R ⟨φ, env, S, r, p⟩ => ?_
    simp only [evIt] at p
    refine ⟨φ, env, S, r, p.bind fun d S1 φ1 H1 x _ x1 s1 r1 p1 => ⟨φ1, env, S1, r.ext x1 s1, p1.bind fun e S2 φ2 H2 y _ x2 s2 r2 p2 => ?_⟩⟩
    cases d with
    | int i =>
      cases e with
      | int j =>
        cases r1; cases r2
        dsimp only at p2
        split at p2
        · rename_i hs
          rw [Bool.and_eq_true] at hs
          obtain ⟨b1, b2⟩ := small62_ok hs.1
          obtain ⟨b3, b4⟩ := small62_ok hs.2
          exact ⟨i, j, rfl, ⟨b1, b2, b3, b4⟩, p2.ok s2 RI.rng⟩
        · exact p2.elim
      | _ => exact p2.elim
    | _ => exact p2.elim
  · cases he
theorem gi_rng3 {a b c : EX} (iha : GoE P T k a) (ihb : GoE P T k b) (ihc : GoE P T k c) : GoI P T k (.rng3 a b c) := fun X W st tg e he _ => by
  unfold okI at he
  split at he
  · simp only [Bool.and_eq_true] at he
    obtain ⟨⟨⟨h1, h2⟩, h3⟩, h4⟩ := he
    obtain ⟨rfl, hg, n1, n2⟩ := okG_ok h1
    have hp := okE_plain h2
    have hp2 := okE_plain h3
    have hp3 := okE_plain h4
    refine PI.imp' (pi_range3 (tg := tg) hg (st.fx.blt _ range_nm) (pa_cons (iha X W st _ h2).1 (pa_cons (ihb X W st _ h3).1 (pa_cons (ihc X W st _ h4).1 pa_nil (starEach_plain hp3)) (starEach_plain hp2)) (starEach_plain hp))
      (starEach_plain hp) (by rw [starEach_plain hp2, starEach_plain hp3]; rfl)) fun σ H R ⟨φ, env, S, r, p⟩ => ?_
    simp only [evIt] at p
    refine ⟨φ, env, S, r, p.bind fun d S1 φ1 H1 x _ x1 s1 r1 p1 => ⟨φ1, env, S1, r.ext x1 s1, p1.bind fun e S2 φ2 H2 y _ x2 s2 r2 p2 => ⟨φ2, env, S2, r.ext (x1.trans x2) s2, p2.bind fun f S3 φ3 H3 z _ x3 s3 r3 p3 => ?_⟩⟩⟩
    cases d with
    | int i =>
      cases e with
      | int j =>
        cases f with
        | int c =>
          cases r1; cases r2; cases r3
          by_cases hc : c = -1
          · subst hc
            have p3 : Post T _ (RI T) φ3 H3 (if small62 i && small62 j then .ok (.ds (rngL i (-1) (i - j).toNat)) S3 else .bad) R := p3
            split at p3
            · rename_i hs
              rw [Bool.and_eq_true] at hs
              obtain ⟨b1, b2⟩ := small62_ok hs.1
              obtain ⟨b3, b4⟩ := small62_ok hs.2
              exact ⟨i, j, -1, (i - j).toNat, rfl, RgC.neg b1 b2 b3 b4, p3.ok s3 RI.rngC⟩
            · exact p3.elim
          · exfalso
            split at p3
            · rename_i heq1 heq2 heq3
              cases heq3
              exact hc rfl
            · exact p3
        | _ => exact p3.elim
      | _ => exact p3.elim
    | _ => exact p3.elim
  · cases he
theorem enum_nm : "enumerate" ∈ bltNames := by decide
theorem gi_enm {a : EX} (iha : GoE P T k a) : GoI P T k (.enm a) := fun X W st tg e he ht => by
  unfold okI at he
  split at he
  · rw [Bool.and_eq_true] at he
    obtain ⟨rfl, hg, n1, n2⟩ := okG_ok he.1
    have hp := okE_plain he.2
    cases tg with
    | Tuple elts kk tpos =>
      refine PI.imp' (pi_enB hg (st.fx.blt _ enum_nm) (pa_cons (iha X W st _ he.2).1 pa_nil (starEach_plain hp)) (starEach_plain hp)) fun σ H R ⟨φ, env, S, r, p⟩ => ?_
      simp only [evIt] at p
      refine ⟨φ, env, S, r, p.bind fun d S1 φ1 H1 x _ x1 s1 r1 p1 => ?_⟩
      cases d with
      | tup ds =>
        cases r1 with
        | tup h1 h2 =>
          refine ⟨_, _, rfl, .inl ⟨SqT.of h1, ?_⟩⟩
          rw [st.K]
          exact p1.ok s1 (RI.enm s1 h1 h2)
      | loc l =>
        cases r1 with
        | loc hl =>
          have p1 : Post T (fun c d H => W c d σ H) (RI T) φ1 H1 (match S1[l]? with
            | some (.lst _) => .ok (.enl l) S1
            | _ => .bad) R := p1
          split at p1
          · rename_i ds hS
            obtain ⟨vs, h1, h2⟩ := s1.ob _ _ _ hS hl
            refine ⟨_, vs, rfl, .inr ⟨SqL.of h1, ?_⟩⟩
            rw [st.K]
            exact p1.ok s1 ⟨_, hl, rfl⟩
          · exact p1.elim
      | _ => exact p1.elim
    | _ => cases ht
  · cases he
/-! ### lists -/
theorem PostL.ext {φ φ1 : List Addr} {H H1 : Hp} {S1 : Store} {Wk : WXk} {r : Res (List D)} {Q : V → Hp → Prop} (x : Ext φ φ1 H H1) (s : RepS T φ1 H1 S1) (p : PostL T Wk φ H r Q) : PostL T Wk φ1 H1 r Q := by
  cases r with
  | ok ds S' => exact fun φ' H' a vs x' s' ha hn hv rv => p φ' H' a vs (x.trans x') s' ha (x.none s hn) hv rv
  | exc y S' => exact fun φ' H' c d x' => p φ' H' c d (x.trans x')
  | bad => exact p
theorem PostL.bind {α β : Type} {R1 : Rl α β} {r : Res α} {f : α → Store → Res (List D)} {φ : List Addr} {H : Hp} {Wk : WXk} {Q1 : β → Hp → Prop} {Q2 : V → Hp → Prop} (p : PostL T Wk φ H (r.bind f) Q2)
    (h : ∀ a S1 φ1 H1 b, r = .ok a S1 → Ext φ φ1 H H1 → RepS T φ1 H1 S1 → R1 φ1 H1 b a → PostL T Wk φ1 H1 (f a S1) Q2 → Q1 b H1) : Post T Wk R1 φ H r Q1 := by
  cases r with
  | ok a S1 => exact fun φ1 H1 b x s q => h a S1 φ1 H1 b rfl x s q (PostL.ext x s p)
  | exc e S1 => exact p
  | bad => exact p
theorem gl_dis {xs : EXs} (ih : GoEs P T k xs) : GoL P T k (.dis xs) := fun X W st e he => by
  unfold okL at he
  split at he
  · refine (pe_lst (ih X W st _ he).1).imp fun σ H Q ⟨φ, env, S, r, p⟩ => ?_
    simp only [evL] at p
    refine ⟨φ, env, S, r, p.bind fun ds S1 φ1 H1 vs _ x1 s1 r1 p1 => ?_⟩
    split at p1
    · rename_i hl
      refine ⟨LIM_le (by rw [RepVs.length r1]; exact hl), fun q hq => ?_⟩
      exact p1 φ1 _ q vs (Ext.aside hq) (s1.aside hq) (s1.fresh hq) (.of hq) upd_same (RepVs.ext s1 (Ext.aside hq) r1)
    · exact p1.elim
  · cases he
abbrev noW : WX := fun _ _ _ _ => False
theorem takes_no {X : Cx} : Takes X noW := fun u s' x => by
  obtain ⟨_, _, _, _, _, _, _, _, _, _, _, _, _, _, _, _, z⟩ := x
  exact z.elim
theorem Sit.blk (st : Sit P T X k W) (s : Shared) (H : Hp) (scope : Scope) (C : Addr) (cl : List (Str × Addr)) (fp : List Addr) : Sit P T (X.blk s H scope (compEnvC scope cl C X.env) fp) k noW :=
  ⟨st.calm, st.nd, st.room, st.gd, takes_no, st.K, st.W, st.fx, st.low, st.lm⟩
/-- a turn's function -/
def lcF (c : Ctx) (own : List Nat) (t : TG) (tst : EnvD → Store → Res Bool) (e : EX) (env : EnvD) : D → List D → Store → Res (List D) := fun d acc S => match bindT t d (wipeE env own) with
  | some env' => (tst env' S).bind fun k S => match k with
    | true => (evE c e env' S).bind fun y S => if acc.length < LIM then .ok (acc ++ [y]) S else .bad
    | false => .ok acc S
  | none => .bad
theorem noExc_ok {r : Res (List D)} {φ : List Addr} {H : Hp} {Wk : WXk} {Q : V → Hp → Prop} (p : PostL T Wk φ H (noExc r) Q) : ∃ ds S', r = .ok ds S' := by
  cases r with
  | ok ds S' => exact ⟨ds, S', rfl⟩
  | exc x S' => exact p.elim
  | bad => exact p.elim
theorem upd_at {H : Hp} {a b : Addr} {o : HO} (h : b ≠ a) : upd H a o b = H b := upd_ne h
/-- the new list beside what stands -/
theorem beside {φ' : List Addr} {H' : Hp} {S' : Store} {D0 : Addr} {u w : HO} (s : RepS T φ' H' S') (hD : D0 ∉ φ') (hw : H' D0 = some w) (ht : ∀ ps, w ≠ .tbl ps) (hm : Mut (some w)) (hu : Mut (some u)) (hx : inSt w := by trivial) : RepS T φ' (upd H' D0 u) S' := by
  refine ⟨s.len, s.nd, fun l o a e1 e2 => ?_, fun q hq => ?_⟩
  rotate_left
  · obtain ⟨ps, g1, g2, g3⟩ := s.tab q hq
    refine ⟨ps, by rw [upd_ne (by rintro e; rw [e, hw] at g1; cases g1; exact ht ps rfl)]; exact g1, g2, fun pos cv hc => ?_⟩
    obtain ⟨c, e1, e2⟩ := g3 pos cv hc
    exact ⟨c, e1, by rw [upd_ne (by rintro rfl; rw [hw] at e2; cases e2; exact hx)]; exact e2⟩
  have hne : a ≠ D0 := by rintro rfl; exact hD (List.mem_of_getElem? e2)
  have h := s.ob l o a e1 e2
  have tups : ∀ b xs, H' b = some (.tup xs) → upd H' D0 u b = some (.tup xs) := fun b xs e => by
    rw [upd_ne (by rintro rfl; rw [hw] at e; cases e; exact hm)]; exact e
  have frzs : ∀ b ob v, H' b = some (.frz ob v) → upd H' D0 u b = some (.frz ob v) := fun b ob v e => by
    rw [upd_ne (by rintro rfl; rw [hw] at e; cases e; exact hm)]; exact e
  have mets : ∀ b f x, H' b = some (.met f x) → upd H' D0 u b = some (.met f x) := fun b f x e => by
    rw [upd_ne (by rintro rfl; rw [hw] at e; cases e; exact hm)]; exact e
  have rv : ∀ {v : V} {d : D}, RepV T φ' H' v d → RepV T φ' (upd H' D0 u) v d := fun {v d} r => RepV.keep tups frzs mets r
  have rvs : ∀ {v : List V} {d : List D}, RepVs T φ' H' v d → RepVs T φ' (upd H' D0 u) v d := fun {v d} r => RepVs.keep tups frzs mets r
  cases o with
  | lst ds => obtain ⟨vs, e1, h1⟩ := h; exact ⟨vs, by rw [upd_ne hne]; exact e1, rvs h1⟩
  | dk ds => obtain ⟨vs, e1, h1⟩ := h; exact ⟨vs, by rw [upd_ne hne]; exact e1, Paired.mapP h1 fun _ _ q => ⟨q.1, rv q.2⟩⟩
  | dt ds => obtain ⟨vs, e1, h1⟩ := h; exact ⟨vs, by rw [upd_ne hne]; exact e1, Paired.mapP h1 fun _ _ q => ⟨q.1, rv q.2⟩⟩
  | ins C fs => obtain ⟨dx, vs, e1, h1⟩ := h; exact ⟨dx, vs, by rw [upd_ne hne]; exact e1, Paired.mapP h1 fun _ _ q => ⟨q.1, rv q.2⟩⟩
/-- a run from H is a run from the heap with the new list beside -/
theorem Ext.beside {φ φ' : List Addr} {H H' : Hp} {D0 : Addr} {u : HO} (x : Ext φ φ' H H') (hn : H D0 = Option.none) : Ext φ φ' H (upd H' D0 u) :=
  ⟨x.pre, x.new, fun b o h hb ht => by rw [upd_ne (ne_of_none h hn)]; exact x.kp b o h hb ht⟩

theorem _root_.L2.PTs.imp {X : Cx} {es : List Expr} {t t' : TT} (h : PTs X es t) (i : ∀ σ H Q, t' σ H Q → t σ H Q) : PTs X es t' := ⟨fun pins s σ H Q I q => h.run pins s σ H Q I (i σ H Q q)⟩
theorem folded_plain {e : Expr} (h : plainX e = true) {env : PySem.Env} (x : Value) : foldedSetIterable e env x = pure x := by
  cases e <;> first | rfl | cases h
theorem okI_plain {N : List Str} {sc : Scope} {x : IT} {e : Expr} (h : okI N sc x e = true) : plainX e = true := by
  cases x with
  | val a => exact okE_plain (show okE N sc a e = true from h)
  | _ => unfold okI at h; split at h <;> first | rfl | cases h
/-- the state of the walk -/
def WkC (T : Wr) (f : D → List D → Store → Res (List D)) (iv : ItV) (φ : List Addr) (H1 : Hp) (D0 : Addr) (r0 : Res (List D)) (i m : Nat) (H : Hp) : Prop :=
  ∃ (φ' : List Addr) (S' : Store) (acc : List V) (accD : List D), Ext φ φ' H1 H ∧ RepS T φ' H S' ∧ D0 ∉ φ' ∧ H D0 = some (.lst acc) ∧ RepVs T φ' H acc accD ∧ Wk f iv i m accD S' r0
theorem RepVs.put {φ : List Addr} {H : Hp} {D0 : Addr} {u w : HO} {vs : List V} {ds : List D} (hw : H D0 = some w) (hm : Mut (some w)) (h : RepVs T φ H vs ds) : RepVs T φ (upd H D0 u) vs ds :=
  RepVs.keep (fun b xs e => by rw [upd_ne (by rintro rfl; rw [hw] at e; cases e; exact hm)]; exact e) (fun b ob v e => by rw [upd_ne (by rintro rfl; rw [hw] at e; cases e; exact hm)]; exact e) (fun b f x e => by rw [upd_ne (by rintro rfl; rw [hw] at e; cases e; exact hm)]; exact e) h
theorem wipe_in {σ : St} {i : Nat} : ∀ {vs : List Nat}, i ∈ vs → (L2.wipe σ vs)[i]? = σ[i]?.map fun _ => Option.none
  | j :: vs, h => by
    show ((L2.wipe σ vs).set j Option.none)[i]? = _
    by_cases hj : j = i
    · subst hj
      by_cases hl : j < σ.length
      · rw [List.getElem?_set_self (by rw [wipe_length]; exact hl), List.getElem?_eq_getElem hl]; rfl
      · rw [List.getElem?_eq_none (by rw [List.length_set, wipe_length]; omega), List.getElem?_eq_none (by omega)]; rfl
    · rw [List.getElem?_set_ne hj]
      rcases List.mem_cons.mp h with e | e
      · exact absurd e.symm hj
      · exact wipe_in e
theorem wipe_wipe {σ : St} {vs : List Nat} : L2.wipe (L2.wipe σ vs) vs = L2.wipe σ vs := by
  refine List.ext_getElem? fun i => ?_
  by_cases h : i ∈ vs
  · rw [wipe_in h, wipe_in h, Option.map_map]; rfl
  · rw [wipe_out h]
/-- a comprehension's parts -/
def LcP (X : Cx) (T : Wr) (W : WX) (elt tg iter : Expr) (cs : List Expr) (scope : Scope) (f : EnvD → Store → Res (List D)) : Prop :=
  ∃ (own : List (Str × Nat)) (wi : TI) (g : L2.TG) (tt : TT) (te : TE), PI X tg iter wi ∧ BlkOk X.N X.env.scope scope own ∧
    (∀ (s : Shared) (H : Hp) (C : Addr) (cl : List (Str × Addr)) (fp : List Addr), PG (X.blk s H scope (compEnvC scope cl C X.env) fp) tg g) ∧ (∀ (s : Shared) (H : Hp) (C : Addr) (cl : List (Str × Addr)) (fp : List Addr), PTs (X.blk s H scope (compEnvC scope cl C X.env) fp) cs tt) ∧
    (∀ (s : Shared) (H : Hp) (C : Addr) (cl : List (Str × Addr)) (fp : List Addr), PE (X.blk s H scope (compEnvC scope cl C X.env) fp) elt te) ∧ (∀ x, foldedSetIterable iter X.env x = pure x) ∧
    ∀ σ H Q, rdL T W f σ H Q → tLc wi g tt te (own.map (·.2)) σ H Q
theorem LcP.pe {elt tg iter : Expr} {cs : List Expr} {scope : Scope} {pos : Pos} {f : EnvD → Store → Res (List D)} (st : Sit P T X k W) (h : LcP X T W elt tg iter cs scope f) : PE X (.ListComp elt [⟨tg, iter, cs, 0⟩] scope pos) (rdL T W f) := by
  obtain ⟨own, wi, g, tt, te, h1, h2, h3, h4, h5, h6, h7⟩ := h
  exact (pe_lc st.calm st.nd h1 h2 h3 h4 h5 h6).imp h7
theorem gl_lc {own : List (String × Nat)} {t : TG} {it : IT} {e : EX} {tst : EnvD → Store → Res Bool} {f : EnvD → Store → Res (List D)} (ihi : GoI P T k it) (ihe : GoE P T k e) (st : Sit P T X k W)
    {elt tg iter : Expr} {cs : List Expr} {scope : Scope}
    (hf : ∀ env S, f env S = (evIt (cxK P k) it env S).bind fun iv S => noExc (walkI (lcF (cxK P k) (own.map (·.2)) t tst e env) iv [] S))
    (hts : ∀ (X' : Cx), Sit P T X' k noW → X'.N = X.N → X'.env.scope = relS scope X.env.scope → PTs X' cs (rdB T noW tst))
    (hb : blkC X.N X.env.scope scope (own.map fun p => (Str.ofString p.1, p.2)) = true) (ht : okTG X.N (relS scope X.env.scope) t tg = true) (hi : okI X.N X.env.scope it iter = true) (hen : enmOk it tg = true)
    (hsl : (slT t).all (fun i => decide (i ∈ own.map (·.2))) = true) (hown : own.all (fun p => (scope.names.lookup (Str.ofString p.1) == some .cell) || lclB (relS scope X.env.scope) (Str.ofString p.1)) = true) (he : okE X.N (relS scope X.env.scope) e elt = true) :
    LcP X T W elt tg iter cs scope f := by
  have ok := blkOk_by hb
  have hvs : (own.map fun p => (Str.ofString p.1, p.2)).map (·.2) = own.map (·.2) := by rw [List.map_map]; rfl
  refine ⟨_, _, gTG X.K t, _, _, ihi X W st tg iter hi hen, ok,
    (fun s H C cl fp => pg_ok (X := X.blk s H scope (compEnvC scope cl C X.env) fp) (t := t) st.calm st.nd (fun i x hi hx _ => by
      have h1 := List.all_eq_true.mp hsl i hi
      simp only [decide_eq_true_eq] at h1
      obtain ⟨p, hp, rfl⟩ := List.mem_map.mp h1
      have h2 := ok.ix (Str.ofString p.1, p.2) (List.mem_map.mpr ⟨p, hp, rfl⟩)
      have h2 : X.N[p.2]? = some (Str.ofString p.1) := h2
      have hx : X.N[p.2]? = some x := hx
      rw [h2] at hx; cases hx
      have h3 := List.all_eq_true.mp hown p hp
      rw [Bool.or_eq_true] at h3
      rcases h3 with h3 | h3
      · exact .inl h3
      · refine .inr ?_
        unfold lclB at h3
        split at h3
        · assumption
        · cases h3) ht),
    (fun s H C cl fp => hts _ (st.blk s H scope C cl fp) rfl rfl), (fun s H C cl fp => (ihe _ noW (st.blk s H scope C cl fp) elt he).1), (fun x => folded_plain (okI_plain hi) x), fun σ H Q ⟨φ, env, S, r, p⟩ => ?_⟩
  rw [hf] at p
  rw [hvs]
  refine ⟨φ, env, S, r, p.bind fun iv S1 φ1 H1 J _ x1 s1 r1 p1 => ?_⟩
  intro D0 hD
  obtain ⟨ds', S', hw⟩ := noExc_ok p1
  have hwalk : walkI (lcF (cxK P k) (own.map (·.2)) t tst e env) iv [] S1 = .ok ds' S' := by
    generalize walkI (lcF (cxK P k) (own.map (·.2)) t tst e env) iv [] S1 = rr at hw
    cases rr with
    | ok a b => exact hw
    | exc x b => cases hw
    | bad => cases hw
  rw [hwalk] at p1
  have renv : Rep T φ1 σ H1 env S1 := r.ext x1 s1
  have hnD : D0 ∉ φ1 := s1.fresh hD
  refine ⟨WkC T (lcF (cxK P k) (own.map (·.2)) t tst e env) iv φ1 H1 D0 (.ok ds' S'), ?_, ?_⟩
  · obtain ⟨m, hm⟩ := wk_start (f := lcF (cxK P k) (own.map (·.2)) t tst e env) (iv := iv) (a := []) (S := S1)
    rw [hwalk] at hm
    exact ⟨m, φ1, S1, [], [], Ext.aside hD, s1.aside hD, hnD, upd_same, .nil, hm⟩
  · rintro i m Hc ⟨φ2, S2, acc, accD, x2, s2, hn2, hl2, ra2, wk2⟩
    rcases wk_turn wk2 (fun z => by cases z) s2 (RI.ext x2 r1) with ⟨hstop, e0⟩ | ⟨hgo, d, hy, g, e0, nxt⟩
    · cases e0
      exact .inl ⟨hstop, p1 φ2 Hc D0 acc x2 s2 hn2 (.of hD) hl2 ra2⟩
    · refine .inr ⟨hgo, fun H' => ∃ m', m' < m ∧ WkC T (lcF (cxK P k) (own.map (·.2)) t tst e env) iv φ1 H1 D0 (.ok ds' S') (i + 1) m' H', fun H' h => h, fun x H' hyl => ?_⟩
      obtain ⟨rx, x3, s3⟩ := hy x H' hyl
      have hl3 : H' D0 = some (.lst acc) := x3.kp D0 _ hl2 hn2 fun _ z => by cases z
      have ra3 := ra2.ext s2 x3
      have x13 := x2.trans x3
      cases hbt : bindT t d (wipeE env (own.map (·.2))) with
      | none =>
        unfold lcF at e0
        rw [hbt] at e0
        cases e0
      | some env' =>
        have hF : lcF (cxK P k) (own.map (·.2)) t tst e env d accD S2 = (tst env' S2).bind fun k' S => match k' with
          | true => (evE (cxK P k) e env' S).bind fun y S => if accD.length < LIM then .ok (accD ++ [y]) S else .bad
          | false => .ok accD S := by
          unfold lcF; rw [hbt]
        rw [hF] at e0 nxt
        have rw3 : Rep T φ2 (L2.wipe σ (own.map (·.2))) H' (wipeE env (own.map (·.2))) S2 := (renv.ext x13 s3).wipe _
        rw [st.K]
        refine bindT_rep rx rw3 hbt fun σ2 r4 hw4 => ⟨?_, ?_⟩
        · refine (hw4 (own.map (·.2)) fun i hi => ?_).trans ?_
          · have h1 := List.all_eq_true.mp hsl i hi
            simpa using h1
          · exact wipe_wipe
        · refine ⟨φ2, env', S2, r4, ?_⟩
          cases htst : tst env' S2 with
          | bad => rw [htst] at e0; cases e0
          | exc x S => rw [htst] at e0; cases e0
          | ok b S4 =>
            rw [htst] at e0 nxt
            intro φ4 H4 b' x4 s4 eb
            have eb : b' = b := eb
            subst eb
            have hn4 : D0 ∉ φ4 := fun hm => by
              rcases x4.new D0 hm with h | h
              · exact hn2 h
              · obtain ⟨ps, z⟩ := h _ hl3
                cases z
            have hl4 : H4 D0 = some (.lst acc) := x4.kp D0 _ hl3 hn2 fun _ z => by cases z
            cases b' with
            | false =>
              obtain ⟨m', hm', hwk'⟩ := nxt _ _ rfl
              exact ⟨m', hm', φ4, S4, acc, accD, x13.trans x4, s4, hn4, hl4, ra3.ext s3 x4, hwk'⟩
            | true =>
              refine ⟨φ4, env', S4, r4.ext x4 s4, ?_⟩
              have e0 : Res.ok ds' S' = ((evE (cxK P k) e env' S4).bind fun y S => if accD.length < LIM then Res.ok (accD ++ [y]) S else .bad).bind g := e0
              have nxt : ∀ (a' : List D) (S'' : Store), ((evE (cxK P k) e env' S4).bind fun y S => if accD.length < LIM then Res.ok (accD ++ [y]) S else .bad) = .ok a' S'' → ∃ m', m' < m ∧ Wk (lcF (cxK P k) (own.map (·.2)) t tst e env) iv (i + 1) m' a' S'' (.ok ds' S') := nxt
              cases hel : evE (cxK P k) e env' S4 with
              | bad => rw [hel] at e0; cases e0
              | exc x S => rw [hel] at e0; cases e0
              | ok y S5 =>
                rw [hel] at e0 nxt
                intro φ5 H5 v x5 s5 rv
                have hn5 : D0 ∉ φ5 := fun hm => by
                  rcases x5.new D0 hm with h | h
                  · exact hn4 h
                  · obtain ⟨ps, z⟩ := h _ hl4
                    cases z
                have hl5 : H5 D0 = some (.lst acc) := x5.kp D0 _ hl4 hn4 fun _ z => by cases z
                by_cases hlt : accD.length < LIM
                · have ra5 := (ra3.ext s3 x4).ext s4 x5
                  obtain ⟨m', hm', hwk'⟩ := nxt (accD ++ [y]) S5 (by show (if accD.length < LIM then Res.ok (accD ++ [y]) S5 else .bad) = _; rw [if_pos hlt])
                  refine ⟨acc, hl5, LIM_lt (by rw [ra5.length]; exact hlt), m', hm', φ5, S5, acc ++ [v], accD ++ [y], ((x13.trans x4).trans x5).beside hD, ?_, hn5, upd_same, ?_, hwk'⟩
                  · exact Ev.beside s5 hn5 hl5 (fun _ z => by cases z) trivial trivial
                  · exact RepVs.put hl5 trivial (ra5.append (.cons rv .nil))
                · exfalso
                  have e0 : Res.ok ds' S' = (if accD.length < LIM then Res.ok (accD ++ [y]) S5 else .bad).bind g := e0
                  rw [if_neg hlt] at e0
                  cases e0

theorem Res.bind_assoc {α β γ : Type} (r : Res α) (f : α → Store → Res β) (g : β → Store → Res γ) : (r.bind f).bind g = r.bind fun a S => (f a S).bind g := by
  cases r <;> rfl
/-- a comprehension, its text and parts -/
def GoC (P : Prg) (T : Wr) (k : Nat) (l : LX) : Prop := ∀ (X : Cx) (W : WX), Sit P T X k W → ∀ e, okL X.N X.env.scope l e = true → ∃ (elt tg iter : Expr) (cs : List Expr) (scope : Scope) (pos : Pos), e = .ListComp elt [⟨tg, iter, cs, 0⟩] scope pos ∧ LcP X T W elt tg iter cs scope (evL (cxK P k) l)
theorem GoC.gl {l : LX} (h : GoC P T k l) : GoL P T k l := fun X W st x hx => by
  obtain ⟨elt, tg, iter, cs, scope, pos, rfl, q⟩ := h X W st x hx
  exact q.pe st
theorem gc_comp0 {own : List (String × Nat)} {t : TG} {it : IT} {e : EX} (ihi : GoI P T k it) (ihe : GoE P T k e) : GoC P T k (.comp own t it .nil e) := fun X W st x hx => by
  unfold okL at hx
  split at hx
  · rename_i elt tg iter cs scope pos
    simp only [Bool.and_eq_true, decide_eq_true_eq] at hx
    obtain ⟨⟨⟨⟨⟨⟨⟨⟨h1, h2⟩, h3⟩, h3e⟩, h4⟩, h5⟩, h6⟩, h7⟩, h8⟩ := hx
    have hc : cs = [] := List.isEmpty_iff.mp h4
    subst hc
    refine ⟨elt, tg, iter, [], scope, pos, rfl, gl_lc (tst := fun _ S => .ok true S) ihi ihe st (fun env S => ?_) (fun X' st' _ _ => pts_nil.imp fun σ H Q ⟨φ, env, S, r, p⟩ => p.ok r.sto rfl) h1 h2 h3 h3e (by simpa using h6) h7 h8⟩
    simp only [evL]
    rfl
  · cases hx
theorem gc_comp1 {own : List (String × Nat)} {t : TG} {it : IT} {i : EX} {is : EXs} {e : EX} (ihi : GoI P T k it) (ihc : GoE P T k i) (ihe : GoE P T k e) : GoC P T k (.comp own t it (.cons i is) e) := fun X W st x hx => by
  unfold okL at hx
  split at hx
  · rename_i elt tg iter cs scope pos
    simp only [Bool.and_eq_true, decide_eq_true_eq] at hx
    obtain ⟨⟨⟨⟨⟨⟨⟨⟨h1, h2⟩, h3⟩, h3e⟩, h4⟩, h5⟩, h6⟩, h7⟩, h8⟩ := hx
    cases cs with
    | nil => cases h4
    | cons c cs =>
      have h4 : (okE X.N (relS scope X.env.scope) i c && okEs X.N (relS scope X.env.scope) is cs) = true := h4
      rw [Bool.and_eq_true] at h4
      have hc : cs = [] := by
        cases cs with
        | nil => rfl
        | cons _ _ => simp at h5
      subst hc
      refine ⟨elt, tg, iter, [c], scope, pos, rfl, gl_lc (tst := evTest (cxK P k) i) ihi ihe st (fun env S => ?_) (fun X' st' hN hsc => pts_one (ihc X' noW st' c (by rw [hN, hsc]; exact h4.1)).2) h1 h2 h3 h3e (by simpa using h6) h7 h8⟩
      simp only [evL]
      congr 1; funext iv S; congr 2; funext d acc S
      unfold lcF evTest
      generalize bindT t d (wipeE env (own.map (·.2))) = o
      cases o with
      | none => rfl
      | some env' => exact (Res.bind_assoc _ _ _).symm
  · cases hx
end
end Ev
end

section
set_option Elab.async false
set_option linter.all false
set_option maxRecDepth 100000
set_option maxHeartbeats 2000000
/-! Ev12c: dict comprehensions with one walk and no tests, keys of any kind that a dict of the hand layer has. -/
namespace Ev
open PySem PySem.Spec L2
open PyProof.Rows hiding St

/-- the new dict, empty -/
def newD : Bool → HO
  | true => .dT []
  | false => .dK []
def tDcB (b : Bool) (wi : TI) (g : L2.TG) (tk tv : TE) (vs : List Nat) : TE := fun σ H Q => wi σ H fun J H1 => ∀ D, H1 D = none → ∃ W : Nat → Nat → Hp → Prop, (∃ m, W 0 m (upd H1 D (newD b))) ∧ ∀ i m H, W i m H →
  (J.stop i H ∧ Q (.ref D) H) ∨ (J.go i H ∧ ∃ Nx : Hp → Prop, (∀ H', Nx H' → ∃ m', m' < m ∧ W (i + 1) m' H') ∧ ∀ x H', J.yld i H x H' → g x (wipe σ vs) H' fun σ2 H2 => wipe σ2 vs = wipe σ vs ∧ tk σ2 H2 fun y H4 => tv σ2 H4 fun z H5 => ∃ H6, DPut H5 D y z H6 ∧ Nx H6)
section
variable {X : Cx}
theorem put_comp {pins : List (Addr × Obj)} {σ : St} {H H' : Hp} {s : Shared} {E : Value → Shared → Prop} {a : Addr} {y v : V} {u r : Value} {Q : Unit → Shared → Prop} (hu : X.A.units + 1 < cLine) (I : L2.Inv X pins σ H s) (g : DPut H a y v H') (ry : L2.RelV y u) (rv : L2.RelV v r)
    (h : ∀ s', L2.Inv X pins σ H' s' → Q () s') : wpAny (model X.prog X.w) X.A (dictSet a u r) Q E s := by
  rcases g with ⟨kvs, k, e, rfl, l, rfl⟩ | ⟨kvs, k, b, e, rfl, eb, l, rfl⟩
  · exact d_dictSet I e l ry rv h
  · cases (show u = Value.ref b from ry)
    obtain ⟨z, hd, xs, rel, dd⟩ := dt_of I.hok e
    have hz : xs.length ≤ sizeLine := by rw [← Paired.length rel]; exact z
    have hl : (putK kvs k v).length ≤ sizeLine := by have := length_putK kvs k v; omega
    refine wpAny_dictSet_heap (hsz := hz) (show X.A.units < cLine from by omega) (key_of I.hok eb) dd fun h' dd' hs => h _ ?_
    obtain ⟨q, es, ep, hq, h2, h3, h4, _, h5⟩ := dd'
    refine d_write I (by rw [e]; exact True.intro) hs ⟨q, hq⟩ ⟨hl, hd, _, (rel.put k eb rv).keeps fun c ys ec => ?_, q, es, ep, hq, h2, h3, h4, h5⟩
    rw [upd_ne (by rintro rfl; rw [e] at ec; cases ec)]
    exact ec
theorem newD_ok {P : Program} {w : World} {H : Hp} (b : Bool) (h : Heap) (hb : sysModules < h.objs.size) : ObjOk P w H (h.push { cls := .type "dict", data := .dict #[] }) h.objs.size (newD b) := by
  cases b
  · exact dk_empty h hb
  · exact dt_empty h hb
theorem pe_dcB {b : Bool} {kx vx tg iter : Expr} {scope : Scope} {own : List (Str × Nat)} {pos : Pos} {wi : TI} {g : L2.TG} {tk tv : TE} (hu : X.A.units + 64 < cLine) (hc : X.calm = true) (hN : X.N.Nodup) (hi : PI X tg iter wi) (ok : BlkOk X.N X.env.scope scope own)
    (hg : ∀ (s : Shared) (H : Hp) (C : Addr) (cl : List (Str × Addr)) (fp : List Addr), PG (X.blk s H scope (compEnvC scope cl C X.env) fp) tg g)
    (hk : ∀ (s : Shared) (H : Hp) (C : Addr) (cl : List (Str × Addr)) (fp : List Addr), PE (X.blk s H scope (compEnvC scope cl C X.env) fp) kx tk)
    (hv : ∀ (s : Shared) (H : Hp) (C : Addr) (cl : List (Str × Addr)) (fp : List Addr), PE (X.blk s H scope (compEnvC scope cl C X.env) fp) vx tv) (hs : ∀ x, foldedSetIterable iter X.env x = pure x) :
    PE X (.DictComp kx vx [⟨tg, iter, [], 0⟩] scope pos) (tDcB b wi g tk tv (own.map (·.2))) := by
  refine ⟨fun pins s σ H Q I h => ?_⟩
  rw [arm_eval_DictComp]
  have bound : ∀ y ∈ scope.names, y.2 = .free → ∃ c, X.env.cells.lookup y.1 = some c := fun y hy e => (ok.free y hy e).elim (fun q => I.ok.has _ (.inl q)) (fun q => I.ok.has _ (.inr q))
  refine wpAny_comprehension_free rfl hs (closure_ok bound) ok.kind (fun y hy e => by rw [ok.uniq y hy, e]) (thn (hi.run pins s σ H _ I h) fun xv s1 hx => thn hx fun itv s2 h2 => ?_)
  obtain ⟨it, fp, tn, J, H2, rfl, I2, T, at2, f2, q⟩ := h2
  refine wpAny_newObj_type (newEnv_comp ?_)
  -- the new dict at D
  generalize hD : s2.heap.objs.size = D
  have free : H2 D = none := I2.hok.fresh (Nat.le_of_eq hD)
  obtain ⟨Wt, ⟨m0, w0⟩, turn⟩ := q D free
  generalize hs3 : ({ s2 with heap := s2.heap.push { cls := .type "dict", data := .dict #[] } } : Shared) = s3
  have heap3 : s3.heap = s2.heap.push { cls := .type "dict", data := .dict #[] } := by rw [← hs3]
  have I3 : L2.Inv X pins σ (upd H2 D (newD b)) s3 := by
    rw [← hs3]
    refine I2.laid (t' := s2.toks) (fun _ _ e => Heap.get?_push_of_some _ e) (Nat.le_of_eq hD) ?_
    rw [← hD]
    exact newD_ok b s2.heap I2.big
  have low : ∀ c ∈ fp, c < s2.heap.objs.size := fun c hc => let ⟨_, e, _⟩ := T.obj _ _ at2 c hc; Heap.lt_size e
  have f3 : ∀ c ∈ fp, FpOk X pins (upd H2 D (newD b)) c ∧ c < s3.heap.objs.size := fun c hc => by
    have lt := low c hc
    refine ⟨⟨?_, (f2 c hc).2⟩, by rw [heap3, Heap.size_push]; exact Nat.lt_succ_of_lt lt⟩
    rw [upd_ne (by rw [← hD]; exact Nat.ne_of_lt lt)]
    exact (f2 c hc).1
  have at3 : tn 0 s3.heap := T.keep _ _ _ at2 fun c _ o e => by rw [heap3]; exact Heap.get?_push_of_some _ e
  have I4 := block_start I3 ok hN f3
  have pg := hg s3 (upd H2 D (newD b)) s3.heap.objs.size (cellsFrom (s3.heap.objs.size + 1) scope.names (cloFrom X.env.cells scope.names [])) fp
  have pk := hk s3 (upd H2 D (newD b)) s3.heap.objs.size (cellsFrom (s3.heap.objs.size + 1) scope.names (cloFrom X.env.cells scope.names [])) fp
  have pv := hv s3 (upd H2 D (newD b)) s3.heap.objs.size (cellsFrom (s3.heap.objs.size + 1) scope.names (cloFrom X.env.cells scope.names [])) fp
  have none3 : ∀ c ∈ fp, (upd H2 D (newD b)) c = none := fun c hc => (f3 c hc).1.1
  show codeAny _ _ (.compStart (.DictComp kx vx [⟨tg, iter, [], 0⟩] scope pos) 0 (.ref it) (.ref D) (compEnvC scope (cellsFrom (s3.heap.objs.size + 1) scope.names (cloFrom X.env.cells scope.names [])) s3.heap.objs.size X.env)) (compPost (model X.prog X.w) X.A X.xe none (EP X pins σ Q) (.ref D) s3.heap.objs.size) { s3 with heap := pushCells (s3.heap.push { cls := .type "dict", data := .dict #[] }) scope.names }
  generalize hce : compEnvC scope (cellsFrom (s3.heap.objs.size + 1) scope.names (cloFrom X.env.cells scope.names [])) s3.heap.objs.size X.env = ce at I4 pg pk pv ⊢
  have hloc : ce.locals = s3.heap.objs.size := by subst hce; rfl
  generalize upd H2 D (newD b) = H3 at I3 I4 pg pk pv w0 none3 f3
  generalize hs4 : ({ s3 with heap := pushCells (s3.heap.push { cls := .type "dict", data := .dict #[] }) scope.names } : Shared) = s4 at I4 ⊢
  have at4 : tn 0 s4.heap := T.keep _ _ _ at3 fun c _ o e => by rw [← hs4]; exact pushCells_keeps _ _ _ _ (Heap.get?_push_of_some _ e)
  -- what stays of the walk's own objects
  have own0 : ∀ {σ' : St} {H' : Hp} {s' : Shared}, L2.Inv (X.blk s3 H3 scope ce fp) [] σ' H' s' → (∀ c ∈ fp, H' c = none) → ∀ c ∈ fp, FpOk (X.blk s3 H3 scope ce fp) [] H' c := fun {σ' H' s'} I' hn c hc =>
    ⟨hn c hc, (I'.ok.exf c hc).1, I'.ok.exfs c hc, .inl hc, fun x d e => (I'.ok.exf c hc).2 x d e, fun p hp => absurd (show p ∈ ([] : List (Addr × Obj)) ++ [] from hp) (by simp)⟩
  have loop : codeAny (model X.prog X.w) X.A (.compLoop (.DictComp kx vx [⟨tg, iter, [], 0⟩] scope pos) 0 (.ref it) (.ref D) ce) (compPost (model X.prog X.w) X.A X.xe none (EP X pins σ Q) (.ref D) s3.heap.objs.size) s4 := by
    refine compLoop_anyD (fun n s' => ∃ i H', L2.Inv (X.blk s3 H3 scope ce fp) [] (wipe σ (own.map (·.2))) H' s' ∧ tn i s'.heap ∧ (∀ c ∈ fp, H' c = none) ∧ Wt i n H') ?_ m0 ⟨0, H3, I4, at4, none3, w0⟩
    rintro n s5 ⟨i, H5, I5, at5, n5, w5⟩
    rcases turn i n H5 w5 with ⟨stop, end_⟩ | ⟨go, Nx, hNx, step⟩
    · refine thnF (T.done (X.blk s3 H3 scope ce fp) rfl rfl rfl hc i [] s5 _ H5 (fun _ _ => False) I5 (own0 I5 n5) at5 stop) fun r s6 ⟨hr, I6⟩ => ?_
      subst hr
      have back : L2.Inv X pins σ H5 s6 := I3.call' (ch := fp) I6.os I6.base I6.hok I6.bare fun c hc => let f := (f3 c hc).1; ⟨f.2.2.2.1, f.2.1, f.2.2.2.2.1, f.2.2.2.2.2⟩
      have noC : H5 s3.heap.objs.size = none := by
        have z : H5 ce.locals = none := I6.free
        rwa [hloc] at z
      obtain ⟨mm, ns, _⟩ := I6.loc
      have ns : s6.heap.Ns ce.locals mm := ns
      rw [hloc] at ns
      refine ⟨mm, ns, fun h'' sb => ?_⟩
      obtain ⟨a0, a1, a2, a3, a4, a5⟩ := I3.fpOk (Nat.le_refl _) noC
      exact ⟨.ref D, H5, back.turned (t' := s6.toks) (fun c o hc e => (sb.2 c hc).trans e) a0 a1 a3 a4 a5, rfl, end_⟩
    · refine thnF (T.item (X.blk s3 H3 scope ce fp) rfl rfl rfl hc i [] s5 _ H5 (fun _ _ => False) I5 (own0 I5 n5) at5 go) fun r s6 ⟨u, hr, h6⟩ => ?_
      subst hr
      refine thnF h6 fun _ s7 ⟨x, H7, I7, r7, y7, at7, n7⟩ => ?_
      refine thnF (pg.run _ s7 _ H7 x u _ (I7.pinned (own0 I7 n7) (T.obj _ _ at7)) r7 (step x H7 y7)) fun _ s8 ⟨σ8, H8, I8, hw8, q8⟩ => ?_
      refine thnF ((pts_nil (X := X.blk s3 H3 scope ce fp)).run _ s8 σ8 H8 (fun b' H' => b' = true ∧ H' = H8) I8 ⟨rfl, rfl⟩) fun tb s9 ⟨H9, I9, e9, e9'⟩ => ?_
      subst e9
      subst e9'
      rw [if_pos rfl]
      refine thnF (pk.run _ s9 σ8 _ _ I9 q8) fun z s10 ⟨yk, H10, I10, r10, q10⟩ => ?_
      refine thnF (pv.run _ s10 σ8 H10 _ I10 q10) fun z2 s11 ⟨yv, H11, I11, r11, H12, put, nx⟩ => ?_
      refine put_comp (X := X.blk s3 H3 scope ce fp) (show X.A.units + 1 < cLine by omega) I11 put r10 r11 fun s12 I12 => ?_
      obtain ⟨m', hm, w'⟩ := hNx H12 nx
      have pin' : ∀ c ∈ fp, ∀ o, s7.heap.get? c = some o → s12.heap.get? c = some o ∧ H12 c = none := fun c hc o e =>
        let z := I12.pin (c, o) (List.mem_append_right _ (List.mem_append_right _ (mem_pinsAt hc e)))
        ⟨z.1, z.2.1⟩
      have hl : (wipe σ (own.map (·.2))).length = σ8.length := by rw [← hw8, wipe_length]
      refine ⟨m', hm, i + 1, H12, (I12.unpinned (pins := [])).weak hl (fun j v e => ?_), T.keep _ _ _ at7 fun c hc o e => (pin' c hc o e).1, fun c hc => ?_, w'⟩
      · rw [← hw8] at e
        exact (wipe_some e).1
      · obtain ⟨o, e, _⟩ := T.obj _ _ at7 c hc
        exact (pin' c hc o e).2
  exact codeAny_compStart_dict loop (T.self X.A 0 _ _ _ at4 loop)
end
end Ev
end

section
set_option Elab.async false
set_option linter.all false
set_option maxRecDepth 100000
set_option maxHeartbeats 1000000
set_option autoImplicit false
/-! Ev12d: displays of dicts, dict comprehensions, list(range(..)). -/
namespace Ev
open PySem PySem.Spec L2
open PyProof.Rows hiding St

section
variable {P : Prg} {T : Wr} {X : Cx} {k : Nat} {W : WX}
/-! ### list(range(..)) -/
theorem rngL_range : ∀ (n : Nat) (lo : Int), rngL lo 1 n = ((List.range n).map fun i => lo + (i : Nat)).map D.int
  | 0, lo => rfl
  | n + 1, lo => by
    rw [rngL, rngL_range n (lo + 1), List.range_succ_eq_map, List.map_cons, List.map_cons, List.map_map, List.map_map, List.map_map]
    congr 1
    · simp
    · refine List.map_congr_left fun i _ => ?_
      show D.int _ = D.int _
      congr 1
      show lo + 1 + (i : Int) = lo + ((i + 1 : Nat) : Int)
      omega
theorem go_lrg {a : EX} (iha : GoE P T k a) : GoE P T k (.lrg a) := GoE.of fun X W st e he => by
  unfold okE at he
  split at he
  · simp only [Bool.and_eq_true] at he
    obtain ⟨⟨h1, h2⟩, h3⟩ := he
    obtain ⟨rfl, g1, n1, n2⟩ := okG_ok h1
    obtain ⟨rfl, g2, n3, n4⟩ := okG_ok h2
    refine ⟨(pe_listRg st.calm g1 (st.fx.blt "list" (by decide)) (prg_1 g2 (st.fx.blt "range" (by decide)) (iha X W st _ h3).1 (starEach_plain (okE_plain h3)))).imp fun σ H Q ⟨φ, env, S, r, p⟩ => ?_, rfl⟩
    simp only [evE] at p
    refine ⟨φ, env, S, r, p.bind fun d S1 φ1 H1 x _ x1 s1 r1 p1 => ?_⟩
    cases d with
    | int n =>
      cases r1
      dsimp only at p1
      split at p1
      · rename_i hn
        have hn : n.natAbs ≤ 1000000 := hn
        refine ⟨n, rfl, ⟨by omega, by omega, by omega, by omega, by omega⟩, fun q hq => ?_⟩
        refine p1.alloc s1 hq ⟨_, upd_same, ?_⟩
        rw [rngL_range]
        have e : rgV 0 n = ((List.range n.toNat).map fun i => (0 : Int) + (i : Nat)).map V.int := by
          unfold rgV
          rw [List.map_map, Int.sub_zero]
          rfl
        rw [e]
        exact RepVs.ints _
      · exact p1.elim
    | _ => exact p1.elim
  · cases he
/-! ### displays -/
def GoPs (P : Prg) (T : Wr) (k : Nat) (xs : EXs) : Prop := ∀ (X : Cx) (W : WX), Sit P T X k W → ∀ es, okEs X.N X.env.scope xs es = true → ∀ (pos : Pos) (ks : List Str) (keys : List (Option Expr)), keysTx ks keys = true → keys.length = es.length →
  ∃ trs : List (TE × TE), PPs X pos keys es trs ∧ ∀ σ H (Q : List V → Hp → Prop) (Q2 : List (V × V) → Hp → Prop), (∀ vs H1, vs.length = ks.length → Q vs H1 → Q2 ((ks.zip vs).map fun p => (V.str p.1, p.2)) H1) → rds T W (evEs (cxK P k) xs) σ H Q → tPairs trs σ H Q2
theorem gp_nil : GoPs P T k .nil := fun X W st es he pos ks keys hk hl => by
  have : es = [] := List.isEmpty_iff.mp he
  subst this
  have hk2 : keys = [] := List.length_eq_zero_iff.mp hl
  subst hk2
  have hks : ks = [] := by
    cases ks with
    | nil => rfl
    | cons _ _ => cases hk
  subst hks
  refine ⟨[], pps_nil, fun σ H Q Q2 hQ ⟨φ, env, S, r, p⟩ => ?_⟩
  simp only [evEs] at p
  exact hQ [] H rfl (p.ok r.sto .nil)
theorem gp_cons {x : EX} {xs : EXs} (ih : GoE P T k x) (ihs : GoPs P T k xs) : GoPs P T k (.cons x xs) := fun X W st es he pos ks keys hk hl => by
  cases es with
  | nil => cases he
  | cons e es =>
    have he : (okE X.N X.env.scope x e && okEs X.N X.env.scope xs es) = true := he
    rw [Bool.and_eq_true] at he
    cases keys with
    | nil => simp at hl
    | cons kx keys =>
      cases ks with
      | nil => cases hk
      | cons z ks =>
        unfold keysTx at hk
        split at hk
        · cases ‹_ = []›
        · rename_i k1 ks1 y t q es1 e1 e2
          cases e1
          cases e2
          rw [Bool.and_eq_true] at hk
          have ez : z = y := of_decide_eq_true hk.1
          subst ez
          obtain ⟨trs, h1, h2⟩ := ihs X W st es he.2 pos ks keys hk.2 (by simpa using hl)
          refine ⟨(tC (.str z), rdV T W (evE (cxK P k) x)) :: trs, pps_cons pe_str (ih X W st e he.1).1 h1, fun σ H Q Q2 hQ ⟨φ, env, S, r, p⟩ => ?_⟩
          simp only [evEs] at p
          refine ⟨φ, env, S, r, p.bind fun d S1 φ1 H1 y _ x1 s1 r1 p1 => ?_⟩
          refine h2 σ H1 (fun vs H2 => Q (y :: vs) H2) _ (fun vs H2 hv hq => ?_) ⟨φ1, env, S1, r.ext x1 s1, p1.bind fun ds S2 φ2 H2 vs _ x2 s2 r2 p2 => p2.ok s2 (.cons (r1.ext s1 x2) r2)⟩
          exact hQ (y :: vs) H2 (by simp [hv]) hq
        · cases hk
theorem go_dsp {ks : List Str} {xs : EXs} (ih : GoPs P T k xs) : GoE P T k (.dsp ks xs) := GoE.of fun X W st e he => by
  unfold okE at he
  split at he
  · rename_i keys vals pos
    simp only [Bool.and_eq_true, decide_eq_true_eq, Bool.not_eq_true'] at he
    obtain ⟨⟨h1, h2⟩, ⟨h3, h4⟩, h5⟩ := he
    obtain ⟨trs, g1, g2⟩ := ih X W st vals h2 pos ks keys h1 h5
    have kl : ∀ (ks : List Str) (keys : List (Option Expr)), keysTx ks keys = true → keys.length = ks.length ∧ keys.all (·.isSome) = true := by
      intro ks
      induction ks with
      | nil => intro keys h; cases keys with
        | nil => exact ⟨rfl, rfl⟩
        | cons _ _ => cases h
      | cons z ks ih =>
        intro keys h
        unfold keysTx at h
        split at h
        · cases ‹_ = []›
        · rename_i k1 ks1 y t q es1 e1
          cases e1
          rw [Bool.and_eq_true] at h
          obtain ⟨i1, i2⟩ := ih _ h.2
          exact ⟨by simp [i1], by simpa using i2⟩
        · cases h
    obtain ⟨l1, l2⟩ := kl ks keys h1
    refine ⟨(pe_disp g1 l2 h5 (fun z => by rw [z] at l1; cases ks with | nil => cases h3 | cons _ _ => cases l1) (by omega)).imp fun σ H Q ⟨φ, env, S, r, p⟩ => ?_, rfl⟩
    simp only [evE] at p
    intro q hq
    have hqφ := r.sto.fresh hq
    have xq : Ext φ φ H (upd H q (.dK [])) := Ext.aside hq
    have sq : RepS T φ (upd H q (.dK [])) S := r.sto.aside hq
    cases hr : evEs (cxK P k) xs env S with
    | bad => rw [hr] at p; exact p.elim
    | exc y S1 =>
      rw [hr] at p
      refine g2 σ (upd H q (.dK [])) (fun _ _ => False) _ (fun vs H2 hv z => z.elim) ⟨φ, env, S, r.ext xq sq, ?_⟩
      rw [hr]
      exact fun φ' H' c d x' => p φ' H' c d (xq.trans x')
    | ok ds S1 =>
      rw [hr] at p
      have p : Post T (fun c d H => W c d σ H) (RV T) φ H (if ds.length = ks.length ∧ ds.length ≤ 15 then Ev.alloc (.dk (putAll [] ((ks.map Sum.inr).zip ds))) S1 else .bad) Q := p
      refine g2 σ (upd H q (.dK [])) (fun vs H2 => ∃ φ1, Ext φ φ1 (upd H q (.dK [])) H2 ∧ RepS T φ1 H2 S1 ∧ RepVs T φ1 H2 vs ds) _ (fun vs H2 hv ⟨φ1, x1, s1, rv⟩ => ?_) ⟨φ, env, S, r.ext xq sq, by rw [hr]; exact fun φ1 H1 vs x1 s1 r1 => ⟨φ1, x1, s1, r1⟩⟩
      have hd : H2 q = some (.dK []) := x1.kp q _ upd_same hqφ fun _ z => by cases z
      have hq1 : q ∉ φ1 := fun z => by
        rcases x1.new q z with z | z
        · exact hqφ z
        · obtain ⟨_, z⟩ := z _ upd_same
          cases z
      have hl := rv.length
      split at p
      · refine ⟨hd, (ks.zip vs).map fun p => (Sum.inr p.1, p.2), ?_, ?_, ?_⟩
        · rw [List.map_map]
          rfl
        · rw [List.length_map, List.length_zip]
          omega
        · have kz : ∀ (ks : List Str) (vs : List V) (ds : List D), RepVs T φ1 H2 vs ds → RepK T φ1 H2 ((ks.zip vs).map fun p => ((Sum.inr p.1 : Key), p.2)) ((ks.map Sum.inr).zip ds) := by
            intro ks
            induction ks with
            | nil => intro vs ds h; exact .nil
            | cons z ks ih =>
              intro vs ds h
              cases h with
              | nil => exact .nil
              | cons h1 h2 => exact .cons ⟨rfl, h1⟩ (ih _ _ h2)
          have rk : RepK T φ1 H2 (mergeK [] ((ks.zip vs).map fun p => (Sum.inr p.1, p.2))) (putAll [] ((ks.map Sum.inr).zip ds)) := putAll_rep (kz ks vs ds rv) .nil
          have s2 : RepS T φ1 (upd H2 q (.dK (mergeK [] ((ks.zip vs).map fun p => (Sum.inr p.1, p.2))))) S1 := Ev.beside s1 hq1 hd (fun _ z => by cases z) trivial trivial
          have rk2 : RepO T φ1 (upd H2 q (.dK (mergeK [] ((ks.zip vs).map fun p => (Sum.inr p.1, p.2))))) q (.dk (putAll [] ((ks.map Sum.inr).zip ds))) := by
            refine ⟨_, upd_same, ?_⟩
            refine Paired.mapP rk fun a b h => ⟨h.1, ?_⟩
            exact RepV.keep (fun b xs e => by rw [upd_ne (by rintro rfl; rw [hd] at e; cases e)]; exact e) (fun b ob v e => by rw [upd_ne (by rintro rfl; rw [hd] at e; cases e)]; exact e) (fun b f x e => by rw [upd_ne (by rintro rfl; rw [hd] at e; cases e)]; exact e) h.2
          exact p (φ1 ++ [q]) _ (.ref q) (((xq.trans x1).beside hq).adopt (.of hq)) (s2.adopt hq1 rk2) (.loc (by rw [← s1.len]; simp))
      · exact p.elim
  · cases he
/-! ### dict comprehensions -/
theorem RepK.put {κ : Type} {φ : List Addr} {H : Hp} {D0 : Addr} {u w : HO} {vs : List (κ × V)} {ds : List (κ × D)} (hw : H D0 = some w) (hm : Mut (some w)) (h : RepK T φ H vs ds) : RepK T φ (upd H D0 u) vs ds :=
  Paired.mapP h fun _ _ q => ⟨q.1, RepV.keep (fun b xs e => by rw [upd_ne (by rintro rfl; rw [hw] at e; cases e; exact hm)]; exact e) (fun b ob v e => by rw [upd_ne (by rintro rfl; rw [hw] at e; cases e; exact hm)]; exact e) (fun b f x e => by rw [upd_ne (by rintro rfl; rw [hw] at e; cases e; exact hm)]; exact e) q.2⟩
theorem obPut_beside {φ : List Addr} {H : Hp} {a : Addr} {o o' : Ob} {y z : V} {k v : D} (h : RepO T φ H a o) (ry : RepV T φ H y k) (rz : RepV T φ H z v) (e : obPut o k v = some o') :
    ∃ u, DPut H a y z (upd H a u) ∧ RepO T φ (upd H a u) a o' ∧ Mut (some u) ∧ ∃ w, H a = some w ∧ Mut (some w) ∧ (∀ ps, w ≠ .tbl ps) ∧ inSt w := by
  cases o with
  | dk kds =>
    have e : ((keyOf k).bind fun k => if kds.length < LIM then some (.dk (kput kds k v)) else none) = some o' := by
      unfold obPut at e
      cases k <;> exact e
    obtain ⟨kk, e1, e2⟩ := Option.bind_eq_some_iff.mp e
    split at e2
    · rename_i hz
      cases e2
      obtain ⟨kvs, h1, h2⟩ := h
      have hy := keyOf_rep ry e1
      subst hy
      exact ⟨.dK (putK kvs kk z), DPut.k h1 (LIM_lt (by rw [h2.length]; exact hz)), ⟨_, upd_same, RepK.put h1 trivial (kput_rep rz h2)⟩, trivial, _, h1, trivial, (fun _ z => by cases z), trivial⟩
    · cases e2
  | dt kds =>
    cases k with
    | tup ks =>
      have e : ((keysOf ks).bind fun k => if kds.length < LIM then some (.dt (kput kds k v)) else none) = some o' := e
      obtain ⟨kk, e1, e2⟩ := Option.bind_eq_some_iff.mp e
      split at e2
      · rename_i hz
        cases e2
        obtain ⟨kvs, h1, h2⟩ := h
        cases ry with
        | tup t1 t2 =>
          have hy := keysOf_rep t2 e1
          subst hy
          exact ⟨.dT (putK kvs kk z), DPut.t h1 t1 (LIM_lt (by rw [h2.length]; exact hz)), ⟨_, upd_same, RepK.put h1 trivial (kput_rep rz h2)⟩, trivial, _, h1, trivial, (fun _ z => by cases z), trivial⟩
      · cases e2
    | _ => cases e
  | lst ds => cases k <;> cases e
  | ins C fs => cases k <;> cases e
def dcF (c : Ctx) (own : List Nat) (t : TG) (k v : EX) (env : EnvD) : D → Ob → Store → Res Ob := fun d acc S => match bindT t d (wipeE env own) with
  | some env' => (evE c k env' S).bind fun x S => (evE c v env' S).bind fun y S => putR acc x y S
  | none => .bad
def WkD (T : Wr) (f : D → Ob → Store → Res Ob) (iv : ItV) (φ : List Addr) (H1 : Hp) (D0 : Addr) (r0 : Res Ob) (i m : Nat) (H : Hp) : Prop :=
  ∃ (φ' : List Addr) (S' : Store) (accD : Ob), Ext φ φ' H1 H ∧ RepS T φ' H S' ∧ D0 ∉ φ' ∧ RepO T φ' H D0 accD ∧ Wk f iv i m accD S' r0
theorem emptyD_rep (b : Bool) {φ : List Addr} {H : Hp} {D0 : Addr} : RepO T φ (upd H D0 (newD b)) D0 (emptyD b) := by
  cases b
  · exact ⟨[], upd_same, .nil⟩
  · exact ⟨[], upd_same, .nil⟩
theorem RepO.stay {φ φ' : List Addr} {H H' : Hp} {S : Store} {D0 : Addr} {o : Ob} (s : RepS T φ H S) (x : Ext φ φ' H H') (hn : D0 ∉ φ) (h : RepO T φ H D0 o) : RepO T φ' H' D0 o ∧ D0 ∉ φ' := by
  obtain ⟨u, e, m, ht⟩ := h.mut
  refine ⟨h.ext s x ((x.kp D0 u e hn ht).trans e.symm), fun hm => ?_⟩
  rcases x.new D0 hm with z | z
  · exact hn z
  · obtain ⟨ps, z⟩ := z _ e
    exact ht ps z
theorem go_dcp {b : Bool} {own : List (String × Nat)} {t : TG} {it : IT} {kx vx : EX} (ihi : GoI P T k it) (ihk : GoE P T k kx) (ihv : GoE P T k vx) : GoE P T k (.dcp b own t it kx vx) := GoE.of fun X W st e he => by
  unfold okE at he
  split at he
  · rename_i ke ve tg iter scope pos
    simp only [Bool.and_eq_true] at he
    obtain ⟨⟨⟨⟨⟨⟨⟨hb, ht⟩, hi⟩, hen⟩, hsl⟩, hown⟩, hke⟩, hve⟩ := he
    have ok := blkOk_by hb
    have hvs : (own.map fun p => (Str.ofString p.1, p.2)).map (·.2) = own.map (·.2) := by rw [List.map_map]; rfl
    refine ⟨(pe_dcB (b := b) (g := gTG X.K t) st.hu st.calm st.nd (ihi X W st tg iter hi hen) ok
      (fun s H C cl fp => pg_ok (X := X.blk s H scope (compEnvC scope cl C X.env) fp) (t := t) st.calm st.nd (fun i x hi hx _ => by
        have h1 := List.all_eq_true.mp hsl i hi
        simp only [decide_eq_true_eq] at h1
        obtain ⟨p, hp, rfl⟩ := List.mem_map.mp h1
        have h2 := ok.ix (Str.ofString p.1, p.2) (List.mem_map.mpr ⟨p, hp, rfl⟩)
        have h2 : X.N[p.2]? = some (Str.ofString p.1) := h2
        have hx : X.N[p.2]? = some x := hx
        rw [h2] at hx; cases hx
        have h3 := List.all_eq_true.mp hown p hp
        rw [Bool.or_eq_true] at h3
        rcases h3 with h3 | h3
        · exact .inl (by simpa using h3)
        · refine .inr ?_
          unfold lclB at h3
          split at h3
          · assumption
          · cases h3) ht)
      (fun s H C cl fp => (ihk _ noW (st.blk s H scope C cl fp) ke hke).1) (fun s H C cl fp => (ihv _ noW (st.blk s H scope C cl fp) ve hve).1) (fun x => folded_plain (okI_plain hi) x)).imp fun σ H Q ⟨φ, env, S, r, p⟩ => ?_, rfl⟩
    simp only [evE] at p
    have p : Post T (fun c d H => W c d σ H) (RV T) φ H ((evIt (cxK P k) it env S).bind fun iv S => (noExc (walkI (dcF (cxK P k) (own.map (·.2)) t kx vx env) iv (emptyD b) S)).bind Ev.alloc) Q := p
    rw [hvs]
    refine ⟨φ, env, S, r, p.bind fun iv S1 φ1 H1 J _ x1 s1 r1 p1 => ?_⟩
    intro D0 hD
    cases hwalk : walkI (dcF (cxK P k) (own.map (·.2)) t kx vx env) iv (emptyD b) S1 with
    | bad => rw [hwalk] at p1; exact p1.elim
    | exc x S' => rw [hwalk] at p1; exact p1.elim
    | ok ob S' =>
    rw [hwalk] at p1
    have p1 : Post T (fun c d H => W c d σ H) (RV T) φ1 H1 (.ok (.loc S'.length) (S' ++ [ob])) Q := p1
    have renv : Rep T φ1 σ H1 env S1 := r.ext x1 s1
    have hnD : D0 ∉ φ1 := s1.fresh hD
    refine ⟨WkD T (dcF (cxK P k) (own.map (·.2)) t kx vx env) iv φ1 H1 D0 (.ok ob S'), ?_, ?_⟩
    · obtain ⟨m, hm⟩ := wk_start (f := dcF (cxK P k) (own.map (·.2)) t kx vx env) (iv := iv) (a := emptyD b) (S := S1)
      rw [hwalk] at hm
      exact ⟨m, φ1, S1, emptyD b, Ext.aside hD, s1.aside hD, hnD, emptyD_rep b, hm⟩
    · rintro i m Hc ⟨φ2, S2, accD, x2, s2, hn2, ro2, wk2⟩
      rcases wk_turn wk2 (fun z => by cases z) s2 (RI.ext x2 r1) with ⟨hstop, e0⟩ | ⟨hgo, d, hy, g, e0, nxt⟩
      · cases e0
        refine .inl ⟨hstop, ?_⟩
        exact p1 (φ2 ++ [D0]) Hc (.ref D0) (x2.adopt (.of hD)) (s2.adopt hn2 ro2) (.loc (by rw [← s2.len]; simp))
      · refine .inr ⟨hgo, fun H' => ∃ m', m' < m ∧ WkD T (dcF (cxK P k) (own.map (·.2)) t kx vx env) iv φ1 H1 D0 (.ok ob S') (i + 1) m' H', fun H' h => h, fun x H' hyl => ?_⟩
        obtain ⟨rx, x3, s3⟩ := hy x H' hyl
        obtain ⟨ro3, _⟩ := ro2.stay s2 x3 hn2
        have x13 := x2.trans x3
        cases hbt : bindT t d (wipeE env (own.map (·.2))) with
        | none =>
          unfold dcF at e0
          rw [hbt] at e0
          cases e0
        | some env' =>
          have hF : dcF (cxK P k) (own.map (·.2)) t kx vx env d accD S2 = (evE (cxK P k) kx env' S2).bind fun x S => (evE (cxK P k) vx env' S).bind fun y S => putR accD x y S := by
            unfold dcF; rw [hbt]
          rw [hF] at e0 nxt
          have rw3 : Rep T φ2 (L2.wipe σ (own.map (·.2))) H' (wipeE env (own.map (·.2))) S2 := (renv.ext x13 s3).wipe _
          rw [st.K]
          refine bindT_rep rx rw3 hbt fun σ2 r4 hw4 => ⟨?_, ?_⟩
          · refine (hw4 (own.map (·.2)) fun i hi => ?_).trans wipe_wipe
            have h1 := List.all_eq_true.mp hsl i hi
            simpa using h1
          · refine ⟨φ2, env', S2, r4, ?_⟩
            cases hk1 : evE (cxK P k) kx env' S2 with
            | bad => rw [hk1] at e0; cases e0
            | exc x S => rw [hk1] at e0; cases e0
            | ok kd S4 =>
              rw [hk1] at e0 nxt
              intro φ4 H4 y x4 s4 ry
              obtain ⟨ro4, hn4⟩ := ro3.stay s3 x4 hn2
              refine ⟨φ4, env', S4, r4.ext x4 s4, ?_⟩
              have e0 : Res.ok ob S' = ((evE (cxK P k) vx env' S4).bind fun y S => putR accD kd y S).bind g := e0
              have nxt : ∀ (a' : Ob) (S'' : Store), ((evE (cxK P k) vx env' S4).bind fun y S => putR accD kd y S) = .ok a' S'' → ∃ m', m' < m ∧ Wk (dcF (cxK P k) (own.map (·.2)) t kx vx env) iv (i + 1) m' a' S'' (.ok ob S') := nxt
              cases hv1 : evE (cxK P k) vx env' S4 with
              | bad => rw [hv1] at e0; cases e0
              | exc x S => rw [hv1] at e0; cases e0
              | ok vd S5 =>
                rw [hv1] at e0 nxt
                intro φ5 H5 z x5 s5 rz
                obtain ⟨ro5, hn5⟩ := ro4.stay s4 x5 hn4
                have e0 : Res.ok ob S' = (putR accD kd vd S5).bind g := e0
                have nxt : ∀ (a' : Ob) (S'' : Store), putR accD kd vd S5 = .ok a' S'' → ∃ m', m' < m ∧ Wk (dcF (cxK P k) (own.map (·.2)) t kx vx env) iv (i + 1) m' a' S'' (.ok ob S') := nxt
                unfold putR at e0 nxt
                cases hp : obPut accD kd vd with
                | none => rw [hp] at e0; cases e0
                | some o' =>
                  rw [hp] at nxt
                  obtain ⟨m', hm', hwk'⟩ := nxt o' S5 rfl
                  obtain ⟨u, dp, ro6, hu, w, hw, hmw, htw, hix⟩ := obPut_beside ro5 (ry.ext s4 x5) rz hp
                  exact ⟨_, dp, m', hm', φ5, S5, o', ((x13.trans x4).trans x5).beside hD, Ev.beside s5 hn5 hw htw hmw hu hix, hn5, ro6, hwk'⟩
  · cases he
theorem strict_eq : ∀ {l m : List Int}, l.Pairwise (· < ·) → m.Pairwise (· < ·) → (∀ k, k ∈ l ↔ k ∈ m) → l = m
  | [], [], _, _, _ => rfl
  | [], y :: m, _, _, h => absurd ((h y).mpr List.mem_cons_self) (by simp)
  | x :: l, [], _, _, h => absurd ((h x).mp List.mem_cons_self) (by simp)
  | x :: l, y :: m, hl, hm, h => by
    rw [List.pairwise_cons] at hl hm
    have e : x = y := by
      rcases List.mem_cons.mp ((h x).mp List.mem_cons_self) with e | e
      · exact e
      · rcases List.mem_cons.mp ((h y).mpr List.mem_cons_self) with e2 | e2
        · exact e2.symm
        · have a := hm.1 x e
          have b := hl.1 y e2
          omega
    subst e
    rw [strict_eq hl.2 hm.2 fun k => ⟨fun hk => ?_, fun hk => ?_⟩]
    · rcases List.mem_cons.mp ((h k).mp (List.mem_cons_of_mem _ hk)) with e | e
      · have := hl.1 k hk
        omega
      · exact e
    · rcases List.mem_cons.mp ((h k).mpr (List.mem_cons_of_mem _ hk)) with e | e
      · have := hm.1 k hk
        omega
      · exact e
theorem insU_mem (x k : Int) : ∀ l : List Int, k ∈ insU x l ↔ k = x ∨ k ∈ l
  | [] => by simp [insU]
  | y :: r => by
    unfold insU
    split
    · simp
    · split
      · rename_i h
        subst h
        simp
      · rw [List.mem_cons, insU_mem x k r, List.mem_cons]
        constructor
        · rintro (h | h | h)
          · exact .inr (.inl h)
          · exact .inl h
          · exact .inr (.inr h)
        · rintro (h | h | h)
          · exact .inr (.inl h)
          · exact .inl h
          · exact .inr (.inr h)
theorem insU_rising (x : Int) : ∀ l : List Int, l.Pairwise (· < ·) → (insU x l).Pairwise (· < ·)
  | [], _ => by simp [insU]
  | y :: r, h => by
    unfold insU
    have h' := List.pairwise_cons.mp h
    split
    · rename_i hx
      refine List.pairwise_cons.mpr ⟨fun z hz => ?_, h⟩
      rcases List.mem_cons.mp hz with e | e
      · omega
      · have := h'.1 z e
        omega
    · split
      · exact h
      · refine List.pairwise_cons.mpr ⟨fun z hz => ?_, insU_rising x r h'.2⟩
        rcases (insU_mem x z r).mp hz with e | e
        · omega
        · exact h'.1 z e
theorem setI_rising : ∀ l : List Int, (setI l).Pairwise (· < ·)
  | [] => .nil
  | x :: l => insU_rising x _ (setI_rising l)
theorem setI_mem (k : Int) : ∀ l : List Int, k ∈ setI l ↔ k ∈ l
  | [] => Iff.rfl
  | x :: l => by
    show k ∈ insU x (setI l) ↔ _
    rw [insU_mem, setI_mem k l, List.mem_cons]
theorem go_srs {a : EX} (iha : GoE P T k a) : GoE P T k (.srs a) := GoE.of fun X W st e he => by
  unfold okE at he
  split at he
  · simp only [Bool.and_eq_true] at he
    obtain ⟨⟨h1, h2⟩, h3⟩ := he
    obtain ⟨rfl, g1, n1, n2⟩ := okG_ok h1
    obtain ⟨rfl, g2, n3, n4⟩ := okG_ok h2
    have hp := okE_plain h3
    have inner := fun p pos => pe_callTy (p := p) (pos := pos) (cr_setTI st.calm) g2 (st.fx.blt "set" (by decide)) PyProof.Rows.boot_set (pa_cons (iha X W st _ h3).1 pa_nil (starEach_plain hp)) n4 n3 (starEach_plain hp) (by rfl)
    refine ⟨(pe_callB (cr_sortedSet st.calm) g1 (st.fx.blt "sorted" (by decide)) (by rfl) (pa_cons (inner _ _) pa_nil (by rfl)) n2 n1 (by rfl) (by rfl)).imp fun σ H Q ⟨φ, env, S, r, p⟩ => ?_, rfl⟩
    simp only [evE] at p
    refine ⟨φ, env, S, r, p.bind fun d S1 φ1 H1 x _ x1 s1 r1 p1 => ?_⟩
    cases d with
    | tup ds =>
      cases r1 with
      | tup q1 q2 =>
        dsimp only at p1
        cases hi : intsD ds with
        | none => rw [hi] at p1; exact False.elim p1
        | some is =>
          rw [hi] at p1
          dsimp only at p1
          split at p1
          · rename_i h64
            have e := intsD_rep q2 hi
            subst e
            refine ⟨_, is, rfl, SqT.of q1, by omega, fun p' c hc hn => ?_⟩
            refine ⟨p', _, c, rfl, upd_same, by omega, fun ns q hpw hmem hlen hq => ?_⟩
            have en : ns = setI is := strict_eq hpw (setI_rising is) fun k => by
              rw [hmem k, decide_eq_true_iff, setI_mem]
            rw [en]
            exact (Post.ext (Ext.aside hn) p1).alloc (s1.aside hn) hq ⟨_, upd_same, RepVs.ints _⟩
          · exact False.elim p1
    | _ => exact False.elim p1
  · cases he
theorem RepVs.reverse {K : Wr} {φ : List Addr} {H : Hp} : ∀ {vs : List V} {ds : List Ev.D}, RepVs K φ H vs ds → RepVs K φ H vs.reverse ds.reverse
  | _, _, .nil => .nil
  | _, _, .cons r t => by
    rw [List.reverse_cons, List.reverse_cons]
    exact (RepVs.reverse t).append (.cons r .nil)
theorem go_rev {a : EX} (iha : GoE P T k a) : GoE P T k (.rev a) := GoE.of fun X W st e he => by
  unfold okE at he
  split at he
  · refine ⟨(pe_revL (iha X W st _ he).1).imp fun σ H Q ⟨φ, env, S, r, p⟩ => ?_, rfl⟩
    simp only [evE] at p
    refine ⟨φ, env, S, r, p.bind fun d S1 φ1 H1 x _ x1 s1 r1 p1 => ?_⟩
    cases d with
    | loc l =>
      cases r1 with
      | loc ha =>
        dsimp only at p1
        split at p1
        · rename_i ds hS
          obtain ⟨vs, h1, h2⟩ := s1.ob _ _ _ hS ha
          exact ⟨_, vs, rfl, by rw [st.K]; exact SqL.of h1, fun q hq => p1.alloc s1 hq ⟨vs.reverse, upd_same, (RepVs.reverse h2).ext s1 (Ext.alloc hq (s1.fresh hq))⟩⟩
        · exact False.elim p1
    | _ => exact False.elim p1
  · cases he
end
end Ev
end

section
set_option Elab.async false
set_option linter.all false
set_option maxRecDepth 100000
set_option maxHeartbeats 1000000
set_option autoImplicit false
/-! Ev12z: every expression is sound. -/
namespace Ev
open PySem PySem.Spec L2
open PyProof.Rows hiding St

section
variable {P : Prg} {T : Wr} {X : Cx} {k : Nat} {W : WX}
/-! ### every expression -/
theorem go_non : GoE P T k .non := go_const (v := .non) (d := .non) (fun _ _ _ => .non) (fun _ _ => by simp only [evE]) fun X e he => by
  unfold okE at he
  split at he
  · exact ⟨pe_non, rfl⟩
  · cases he
theorem go_bl {b : Bool} : GoE P T k (.bl b) := go_const (v := .bl b) (d := .bl b) (fun _ _ _ => .bl b) (fun _ _ => by simp only [evE]) fun X e he => by
  unfold okE at he
  split at he
  · have := eq_of_beq he
    subst this
    exact ⟨pe_bl, rfl⟩
  · cases he
theorem go_int {i : Int} : GoE P T k (.int i) := go_const (v := .int i) (d := .int i) (fun _ _ _ => .int i) (fun _ _ => by simp only [evE]) fun X e he => by
  unfold okE at he
  split at he
  · have := of_decide_eq_true he
    subst this
    exact ⟨pe_int, rfl⟩
  · cases he
theorem go_str {x : Str} : GoE P T k (.str x) := go_const (v := .str x) (d := .str x) (fun _ _ _ => .str x) (fun _ _ => by simp only [evE]) fun X e he => by
  unfold okE at he
  split at he
  · have := of_decide_eq_true he
    subst this
    exact ⟨pe_str, rfl⟩
  · cases he
mutual
theorem goE : ∀ (x : EX) {k : Nat}, GoE P T k x
  | .non => go_non
  | .bl b => go_bl
  | .int i => go_int
  | .str x => go_str
  | .var i => go_var
  | .glb x => go_glb
  | .bty x => go_bty
  | .tup es => go_tup (goEs es)
  | .ofl l => go_ofl (goL l)
  | .dk0 => go_dk0
  | .dt0 => go_dt0
  | .bin op a b => go_bin (goE a) (goE b)
  | .neg a => go_neg (goE a)
  | .cmp op a b => go_cmp (goE a) (goE b)
  | .chn op a b op' c => go_chn (goE a) (goE b) (goE c)
  | .bop isAnd es => go_bop (goEs es)
  | .nt a => go_nt (goE a)
  | .ife t a b => go_ife (goE t) (goE a) (goE b)
  | .sub a i => go_sub (goE a) (goE i)
  | .slc0 a => go_slc0 (goE a)
  | .slcF a lo => go_slcF (goE a) (goE lo)
  | .slcT a hi => go_slcT (goE a) (goE hi)
  | .slcB a lo hi => go_slcB (goE a) (goE lo) (goE hi)
  | .fld a f => go_fld (goE a)
  | .call x es => go_call (goEs es)
  | .new C es => go_new (goEs es)
  | .meth a m es => go_meth (goE a) (goEs es)
  | .blt f es => go_blt (goEs es)
  | .bll f l => go_bll (goL l)
  | .lamw x b => go_lamw fun _ => goE b
  | .fnv x => go_fnv
  | .bmv a m => go_bmv (goE a)
  | .cval i es => go_cval (goEs es)
  | .dsp ks es => go_dsp (goPs es)
  | .dcp b own t it kx vx => go_dcp (goI it) (goE kx) (goE vx)
  | .lrg a => go_lrg (goE a)
  | .srs a => go_srs (goE a)
  | .rev a => go_rev (goE a)
theorem goPs : ∀ (xs : EXs) {k : Nat}, GoPs P T k xs
  | .nil => gp_nil
  | .cons x xs => gp_cons (goE x) (goPs xs)
theorem goEs : ∀ (xs : EXs) {k : Nat}, GoEs P T k xs
  | .nil => ge_nil
  | .cons x xs => ge_cons (goE x) (goEs xs)
theorem goI : ∀ (x : IT) {k : Nat}, GoI P T k x
  | .val e => gi_val (goE e)
  | .rng1 a => gi_rng1 (goE a)
  | .rng2 a b => gi_rng2 (goE a) (goE b)
  | .rng3 a b c => gi_rng3 (goE a) (goE b) (goE c)
  | .enm a => gi_enm (goE a)
theorem goL : ∀ (x : LX) {k : Nat}, GoL P T k x
  | .dis es => gl_dis (goEs es)
  | .comp own t it .nil e => (gc_comp0 (goI it) (goE e)).gl
  | .comp own t it (.cons i is) e => (gc_comp1 (goI it) (goE i) (goE e)).gl
end
theorem goC {own : List (String × Nat)} {t : TG} {it : IT} {ifs : EXs} {e : EX} : GoC P T k (.comp own t it ifs e) := by
  cases ifs with
  | nil => exact gc_comp0 (goI it) (goE e)
  | cons i is => exact gc_comp1 (goI it) (goE i) (goE e)
end
end Ev
end

section
set_option Elab.async false
set_option linter.all false
set_option maxRecDepth 100000
set_option maxHeartbeats 1000000
set_option autoImplicit false
/-! Ev13: statements. -/
namespace Ev
open PySem PySem.Spec L2
open PyProof.Rows hiding St

/-! ### the text -/
def plainC : Expr → Bool
  | .ListComp .. => false
  | .SetComp .. => false
  | .DictComp .. => false
  | _ => true
/-- is the name stored within the comprehension? -/
def swB (sc : Scope) (x : Str) (py : Pos) : Expr → Bool
  | .ListComp _ _ s pos => (sc.names.lookup x == some .local) && (py.line == pos.line) && !(s.names.any fun (n, k) => n == x && (k == .local || k == .cell))
  | _ => false
def notSet : Expr → Bool
  | .SetComp .. => false
  | .DictComp .. => false
  | _ => true
def okTag (N : List Str) (sc : Scope) : TAG → Expr → Bool
  | .name i, e => match e with
    | .Name x _ => decide (N[i]? = some x) && locB sc x && plainN x
    | _ => false
  | .sub o i, e => match e with
    | .Subscript l r _ => okE N sc o l && okE N sc i r
    | _ => false
def okTags (N : List Str) (sc : Scope) : List TAG → List Expr → Bool
  | [], [] => true
  | t :: ts, e :: es => okTag N sc t e && okTags N sc ts es
  | _, _ => false
/-- a, b = .. with the stores in order -/
def inOrder (sc : Scope) (ts : List Expr) : Expr → Bool
  | .Tuple vs _ _ => decide (ts.length ≠ 2 ∧ ts.length ≠ 3) || (ts.any fun
    | .Name x _ => !(sc.names.lookup x == some .local)
    | _ => true) || vs.all (foldedForSure 8)
  | _ => true
def okPar (N : List Str) (sc : Scope) : List Nat → List Expr → List Expr → Bool
  | [i, j], [.Name x px, .Name y py], [a, b] => decide (N[i]? = some x) && decide (N[j]? = some y) && decide (i ≠ j) && lclB sc x && lclB sc y && (px.line == py.line) && plainX a && plainX b && !([a, b].all (foldedForSure 8)) && !([a, b].all (constantsAlone 8))
  | [i, j, l], [.Name x px, .Name y py, .Name z pz], [a, b, c] => decide (N[i]? = some x) && decide (N[j]? = some y) && decide (N[l]? = some z) && decide (i ≠ j) && decide (i ≠ l) && decide (j ≠ l) && lclB sc x && lclB sc y && lclB sc z && (px.line == py.line) && (px.line == pz.line) && plainX a && plainX b && plainX c && !([a, b, c].all (foldedForSure 8)) && !([a, b, c].all (constantsAlone 8))
  | _, _, _ => false
def augOk : Op → Bool
  | .add => true
  | .sub => true
  | _ => false
mutual
def okS (N : List Str) (sc : Scope) : ST → Stmt → Bool
  | .expr e, s => match s with
    | .Expr x _ => plainC x && okE N sc e x
    | _ => false
  | .set i e, s => match s with
    | .Assign [.Name x py] v _ => decide (N[i]? = some x) && locB sc x && plainN x && notSet v && okE N sc e v
    | _ => false
  | .par ns es, s => match s with
    | .Assign [.Tuple ts _ _] (.Tuple vs _ _) _ => okPar N sc ns ts vs && okEs N sc es vs
    | _ => false
  | .asg t e, s => match s with
    | .Assign [.Subscript l r p] v _ => okTag N sc t (.Subscript l r p) && okE N sc e v
    | _ => false
  | .fst o f e, s => match s with
    | .Assign [.Attribute l y _] v _ => decide (y = Str.ofString f) && okE N sc o l && okE N sc e v
    | _ => false
  | .asgs ts e, s => match s with
    | .Assign [.Tuple us _ _] v _ => okTags N sc ts us && inOrder sc us v && okE N sc e v
    | _ => false
  | .aug i op e, s => match s with
    | .AugAssign (.Name x _) o v _ => decide (N[i]? = some x) && locB sc x && plainN x && decide (o = opOf op) && augOk op && okE N sc e v
    | _ => false
  | .ret e, s => match s with
    | .Return (some v) _ => okE N sc e v
    | _ => false
  | .ret0, s => match s with
    | .Return none _ => true
    | _ => false
  | .ife t a b, s => match s with
    | .If c p q _ => okE N sc t c && okSs N sc a p && okSs N sc b q
    | _ => false
  | .whl t b, s => match s with
    | .While c p [] _ => okE N sc t c && okSs N sc b p
    | _ => false
  | .for_ t it b, s => match s with
    | .For tg iter p [] _ => okTG N sc t tg && (okI N sc it iter && enmOk it tg) && okSs N sc b p
    | _ => false
  | .brk, s => match s with
    | .Break _ => true
    | _ => false
  | .cont, s => match s with
    | .Continue _ => true
    | _ => false
  | .pass, s => match s with
    | .Pass _ => true
    | _ => false
  | .never, _ => true
  | .raise C, s => match s with
    | .Raise (some (.Call (.Name x _) [] [] _)) none _ => okG sc C x
    | _ => false
  | .pack _, _ => false
def okSs (N : List Str) (sc : Scope) : SS → List Stmt → Bool
  | .nil, ss => ss.isEmpty
  | .cons (.pack _) xs, ss => okSs N sc xs ss
  | .cons x xs, ss => match ss with
    | s :: ss => okS N sc x s && okSs N sc xs ss
    | [] => false
end

/-! ### readings -/
def PostO (n : Nat) (T : Wr) (W : WX) (φ : List Addr) (H : Hp) (o : Out) (D : Ends) : Prop := match o with
  | .nx env S => ∀ φ' σ' H', ExtN n φ φ' H H' → Rep T φ' σ' H' env S → D.nx σ' H'
  | .bk env S => ∀ φ' σ' H', ExtN n φ φ' H H' → Rep T φ' σ' H' env S → D.bk σ' H'
  | .ct env S => ∀ φ' σ' H', ExtN n φ φ' H H' → Rep T φ' σ' H' env S → D.ct σ' H'
  | .rt d S => ∀ φ' H' v, ExtN n φ φ' H H' → RepS T φ' H' S → RepV T φ' H' v d → D.rt v H'
  | .exc x env S => ∀ φ' σ' H' c dx, ExtN n φ φ' H H' → Rep T φ' σ' H' env S → RepX T φ' H' c dx x → W c dx σ' H'
  | .bad => False
/-- .. and every place stays -/
def PostX (T : Wr) (W : WX) (φ : List Addr) (H : Hp) (o : Out) (D : Ends) : Prop := match o with
  | .nx env S => ∀ φ' σ' H', Ext φ φ' H H' → Rep T φ' σ' H' env S → D.nx σ' H'
  | .bk env S => ∀ φ' σ' H', Ext φ φ' H H' → Rep T φ' σ' H' env S → D.bk σ' H'
  | .ct env S => ∀ φ' σ' H', Ext φ φ' H H' → Rep T φ' σ' H' env S → D.ct σ' H'
  | .rt d S => ∀ φ' H' v, Ext φ φ' H H' → RepS T φ' H' S → RepV T φ' H' v d → D.rt v H'
  | .exc x env S => ∀ φ' σ' H' c dx, Ext φ φ' H H' → Rep T φ' σ' H' env S → RepX T φ' H' c dx x → W c dx σ' H'
  | .bad => False
def rdS (n : Nat) (T : Wr) (W : WX) (f : EnvD → Store → Out) : TS := fun D σ H => ∃ (φ : List Addr) (env : EnvD) (S : Store), Rep T φ σ H env S ∧ PostO n T W φ H (f env S) D
section
variable {P : Prg} {T : Wr} {X : Cx} {k n : Nat} {W : WX}
theorem PostX.ext {φ φ1 : List Addr} {H H1 : Hp} {o : Out} {D : Ends} (x : Ext φ φ1 H H1) (p : PostX T W φ H o D) : PostX T W φ1 H1 o D := by
  cases o with
  | nx env S => exact fun φ' σ' H' x' => p φ' σ' H' (x.trans x')
  | bk env S => exact fun φ' σ' H' x' => p φ' σ' H' (x.trans x')
  | ct env S => exact fun φ' σ' H' x' => p φ' σ' H' (x.trans x')
  | rt d S => exact fun φ' H' v x' => p φ' H' v (x.trans x')
  | exc e env S => exact fun φ' σ' H' c dx x' => p φ' σ' H' c dx (x.trans x')
  | bad => exact p
theorem PostX.out {α β : Type} {R : Rl α β} {r : Res α} {env : EnvD} {f : α → Store → Out} {φ : List Addr} {σ : L2.St} {H : Hp} {S : Store} {D : Ends} {Q : β → Hp → Prop} (rp : Rep T φ σ H env S) (p : PostX T W φ H (r.out env f) D)
    (h : ∀ a S1 φ1 H1 b, r = .ok a S1 → Ext φ φ1 H H1 → Rep T φ1 σ H1 env S1 → R φ1 H1 b a → PostX T W φ1 H1 (f a S1) D → Q b H1) : Post T (fun c d H => W c d σ H) R φ H r Q := by
  cases r with
  | ok a S1 => exact fun φ1 H1 b x s q => h a S1 φ1 H1 b rfl x (rp.ext x s) q (PostX.ext x p)
  | exc e S1 => exact fun φ1 H1 c dx x s q => p φ1 σ H1 c dx x (rp.ext x s) q
  | bad => exact p
theorem PostX.nx {φ : List Addr} {σ : L2.St} {H : Hp} {env : EnvD} {S : Store} {D : Ends} (p : PostX T W φ H (.nx env S) D) (r : Rep T φ σ H env S) : D.nx σ H := p φ σ H Ext.refl r
theorem PostO.toX {φ : List Addr} {H : Hp} {o : Out} {D : Ends} (p : PostO n T W φ H o D) : PostX T W φ H o D := by
  cases o with
  | nx env S => exact fun φ' σ' H' x' => p φ' σ' H' (x'.toN n)
  | bk env S => exact fun φ' σ' H' x' => p φ' σ' H' (x'.toN n)
  | ct env S => exact fun φ' σ' H' x' => p φ' σ' H' (x'.toN n)
  | rt d S => exact fun φ' H' v x' => p φ' H' v (x'.toN n)
  | exc e env S => exact fun φ' σ' H' c dx x' => p φ' σ' H' c dx (x'.toN n)
  | bad => exact p
theorem PostO.ext {φ φ1 : List Addr} {H H1 : Hp} {o : Out} {D : Ends} (x : ExtN n φ φ1 H H1) (p : PostO n T W φ H o D) : PostO n T W φ1 H1 o D := by
  cases o with
  | nx env S => exact fun φ' σ' H' x' => p φ' σ' H' (x.trans x')
  | bk env S => exact fun φ' σ' H' x' => p φ' σ' H' (x.trans x')
  | ct env S => exact fun φ' σ' H' x' => p φ' σ' H' (x.trans x')
  | rt d S => exact fun φ' H' v x' => p φ' H' v (x.trans x')
  | exc e env S => exact fun φ' σ' H' c dx x' => p φ' σ' H' c dx (x.trans x')
  | bad => exact p
theorem PostO.out {α β : Type} {R : Rl α β} {r : Res α} {env : EnvD} {f : α → Store → Out} {φ : List Addr} {σ : L2.St} {H : Hp} {S : Store} {D : Ends} {Q : β → Hp → Prop} (rp : Rep T φ σ H env S) (p : PostO n T W φ H (r.out env f) D)
    (h : ∀ a S1 φ1 H1 b, r = .ok a S1 → Ext φ φ1 H H1 → Rep T φ1 σ H1 env S1 → R φ1 H1 b a → PostO n T W φ1 H1 (f a S1) D → Q b H1) : Post T (fun c d H => W c d σ H) R φ H r Q := by
  cases r with
  | ok a S1 => exact fun φ1 H1 b x s q => h a S1 φ1 H1 b rfl x (rp.ext x s) q (PostO.ext (x.toN n) p)
  | exc e S1 => exact fun φ1 H1 c dx x s q => p φ1 σ H1 c dx (x.toN n) (rp.ext x s) q
  | bad => exact p
theorem PostO.nx {φ : List Addr} {σ : L2.St} {H : Hp} {env : EnvD} {S : Store} {D : Ends} (p : PostO n T W φ H (.nx env S) D) (r : Rep T φ σ H env S) : D.nx σ H := p φ σ H (Ext.refl.toN n) r
theorem PostO.then {o : Out} {f : EnvD → Store → Out} {φ : List Addr} {H : Hp} {D : Ends} (p : PostO n T W φ H (o.then f) D) : PostO n T W φ H o { D with nx := rdS n T W f D } := by
  cases o with
  | nx env S => exact fun φ' σ' H' x r => ⟨φ', env, S, r, PostO.ext x p⟩
  | bk env S => exact p
  | ct env S => exact p
  | rt d S => exact p
  | exc e env S => exact p
  | bad => exact p
theorem _root_.L2.PS.imp {X : Cx} {st : Stmt} {t t' : TS} (h : PS X st t) (i : ∀ D σ H, t' D σ H → t D σ H) : PS X st t' := ⟨fun pins s σ H D I q => h.run pins s σ H D I (i D σ H q)⟩
theorem _root_.L2.PSs.imp {X : Cx} {st : List Stmt} {t t' : TS} (h : PSs X st t) (i : ∀ D σ H, t' D σ H → t D σ H) : PSs X st t' := ⟨fun pins s σ H D I q => h.run pins s σ H D I (i D σ H q)⟩
theorem _root_.L2.PG.imp {X : Cx} {e : Expr} {t t' : L2.TG} (h : PG X e t) (i : ∀ v σ H Q, t' v σ H Q → t v σ H Q) : PG X e t' := ⟨fun pins s σ H v u Q I r q => h.run pins s σ H v u Q I r (i v σ H Q q)⟩
theorem _root_.L2.PGs.imp {X : Cx} {e : List Expr} {t t' : L2.TGs} (h : PGs X e t) (i : ∀ v σ H Q, t' v σ H Q → t v σ H Q) : PGs X e t' := ⟨fun pins s σ H v u Q I r q => h.run pins s σ H v u Q I r (i v σ H Q q)⟩
structure SitS (P : Prg) (T : Wr) (X : Cx) (k : Nat) (W : WX) : Prop where
  st : Sit P T X k W
  fn : ∀ x, X.fn x = true
  kind : X.env.scope.kind = .function
  pass : PassesOwn (model X.prog X.w) X.A X.env X.xe
def GoS (P : Prg) (T : Wr) (k : Nat) (x : ST) : Prop := ∀ (n : Nat) (X : Cx) (W : WX), SitS P T X k W → ∀ s, okS X.N X.env.scope x s = true → PS X s (rdS n T W (evS (cxK P k) n x))
def GoSs (P : Prg) (T : Wr) (k : Nat) (x : SS) : Prop := ∀ (n : Nat) (X : Cx) (W : WX), SitS P T X k W → ∀ s, okSs X.N X.env.scope x s = true → PSs X s (rdS n T W (evSs (cxK P k) n x))

section
variable {φ φ' : List Addr} {H H' : Hp} {S S' : Store}
theorem take_at {n l : Nat} {a : Addr} {φ : List Addr} (h : φ[l]? = some a) (hl : l < n) : (φ.take n)[l]? = some a := by rw [List.getElem?_take_of_lt hl]; exact h
mutual
theorem RepV.cut {K : Wr} {n : Nat} : ∀ {v : V} {d : D}, RepV K φ H v d → d.bd n = true → RepV K (φ.take n) H v d
  | _, _, .non, _ => .non
  | _, _, .bl b, _ => .bl b
  | _, _, .int b, _ => .int b
  | _, _, .str b, _ => .str b
  | _, _, .ty b, _ => .ty b
  | _, _, .tup h hs, e => .tup h (RepVs.cut hs (by simpa [D.bd] using e))
  | _, _, .ktup h1 h2 h3 h4 h5 hs, e => .ktup h1 h2 h3 h4 h5 (RepVs.cut hs (by simpa [D.bd] using e))
  | _, _, .loc h, e => .loc (take_at h (by simpa [D.bd] using e))
  | _, _, .scrF h, _ => .scrF h
  | _, _, .scrK h1 h2 h3 h4 h5 h6, _ => .scrK h1 h2 h3 h4 h5 h6
  | _, _, .fn y, _ => .fn y
  | _, _, .bm h1 h2, e => .bm h1 (take_at h2 (by simpa [D.bd] using e))
  | _, _, .kd h1 h2, _ => .kd h1 h2
theorem RepVs.cut {K : Wr} {n : Nat} : ∀ {vs : List V} {ds : List D}, RepVs K φ H vs ds → bds n ds = true → RepVs K (φ.take n) H vs ds
  | _, _, .nil, _ => .nil
  | _, _, .cons h hs, e => by
    have e : (_ && _) = true := e
    rw [Bool.and_eq_true] at e
    exact .cons (RepV.cut h e.1) (RepVs.cut hs e.2)
end
theorem Paired.cutP {α β : Type} {R R' : α → β → Prop} {f : β → Bool} : ∀ {l : List α} {m : List β}, Paired R l m → m.all f = true → (∀ a b, R a b → f b = true → R' a b) → Paired R' l m
  | _, _, .nil, _, _ => .nil
  | _, _, .cons h t, e, k => by
    rw [List.all_cons, Bool.and_eq_true] at e
    exact .cons (k _ _ h e.1) (Paired.cutP t e.2 k)
theorem RepO.cut {n : Nat} {a : Addr} {o : Ob} (h : RepO T φ H a o) (e : o.bd n = true) : RepO T (φ.take n) H a o := by
  cases o with
  | lst ds => obtain ⟨vs, e1, h1⟩ := h; exact ⟨vs, e1, h1.cut e⟩
  | dk ds => obtain ⟨vs, e1, h1⟩ := h; exact ⟨vs, e1, Paired.cutP h1 e fun _ _ q z => ⟨q.1, q.2.cut z⟩⟩
  | dt ds => obtain ⟨vs, e1, h1⟩ := h; exact ⟨vs, e1, Paired.cutP h1 e fun _ _ q z => ⟨q.1, q.2.cut z⟩⟩
  | ins C ds => obtain ⟨dx, vs, e1, h1⟩ := h; exact ⟨dx, vs, e1, Paired.cutP h1 e fun _ _ q z => ⟨q.1, q.2.cut z⟩⟩
theorem RepS.cut {n : Nat} (s : RepS T φ H S) (e : (S.take n).all (Ob.bd n) = true) : RepS T (φ.take n) H (S.take n) := by
  refine ⟨by simp [s.len], s.nd.sublist (List.take_sublist _ _), fun l o a e1 e2 => ?_, s.tab⟩
  have hl : l < n := by
    have := (List.getElem?_eq_some_iff.mp e1).1
    simp at this; omega
  have hm := List.all_eq_true.mp e o (List.mem_of_getElem? e1)
  rw [List.getElem?_take_of_lt hl] at e1 e2
  exact (s.ob l o a e1 e2).cut hm
end
/-! ### the own part laid anew -/
theorem Rep.forget {φ : List Addr} {σ : L2.St} {H : Hp} {env : EnvD} {S : Store} (r : Rep T φ σ H env S) : ∀ vs : List Nat, Rep T φ σ H (wipeE env vs) S
  | [] => r
  | v :: vs => by
    have q := r.forget vs
    refine ⟨q.sto, by rw [q.len]; simp [wipeE], fun i d e => ?_⟩
    unfold wipeE at e
    by_cases hi : i = v
    · subst hi
      by_cases hl : i < (wipeE env vs).length
      · rw [List.getElem?_set_self hl] at e; cases e
      · rw [List.getElem?_eq_none (by rw [List.length_set]; omega)] at e; cases e
    · rw [List.getElem?_set_ne (Ne.symm hi)] at e
      exact q.env i d e
theorem packGo_rep {φ : List Addr} {H : Hp} {S : Store} {n : Nat} (r : RepS T φ H S) (hn : n ≤ S.length) : ∀ (env : EnvD) (σ : Nat → Option (Option V)) (rs : List Nat) (os : List Ob) (φc : List Addr),
    (∀ (i : Nat) (d : Ev.D), env[i]? = some (some d) → ∃ v, σ i = some (some v) ∧ RepV T φ H v d) → φc.length = n + rs.length → (∀ (j l : Nat), rs[j]? = some l → n ≤ l ∧ φ[l]? = φc[n + j]?) → RepS T φc H (S.take n ++ os) → φ.take n <+: φc → (∀ a ∈ φc, a ∈ φ) →
    (∀ (l : Nat) (a : Addr), n ≤ l → l ∉ rs → φ[l]? = some a → a ∉ φc) →
    ∃ φ', φc <+: φ' ∧ (∀ a ∈ φ', a ∈ φ) ∧ RepS T φ' H (S.take n ++ (packGo n S env rs os).2) ∧ (packGo n S env rs os).1.length = env.length ∧ ∀ (i : Nat) (d : Ev.D), (packGo n S env rs os).1[i]? = some (some d) → ∃ v, σ i = some (some v) ∧ RepV T φ' H v d := by
  intro env
  induction env with
  | nil => exact fun σ rs os φc _ _ _ hs _ hm _ => ⟨φc, List.prefix_refl _, hm, hs, rfl, fun i d e => by simp [packGo] at e⟩
  | cons x env ih =>
    intro σ rs os φc he hl hr hs hp hm hf
    have fin : ∀ (y : Option Ev.D) (rs' : List Nat) (os' : List Ob) (φc' : List Addr), φc <+: φc' → (∃ φ', φc' <+: φ' ∧ (∀ a ∈ φ', a ∈ φ) ∧ RepS T φ' H (S.take n ++ (packGo n S env rs' os').2) ∧ (packGo n S env rs' os').1.length = env.length ∧ ∀ (i : Nat) (d : Ev.D), (packGo n S env rs' os').1[i]? = some (some d) → ∃ v, σ (i + 1) = some (some v) ∧ RepV T φ' H v d) →
        (∀ d, y = some d → ∃ v, σ 0 = some (some v) ∧ RepV T φc' H v d) → packGo n S (x :: env) rs os = (y :: (packGo n S env rs' os').1, (packGo n S env rs' os').2) →
        ∃ φ', φc <+: φ' ∧ (∀ a ∈ φ', a ∈ φ) ∧ RepS T φ' H (S.take n ++ (packGo n S (x :: env) rs os).2) ∧ (packGo n S (x :: env) rs os).1.length = (x :: env).length ∧ ∀ (i : Nat) (d : Ev.D), (packGo n S (x :: env) rs os).1[i]? = some (some d) → ∃ v, σ i = some (some v) ∧ RepV T φ' H v d := by
      rintro y rs' os' φc' hpre ⟨φ', h1, h2, h3, h4, h5⟩ hy e
      rw [e]
      refine ⟨φ', hpre.trans h1, h2, h3, by simp [h4], fun i d q => ?_⟩
      cases i with
      | zero =>
        obtain ⟨v, e1, e2⟩ := hy d (by simpa using q)
        exact ⟨v, e1, e2.more h1⟩
      | succ i => exact h5 i d (by simpa using q)
    have same := ih (fun i => σ (i + 1)) rs os φc (fun i d e => he (i + 1) d (by simpa using e)) hl hr hs hp hm hf
    have keep : ∀ d, x = some d → d.bd n = true → ∃ v, σ 0 = some (some v) ∧ RepV T φc H v d := fun d e hb => by
      obtain ⟨v, e1, e2⟩ := he 0 d (by simp [e])
      exact ⟨v, e1, e2.extN r ⟨hp, fun a ha => .inl (hm a ha), fun _ _ h _ _ => h⟩ hb⟩
    cases x with
    | none => exact fin none rs os φc (List.prefix_refl _) same (fun d e => by cases e) (by simp only [packGo])
    | some d =>
      have plain : (∀ l, d ≠ .loc l) → ∃ φ', φc <+: φ' ∧ (∀ a ∈ φ', a ∈ φ) ∧ RepS T φ' H (S.take n ++ (packGo n S (some d :: env) rs os).2) ∧ (packGo n S (some d :: env) rs os).1.length = (some d :: env).length ∧ ∀ (i : Nat) (e : Ev.D), (packGo n S (some d :: env) rs os).1[i]? = some (some e) → ∃ v, σ i = some (some v) ∧ RepV T φ' H v e := fun hd => by
        cases hb : d.bd n with
        | true =>
          refine fin (some d) rs os φc (List.prefix_refl _) same (fun e q => by cases q; exact keep d rfl hb) ?_
          cases d <;> first | exact absurd rfl (hd _) | (simp only [packGo]; rw [hb]; rfl)
        | false =>
          refine fin none rs os φc (List.prefix_refl _) same (fun e q => by cases q) ?_
          cases d <;> first | exact absurd rfl (hd _) | (simp only [packGo]; rw [hb]; rfl)
      cases d with
      | loc l =>
        by_cases hlt : l < n
        · refine fin (some (.loc l)) rs os φc (List.prefix_refl _) same (fun e q => by cases q; exact keep _ rfl (by simpa [D.bd] using hlt)) ?_
          simp only [packGo]
          rw [if_pos hlt]
        · obtain ⟨v, e1, e2⟩ := he 0 (.loc l) (by simp)
          cases e2 with
          | @loc a _ ha =>
            cases hfi : rs.findIdx? (fun r => decide (r = l)) with
            | some j =>
              obtain ⟨hj, ej, _⟩ := List.findIdx?_eq_some_iff_getElem.mp hfi
              have ej : rs[j] = l := of_decide_eq_true ej
              have q := hr j l (by rw [List.getElem?_eq_getElem hj, ej])
              refine fin (some (.loc (n + j))) rs os φc (List.prefix_refl _) same (fun e z => by cases z; exact ⟨_, e1, .loc (by rw [← q.2]; exact ha)⟩) ?_
              simp only [packGo]
              rw [if_neg hlt, hfi]
            | none =>
              have nm : l ∉ rs := fun h => by
                have := List.findIdx?_eq_none_iff.mp hfi l h
                simp at this
              obtain ⟨o, ho⟩ : ∃ o, S[l]? = some o := ⟨S[l]'(by rw [← r.len]; exact (List.getElem?_eq_some_iff.mp ha).1), List.getElem?_eq_getElem _⟩
              cases hb : o.bd n with
              | false =>
                refine fin none rs os φc (List.prefix_refl _) same (fun e q => by cases q) ?_
                simp only [packGo]
                rw [if_neg hlt, hfi]
                simp only [ho, hb]
                rfl
              | true =>
                have na := hf l a (by omega) nm ha
                have ro : RepO T φc H a o := (RepO.cut (r.ob l o a ho ha) hb).more hp
                refine fin (some (.loc (n + rs.length))) (rs ++ [l]) (os ++ [o]) (φc ++ [a]) (List.prefix_append _ _) ?_ (fun e q => by cases q; exact ⟨_, e1, .loc (by rw [← hl]; simp)⟩) ?_
                · refine ih (fun i => σ (i + 1)) (rs ++ [l]) (os ++ [o]) (φc ++ [a]) (fun i d e => he (i + 1) d (by simpa using e)) (by simp [hl]; omega) (fun j l' e => ?_) (by rw [← List.append_assoc]; exact hs.adopt na ro) (hp.trans (List.prefix_append _ _)) (fun b hb => ?_) (fun l' b h1 h2 h3 h4 => ?_)
                  · by_cases hj : j < rs.length
                    · rw [List.getElem?_append_left hj] at e
                      have q := hr j l' e
                      rw [List.getElem?_append_left (by omega)]
                      exact q
                    · have ej : j = rs.length := by
                        have := (List.getElem?_eq_some_iff.mp e).1
                        simp at this; omega
                      subst ej
                      rw [List.getElem?_append_right (Nat.le_refl _)] at e
                      simp at e
                      subst e
                      refine ⟨by omega, ?_⟩
                      rw [List.getElem?_append_right (by omega), ha, hl]
                      simp
                  · rcases List.mem_append.mp hb with h | h
                    · exact hm b h
                    · rw [List.mem_singleton.mp h]; exact List.mem_of_getElem? ha
                  · rcases List.mem_append.mp h4 with h | h
                    · exact hf l' b h1 (fun z => h2 (List.mem_append_left _ z)) h3 h
                    · have eb := List.mem_singleton.mp h
                      subst eb
                      have : l' = l := (List.getElem?_inj (List.getElem?_eq_some_iff.mp h3).1 r.nd).mp (h3.trans ha.symm)
                      exact h2 (by rw [this]; simp)
                · simp only [packGo]
                  rw [if_neg hlt, hfi]
                  simp only [ho, hb]
                  rfl
      | _ => exact plain fun _ z => by cases z
theorem pack_rep {φ : List Addr} {σ : L2.St} {H : Hp} {env : EnvD} {S : Store} (r : Rep T φ σ H env S) (hn : n ≤ S.length) (hb : (S.take n).all (Ob.bd n) = true) : ∃ φ', ExtN n φ φ' H H ∧ Rep T φ' σ H (packGo n S env [] []).1 (S.take n ++ (packGo n S env [] []).2) := by
  have s := r.sto
  obtain ⟨φ', h1, h2, h3, h4, h5⟩ := packGo_rep s hn env (fun i => σ[i]?) [] [] (φ.take n) r.env (by rw [List.length_take, s.len]; simp; omega) (fun j l e => by simp at e) (by rw [List.append_nil]; exact s.cut hb) (List.prefix_refl _) (fun a ha => List.mem_of_mem_take ha) (fun l a h1 _ h3 h4 => by
    obtain ⟨i, hi, e⟩ := List.getElem_of_mem h4
    rw [List.getElem_take] at e
    have hi' : i < n := by rw [List.length_take] at hi; omega
    have e2 : φ[i]? = some a := by rw [List.getElem?_eq_getElem (by rw [List.length_take] at hi; omega), e]
    have : l = i := (List.getElem?_inj (List.getElem?_eq_some_iff.mp h3).1 s.nd).mp (h3.trans e2.symm)
    omega)
  exact ⟨φ', ⟨h1, fun a ha => .inl (h2 a ha), fun _ _ h _ _ => h⟩, h3, by rw [r.len, h4], h5⟩
/-! ### the small ones -/
theorem gs_nil : GoSs P T k .nil := fun n X W st ss he => by
  have : ss = [] := List.isEmpty_iff.mp he
  subst this
  refine pss_nil.imp fun D σ H ⟨φ, env, S, r, p⟩ => ?_
  simp only [evSs] at p
  exact p.nx r
theorem gs_packed {dead : List Nat} {xs : SS} (ihs : GoSs P T k xs) : GoSs P T k (.cons (.pack dead) xs) := fun n X W st ss he => by
  have he : okSs X.N X.env.scope xs ss = true := by simpa only [okSs] using he
  refine (ihs n X W st ss he).imp fun D σ H ⟨φ, env, S, r, p⟩ => ?_
  simp only [evSs, evS] at p
  unfold packO at p
  split at p
  · rename_i h
    obtain ⟨φ', x, r'⟩ := pack_rep (r.forget dead) h.1 h.2
    exact ⟨φ', _, _, r', PostO.ext x p⟩
  · exact False.elim p
theorem gs_cons {x : ST} {xs : SS} (hx : ∀ dead, x ≠ .pack dead) (ih : GoS P T k x) (ihs : GoSs P T k xs) : GoSs P T k (.cons x xs) := fun n X W st ss he => by
  cases ss with
  | nil => cases x <;> first | exact absurd rfl (hx _) | (simp only [okSs] at he; cases he)
  | cons s ss =>
    have he : (okS X.N X.env.scope x s && okSs X.N X.env.scope xs ss) = true := by
      cases x <;> first | exact absurd rfl (hx _) | (simpa only [okSs] using he)
    rw [Bool.and_eq_true] at he
    refine (pss_cons (ih n X W st s he.1) (ihs n X W st ss he.2)).imp fun D σ H ⟨φ, env, S, r, p⟩ => ?_
    simp only [evSs] at p
    exact ⟨φ, env, S, r, p.then⟩
theorem gs_pass : GoS P T k .pass := fun n X W st s he => by
  unfold okS at he
  split at he
  · refine ps_pass.imp fun D σ H ⟨φ, env, S, r, p⟩ => ?_
    simp only [evS] at p
    exact p.nx r
  · cases he
theorem gs_brk : GoS P T k .brk := fun n X W st s he => by
  unfold okS at he
  split at he
  · refine ps_break.imp fun D σ H ⟨φ, env, S, r, p⟩ => ?_
    simp only [evS] at p
    exact p φ σ H (Ext.refl.toN n) r
  · cases he
theorem gs_cont : GoS P T k .cont := fun n X W st s he => by
  unfold okS at he
  split at he
  · refine ps_continue.imp fun D σ H ⟨φ, env, S, r, p⟩ => ?_
    simp only [evS] at p
    exact p φ σ H (Ext.refl.toN n) r
  · cases he
theorem gs_never : GoS P T k .never := fun n X W st s he => by
  refine ps_never.imp fun D σ H ⟨φ, env, S, r, p⟩ => ?_
  simp only [evS] at p
  exact p
theorem gs_ret0 : GoS P T k .ret0 := fun n X W st s he => by
  unfold okS at he
  split at he
  · refine ps_retN.imp fun D σ H ⟨φ, env, S, r, p⟩ => ?_
    simp only [evS] at p
    exact p φ H _ (Ext.refl.toN n) r.sto .non
  · cases he
theorem gs_ret {e : EX} (ih : GoE P T k e) : GoS P T k (.ret e) := fun n X W st s he => by
  unfold okS at he
  split at he
  · refine (ps_ret (ih X W st.st _ he).1).imp fun D σ H ⟨φ, env, S, r, p⟩ => ?_
    simp only [evS] at p
    exact ⟨φ, env, S, r, p.out r fun d S1 φ1 H1 x _ x1 r1 rv p1 => p1 φ1 H1 x (Ext.refl.toN n) r1.sto rv⟩
  · cases he
theorem sw_none {e : Expr} {l : Nat} {env : PySem.Env} (h : plainC e = true) : ∀ t, swapsWith e t l env = pure false := by
  intro t
  cases e <;> first | rfl | cases h
theorem gs_expr {e : EX} (ih : GoE P T k e) : GoS P T k (.expr e) := fun n X W st s he => by
  unfold okS at he
  split at he
  · rw [Bool.and_eq_true] at he
    refine (ps_expr (ih X W st.st _ he.2).1 (sw_none he.1 _)).imp fun D σ H ⟨φ, env, S, r, p⟩ => ?_
    simp only [evS] at p
    exact ⟨φ, env, S, r, p.out r fun d S1 φ1 H1 x _ x1 r1 rv p1 => p1.nx r1⟩
  · cases he
theorem gs_ife {t : EX} {a b : SS} (iht : GoE P T k t) (iha : GoSs P T k a) (ihb : GoSs P T k b) : GoS P T k (.ife t a b) := fun n X W st s he => by
  unfold okS at he
  split at he
  · simp only [Bool.and_eq_true] at he
    refine (ps_if (iht X W st.st _ he.1.1).2 (iha n X W st _ he.1.2) (ihb n X W st _ he.2)).imp fun D σ H ⟨φ, env, S, r, p⟩ => ?_
    simp only [evS] at p
    refine ⟨φ, env, S, r, p.out r fun d S1 φ1 H1 x _ x1 r1 rv p1 => ?_⟩
    have rv : x = d := rv
    subst rv
    cases x with
    | true => exact ⟨φ1, env, S1, r1, p1⟩
    | false => exact ⟨φ1, env, S1, r1, p1⟩
  · cases he
/-! ### loops -/
theorem gs_whl {t : EX} {b : SS} (iht : GoE P T k t) (ihb : GoSs P T k b) : GoS P T k (.whl t b) := fun n X W st s he => by
  unfold okS at he
  split at he
  · simp only [Bool.and_eq_true] at he
    refine (ps_while st.pass (iht X W st.st _ he.1).2 (ihb n X W st _ he.2)).imp fun D σ H ⟨φ, env, S, r, p⟩ => ?_
    simp only [evS] at p
    generalize hro : whlT (evTest (cxK P k) t) (fun env S => evSs (cxK P k) n b env S) LIM env S = ro at p
    refine ⟨fun m σ' H' => ∃ φ' env' S', ExtN n φ φ' H H' ∧ Rep T φ' σ' H' env' S' ∧ whlT (evTest (cxK P k) t) (fun env S => evSs (cxK P k) n b env S) m env' S' = ro, ⟨LIM, φ, env, S, Ext.refl.toN _, r, hro⟩, ?_⟩
    rintro m σ1 H1 ⟨φ1, env1, S1, x1, r1, e1⟩
    have p1 := PostO.ext x1 p
    cases m with
    | zero =>
      unfold whlT at e1
      subst e1
      exact False.elim p1
    | succ m =>
      unfold whlT at e1
      rw [← e1] at p1
      refine ⟨φ1, env1, S1, r1, p1.out r1 fun bb S2 φ2 H2 x e2 x2 r2 rv p2 => ?_⟩
      have rv : x = bb := rv
      subst rv
      rw [e2] at e1
      cases x with
      | false => exact p2.nx r2
      | true =>
        have e1 : (match evSs (cxK P k) n b env1 S2 with
          | .nx env S => whlT (evTest (cxK P k) t) (fun env S => evSs (cxK P k) n b env S) m env S
          | .ct env S => whlT (evTest (cxK P k) t) (fun env S => evSs (cxK P k) n b env S) m env S
          | .bk env S => .nx env S
          | o => o) = ro := e1
        have p2 : PostO n T W φ2 H2 (match evSs (cxK P k) n b env1 S2 with
          | .nx env S => whlT (evTest (cxK P k) t) (fun env S => evSs (cxK P k) n b env S) m env S
          | .ct env S => whlT (evTest (cxK P k) t) (fun env S => evSs (cxK P k) n b env S) m env S
          | .bk env S => .nx env S
          | o => o) D := p2
        refine ⟨fun σ' H' => ∃ m', m' < m + 1 ∧ ∃ φ' env' S', ExtN n φ φ' H H' ∧ Rep T φ' σ' H' env' S' ∧ whlT (evTest (cxK P k) t) (fun env S => evSs (cxK P k) n b env S) m' env' S' = ro, fun σ' H' h => h, φ2, env1, S2, r2, ?_⟩
        cases hb : evSs (cxK P k) n b env1 S2 with
        | nx env3 S3 => rw [hb] at e1; exact fun φ3 σ3 H3 x3 r3 => ⟨m, Nat.lt_succ_self m, φ3, env3, S3, (x1.trans (x2.toN n)).trans x3, r3, e1⟩
        | ct env3 S3 => rw [hb] at e1; exact fun φ3 σ3 H3 x3 r3 => ⟨m, Nat.lt_succ_self m, φ3, env3, S3, (x1.trans (x2.toN n)).trans x3, r3, e1⟩
        | bk env3 S3 => rw [hb] at p2; exact p2
        | rt d S3 => rw [hb] at p2; exact p2
        | exc x env3 S3 => rw [hb] at p2; exact p2
        | bad => rw [hb] at p2; exact p2
  · cases he
def lpO (o : Out) (g : EnvD → Store → Out) : Out := match o with
  | .nx env S => g env S
  | .ct env S => g env S
  | .bk env S => .nx env S
  | o => o
def loopI (f : D → EnvD → Store → Out) (iv : ItV) (env : EnvD) (S : Store) : Out := match iv with
  | .ds ds => forT f ds env S
  | .lst l => forL f l LIM 0 env S
  | .enl l => forE f l LIM 0 env S
def WkF (f : D → EnvD → Store → Out) (iv : ItV) (i m : Nat) (env : EnvD) (S : Store) (ro : Out) : Prop := match iv with
  | .ds ds => i ≤ ds.length ∧ m = ds.length - i ∧ forT f (ds.drop i) env S = ro
  | .lst l => forL f l m i env S = ro
  | .enl l => forE f l m i env S = ro
theorem wkF_start {f : D → EnvD → Store → Out} {iv : ItV} {env : EnvD} {S : Store} : ∃ m, WkF f iv 0 m env S (loopI f iv env S) := by
  cases iv with
  | ds ds => exact ⟨ds.length, Nat.zero_le _, rfl, by rw [List.drop_zero]; rfl⟩
  | lst l => exact ⟨LIM, rfl⟩
  | enl l => exact ⟨LIM, rfl⟩
theorem wkF_turn {f : D → EnvD → Store → Out} {iv : ItV} {i m : Nat} {env : EnvD} {S : Store} {ro : Out} {φ : List Addr} {H : Hp} {J : It} (w : WkF f iv i m env S ro) (hb : ro ≠ .bad) (r : RepS T φ H S) (ri : RI T φ H J iv) :
    (J.stop i H ∧ ro = .nx env S) ∨ (J.go i H ∧ ∃ d, (∀ x H', J.yld i H x H' → RepV T φ H' x d ∧ Ext φ φ H H' ∧ RepS T φ H' S) ∧ ∃ m' g, m' < m ∧ ro = lpO (f d env S) g ∧ ∀ env' S', g env' S' = ro → WkF f iv (i + 1) m' env' S' ro) := by
  cases iv with
  | ds ds =>
    obtain ⟨hi, hm, hw⟩ := w
    obtain ⟨h1, h2⟩ := ri.2 _ φ H S ri.1 (Ext.refl.toN _) r i
    by_cases hlt : i < ds.length
    · obtain ⟨h3, h4⟩ := h2 hlt
      rw [List.drop_eq_getElem_cons hlt] at hw
      refine .inr ⟨h3, ds[i], fun x H' hy => ?_, ds.length - (i + 1), fun env S => forT f (ds.drop (i + 1)) env S, by omega, ?_, fun env' S' e => ⟨hlt, rfl, e⟩⟩
      · obtain ⟨d, e1, e2, e3, e4⟩ := h4 x H' hy
        rw [List.getElem?_eq_getElem hlt] at e1; cases e1
        exact ⟨e2, e3, e4⟩
      · rw [← hw]; rfl
    · have hi2 : i = ds.length := by omega
      subst hi2
      rw [List.drop_length] at hw
      exact .inl ⟨h1 (Nat.le_refl _), hw.symm⟩
  | lst l =>
    obtain ⟨b, hl, rfl⟩ := ri
    have w : forL f l m i env S = ro := w
    cases m with
    | zero => exact absurd w.symm hb
    | succ n =>
      unfold forL at w
      split at w
      · rename_i ds hS
        obtain ⟨vs, h1, h2⟩ := r.ob _ _ _ hS hl
        have hq : SqL T.K H b vs := SqL.of h1
        split at w
        · rename_i d hd
          obtain ⟨v, e1, e2⟩ := h2.get hd
          refine .inr ⟨⟨vs, v, hq, e1⟩, d, fun x H' hy => ?_, n, fun env S => forL f l n (i + 1) env S, Nat.lt_succ_self n, w.symm, fun env' S' e => e⟩
          obtain ⟨rfl, hy⟩ := hy
          have e3 := hy vs hq
          rw [e1] at e3; cases e3
          exact ⟨e2, Ext.refl, r⟩
        · rename_i hd
          refine .inl ⟨⟨vs, hq, ?_⟩, w.symm⟩
          rw [h2.length]
          exact List.getElem?_eq_none_iff.mp hd
      · exact absurd w.symm hb
  | enl l =>
    obtain ⟨b, hl, rfl⟩ := ri
    have w : forE f l m i env S = ro := w
    cases m with
    | zero => exact absurd w.symm hb
    | succ n =>
      unfold forE at w
      split at w
      · rename_i ds hS
        obtain ⟨vs, h1, h2⟩ := r.ob _ _ _ hS hl
        have hq : SqL T.K H b vs := SqL.of h1
        split at w
        · rename_i d hd
          obtain ⟨v, e1, e2⟩ := h2.get hd
          refine .inr ⟨⟨vs, v, hq, e1⟩, .tup [.int (i : Nat), d], fun x H' hy => ?_, n, fun env S => forE f l n (i + 1) env S, Nat.lt_succ_self n, w.symm, fun env' S' e => e⟩
          obtain ⟨t, z, rfl, ht, rfl, hy⟩ := hy
          have e3 := hy vs hq
          rw [e1] at e3; cases e3
          exact ⟨.tup upd_same (.cons (.int _) (.cons (e2.ext r (Ext.aside ht)) .nil)), Ext.aside ht, r.aside ht⟩
        · rename_i hd
          refine .inl ⟨⟨vs, hq, ?_⟩, w.symm⟩
          rw [h2.length]
          exact List.getElem?_eq_none_iff.mp hd
      · exact absurd w.symm hb
theorem PostO.notBad {o : Out} {φ : List Addr} {H : Hp} {D : Ends} (p : PostO n T W φ H o D) : o ≠ .bad := by rintro rfl; exact p
/-- a turn of a for -/
def bodF (c : Ctx) (n : Nat) (t : TG) (b : SS) : D → EnvD → Store → Out := fun d env S => match bindT t d env with
  | some env => evSs c n b env S
  | none => .bad
theorem itBase_le {n : Nat} {iv : ItV} {S : Store} : n ≤ itBase n iv S := by
  cases iv with
  | ds ds => unfold itBase; dsimp only; split <;> omega
  | lst l => show n ≤ max n (l + 1); omega
  | enl l => show n ≤ max n (l + 1); omega
theorem PostO.le {m : Nat} (h : n ≤ m) {φ : List Addr} {H : Hp} {o : Out} {D : Ends} (p : PostO n T W φ H o D) : PostO m T W φ H o D := by
  cases o with
  | nx env S => exact fun φ' σ' H' x' => p φ' σ' H' (x'.le h)
  | bk env S => exact fun φ' σ' H' x' => p φ' σ' H' (x'.le h)
  | ct env S => exact fun φ' σ' H' x' => p φ' σ' H' (x'.le h)
  | rt d S => exact fun φ' H' v x' => p φ' H' v (x'.le h)
  | exc e env S => exact fun φ' σ' H' c dx x' => p φ' σ' H' c dx (x'.le h)
  | bad => exact p
theorem gs_for {t : TG} {it : IT} {b : SS} (ihi : GoI P T k it) (ihb : GoSs P T k b) : GoS P T k (.for_ t it b) := fun n X W st s he => by
  unfold okS at he
  split at he
  · simp only [Bool.and_eq_true] at he
    refine (ps_for st.pass st.st.calm (ihi X W st.st _ _ he.1.2.1 he.1.2.2) (pg_ok st.st.calm st.st.nd (fun i x _ _ _ => .inl (st.fn x)) he.1.1) (tb := fun D σ H => ∃ m, rdS m T W (evSs (cxK P k) m b) D σ H) ⟨fun pins s σ H D I ⟨m, q⟩ => (ihb m X W st _ he.2).run pins s σ H D I q⟩ fun x => folded_plain (okI_plain he.1.2.1) x).imp fun D σ H ⟨φ, env, S, r, p⟩ => ?_
    simp only [evS] at p
    refine ⟨φ, env, S, r, p.out r fun iv S1 φ1 H1 J _ x1 r1 ri p1 => ?_⟩
    have p1 : PostO n T W φ1 H1 (loopI (bodF (cxK P k) (itBase n iv S1) t b) iv env S1) D := by cases iv <;> exact p1
    have hri := fun φ' H' (x : ExtN (itBase n iv S1) φ1 φ' H1 H') => RI.extN (S := S1) x r1.sto.len ri
    have hnm : n ≤ itBase n iv S1 := itBase_le
    generalize itBase n iv S1 = bs at p1 hri hnm
    generalize hf : bodF (cxK P k) bs t b = f at p1
    have nb := p1.notBad
    generalize hro : loopI f iv env S1 = ro at p1 nb
    refine ⟨fun i m σ' H' => ∃ φ' env' S', ExtN bs φ1 φ' H1 H' ∧ Rep T φ' σ' H' env' S' ∧ WkF f iv i m env' S' ro, ?_, ?_⟩
    · obtain ⟨m, hm⟩ := wkF_start (f := f) (iv := iv) (env := env) (S := S1)
      rw [hro] at hm
      exact ⟨m, φ1, env, S1, Ext.refl.toN _, r1, hm⟩
    · rintro i m σ2 H2 ⟨φ2, env2, S2, x2, r2, w2⟩
      rcases wkF_turn w2 nb r2.sto (hri _ _ x2) with ⟨hstop, e0⟩ | ⟨hgo, d, hy, m', g, hm', e0, nxt⟩
      · subst e0
        exact .inl ⟨hstop, (PostO.ext (x2.le hnm) p1).nx r2⟩
      · refine .inr ⟨hgo, fun σ' H' => ∃ m', m' < m ∧ ∃ φ' env' S', ExtN bs φ1 φ' H1 H' ∧ Rep T φ' σ' H' env' S' ∧ WkF f iv (i + 1) m' env' S' ro, fun _ _ h => h, fun x H' hyl => ?_⟩
        obtain ⟨rx, x3, s3⟩ := hy x H' hyl
        cases hbt : bindT t d env2 with
        | none =>
          rw [← hf] at e0
          unfold bodF at e0
          rw [hbt] at e0
          exact absurd e0 nb
        | some env3 =>
          rw [st.st.K]
          refine bindT_rep rx (r2.ext x3 s3) hbt fun σ4 r4 _ => ⟨bs, φ2, env3, S2, r4, ?_⟩
          have e0 : ro = lpO (evSs (cxK P k) bs b env3 S2) g := by rw [e0, ← hf]; unfold bodF; rw [hbt]
          have p4 := PostO.le hnm (PostO.ext ((x2.trans (x3.toN bs)).le hnm) p1)
          cases hb : evSs (cxK P k) bs b env3 S2 with
          | nx env5 S5 => rw [hb] at e0; exact fun φ5 σ5 H5 x5 r5 => ⟨m', hm', φ5, env5, S5, (x2.trans (x3.toN bs)).trans x5, r5, nxt _ _ e0.symm⟩
          | ct env5 S5 => rw [hb] at e0; exact fun φ5 σ5 H5 x5 r5 => ⟨m', hm', φ5, env5, S5, (x2.trans (x3.toN bs)).trans x5, r5, nxt _ _ e0.symm⟩
          | bk env5 S5 => rw [hb] at e0; rw [e0] at p4; exact p4
          | rt d5 S5 => rw [hb] at e0; rw [e0] at p4; exact p4
          | exc x5 env5 S5 => rw [hb] at e0; rw [e0] at p4; exact p4
          | bad => rw [hb] at e0; exact absurd e0 nb
  · cases he
end
end Ev
end

section
set_option Elab.async false
set_option linter.all false
set_option maxRecDepth 100000
set_option maxHeartbeats 1000000
set_option autoImplicit false
/-! Ev14: stores; every statement. -/
namespace Ev
open PySem PySem.Spec L2
open PyProof.Rows hiding St

section
variable {P : Prg} {T : Wr} {X : Cx} {k n : Nat} {W : WX}
/-! ### one target -/
def gTA (T : Wr) (W : WX) (c : Ctx) (t : TAG) : L2.TG := fun v σ H Q => ∃ (φ : List Addr) (env : EnvD) (S : Store) (d : Ev.D), Rep T φ σ H env S ∧ RepV T φ H v d ∧ PostX T W φ H (asgT c t d env S) { nx := Q, rt := fun _ _ => False }
theorem asg_sub {o i : Expr} {pos : Pos} {env : PySem.Env} (h : plainX i = true) (v : Value) : assign (.Subscript o i pos) env v = (do
      let ov ← holding [v] (eval o env)
      let iv ← holding [v, ov] (eval i env)
      standAt pos
      holding [v, ov, iv] (setItem ov iv v)
      release [v, ov, iv] []) := by
  cases i <;> first | rfl | cases h
theorem pg_tag {t : TAG} {e : Expr} (st : SitS P T X k W) (iho : ∀ o i, t = .sub o i → GoE P T k o ∧ GoE P T k i) (he : okTag X.N X.env.scope t e = true) : PG X e (gTA T W (cxK P k) t) := by
  cases t with
  | name i =>
    dsimp only [okTag] at he
    split at he
    · simp only [Bool.and_eq_true, decide_eq_true_eq] at he
      refine (pg_name st.st.nd he.1.1 (locB_ok he.1.2) (.inl (st.fn _))).imp fun v σ H Q ⟨φ, env, S, d, r, rv, p⟩ => ?_
      dsimp only [asgT] at p
      split at p
      · rename_i hi
        exact p.nx (r.set rv hi)
      · exact False.elim p
    · cases he
  | sub o i =>
    obtain ⟨go, gi⟩ := iho o i rfl
    dsimp only [okTag] at he
    split at he
    · rename_i l r pos
      rw [Bool.and_eq_true] at he
      refine (pg_sub (go X W st.st _ he.1).1 (gi X W st.st _ he.2).1 (set_D (T := T) st.st.hu) (fun v => asg_sub (okE_plain he.2) v)).imp fun v σ H Q ⟨φ, env, S, d, r, rv, p⟩ => ?_
      dsimp only [asgT] at p
      refine ⟨φ, env, S, r, p.out r fun a S1 φ1 H1 x _ x1 r1 ra p1 => ⟨φ1, env, S1, r1, p1.out r1 fun b S2 φ2 H2 y _ x2 r2 rb p2 => ?_⟩⟩
      refine ⟨fun c d H => W c d σ H, φ2, S2, a, b, d, r2.sto, ra.ext r1.sto x2, rb, (rv.ext r.sto x1).ext r1.sto x2, ?_⟩
      exact p2.out r2 fun _ S3 φ3 H3 z _ x3 r3 _ p3 => p3.nx r3
    · cases he
theorem gs_asg {t : TAG} {e : EX} (iht : ∀ o i, t = .sub o i → GoE P T k o ∧ GoE P T k i) (ih : GoE P T k e) : GoS P T k (.asg t e) := fun n X W st s he => by
  unfold okS at he
  split at he
  · rename_i l r p v pos
    rw [Bool.and_eq_true] at he
    refine (ps_asg (ih X W st.st _ he.2).1 (pg_tag st iht he.1) (by cases v <;> rfl) (by rfl) (by rfl)).imp fun D σ H ⟨φ, env, S, r, p⟩ => ?_
    simp only [evS] at p
    refine ⟨φ, env, S, r, p.out r fun d S1 φ1 H1 x _ x1 r1 rv p1 => ⟨φ1, env, S1, d, r1, rv, ?_⟩⟩
    cases t with
    | name i =>
      simp only [asgT] at p1 ⊢
      split at p1
      · rename_i hi; rw [if_pos hi]; exact p1.toX
      · exact False.elim p1
    | sub o i =>
      simp only [asgT] at p1 ⊢
      generalize (evE (cxK P k) o env S1) = ro at p1 ⊢
      cases ro with
      | bad => exact p1
      | exc x S => exact PostO.toX (o := .exc _ _ _) p1
      | ok a S2 =>
        simp only [Res.out_ok] at p1 ⊢
        generalize (evE (cxK P k) i env S2) = ri at p1 ⊢
        cases ri with
        | bad => exact p1
        | exc x S => exact PostO.toX (o := .exc _ _ _) p1
        | ok b S3 =>
          simp only [Res.out_ok] at p1 ⊢
          generalize stoD a b d S3 = rs at p1 ⊢
          cases rs with
          | bad => exact p1
          | exc x S => exact PostO.toX (o := .exc _ _ _) p1
          | ok u S4 => exact PostO.toX (o := .nx _ _) p1
  · cases he
/-! ### targets in a row -/
def gTAs (T : Wr) (W : WX) (c : Ctx) (ts : List TAG) : L2.TGs := fun vs σ H Q => ∃ (φ : List Addr) (env : EnvD) (S : Store) (ds : List Ev.D), Rep T φ σ H env S ∧ RepVs T φ H vs ds ∧ PostX T W φ H (asgTs c ts ds env S) { nx := Q, rt := fun _ _ => False }
theorem asgT_out {c : Ctx} {t : TAG} {d : Ev.D} {env : EnvD} {S : Store} : (∃ e' S', asgT c t d env S = .nx e' S') ∨ (∃ x e' S', asgT c t d env S = .exc x e' S') ∨ asgT c t d env S = .bad := by
  have ro : ∀ {α : Type} (r : Res α) (f : α → Store → Out), (∀ a S, (∃ e' S', f a S = .nx e' S') ∨ (∃ x e' S', f a S = .exc x e' S') ∨ f a S = .bad) → ((∃ e' S', r.out env f = .nx e' S') ∨ (∃ x e' S', r.out env f = .exc x e' S') ∨ r.out env f = .bad) := fun r f h => by
    cases r with
    | ok a S => exact h a S
    | exc x S => exact .inr (.inl ⟨x, env, S, rfl⟩)
    | bad => exact .inr (.inr rfl)
  cases t with
  | name i =>
    dsimp only [asgT]
    split
    · exact .inl ⟨_, _, rfl⟩
    · exact .inr (.inr rfl)
  | sub o i =>
    dsimp only [asgT]
    exact ro _ _ fun a S => ro _ _ fun b S => ro _ _ fun u S => .inl ⟨_, _, rfl⟩
theorem okTag_plain {N : List Str} {sc : Scope} {t : TAG} {e : Expr} (h : okTag N sc t e = true) : plainX e = true := by
  cases t <;> (dsimp only [okTag] at h; split at h <;> first | rfl | cases h)
theorem okTags_len {N : List Str} {sc : Scope} {env : PySem.Env} : ∀ {ts : List TAG} {es : List Expr}, okTags N sc ts es = true → (assignEach es env).length = ts.length ∧ (assignEach es env).findIdx? (·.1) = none
  | [], [], h => ⟨rfl, rfl⟩
  | [], _ :: _, h => by cases h
  | t :: ts, [], h => by cases h
  | t :: ts, e :: es, h => by
    have h : (okTag N sc t e && okTags N sc ts es) = true := h
    rw [Bool.and_eq_true] at h
    obtain ⟨h1, h2⟩ := okTags_len (env := env) h.2
    rw [assignEach_plain (okTag_plain h.1)]
    refine ⟨by show (assignEach es env).length + 1 = ts.length + 1; rw [h1], ?_⟩
    rw [List.findIdx?_cons]
    simp [h2]
theorem pgs_tags (st : SitS P T X k W) : ∀ {ts : List TAG} {es : List Expr}, (∀ o i, TAG.sub o i ∈ ts → GoE P T k o ∧ GoE P T k i) → okTags X.N X.env.scope ts es = true → PGs X es (gTAs T W (cxK P k) ts)
  | [], [], ih, he => pgs_nil.imp fun vs σ H Q ⟨φ, env, S, ds, r, rv, p⟩ => by
    cases ds with
    | nil => cases rv; exact ⟨rfl, p.nx r⟩
    | cons _ _ => exact False.elim p
  | [], _ :: _, ih, he => by cases he
  | t :: ts, [], ih, he => by cases he
  | t :: ts, e :: es, ih, he => by
    have he : (okTag X.N X.env.scope t e && okTags X.N X.env.scope ts es) = true := he
    rw [Bool.and_eq_true] at he
    refine (pgs_cons (pg_tag st (fun o i h => ih o i (by rw [← h]; exact List.mem_cons_self)) he.1) (pgs_tags st (fun o i h => ih o i (List.mem_cons_of_mem _ h)) he.2) (by rw [assignEach_plain (okTag_plain he.1)]; rfl)).imp fun vs σ H Q ⟨φ, env, S, ds, r, rv, p⟩ => ?_
    cases ds with
    | nil => exact False.elim p
    | cons d ds =>
      cases rv with
      | cons rv rvs =>
        refine ⟨_, _, rfl, φ, env, S, d, r, rv, ?_⟩
        unfold asgTs at p
        rcases asgT_out (c := cxK P k) (t := t) (d := d) (env := env) (S := S) with ⟨e', S', e1⟩ | ⟨x, e', S', e1⟩ | e1
        · rw [e1] at p ⊢
          exact fun φ' σ' H' x' r' => ⟨φ', e', S', ds, r', rvs.ext r.sto x', PostX.ext x' p⟩
        · rw [e1] at p ⊢
          exact p
        · rw [e1] at p
          exact False.elim p
theorem okTags_lenE {N : List Str} {sc : Scope} : ∀ {ts : List TAG} {es : List Expr}, okTags N sc ts es = true → es.length = ts.length
  | [], [], h => rfl
  | [], _ :: _, h => by cases h
  | t :: ts, [], h => by cases h
  | t :: ts, e :: es, h => by
    have h : (okTag N sc t e && okTags N sc ts es) = true := h
    rw [Bool.and_eq_true] at h
    show es.length + 1 = ts.length + 1
    rw [okTags_lenE h.2]
theorem filterMap_lt {α β : Type} (f : α → Option β) : ∀ (l : List α), (l.any fun a => (f a).isNone) = true → (l.filterMap f).length < l.length
  | [], h => by cases h
  | a :: l, h => by
    rw [List.any_cons, Bool.or_eq_true] at h
    have hle := List.length_filterMap_le f l
    cases hfa : f a with
    | none => rw [List.filterMap_cons_none hfa]; show _ < l.length + 1; omega
    | some b =>
      rw [List.filterMap_cons_some hfa]
      rcases h with h | h
      · rw [hfa] at h; cases h
      · have := filterMap_lt f l h
        show (l.filterMap f).length + 1 < l.length + 1
        omega
theorem inOrder_ok {sc : Scope} {ts : List Expr} {v : Expr} {kt : Nat} {pt : Pos} {env : PySem.Env} (hk : env.scope.kind = .function) (hs : env.scope = sc) (h : inOrder sc ts v = true) : swappedStores [.Tuple ts kt pt] v env = pure none := by
  subst hs
  cases v with
  | Tuple vs k2 p2 =>
    have h : (decide (ts.length ≠ 2 ∧ ts.length ≠ 3) || (ts.any fun
      | .Name x _ => !(env.scope.names.lookup x == some .local)
      | _ => true) || vs.all (foldedForSure 8)) = true := h
    unfold swappedStores
    have hb : env.blockKind = .function := by unfold Env.blockKind; rw [hk]; rfl
    simp only [hb]
    split
    · rfl
    rename_i n1
    split
    · rfl
    split
    · rfl
    rename_i n3
    split
    · rfl
    rename_i n4
    exfalso
    rw [Bool.or_eq_true, Bool.or_eq_true] at h
    rcases h with (h | h) | h
    · simp at h n1
      omega
    · apply n3
      rw [Bool.or_eq_true]
      refine .inl ?_
      rw [bne_iff_ne]
      refine Nat.ne_of_lt (filterMap_lt _ _ ?_)
      rw [List.any_eq_true] at h ⊢
      obtain ⟨x, hx, h⟩ := h
      refine ⟨x, hx, ?_⟩
      cases x with
      | Name id pos =>
        have h : (!(env.scope.names.lookup id == some NameKind.local)) = true := h
        have hkk : (env.kindOf id == some NameKind.local) = false := by
          rw [Bool.not_eq_true'] at h
          exact h
        dsimp only
        rw [hkk]
        rfl
      | _ => rfl
    · exact n4 h
  | _ => rfl
theorem lclB_ok {sc : Scope} {x : Str} (h : lclB sc x = true) : sc.names.lookup x = some .local := by
  unfold lclB at h
  split at h
  · assumption
  · cases h
theorem ofNd {N : List Str} {i j : Nat} {x y : Str} (hN : N.Nodup) (hi : N[i]? = some x) (hj : N[j]? = some y) (h : i ≠ j) : x ≠ y := by
  rintro rfl
  obtain ⟨h1, e1⟩ := List.getElem?_eq_some_iff.mp hi
  obtain ⟨h2, e2⟩ := List.getElem?_eq_some_iff.mp hj
  exact h ((List.getElem_inj hN).mp (e1.trans e2.symm))
theorem swp2 {x y : Str} {px py pt p2 : Pos} {a b : Expr} {kt k2 : Nat} {env : PySem.Env} (hk : env.scope.kind = .function) (hx : env.scope.names.lookup x = some .local) (hy : env.scope.names.lookup y = some .local) (hxy : x ≠ y) (hl : (px.line == py.line) = true)
    (pa : plainX a = true) (pb : plainX b = true) (h1 : [a, b].all (foldedForSure 8) = false) (h2 : [a, b].all (constantsAlone 8) = false) : swappedStores [.Tuple [.Name x px, .Name y py] kt pt] (.Tuple [a, b] k2 p2) env = pure (some [x, y]) := by
  unfold swappedStores
  have hb : env.blockKind = .function := by unfold Env.blockKind; rw [hk]; rfl
  have kx : env.kindOf x = some .local := hx
  have ky : env.kindOf y = some .local := hy
  have hl' : (py.line == px.line) = true := by rw [beq_iff_eq] at hl ⊢; exact hl.symm
  have hed : [x, y].eraseDups = [x, y] := by
    rw [List.eraseDups_cons]
    have : ([y].filter fun b => !b == x) = [y] := by
      have : (y == x) = false := by simpa using fun e : y = x => hxy e.symm
      simp [List.filter, this]
    rw [this]
    rfl
  simp only [hb]
  rw [if_neg (by simp), if_neg (by
    simp only [List.any_cons, List.any_nil, Bool.or_false, Bool.or_eq_true]
    rintro (h | h)
    · cases a <;> first | (cases h; done) | cases pa
    · cases b <;> first | (cases h; done) | cases pb)]
  simp only [List.head?_cons, Option.map_some, Option.getD_some, Expr.pos, List.filterMap_cons, List.filterMap_nil, kx, ky, hl', beq_self_eq_true, Bool.and_self, if_true, List.length_cons, List.length_nil, hed, h1, h2, bne_self_eq_false, Bool.or_self, Bool.false_eq_true, if_false]

theorem swp3 {x y z : Str} {px py pz pt p2 : Pos} {a b c : Expr} {kt k2 : Nat} {env : PySem.Env} (hk : env.scope.kind = .function) (hx : env.scope.names.lookup x = some .local) (hy : env.scope.names.lookup y = some .local) (hz : env.scope.names.lookup z = some .local)
    (hxy : x ≠ y) (hxz : x ≠ z) (hyz : y ≠ z) (hl : (px.line == py.line) = true) (hl2 : (px.line == pz.line) = true)
    (pa : plainX a = true) (pb : plainX b = true) (pc : plainX c = true) (h1 : [a, b, c].all (foldedForSure 8) = false) (h2 : [a, b, c].all (constantsAlone 8) = false) : swappedStores [.Tuple [.Name x px, .Name y py, .Name z pz] kt pt] (.Tuple [a, b, c] k2 p2) env = pure (some [x, y, z]) := by
  unfold swappedStores
  have hb : env.blockKind = .function := by unfold Env.blockKind; rw [hk]; rfl
  have kx : env.kindOf x = some .local := hx
  have ky : env.kindOf y = some .local := hy
  have kz : env.kindOf z = some .local := hz
  have hl' : (py.line == px.line) = true := by rw [beq_iff_eq] at hl ⊢; exact hl.symm
  have hl2' : (pz.line == px.line) = true := by rw [beq_iff_eq] at hl2 ⊢; exact hl2.symm
  have hed : [x, y, z].eraseDups = [x, y, z] := by
    have e1 : (y == x) = false := by simpa using fun e : y = x => hxy e.symm
    have e2 : (z == x) = false := by simpa using fun e : z = x => hxz e.symm
    have e3 : (z == y) = false := by simpa using fun e : z = y => hyz e.symm
    rw [List.eraseDups_cons]
    have : ([y, z].filter fun b => !b == x) = [y, z] := by simp [List.filter, e1, e2]
    rw [this, List.eraseDups_cons]
    have : ([z].filter fun b => !b == y) = [z] := by simp [List.filter, e3]
    rw [this]
    rfl
  simp only [hb]
  rw [if_neg (by simp), if_neg (by
    simp only [List.any_cons, List.any_nil, Bool.or_false, Bool.or_eq_true]
    rintro (h | h | h)
    · cases a <;> first | (cases h; done) | cases pa
    · cases b <;> first | (cases h; done) | cases pb
    · cases c <;> first | (cases h; done) | cases pc)]
  simp only [List.head?_cons, Option.map_some, Option.getD_some, Expr.pos, List.filterMap_cons, List.filterMap_nil, kx, ky, kz, hl', hl2', beq_self_eq_true, Bool.and_self, if_true, List.length_cons, List.length_nil, hed, h1, h2, bne_self_eq_false, Bool.or_self, Bool.false_eq_true, if_false]
theorem parE_len : ∀ (ns : List Nat) (ds : List Ev.D) (env : EnvD), (parE ns ds env).length = env.length
  | [], _, _ => by unfold parE; rfl
  | _ :: _, [], _ => by unfold parE; rfl
  | i :: is, d :: ds, env => by unfold parE; rw [parE_len]; simp
theorem Rep.setO {φ : List Addr} {σ : L2.St} {H : Hp} {env : EnvD} {S : Store} {i : Nat} {v : V} {d : Ev.D} (r : Rep T φ σ H env S) (rv : RepV T φ H v d) : Rep T φ (σ.set i (some v)) H (env.set i (some d)) S := by
  by_cases hi : i < env.length
  · exact r.set rv hi
  · have hl := r.len
    rw [List.set_eq_of_length_le (by omega), List.set_eq_of_length_le (by omega)]
    exact r
theorem gs_par {ns : List Nat} {es : EXs} (ih : GoEs P T k es) : GoS P T k (.par ns es) := fun n X W st s he => by
  unfold okS at he
  split at he
  · rename_i ts kt pt vs k2 p2 pos
    rw [Bool.and_eq_true] at he
    obtain ⟨h1, h2⟩ := he
    have pa := (ih X W st.st _ h2).1
    unfold okPar at h1
    split at h1
    · rename_i i j x px y py a b
      simp only [Bool.and_eq_true, decide_eq_true_eq, Bool.not_eq_true'] at h1
      obtain ⟨⟨⟨⟨⟨⟨⟨⟨⟨hi, hj⟩, hij⟩, hx⟩, hy⟩, hl⟩, qa⟩, qb⟩, f1⟩, f2⟩ := h1
      refine (ps_par st.st.calm st.st.nd hi hj hij (lclB_ok hx) (lclB_ok hy) pa (swp2 st.kind (lclB_ok hx) (lclB_ok hy) (ofNd st.st.nd hi hj hij) hl qa qb f1 f2) rfl).imp fun D σ H ⟨φ, env, S, r, p⟩ => ?_
      simp only [evS] at p
      refine ⟨φ, env, S, r, p.out r fun ds S1 φ1 H1 xs _ x1 r1 rv p1 => ?_⟩
      split at p1
      · rename_i hlen
        match ds, xs, rv, p1, hlen with
        | [d1, d2], [v1, v2], .cons q1 (.cons q2 .nil), p1, _ => exact ⟨v1, v2, rfl, p1.nx ((r1.setO q1).setO q2)⟩
      · exact False.elim p1
    · rename_i i j l x px y py z pz a b c
      simp only [Bool.and_eq_true, decide_eq_true_eq, Bool.not_eq_true'] at h1
      obtain ⟨⟨⟨⟨⟨⟨⟨⟨⟨⟨⟨⟨⟨⟨⟨hi, hj⟩, hk⟩, hij⟩, hik⟩, hjk⟩, hx⟩, hy⟩, hz⟩, hl⟩, hl2⟩, qa⟩, qb⟩, qc⟩, f1⟩, f2⟩ := h1
      refine (ps_par3 st.st.calm st.st.nd hi hj hk hij hik hjk (lclB_ok hx) (lclB_ok hy) (lclB_ok hz) pa (swp3 st.kind (lclB_ok hx) (lclB_ok hy) (lclB_ok hz) (ofNd st.st.nd hi hj hij) (ofNd st.st.nd hi hk hik) (ofNd st.st.nd hj hk hjk) hl hl2 qa qb qc f1 f2) rfl).imp fun D σ H ⟨φ, env, S, r, p⟩ => ?_
      simp only [evS] at p
      refine ⟨φ, env, S, r, p.out r fun ds S1 φ1 H1 xs _ x1 r1 rv p1 => ?_⟩
      split at p1
      · rename_i hlen
        match ds, xs, rv, p1, hlen with
        | [d1, d2, d3], [v1, v2, v3], .cons q1 (.cons q2 (.cons q3 .nil)), p1, _ => exact ⟨v1, v2, v3, rfl, p1.nx (((r1.setO q1).setO q2).setO q3)⟩
      · exact False.elim p1
    · cases h1
  · cases he
theorem pg_seq {X : Cx} {pos : Pos} {es : List Expr} {k : Nat} {t : L2.TGs} {n : Nat} (hc : X.calm = true) (h : PGs X es t)
    (hn : (assignEach es X.env).length = n := by rfl) (hst : (assignEach es X.env).findIdx? (·.1) = none := by rfl) : PG X (.Tuple es k pos) (fun v σ H Q => ∃ a xs, v = .ref a ∧ (SqT X.K H a xs ∨ SqL X.K H a xs) ∧ xs.length = n ∧ t xs σ H Q) := by
  refine ⟨fun pins s σ H v u Q I r hw => ?_⟩
  obtain ⟨a, xs, e1, hq, hl, hw⟩ := hw
  rcases hq with hq | hq
  · exact (pg_tup hc h hn hst).run pins s σ H v u Q I r ⟨a, xs, e1, hq, hl, hw⟩
  · exact (pg_unl hc h hn hst).run pins s σ H v u Q I r ⟨a, xs, e1, hq, hl, hw⟩
theorem gs_asgs {ts : List TAG} {e : EX} (iht : ∀ o i, TAG.sub o i ∈ ts → GoE P T k o ∧ GoE P T k i) (ih : GoE P T k e) : GoS P T k (.asgs ts e) := fun n X W st s he => by
  unfold okS at he
  split at he
  · rename_i us kt pt v pos
    simp only [Bool.and_eq_true] at he
    obtain ⟨⟨h1, h2⟩, h3⟩ := he
    obtain ⟨hn, hst⟩ := okTags_len (env := X.env) h1
    refine (ps_asg (ih X W st.st _ h3).1 (pg_seq st.st.calm (pgs_tags st iht h1) hn hst) (by cases v <;> rfl) (inOrder_ok st.kind rfl h2) (by rfl)).imp fun D σ H ⟨φ, env, S, r, p⟩ => ?_
    simp only [evS] at p
    refine ⟨φ, env, S, r, p.out r fun d S1 φ1 H1 x _ x1 r1 rv p1 => ?_⟩
    have noRt : ∀ (ts : List TAG) (ds : List Ev.D) (env : EnvD) (S : Store) {φ H}, PostO n T W φ H (asgTs (cxK P k) ts ds env S) D → PostX T W φ H (asgTs (cxK P k) ts ds env S) { nx := D.nx, rt := fun _ _ => False } := by
      intro ts
      induction ts with
      | nil =>
        intro ds env S φ H p
        cases ds with
        | nil => exact p.toX
        | cons _ _ => exact p
      | cons t ts ih =>
        intro ds env S φ H p
        cases ds with
        | nil => exact p
        | cons d ds =>
          unfold asgTs at p ⊢
          rcases asgT_out (c := cxK P k) (t := t) (d := d) (env := env) (S := S) with ⟨e', S', e1⟩ | ⟨x, e', S', e1⟩ | e1
          · rw [e1] at p ⊢
            exact ih ds e' S' p
          · rw [e1] at p ⊢
            exact p.toX
          · rw [e1] at p
            exact False.elim p
    cases d with
    | tup ds =>
      cases rv with
      | tup g1 g2 =>
        dsimp only at p1
        split at p1
        · rename_i hl
          refine ⟨_, _, rfl, .inl (by rw [st.st.K]; exact SqT.of g1), by rw [g2.length]; exact hl, φ1, env, S1, ds, r1, g2, ?_⟩
          exact noRt _ _ _ _ p1
        · exact False.elim p1
    | loc l =>
      cases rv with
      | loc hl =>
        dsimp only at p1
        split at p1
        · rename_i ds hS
          obtain ⟨vs, g1, g2⟩ := r1.sto.ob _ _ _ hS hl
          split at p1
          · rename_i hlen
            exact ⟨_, vs, rfl, .inr (by rw [st.st.K]; exact SqL.of g1), by rw [g2.length]; exact hlen, φ1, env, S1, ds, r1, g2, noRt _ _ _ _ p1⟩
          · exact False.elim p1
        · exact False.elim p1
    | _ => exact False.elim p1
  · cases he
theorem gs_aug {i : Nat} {op : Op} {e : EX} (ih : GoE P T k e) : GoS P T k (.aug i op e) := fun n X W st s he => by
  unfold okS at he
  split at he
  · rename_i x pn o v pos
    simp only [Bool.and_eq_true, decide_eq_true_eq] at he
    obtain ⟨⟨⟨⟨⟨hi, hx⟩, hp⟩, rfl⟩, ho⟩, h3⟩ := he
    have run : ∀ {ti : TIp} (hp : PIp X (opOf op) ti) (f : Int → Int → Int), (∀ x y S, augD op x y S = match x, y with
        | .int i, .int j => .ok (.int (f i j)) S
        | _, _ => .bad) → (∀ x y H Q, ipI f x y H Q → ti x y H Q) → PS X (.AugAssign (.Name x pn) (opOf op) v pos) (rdS n T W (evS (cxK P k) n (.aug i op e))) := by
      intro ti hip f hf hti
      refine (ps_aug st.st.nd hi (locB_ok hx) (ih X W st.st _ h3).1 hip (.inl (st.fn x))).imp fun D σ H ⟨φ, env, S, r, p⟩ => ?_
      simp only [evS] at p
      split at p
      · rename_i d hd
        obtain ⟨v0, e1, e2⟩ := r.env i d hd
        refine ⟨v0, e1, φ, env, S, r, p.out r fun b S1 φ1 H1 y _ x1 r1 rb p1 => hti _ _ _ _ ?_⟩
        rw [hf] at p1
        have e3 := e2.ext r.sto x1
        cases d with
        | int n =>
          cases b with
          | int m =>
            cases e3; cases rb
            exact ⟨n, m, rfl, rfl, p1.nx (r1.setO (.int _))⟩
          | _ => exact False.elim p1
        | _ => exact False.elim p1
      · exact False.elim p
    cases op with
    | add => exact run ip_add (fun i j => i + j) (fun x y S => by cases x <;> first | rfl | (cases y <;> rfl)) fun _ _ _ _ h => h
    | sub => exact run ip_sub (fun i j => i - j) (fun x y S => by cases x <;> first | rfl | (cases y <;> rfl)) fun _ _ _ _ h => h
    | _ => cases ho
  · cases he
/-! ### a name -/
theorem sw_list {elt : Expr} {gs : List Comprehension} {scope : Scope} {pos py : Pos} {y : Str} {l : Nat} {env : PySem.Env} (hk : env.scope.kind = .function) : swapsWith (.ListComp elt gs scope pos) (some (.Name y py)) l env = pure (swB env.scope y py (.ListComp elt gs scope pos)) := by
  have ky : env.kindOf y = env.scope.names.lookup y := rfl
  have hb : env.blockKind = .function := by unfold Env.blockKind; rw [hk]; rfl
  unfold swapsWith swB
  simp only [hb, ky, Expr.pos]
  rfl
theorem sw_other {v : Expr} {py : Pos} {y : Str} {l : Nat} {env : PySem.Env} (h : plainC v = true) : swapsWith v (some (.Name y py)) l env = pure false := sw_none h _
theorem gs_set {i : Nat} {e : EX} : GoS P T k (.set i e) := fun n X W st s he => by
  unfold okS at he
  split at he
  · rename_i x py v pos
    simp only [Bool.and_eq_true, decide_eq_true_eq] at he
    obtain ⟨⟨⟨⟨hi, hx⟩, hp⟩, hv⟩, h3⟩ := he
    have rest : swapsWith v (some (.Name x py)) pos.line X.env = pure false → PS X (.Assign [.Name x py] v pos) (rdS n T W (evS (cxK P k) n (.set i e))) := fun hs => by
      refine (ps_set st.st.nd hi (locB_ok hx) (goE e X W st.st _ h3).1 hs (.inl (st.fn x))).imp fun D σ H ⟨φ, env, S, r, p⟩ => ?_
      simp only [evS] at p
      refine ⟨φ, env, S, r, p.out r fun d S1 φ1 H1 y _ x1 r1 rv p1 => ?_⟩
      split at p1
      · exact p1.nx (r1.setO rv)
      · exact False.elim p1
    cases v with
    | ListComp elt gs scope pos2 =>
      cases hsw : swB X.env.scope x py (.ListComp elt gs scope pos2) with
      | false => exact rest (by rw [sw_list st.kind, hsw])
      | true =>
        have hsw2 : swapsWith (.ListComp elt gs scope pos2) (some (.Name x py)) pos.line X.env = pure true := by rw [sw_list st.kind, hsw]
        have hxl : X.env.scope.names.lookup x = some .local := by
          unfold swB at hsw
          simp only [Bool.and_eq_true] at hsw
          exact eq_of_beq hsw.1.1
        cases e with
        | ofl l =>
          have h3 : okL X.N X.env.scope l (.ListComp elt gs scope pos2) = true := h3
          cases l with
          | dis xs => cases h3
          | comp own t it ifs y =>
            obtain ⟨elt', tg, iter, cs, scope', pos', e0, own', wi, g, tt, te, q1, q2, q3, q4, q5, q6, q7⟩ := goC (P := P) (T := T) (k := k) X W st.st _ h3
            cases e0
            refine (ps_setLc st.st.calm st.st.nd hi hxl hsw2 q1 q2 q3 q4 q5 q6).imp fun D σ H ⟨φ, env, S, r, p⟩ => q7 _ _ _ ⟨φ, env, S, r, ?_⟩
            simp only [evS] at p
            have p : PostO n T W φ H (((evL (cxK P k) (.comp own t it ifs y) env S).bind fun ds S => alloc (.lst ds) S).out env fun d S => if i < env.length then .nx (env.set i (some d)) S else .bad) D := by
              simp only [evE] at p
              exact p
            cases hl : evL (cxK P k) (.comp own t it ifs y) env S with
            | bad => rw [hl] at p; exact False.elim p
            | exc x S' =>
              rw [hl] at p
              exact fun φ' H' c dx x' s' rx => p φ' σ H' c dx (x'.toN n) (r.ext x' s') rx
            | ok ds S' =>
              rw [hl] at p
              intro φ' H' a vs x' s' ha hn hv rv
              have p : PostO n T W φ H (if i < env.length then .nx (env.set i (some (.loc S'.length))) (S' ++ [.lst ds]) else .bad) D := p
              split at p
              · have xA := x'.adopt hn
                have sA := RepS.adopt (o := .lst ds) s' ha ⟨vs, hv, rv⟩
                exact p (φ' ++ [a]) _ H' (xA.toN n) ((r.ext xA sA).setO (.loc (by rw [← s'.len]; simp)))
              · exact False.elim p
        | _ => exact absurd h3 (by unfold okE; simp)
    | SetComp _ _ _ _ => cases hv
    | DictComp _ _ _ _ _ => cases hv
    | _ => exact rest (sw_other rfl)
  · cases he
theorem gs_fst {o : EX} {f : String} {e : EX} : GoS P T k (.fst o f e) := fun n X W st s he => by
  unfold okS at he
  split at he
  · rename_i l y p v pos
    simp only [Bool.and_eq_true, decide_eq_true_eq] at he
    obtain ⟨⟨rfl, h1⟩, h2⟩ := he
    refine (ps_fld (goE o X W st.st _ h1).1 (goE e X W st.st _ h2).1 (by cases v <;> rfl)).imp fun D σ H ⟨φ, env, S, r, p⟩ => ?_
    simp only [evS] at p
    refine ⟨φ, env, S, r, p.out r fun d S1 φ1 H1 y _ x1 r1 rv p1 => ⟨φ1, env, S1, r1, p1.out r1 fun b S2 φ2 H2 z _ x2 r2 rb p2 => ?_⟩⟩
    unfold fldD at p2
    split at p2
    · rename_i l0
      split at p2
      · rename_i C fs hS
        split at p2
        · rename_i hc
          rw [Bool.and_eq_true, decide_eq_true_eq, cxK_att] at hc
          cases rb with
          | loc ha =>
            obtain ⟨dx, vs, e1, e2⟩ := r2.sto.ob _ _ _ hS ha
            obtain ⟨c1, c2⟩ := st.st.fx.att C f hc.1
            refine ⟨_, _, dx, vs, rfl, e1, by rw [st.st.K]; exact c1, by rw [st.st.K]; exact c2, by rw [RepF.length e2]; omega, ?_⟩
            have x3 : Ext φ2 φ2 H2 (upd H2 _ (.ins (T.ca C) dx (L2.putF (Str.ofString f) y vs))) := Ext.write (List.mem_of_getElem? ha) e1 fun _ z => by cases z
            have rv2 := (rv.ext r1.sto x2).ext r2.sto x3
            have s3 := r2.sto.write (u := .ins (T.ca C) dx (L2.putF (Str.ofString f) y vs)) (o' := .ins C (Ev.putF f d fs)) hS ha ⟨dx, _, upd_same, putF_rep rv2 (RepF.ext r2.sto x3 e2)⟩
            exact p2 φ2 σ _ (x3.toN n) (r2.ext x3 s3)
        · exact False.elim p2
      · exact False.elim p2
    · exact False.elim p2
  · cases he
/-! ### raise C() -/
theorem pmk0 {X : Cx} {C : Addr} {x : Str} {p pos : Pos} (own : PySem.W.excIn X.K C veBases "ValueError.__new__" = true) (at_x : X.mg x = some (.ref C)) (kept : PySem.W.keepIn X.K (.ref C) = true) (r : Raises X (.ref C)) (hg : Gl X x) (hdb : (x == ("__debug__" : Str)) = false) :
    PMk X (.Call (.Name x p) [] [] pos) (fun _ H Q => Q (.ref C) none H) := by
  intro pins s σ H Q I goal
  refine wpAny_Call_Name_kw (ld_glob I hg at_x (PySem.W.callWith_K0 I.kIn kept ?_) hdb)
  show wpAny _ _ (call (.ref C) []) _ _ _
  obtain ⟨_, _, _, _, _, _, _, _, _, _, _, _, _, _, _, _, _, cC, cN, nI, tail⟩ := exc_obj I.kIn own
  exact wpAny_call_exc_subT PySem.F.excBase_ValueError tail cC cN nI (fun h' e made => mk_of I made r goal (I.hok.gone made.new)) (Nat.zero_le _)
theorem cxK_exc : (cxK P k).exc = P.xc := by cases k <;> simp only [cxK]
theorem gs_raise {C : String} : GoS P T k (.raise C) := fun n X W st s he => by
  unfold okS at he
  split at he
  · rename_i x p0 p1 p2
    obtain ⟨rfl, hg, n1, _⟩ := okG_ok he
    cases hC : P.xc C with
    | false =>
      refine ps_never.imp fun D σ H ⟨φ, env, S, r, p⟩ => ?_
      simp only [evS, cxK_exc, hC] at p
      exact p
    | true =>
      obtain ⟨m1, m2, m3, m4, m5⟩ := st.st.fx.xc C hC
      rw [← st.st.K] at m2 m3 m4 m5
      refine (ps_raise st.st.calm st.st.tk (pmk0 m2 m1 m3 (raises_own m4 m5) hg n1)).imp fun D σ H ⟨φ, env, S, r, p⟩ => ?_
      simp only [evS, cxK_exc, hC, if_true] at p
      exact p φ σ H _ none (Ext.refl.toN n) r ⟨rfl, rfl, rfl⟩
  · cases he
theorem gs_pack {dead : List Nat} : GoS P T k (.pack dead) := fun n X W st s he => by simp [okS] at he
theorem gs_consA {x : ST} {xs : SS} (ih : GoS P T k x) (ihs : GoSs P T k xs) : GoSs P T k (.cons x xs) := by
  cases x with
  | pack d => exact gs_packed ihs
  | _ => exact gs_cons (fun _ z => by cases z) ih ihs
/-! ### every statement -/
mutual
theorem goS : ∀ x : ST, GoS P T k x
  | .expr e => gs_expr (goE e)
  | .set i e => gs_set
  | .par ns es => gs_par (goEs es)
  | .asg t e => gs_asg (fun o i _ => ⟨goE o, goE i⟩) (goE e)
  | .fst o f e => gs_fst
  | .asgs ts e => gs_asgs (fun o i _ => ⟨goE o, goE i⟩) (goE e)
  | .aug i op e => gs_aug (goE e)
  | .ret e => gs_ret (goE e)
  | .ret0 => gs_ret0
  | .ife t a b => gs_ife (goE t) (goSs a) (goSs b)
  | .whl t b => gs_whl (goE t) (goSs b)
  | .for_ t it b => gs_for (goI it) (goSs b)
  | .brk => gs_brk
  | .cont => gs_cont
  | .pass => gs_pass
  | .never => gs_never
  | .raise C => gs_raise
  | .pack d => gs_pack
theorem goSs : ∀ x : SS, GoSs P T k x
  | .nil => gs_nil
  | .cons x xs => gs_consA (goS x) (goSs xs)
end
end
end Ev
end

section
set_option Elab.async false
set_option linter.all false
set_option maxRecDepth 100000
set_option maxHeartbeats 1000000
set_option autoImplicit false
/-! Ev15: defs, the facts of a module. -/
namespace Ev
open PySem PySem.Spec L2
open PyProof.Rows hiding St

/-! ### what is let go -/
section
variable {T : Wr} {φ φ' : List Addr} {H H' : Hp} {S S' : Store}
theorem gc_rep (x : Ext φ φ' H H') (hn : φ.length = S.length) (s' : RepS T φ' H' S') {v : V} {d : D} (rv : RepV T φ' H' v d) :
    ∃ φ'', Ext φ φ'' H H' ∧ RepS T φ'' H' (gc d S.length S').2 ∧ RepV T φ'' H' v (gc d S.length S').1 := by
  have keep : ∃ φ'', Ext φ φ'' H H' ∧ RepS T φ'' H' S' ∧ RepV T φ'' H' v d := ⟨φ', x, s', rv⟩
  have pre : φ'.take S.length = φ := by
    obtain ⟨t, rfl⟩ := x.pre
    rw [← hn, List.take_left]
  have xc : Ext φ φ H H' := ⟨List.prefix_refl _, fun a h => .inl h, x.kp⟩
  unfold gc
  split
  · rename_i hall
    have sc := s'.cut hall
    rw [pre] at sc
    split
    · rename_i hb
      have rc := rv.cut hb
      rw [pre] at rc
      exact ⟨φ, xc, sc, rc⟩
    · rename_i hb
      split
      · rename_i l
        split
        · rename_i o hS
          split
          · rename_i ho
            cases rv with
            | @loc a1 _ ha =>
              have hl : ¬ l < S.length := by simpa [D.bd] using hb
              have hd : a1 ∉ φ := fun hm => by
                obtain ⟨i, hi, e⟩ := List.getElem_of_mem hm
                have e2 : φ'[i]? = some a1 := pre_at x.pre (by rw [List.getElem?_eq_getElem hi, e])
                have hil : i = l := by
                  obtain ⟨h1, q1⟩ := List.getElem?_eq_some_iff.mp e2
                  obtain ⟨h2, q2⟩ := List.getElem?_eq_some_iff.mp ha
                  exact (List.getElem_inj s'.nd).mp (q1.trans q2.symm)
                omega
              have oc := (s'.ob l o _ hS ha).cut ho
              rw [pre] at oc
              refine ⟨φ ++ [a1], ⟨List.prefix_append _ _, fun b hb => ?_, x.kp⟩, sc.adopt hd oc, .loc (by rw [← hn]; simp)⟩
              rcases List.mem_append.mp hb with h | h
              · exact .inl h
              · rw [List.mem_singleton.mp h]
                exact x.new _ (List.mem_of_getElem? ha)
          · exact keep
        · exact keep
      · exact keep
  · exact keep
end

/-! ### defs -/
/-- a def: where it stands, its text, its form here, its names, its parameters -/
structure Tx where
  d : He.DefD
  e : Def
  N : List Str
  ps : List Str
def Tx.ok (t : Tx) : Bool := okSs t.N t.d.scope t.e.body t.d.body && decide (t.e.np = t.ps.length) && decide (t.e.nn = t.N.length) && C8.scC t.N t.ps t.d.scope && t.d.dfl.isEmpty && t.d.kwd.isEmpty
/-- its parameters are what it is called with -/
def Tx.binds (t : Tx) : Prop := ∀ (kV doc pm : Value) (an : Option Addr) (cdv ct : Value) (us : List Value), us.length = t.ps.length → bindArgs (PySem.W.fnOf t.d.name t.d.qual t.d.params t.d.body t.d.scope .none kV doc pm an cdv ct) ⟨us, []⟩ = pure (t.ps.zip us)
section
variable {P : Prg} {T : Wr} {prog : Program} {w : World} {mg : Str → Option Value} {base : Heap} {k : Nat}
theorem rep_start {φ : List Addr} {H : Hp} {S : Store} {N : List Str} {vs : List V} {ds : List D} {nn : Nat} (s : RepS T φ H S) (hn : nn = N.length) (rv : RepVs T φ H vs ds) : Rep T φ (L2.start N vs) H (startE nn ds) S := by
  have hl := rv.length
  subst hn
  refine ⟨s, by simp [L2.start, startE, hl], fun i d h => ?_⟩
  unfold startE at h
  by_cases hi : i < ds.length
  · rw [List.getElem?_append_left (by simpa using hi), List.getElem?_map] at h
    cases hd : ds[i]? with
    | none => rw [hd] at h; cases h
    | some e =>
      rw [hd] at h
      cases h
      obtain ⟨v, e1, e2⟩ := rv.get hd
      refine ⟨v, ?_, e2⟩
      unfold L2.start
      rw [List.getElem?_append_left (by simp [hl, hi]), List.getElem?_map, e1]
      rfl
  · rw [List.getElem?_append_right (by simpa using hi)] at h
    rw [List.getElem?_replicate] at h
    split at h <;> cases h
/-- a def's body keeps its promise, whatever stands around (as far as G tells) -/
theorem fnG_of {G : Around → Prop} {Z : CXT} {K : PySem.W.Frag} {x qual : Str} {params : Arguments} {body : List Stmt} {scope : Scope} {N ps : List Str} {f : Addr} {fd : FuncData} {sp : Sp} (F : FunD K x qual params body scope [] [] f fd) (SC : FnScope N ps scope)
    (many : ∀ vs H Q E, sp vs H Q E → vs.length = ps.length)
    (goes : ∀ (cdv : Value) (A : Around) (outer : List PySem.Env) (s : Shared) (H : Hp) (vs : List V) (Q : VK) (E : XK), fd.code = cdv → G A → Room k (A.deeper (envOfC qual scope s.heap.objs.size f cdv)) → sp vs H Q E →
      ∃ t, PSs (cxOf Z prog w K mg base N qual scope f cdv A outer s H E) body t ∧ t { nx := fun _ H' => Q .non H', rt := Q } (L2.start N vs) H) : FnG G prog w K mg base Z (k + 1) f fd ps sp := by
  obtain ⟨oc, od, dV, kV, doc, pm, an, cdv, ct, osl, rfl, at_f, code, -, -⟩ := F.ex
  refine ⟨many, fun A hG room outer s H args us vs Q E e0 hb r q => ?_⟩
  have inH : K.In s.heap := e0.mod.kin.keeps fun b o e => (e0.bs b o e).1
  have noLim : s.heap.NoLimit := e0.mod.nolimit.keeps fun b o e => (e0.bs b o e).1
  refine codeAny_call_function room.depth (inH _ _ at_f) rfl SC.co SC.gen rfl (PySem.W.codeRec_of inH code) (hb _ _ _ _ (wpAny_newFunctionEnv_cells SC.kind (fun y hy => ?_) fun env he s1 new => ?_))
  · obtain ⟨n, v⟩ := y
    exact (SC.par n (List.of_mem_zip hy).1).imp id fun z => ⟨z, PySem.W.cellsFrom_some _ _ _ (.inl z)⟩
  · subst he
    refine ⟨noLim.keeps new.toInCall.keep, codeAny_func ?_⟩
    obtain ⟨t, walk, start⟩ := goes cdv A outer s H vs Q E rfl hG (room.deeper _) q
    have I0 : L2.Inv (cxOf Z prog w K mg base N qual scope f cdv A outer s H E) [] (L2.start N vs) H s1 := inv_start SC room.hd e0 (many _ _ _ _ q) r new
    refine wpAny_mono (walk.run [] s1 _ H _ I0 start) (fun flow s' z => ?_) fun _ _ z => z
    cases flow with
    | ret u => obtain ⟨v, _, H', J, rv, z⟩ := z; exact ⟨v, H', J.os, J.bare, J.base, J.hok, rv, z⟩
    | next => obtain ⟨_, H', J, z⟩ := z; exact ⟨.non, H', J.os, J.bare, J.base, J.hok, rfl, z⟩
    | brk => obtain ⟨_, _, _, z⟩ := z; exact z.elim
    | cont => obtain ⟨_, _, _, z⟩ := z; exact z.elim
/-- what is known of a def that makes lambdas -/
def LamOk (T : Wr) (t : Tx) (fd : FuncData) : Prop := lamMark t.N = true → fd.code = .ref T.lc ∧ ∃ q : Addr, T.tabs = [(q, (envOfC t.d.qual t.d.scope 0 0 fd.code).qual ++ "<lambda>")]
theorem body_ok {t : Tx} {f : Addr} {fd : FuncData} (hw : w = T.w) (F : FunD T.K t.d.name t.d.qual t.d.params t.d.body t.d.scope [] [] f fd) (ok : t.ok = true) (lam : LamOk T t fd) (fx : ∀ j, j ≤ k → Facts P T prog w mg base j) :
    FnG (Gd P) prog w T.K mg base (L2.CX prog w) (k + 1) f fd t.ps (spD T fun ds S => runDef (cxK P k) t.e ds S) := by
  unfold Tx.ok at ok
  simp only [Bool.and_eq_true, decide_eq_true_eq] at ok
  obtain ⟨⟨⟨⟨⟨h1, h2⟩, h3⟩, h4⟩, h5⟩, h6⟩ := ok
  have SC := C8.fnScope_by h4
  have len : ∀ vs H Q E, spD T (fun ds S => runDef (cxK P k) t.e ds S) vs H Q E → vs.length = t.ps.length := fun vs H Q E ⟨φ, S, ds, s, rv, p⟩ => by
    unfold runDef at p
    dsimp only at p
    split at p
    · rename_i hl; rw [rv.length, hl, h2]
    · exact False.elim p
  refine fnG_of F SC len fun cdv A outer s H vs Q E hcd hG hr ⟨φ, S, ds, s, rv, p⟩ => ?_
  refine ⟨_, goSs t.e.body S.length _ (fun c d _ H => E c d H) ⟨⟨rfl, SC.nd, hr, hG, takes_of rfl rfl rfl rfl, rfl, hw, fx k (Nat.le_refl _), fun j hj => fx j (by omega), fun z => by subst hcd; exact lam z⟩, fun _ => rfl, SC.kind, passes_of (K := fun e s'' => L2.CX prog w outer H _ E e s'') rfl⟩ _ h1, φ, startE t.e.nn ds, S, rep_start s h3 rv, ?_⟩
  unfold runDef at p
  dsimp only at p
  split at p
  · cases ho : evSs (cxK P k) S.length t.e.body (startE t.e.nn ds) S with
    | nx env S' =>
      rw [ho] at p
      intro φ' σ' H' x r
      obtain ⟨φ'', x2, s2, rv2⟩ := gc_rep (x.toE (Nat.le_of_eq s.len)) s.len r.sto (v := .non) (d := .non) .non
      exact p φ'' H' .non x2 s2 rv2
    | rt d S' =>
      rw [ho] at p
      intro φ' H' v x s' rv'
      obtain ⟨φ'', x2, s2, rv2⟩ := gc_rep (x.toE (Nat.le_of_eq s.len)) s.len s' rv'
      exact p φ'' H' v x2 s2 rv2
    | exc e env S' =>
      rw [ho] at p
      exact fun φ' σ' H' c dx x r rx => p φ' H' c dx (x.toE (Nat.le_of_eq s.len)) r.sto rx
    | bk env S' => rw [ho] at p; exact False.elim p
    | ct env S' => rw [ho] at p; exact False.elim p
    | bad => rw [ho] at p; exact False.elim p
  · exact False.elim p
/-- what is known of a module, whatever the depth -/
structure FactsB (P : Prg) (T : Wr) (mg : Str → Option Value) : Prop where
  glb : ∀ x d, P.glb x = some d → ∃ u v, mg (Str.ofString x) = some u ∧ L2.RelV v u ∧ ∀ φ H, RepV T φ H v d
  bty : ∀ x, P.bty x = true → mg (Str.ofString x) = none ∧ bootBuiltins (Str.ofString x) = some (.type x)
  blt : ∀ x ∈ bltNames, mg (Str.ofString x) = none
  att : ∀ C f, P.att C f = true → Cls T.K (T.ca C) ∧ NoAttr T.K (T.ca C) (Str.ofString f)
  fn : ∀ x d, P.defs x = some d → ∃ (f : Addr) (fd : FuncData) (t : Tx), mg (Str.ofString x) = some (.ref f) ∧ t.e = d ∧ t.ok = true ∧ t.binds ∧ FunD T.K t.d.name t.d.qual t.d.params t.d.body t.d.scope [] [] f fd ∧ LamOk T t fd
  mt : ∀ C m d, P.meths C m = some d → Cls T.K (T.ca C) ∧ ∃ (f : Addr) (fd : FuncData) (t : Tx), Meth T.K (T.ca C) (Str.ofString m) f ∧ t.e = d ∧ t.ok = true ∧ t.binds ∧ FunD T.K t.d.name t.d.qual t.d.params t.d.body t.d.scope [] [] f fd ∧ LamOk T t fd
  nw : ∀ C d, P.meths C "__init__" = some d → ∃ (f : Addr) (fd : FuncData) (t : Tx), mg (Str.ofString C) = some (.ref (T.ca C)) ∧ Mk T.K (T.ca C) f ∧ t.e = d ∧ t.ok = true ∧ t.binds ∧ FunD T.K t.d.name t.d.qual t.d.params t.d.body t.d.scope [] [] f fd ∧ LamOk T t fd
structure FactsX (P : Prg) (T : Wr) (mg : Str → Option Value) : Prop where
  xc : ∀ C, P.xc C = true → mg (Str.ofString C) = some (.ref (T.ca C)) ∧ PySem.W.excIn T.K (T.ca C) veBases "ValueError.__new__" = true ∧ PySem.W.keepIn T.K (.ref (T.ca C)) = true ∧ PySem.W.subIn T.K (.ref (T.ca C)) (.type "BaseException") = some true ∧ PySem.W.typeIn T.K (.ref (T.ca C)) = some (.type "type")
  exm : ∀ C C', P.xc C = true → P.xc C' = true → PySem.W.exmOne T.K (.ref (T.ca C)) (.ref (T.ca C')) = some (decide (C = C'))
  wrd : ∀ x hs told, P.wrd x = some (hs, told) → ∃ (g : Addr) (fd : FuncData) (pg : Arguments) (bg : List Stmt) (sg : Scope) (a : Str), mg (Str.ofString x) = some (.ref g) ∧ FunD T.K (Str.ofString x) (Str.ofString x) pg bg sg [] [] g fd ∧ Binds T.K fd [a] [] ∧ FnScope [a] [a] sg ∧ okV [a] sg 0 a = true ∧ wordTx sg a hs told bg = true ∧ ∀ h ∈ hs, P.xc h.1 = true
  fna : ∀ x d, P.defs x = some d → mg (Str.ofString x) = some (.ref (T.ca x))
  bma : ∀ C m, P.bm C m = true → Cls T.K (T.ca C) ∧ BMeth T.K (T.ca C) (Str.ofString m) (T.ma C m)
theorem fn_bad {G : Around → Prop} {f : Addr} {fd : FuncData} {ps : List Str} {j : Nat} {g : List D → Store → Res D} (h : ∀ ds S, g ds S = .bad) : FnG G prog w T.K mg base (L2.CX prog w) j f fd ps (spD T g) :=
  ⟨fun vs H Q E ⟨φ, S, ds, s, rv, p⟩ => by rw [h] at p; exact False.elim p, fun A _ _ outer s H args us vs Q E _ _ _ ⟨φ, S, ds, s, rv, p⟩ => by rw [h] at p; exact False.elim p⟩
theorem facts_next (hw : w = T.w) (B : FactsB P T mg) (BX : FactsX P T mg) (tb : ∀ p ∈ T.tabs, LamX.TabB base mg T.lc p.1) : ∀ k, (∀ j, j < k → Facts P T prog w mg base j) → Facts P T prog w mg base k
  | 0, _ => ⟨B.glb, B.bty, B.blt, B.att,
      fun x d h => by
        obtain ⟨f, fd, t, h1, h2, h3, hb, h4, _⟩ := B.fn x d h
        exact ⟨f, fd, t.ps, h1, h4.kp, h4.bindsN hb, fn_bad fun _ _ => rfl⟩,
      fun C m d h => by
        obtain ⟨h0, f, fd, t, h1, h2, h3, hb, h4, _⟩ := B.mt C m d h
        exact ⟨h0, f, fd, t.ps, h1, h4.bindsN hb, fn_bad fun _ _ => rfl⟩,
      fun hgd C d h => by
        obtain ⟨f, fd, t, h0, h1, h2, h3, hb, h4, _⟩ := B.nw C d h
        exact ⟨f, fd, t.ps, h0, h1, h4.bindsN hb, (fn_bad (G := Gd P) fun _ _ => rfl).all fun A z => by rw [hgd] at z; cases z⟩,
      BX.xc, BX.exm, BX.wrd, tb, BX.fna, BX.bma⟩
  | k + 1, low => ⟨B.glb, B.bty, B.blt, B.att,
      fun x d h => by
        obtain ⟨f, fd, t, h1, h2, h3, hb, h4, h5⟩ := B.fn x d h
        have e : (fun ds S => (cxK P (k + 1)).call x ds S) = fun ds S => runDef (cxK P k) t.e ds S := by
          funext ds S
          simp only [cxK, h, h2]
        refine ⟨f, fd, t.ps, h1, h4.kp, h4.bindsN hb, ?_⟩
        rw [e]
        exact body_ok hw h4 h3 h5 fun j hj => low j (by omega),
      fun C m d h => by
        obtain ⟨h0, f, fd, t, h1, h2, h3, hb, h4, h5⟩ := B.mt C m d h
        have e : (fun ds S => (cxK P (k + 1)).meth C m ds S) = fun ds S => runDef (cxK P k) t.e ds S := by
          funext ds S
          simp only [cxK, h, h2]
        refine ⟨h0, f, fd, t.ps, h1, h4.bindsN hb, ?_⟩
        rw [e]
        exact body_ok hw h4 h3 h5 fun j hj => low j (by omega),
      fun hgd C d h => by
        obtain ⟨f, fd, t, h0, h1, h2, h3, hb, h4, h5⟩ := B.nw C d h
        have all : ∀ A, Gd P A := fun A z => by rw [hgd] at z; cases z
        refine ⟨f, fd, t.ps, h0, h1, h4.bindsN hb, ?_⟩
        cases k with
        | zero => exact (fn_bad fun _ _ => rfl).all all
        | succ j =>
          have e : (fun ds S => (cxK P (j + 1 + 1)).init C ds S) = fun ds S => runDef (cxK P j) t.e ds S := by
            funext ds S
            simp only [cxK, h, h2]
          rw [e]
          exact (body_ok hw h4 h3 h5 fun i hi => low i (by omega)).all all,
      BX.xc, BX.exm, BX.wrd, tb, BX.fna, BX.bma⟩
theorem facts_all (hw : w = T.w) (B : FactsB P T mg) (BX : FactsX P T mg) (tb : ∀ p ∈ T.tabs, LamX.TabB base mg T.lc p.1) (k : Nat) : Facts P T prog w mg base k := by
  induction k using Nat.strongRecOn with
  | _ k ih => exact facts_next hw B BX tb k ih
end
end Ev
end

section
set_option Elab.async false
set_option linter.all false
set_option maxRecDepth 100000
set_option maxHeartbeats 1000000
set_option autoImplicit false
/-! Ev16: the head's facts; the law's end. -/
namespace Ev
open PySem PySem.Spec L2
open PyProof.Rows hiding St

def glbB (gl : List (String × D)) (K : PySem.W.Frag) : Bool := gl.all fun p => match PySem.W.nsIn K mainGlobals (Str.ofString p.1) with
  | some (some u) => datB K p.2 u
  | _ => false

/-! ### a module -/
/-- a def that tells a word of a call's end: its text (names, parameters: one alone), the words of what is raised, of none -/
structure Wx where
  t : Tx
  a : Str
  hs : List (String × Str)
  told : Str
structure Md where
  fs : List (String × Tx)
  ms : List (String × List (String × Tx)) := []
  fl : List (String × List String) := []
  gl : List (String × D) := []
  bt : List String := []
  gd : Bool := false
  lam : Bool := false      -- law makes lambdas
  xc : List String := []   -- classes of what is raised
  wr : List (String × Wx) := []
  tb : List (String × (List Str × List D)) := []   -- dicts of the module, keys texts
  bm : List (String × String) := []                -- methods that are taken as values
def Md.P (M : Md) : Prg where
  defs x := (M.fs.lookup x).map (·.e)
  meths C m := ((M.ms.lookup C).bind (·.lookup m)).map (·.e)
  glb x := match M.tb.lookup x with
    | some p => some (.kd p.1 p.2)
    | none => M.gl.lookup x
  bty x := M.bt.contains x
  att C f := ((M.fl.lookup C).getD []).contains f
  gd := M.gd
  wrd x := (M.wr.lookup x).map fun w => (w.hs, w.told)
  xc x := M.xc.contains x
  bm C m := M.bm.contains (C, m)
def Md.fa0 (M : Md) : List He.Fa := M.fs.map (fun p => .glo (Str.ofString p.1)) ++ bltNames.map (fun x => .free (Str.ofString x)) ++ M.bt.map (fun x => .free (Str.ofString x)) ++ (M.fl.map fun p => .cls (Str.ofString p.1)) ++ (M.fl.map fun p => p.2.map fun f => .noat (Str.ofString p.1) (Str.ofString f)).flatten ++
  (M.ms.map fun p => [.cls (Str.ofString p.1), .glo (Str.ofString p.1)] ++ p.2.map fun q => .meth (Str.ofString p.1) (Str.ofString q.1)).flatten ++ (M.ms.map fun p => if (p.2.lookup "__init__").isSome then [.mkr (Str.ofString p.1)] else []).flatten
def Md.fa (M : Md) : List He.Fa := M.tb.map (fun p => .glo (Str.ofString p.1)) ++ (M.bm.map (fun p => .meth (Str.ofString p.1) (Str.ofString p.2)) ++ (M.bm.map (fun p => .cls (Str.ofString p.1)) ++ (M.xc.map (fun x => .glo (Str.ofString x)) ++ (M.wr.map (fun p => .glo (Str.ofString p.1)) ++ M.fa0))))
theorem Md.fa0_sub (M : Md) {f : He.Fa} (h : f ∈ M.fa0) : f ∈ M.fa := List.mem_append_right _ (List.mem_append_right _ (List.mem_append_right _ (List.mem_append_right _ (List.mem_append_right _ h))))
def Md.fn (M : Md) : List He.DefD := M.fs.map (·.2.d) ++ (M.ms.map fun p => p.2.map (·.2.d)).flatten ++ M.wr.map (·.2.t.d)
def Md.tf (M : Md) : List He.Defn := if M.lam then [(Str.ofString "law", none)] else []
def okWx (M : Md) (x : String) (w : Wx) : Bool := decide (w.t.d.at_ = (Str.ofString x, none)) && decide (w.t.d.name = Str.ofString x) && decide (w.t.d.qual = Str.ofString x) && w.t.d.dfl.isEmpty && w.t.d.kwd.isEmpty && decide (w.t.ps = [w.a]) && C8.scC [w.a] [w.a] w.t.d.scope && okV [w.a] w.t.d.scope 0 w.a && wordTx w.t.d.scope w.a w.hs w.told w.t.d.body && w.hs.all fun h => M.xc.contains h.1
def btNames : List String := ["int", "bool", "str", "tuple", "list", "dict"]
def Md.ok (M : Md) : Bool := (M.fs.all fun p => (p.2.ok && decide (p.2.d.at_ = (Str.ofString p.1, none))) && (!lamMark p.2.N || (M.lam && decide (p.1 = "law")))) && (M.ms.all fun p => p.2.all fun q => (q.2.ok && decide (q.2.d.at_ = (Str.ofString p.1, some (Str.ofString q.1)))) && !lamMark q.2.N) && (M.bt.all fun x => btNames.contains x) && (M.wr.all fun p => okWx M p.1 p.2)
def Md.binds (M : Md) : Prop := ((∀ p ∈ M.fs, p.2.binds) ∧ ∀ p ∈ M.ms, ∀ q ∈ p.2, q.2.binds) ∧ ∀ p ∈ M.wr, p.2.t.binds
/-- the classes of what is raised, as the head leaves them -/
def xcB (xs : List String) (K : PySem.W.Frag) : Bool := xs.all fun C => PySem.W.excIn K (He.ga K (Str.ofString C)) veBases "ValueError.__new__" && PySem.W.keepIn K (.ref (He.ga K (Str.ofString C))) && (PySem.W.subIn K (.ref (He.ga K (Str.ofString C))) (.type "BaseException") == some true) &&
  (match PySem.W.typeIn K (.ref (He.ga K (Str.ofString C))) with
    | some (.type t) => t == "type"
    | _ => false) && xs.all fun D => PySem.W.exmOne K (.ref (He.ga K (Str.ofString C))) (.ref (He.ga K (Str.ofString D))) == some (decide (C = D))
/-- the dicts of the module, as the head leaves them -/
def tbB (tb : List (String × (List Str × List D))) (K : PySem.W.Frag) : Bool := tb.all fun p => match K.lookup (He.ga K (Str.ofString p.1)) with
  | some ⟨_, _, .dict es _, _⟩ => entB K es.toList p.2.1 p.2.2
  | _ => false
def bmB (bm : List (String × String)) (K : PySem.W.Frag) : Bool := bm.all fun p => PySem.W.fnIn K (He.ma K (He.ga K (Str.ofString p.1)) (Str.ofString p.2)) && !PySem.W.copiedNames.contains (Str.ofString p.2) && (PySem.W.takesIn K (.ref (He.ma K (He.ga K (Str.ofString p.1)) (Str.ofString p.2))) == some false) &&
  He.eqO (PySem.W.specialIn K (.ref (He.ma K (He.ga K (Str.ofString p.1)) (Str.ofString p.2))) "__get__") (some (some (.builtin "function.__get__")))
def exB (M : Md) (K : PySem.W.Frag) : Bool := (glbB M.gl K && xcB M.xc K) && (tbB M.tb K && bmB M.bm K)
def Md.ts (M : Md) : List He.Tab := M.tb.map fun p => (fun K => He.ga K (Str.ofString p.1), p.2.1)
abbrev Md.hk (M : Md) (n : Nat) : PySem.W.Hook := He.hookX n M.fa M.fn M.ts M.tf (exB M)
theorem boot_bt : ∀ x ∈ btNames, bootBuiltins (Str.ofString x) = some (.type x) := by
  intro x hx
  simp only [btNames, List.mem_cons, List.not_mem_nil, or_false] at hx
  rcases hx with rfl | rfl | rfl | rfl | rfl | rfl <;> decide +kernel
theorem lookup_mem {α : Type} {x : String} {a : α} : ∀ {l : List (String × α)}, l.lookup x = some a → (x, a) ∈ l
  | [], h => by cases h
  | (y, b) :: r, h => by
    rw [List.lookup_cons] at h
    cases q : x == y with
    | true =>
      rw [q] at h
      cases h
      rw [eq_of_beq q]
      exact List.mem_cons_self
    | false =>
      rw [q] at h
      exact List.mem_cons_of_mem _ (lookup_mem h)
/-- what lambdas of a def are called -/
def Tx.lq (t : Tx) : Str := (envOfC t.d.qual t.d.scope 0 0 .none).qual ++ "<lambda>"
def Md.tabs (M : Md) (K : PySem.W.Frag) : List (Addr × Str) := if M.lam then match M.fs.lookup "law" with
  | some t => [((He.cT K (Str.ofString "law", none)).2, t.lq)]
  | none => [] else []
def Wr.of (M : Md) (K : PySem.W.Frag) (w : World) : Wr := ⟨K, fun C => He.ga K (Str.ofString C), M.tabs K, (He.cT K (Str.ofString "law", none)).1, w, fun C m => He.ma K (He.ga K (Str.ofString C)) (Str.ofString m)⟩
theorem Tx.noDfl {t : Tx} (h : t.ok = true) (K : PySem.W.Frag) : t.d.dvs K = [] ∧ t.d.kws K = [] := by
  unfold Tx.ok at h
  simp only [Bool.and_eq_true, List.isEmpty_iff] at h
  exact ⟨by unfold He.DefD.dvs; rw [h.1.2]; rfl, by unfold He.DefD.kws; rw [h.2]; rfl⟩
theorem factsB_of {M : Md} {K : PySem.W.Frag} {h : Heap} {mg : Str → Option Value} {w : World} (X : K.In h) (G : h.Ns mainGlobals mg) (hok : M.ok = true) (hb : M.binds) (c : He.SaysX M.fa M.fn M.ts M.tf (exB M) w h K) : FactsB M.P (Wr.of M K w) mg := by
  have sd := c.t.d
  have fact : ∀ f ∈ M.fa0, f.ok K = true := fun f hf => sd.facts (M.fa0_sub hf)
  unfold Md.ok at hok
  simp only [Bool.and_eq_true] at hok
  obtain ⟨⟨⟨k1, k2⟩, k3⟩, k4⟩ := hok
  obtain ⟨hb, hbw⟩ := hb
  have lamOk : ∀ (x : String) (t : Tx) (fd : FuncData), M.fs.lookup x = some t → (∃ oc od osl, K.lookup (He.fAd K (Str.ofString x, none)) = some ⟨oc, od, .func fd, osl⟩) → (∃ q, PySem.W.codeIn K fd.code q = true) → LamOk (Wr.of M K w) t fd := fun x t fd hl ⟨oc, od, osl, lk⟩ ⟨q, hc⟩ mark => by
    have hm := lookup_mem hl
    have h3 := List.all_eq_true.mp k1 _ hm
    simp only [Bool.and_eq_true, Bool.or_eq_true, Bool.not_eq_true', decide_eq_true_eq] at h3
    rcases h3.2 with z | ⟨z1, rfl⟩
    · rw [mark] at z; cases z
    · obtain ⟨c0, e0⟩ := He.codeIn_ref hc
      have e1 := He.codeOf_eq lk e0
      refine ⟨?_, (He.cT K (Str.ofString "law", none)).2, ?_⟩
      · rw [e0, ← e1]; rfl
      · show M.tabs K = _
        unfold Md.tabs
        rw [if_pos z1, hl]
        rfl
  have meth : ∀ C m d, M.P.meths C m = some d → ∃ ts t, (C, ts) ∈ M.ms ∧ (m, t) ∈ ts ∧ t.e = d ∧ t.ok = true ∧ t.binds ∧ t.d.at_ = (Str.ofString C, some (Str.ofString m)) ∧ (ts.lookup m).isSome = true ∧ lamMark t.N = false := fun C m d hd => by
    obtain ⟨t, h1, h2⟩ := Option.map_eq_some_iff.mp (show ((M.ms.lookup C).bind (·.lookup m)).map (·.e) = some d from hd)
    obtain ⟨ts, h3, h4⟩ := Option.bind_eq_some_iff.mp h1
    have m1 := lookup_mem h3
    have m2 := lookup_mem h4
    have h5 := List.all_eq_true.mp (List.all_eq_true.mp k2 _ m1) _ m2
    simp only [Bool.and_eq_true, decide_eq_true_eq, Bool.not_eq_true'] at h5
    exact ⟨ts, t, m1, m2, h2, h5.1.1, hb.2 _ m1 _ m2, h5.1.2, by rw [h4]; rfl, h5.2⟩
  have funD : ∀ t : Tx, t.ok = true → t.d ∈ M.fn → ∃ fd, FunD K t.d.name t.d.qual t.d.params t.d.body t.d.scope [] [] (He.fAd K t.d.at_) fd := fun t ht hm => by
    obtain ⟨fd, F⟩ := sd.defs hm
    obtain ⟨e1, e2⟩ := t.noDfl ht K
    rw [e1, e2] at F
    exact ⟨fd, F⟩
  have mfn : ∀ {C m ts t}, (C, ts) ∈ M.ms → (m, t) ∈ ts → t.d ∈ M.fn := fun {C m ts t} m1 m2 => List.mem_append_left _ (List.mem_append_right _ (List.mem_flatten.mpr ⟨_, List.mem_map.mpr ⟨_, m1, rfl⟩, List.mem_map.mpr ⟨_, m2, rfl⟩⟩))
  have mfa : ∀ {C ts f}, (C, ts) ∈ M.ms → f ∈ ([.cls (Str.ofString C), .glo (Str.ofString C)] ++ ts.map fun q => .meth (Str.ofString C) (Str.ofString q.1) : List He.Fa) → f ∈ M.fa0 := fun {C ts f} m1 hf => by
    unfold Md.fa0
    exact List.mem_append_left _ (List.mem_append_right _ (List.mem_flatten.mpr ⟨_, List.mem_map.mpr ⟨_, m1, rfl⟩, hf⟩))
  have more : glbB M.gl K = true ∧ xcB M.xc K = true := by
    have := c.more
    unfold exB at this
    rw [Bool.and_eq_true, Bool.and_eq_true] at this
    exact this.1
  have tbl : tbB M.tb K = true := by
    have := c.more
    unfold exB at this
    rw [Bool.and_eq_true, Bool.and_eq_true, Bool.and_eq_true] at this
    exact this.2.1
  refine ⟨fun x d hd => ?_, fun x hx => ?_, fun x hx => ?_, fun C f hf => ?_, fun x d hd => ?_, fun C m d hd => ?_, fun C d hd => ?_⟩
  · have hd : (match M.tb.lookup x with
      | some p => some (.kd p.1 p.2)
      | none => M.gl.lookup x) = some d := hd
    cases ht : M.tb.lookup x with
    | some q =>
      rw [ht] at hd
      cases hd
      have hm := lookup_mem ht
      obtain ⟨i, hi, ei⟩ := List.mem_iff_getElem.mp hm
      have hts : M.ts[i]? = some (fun K => He.ga K (Str.ofString x), q.1) := by
        unfold Md.ts
        rw [List.getElem?_map, List.getElem?_eq_getElem hi, ei]
        rfl
      obtain ⟨es, n, kd⟩ := c.t.tab i hts
      have e2 := List.all_eq_true.mp (show M.tb.all _ = true from tbl) _ hm
      have kat : K.lookup (He.ga K (Str.ofString x)) = some ⟨.type "dict", none, .dict es n, #[]⟩ := kd.at_
      dsimp only at e2
      rw [kat] at e2
      refine ⟨.ref (He.ga K (Str.ofString x)), .ref (He.ga K (Str.ofString x)), He.glo_ok X G (sd.facts (f := .glo (Str.ofString x)) ?_), rfl, fun φ H => .kd (K := Wr.of M K w) kd e2⟩
      unfold Md.fa
      exact List.mem_append_left _ (List.mem_map.mpr ⟨_, hm, rfl⟩)
    | none =>
    rw [ht] at hd
    have hm := lookup_mem (show M.gl.lookup x = some d from hd)
    have h2 : (match PySem.W.nsIn K mainGlobals (Str.ofString x) with
      | some (some u) => datB K d u
      | _ => false) = true := List.all_eq_true.mp (show M.gl.all _ = true from more.1) _ hm
    split at h2
    · rename_i u hu
      obtain ⟨v, h3, h4⟩ := datB_ok (T := Wr.of M K w) h2
      exact ⟨u, v, PySem.W.mg_of X G hu, h3, h4⟩
    · cases h2
  · have hx : M.bt.contains x = true := hx
    have hx := List.contains_iff_mem.mp hx
    refine ⟨He.free_ok X G (fact (.free _) ?_), boot_bt x (List.contains_iff_mem.mp (List.all_eq_true.mp k3 x hx))⟩
    unfold Md.fa0
    simp only [List.mem_append, List.mem_map]
    exact .inl (.inl (.inl (.inl (.inr ⟨x, hx, rfl⟩))))
  · refine He.free_ok X G (fact (.free _) ?_)
    unfold Md.fa0
    simp only [List.mem_append, List.mem_map]
    exact .inl (.inl (.inl (.inl (.inl (.inr ⟨x, hx, rfl⟩)))))
  · have hf : ((M.fl.lookup C).getD []).contains f = true := hf
    cases hl : M.fl.lookup C with
    | none => rw [hl] at hf; cases hf
    | some l =>
      rw [hl] at hf
      have hm := lookup_mem hl
      have hf := List.contains_iff_mem.mp (show l.contains f = true from hf)
      refine ⟨He.cls_ok (fact (.cls _) ?_), He.noat_ok (fact (.noat _ _) ?_)⟩
      · unfold Md.fa0
        simp only [List.mem_append, List.mem_map]
        exact .inl (.inl (.inl (.inr ⟨_, hm, rfl⟩)))
      · unfold Md.fa0
        simp only [List.mem_append, List.mem_flatten, List.mem_map]
        exact .inl (.inl (.inr ⟨_, ⟨_, hm, rfl⟩, List.mem_map.mpr ⟨f, hf, rfl⟩⟩))
  · obtain ⟨t, h1, h2⟩ := Option.map_eq_some_iff.mp (show (M.fs.lookup x).map (·.e) = some d from hd)
    have hm := lookup_mem h1
    have h3 := List.all_eq_true.mp k1 _ hm
    simp only [Bool.and_eq_true, decide_eq_true_eq] at h3
    obtain ⟨fd, F⟩ := funD t h3.1.1 (List.mem_append_left _ (List.mem_append_left _ (List.mem_map.mpr ⟨_, hm, rfl⟩)))
    rw [h3.1.2] at F
    have lam : LamOk (Wr.of M K w) t fd := by
      obtain ⟨oc, od, dV, kV, doc, pm, an, cdv, ct, osl, e, lk, hc, -, -⟩ := F.ex
      exact lamOk x t fd h1 ⟨oc, od, osl, lk⟩ ⟨_, by rw [e]; exact hc⟩
    refine ⟨_, fd, t, He.glo_ok X G (fact (.glo _) ?_), h2, h3.1.1, hb.1 _ hm, F, lam⟩
    unfold Md.fa0
    simp only [List.mem_append, List.mem_map]
    exact .inl (.inl (.inl (.inl (.inl (.inl ⟨_, hm, rfl⟩)))))
  · obtain ⟨ts, t, m1, m2, h2, h3, h4, h5, _, h7⟩ := meth C m d hd
    obtain ⟨fd, F⟩ := funD t h3 (mfn m1 m2)
    rw [h5] at F
    exact ⟨He.cls_ok (fact (.cls _) (mfa m1 (by simp))), _, fd, t, He.meth_ok (fact (.meth _ _) (mfa m1 (List.mem_append_right _ (List.mem_map.mpr ⟨_, m2, rfl⟩)))), h2, h3, h4, F, fun z => by rw [h7] at z; cases z⟩
  · obtain ⟨ts, t, m1, m2, h2, h3, h4, h5, h6, h7⟩ := meth C "__init__" d hd
    obtain ⟨fd, F⟩ := funD t h3 (mfn m1 m2)
    rw [h5] at F
    refine ⟨_, fd, t, He.glo_ok X G (fact (.glo _) (mfa m1 (by simp))), He.mkr_ok (fact (.mkr _) ?_), h2, h3, h4, F, fun z => by rw [h7] at z; cases z⟩
    unfold Md.fa0
    refine List.mem_append_right _ (List.mem_flatten.mpr ⟨_, List.mem_map.mpr ⟨_, m1, rfl⟩, ?_⟩)
    rw [if_pos h6]
    exact List.mem_cons_self
theorem factsX_of {M : Md} {K : PySem.W.Frag} {h : Heap} {mg : Str → Option Value} {w : World} (X : K.In h) (G : h.Ns mainGlobals mg) (hok : M.ok = true) (hb : M.binds) (c : He.SaysX M.fa M.fn M.ts M.tf (exB M) w h K) : FactsX M.P (Wr.of M K w) mg := by
  have sd := c.t.d
  have more : xcB M.xc K = true := by
    have := c.more
    unfold exB at this
    rw [Bool.and_eq_true, Bool.and_eq_true] at this
    exact this.1.2
  have bmk : bmB M.bm K = true := by
    have := c.more
    unfold exB at this
    rw [Bool.and_eq_true, Bool.and_eq_true, Bool.and_eq_true] at this
    exact this.2.2
  unfold Md.ok at hok
  rw [Bool.and_eq_true] at hok
  have k4 := hok.2
  have one : ∀ C, M.P.xc C = true → C ∈ M.xc := fun C hC => List.contains_iff_mem.mp (show M.xc.contains C = true from hC)
  refine ⟨fun C hC => ?_, fun C C' hC hC' => ?_, fun x hs told hw => ?_, fun x d hd => ?_, fun C m hb => ?_⟩
  · have hm := one C hC
    have h1 := List.all_eq_true.mp more _ hm
    simp only [Bool.and_eq_true, beq_iff_eq] at h1
    obtain ⟨⟨⟨⟨g1, g2⟩, g3⟩, g4⟩, g5⟩ := h1
    refine ⟨He.glo_ok X G (sd.facts (f := .glo (Str.ofString C)) ?_), g1, g2, g3, ?_⟩
    · unfold Md.fa
      exact List.mem_append_right _ (List.mem_append_right _ (List.mem_append_right _ (List.mem_append_left _ (List.mem_map.mpr ⟨_, hm, rfl⟩))))
    · split at g4
      · rename_i t ht
        rw [show (Wr.of M K w).ca C = He.ga K (Str.ofString C) from rfl, show (Wr.of M K w).K = K from rfl, ht, eq_of_beq g4]
      · cases g4
  · have h1 := List.all_eq_true.mp more _ (one C hC)
    simp only [Bool.and_eq_true, beq_iff_eq] at h1
    have h2 := List.all_eq_true.mp h1.2 _ (one C' hC')
    exact eq_of_beq h2
  · obtain ⟨w0, h1, h2⟩ := Option.map_eq_some_iff.mp (show (M.wr.lookup x).map (fun w => (w.hs, w.told)) = some (hs, told) from hw)
    cases h2
    have hm := lookup_mem h1
    have h3 := List.all_eq_true.mp k4 _ hm
    unfold okWx at h3
    simp only [Bool.and_eq_true, decide_eq_true_eq, List.isEmpty_iff] at h3
    obtain ⟨⟨⟨⟨⟨⟨⟨⟨⟨e1, e2⟩, e3⟩, e4⟩, e5⟩, e6⟩, e7⟩, e8⟩, e9⟩, e10⟩ := h3
    obtain ⟨fd, F⟩ := sd.defs (d := w0.t.d) (List.mem_append_right _ (List.mem_map.mpr ⟨_, hm, rfl⟩))
    have d1 : w0.t.d.dvs K = [] := by unfold He.DefD.dvs; rw [e4]; rfl
    have d2 : w0.t.d.kws K = [] := by unfold He.DefD.kws; rw [e5]; rfl
    rw [d1, d2, e1, e2, e3] at F
    have bd := hb.2 _ hm
    unfold Tx.binds at bd
    rw [e2, e3, e6] at bd
    refine ⟨_, fd, _, _, _, w0.a, He.glo_ok X G (sd.facts (f := .glo (Str.ofString x)) ?_), F, F.bindsN bd, C8.fnScope_by e7, e8, e9, fun h hh => ?_⟩
    · unfold Md.fa
      exact List.mem_append_right _ (List.mem_append_right _ (List.mem_append_right _ (List.mem_append_right _ (List.mem_append_left _ (List.mem_map.mpr ⟨_, hm, rfl⟩)))))
    · exact List.all_eq_true.mp e10 h hh
  · obtain ⟨t, h1, h2⟩ := Option.map_eq_some_iff.mp (show (M.fs.lookup x).map (·.e) = some d from hd)
    have hm := lookup_mem h1
    refine He.glo_ok X G (sd.facts (M.fa0_sub ?_))
    unfold Md.fa0
    simp only [List.mem_append, List.mem_map]
    exact .inl (.inl (.inl (.inl (.inl (.inl ⟨_, hm, rfl⟩)))))
  · have hb : M.bm.contains (C, m) = true := hb
    have hm := List.contains_iff_mem.mp hb
    have h1 := List.all_eq_true.mp (show M.bm.all _ = true from bmk) _ hm
    simp only [Bool.and_eq_true, beq_iff_eq, Bool.not_eq_true'] at h1
    obtain ⟨⟨⟨g1, g2⟩, g3⟩, g4⟩ := h1
    refine ⟨He.cls_ok (sd.facts (f := .cls (Str.ofString C)) ?_), ⟨He.meth_ok (sd.facts (f := .meth (Str.ofString C) (Str.ofString m)) ?_), He.eqO_ok g4, g3, g2, g1⟩⟩
    · unfold Md.fa
      exact List.mem_append_right _ (List.mem_append_right _ (List.mem_append_left _ (List.mem_map.mpr ⟨_, hm, rfl⟩)))
    · unfold Md.fa
      exact List.mem_append_right _ (List.mem_append_left _ (List.mem_map.mpr ⟨_, hm, rfl⟩))
/-! ### the law -/
/-- a law that is true at every script -/
def Md.Law (M : Md) (k n : Nat) : Prop := ∀ ns : List Int, ns.length ≤ n → ∃ S, (cxK M.P k).call "law" [.scr ns] [] = .ok (.bl true) S
/-- where a law's call begins: an abstract heap in which at most the script stands, and empty tables of code objects -/
structure Begin (prog : Program) (w : World) (K : PySem.W.Frag) (mg : Str → Option Value) (s : Shared) (a : Addr) (ns : List Int) (cs : List Addr) (H : Hp) (base : Heap) : Prop where
  env : Env0 prog w K mg base callerA [] s H
  only : ∀ b, H b = none ∨ (b = a ∧ ∃ o, H b = some (.frz o (.lst (ns.map V.int)))) ∨ (b ∈ cs ∧ H b = some (.tbl #[]))
  scr : SqL K H a (ns.map V.int)
  tab : ∀ b ∈ cs, H b = some (.tbl #[])
  old : ∀ b o, s.heap.get? b = some o → (∀ vs n, o.data ≠ .seq vs n) → o.data ≠ .fields #[] → base.get? b = some o
theorem begin_of {prog : Program} {w : World} {K : PySem.W.Frag} {mg mb : Str → Option Value} {s : Shared} {a : Addr} {cs : List Addr} {vs : List Value} {ns : List Int} (X : K.In s.heap) (G : s.heap.Ns mainGlobals mg) (B : s.heap.Ns builtinsNs mb) (hB : ∀ x : Str, x ≠ "__name__" → mb x = bootBuiltins x)
    (lim : s.heap.NoLimit) (gens : s.gens = #[]) (at_a : s.heap.get? a = some { cls := .type "list", data := .seq vs.toArray }) (are : IntsAre vs ns) (short : ns.length ≤ sizeLine)
    (at_c : ∀ b ∈ cs, s.heap.get? b = some { cls := .none, data := .fields #[] }) (out_c : ∀ b ∈ cs, K.lookup b = none) : ∃ H base, Begin prog w K mg s a ns cs H base := by
  have vals := vals_ints are
  have a_cs : a ∉ cs := fun z => by
    have e := at_c a z
    rw [at_a] at e
    have e2 : Data.seq vs.toArray _ = Data.fields #[] := congrArg Obj.data (Option.some.inj e)
    cases e2
  have gen : ∀ H : Hp, (∀ b, H b = none ∨ (b = a ∧ K.lookup a = none ∧ ∃ o, H b = some (.frz o (.lst (ns.map V.int)))) ∨ (b ∈ cs ∧ H b = some (.tbl #[]))) → (∀ b ∈ cs, H b = some (.tbl #[])) → SqL K H a (ns.map V.int) → HOk prog w H s.heap → ∃ H base, Begin prog w K mg s a ns cs H base := fun H one tb sq ok => by
    have old : ∀ b o, s.heap.get? b = some o → (∀ vs n, o.data ≠ .seq vs n) → o.data ≠ .fields #[] → (hidT s.heap H).get? b = some o := fun b o e d1 d2 => by
      refine hidT_get e ?_
      rcases one b with z | ⟨rfl, _⟩ | ⟨z, _⟩
      · exact z
      · rw [at_a] at e
        cases e
        exact absurd rfl (d1 _ _)
      · rw [at_c b z] at e
        cases e
        exact absurd rfl d2
    have spaces : ∀ {b : Addr} {m : Str → Option Value}, s.heap.Ns b m → (hidT s.heap H).Ns b m := fun {b m} ⟨o, es, ep, e1, e2, e3⟩ =>
      ⟨o, es, ep, old b o e1 (fun vs n z => by rw [e2] at z; cases z) (fun z => by rw [e2] at z; cases z), e2, e3⟩
    have inB : K.In (hidT s.heap H) := fun b o e => by
      refine hidT_get (X b o e) ?_
      rcases one b with z | ⟨rfl, z, _⟩ | ⟨z, _⟩
      · exact z
      · rw [z] at e
        cases e
      · rw [out_c b z] at e
        cases e
    refine ⟨H, hidT s.heap H, ⟨rfl, ⟨inB, spaces G, ⟨mb, spaces B, hB⟩, ?_⟩, fun b o e => of_hidT e, Nat.le_of_eq (hidT_size _ _), trivial, fun b hb => by simp [frs] at hb, ok, .of_eq gens⟩, fun b => (one b).imp id fun z => z.imp (fun z => ⟨z.1, z.2.2⟩) id, sq, tb, old⟩
    obtain ⟨mc, l1, l2⟩ := lim
    exact ⟨mc, spaces l1, l2⟩
  have tabOk : ∀ {H : Hp} b, b ∈ cs → ObjOk prog w H s.heap b (.tbl #[]) := fun b hb => at_c b hb
  cases known : K.lookup a with
  | some o =>
    have same := X a o known
    rw [at_a] at same
    cases same
    refine gen (fun b => if b ∈ cs then some (.tbl #[]) else none) (fun b => ?_) (fun b hb => if_pos hb) (.inr ⟨_, vs.toArray, _, known, rfl, rfl, rfl, by rw [List.size_toArray, are.length]; exact short, by simpa using vals⟩) fun b u z => ?_
    · by_cases hb : b ∈ cs
      · exact .inr (.inr ⟨hb, if_pos hb⟩)
      · exact .inl (if_neg hb)
    · have z : (if b ∈ cs then some (HO.tbl #[]) else none) = some u := z
      split at z
      · rename_i hb
        cases z
        exact tabOk b hb
      · cases z
  | none =>
    have at_H : ∀ b, b ∉ cs → b ≠ a → (if b = a then some (HO.frz { cls := .type "list", data := .seq vs.toArray } (.lst (ns.map V.int))) else if b ∈ cs then some (.tbl #[]) else none) = none := fun b h1 h2 => by rw [if_neg h2, if_neg h1]
    refine gen (fun b => if b = a then some (.frz { cls := .type "list", data := .seq vs.toArray } (.lst (ns.map V.int))) else if b ∈ cs then some (.tbl #[]) else none) (fun b => ?_) (fun b hb => ?_) (.inl (.inr ⟨_, if_pos rfl⟩)) fun b u z => ?_
    · by_cases e : b = a
      · exact .inr (.inl ⟨e, known, _, if_pos e⟩)
      · by_cases hb : b ∈ cs
        · exact .inr (.inr ⟨hb, by rw [if_neg e, if_pos hb]⟩)
        · exact .inl (at_H b hb e)
    · have e : b ≠ a := fun z => a_cs (z ▸ hb)
      show (if b = a then _ else _) = _
      rw [if_neg e, if_pos hb]
    · have z : (if b = a then some (HO.frz { cls := .type "list", data := .seq vs.toArray } (.lst (ns.map V.int))) else if b ∈ cs then some (.tbl #[]) else none) = some u := z
      split at z
      · rename_i e
        cases z
        rw [e]
        exact ⟨at_a, by rw [List.length_map]; exact short, vs, _, vals, at_a⟩
      · split at z
        · rename_i hb
          cases z
          exact tabOk b hb
        · cases z
theorem law_end {M : Md} {t : Tx} {x : String} {n k m : Nat} (hl : M.fs.lookup "law" = some t) (hps : t.ps = [Str.ofString x]) (hok : M.ok = true) (hb : M.binds) (law : M.Law (k + 1) n) (room : Room (k + 1) callerA) {l : PySem.W.OpenLaw} {q : Program} {loose : List Str} {XP : (Str → Option Value) → Heap → Prop} {d : DefRec}
    (hn : l.most = some n) (hn2 : n ≤ sizeLine) (hdf : d.params.defaults = []) (hname : d.name = Str.ofString "law") : PySem.W.WalkO q loose XP (M.hk m).says l.row.toRowW d [] (fun f vs => PySem.call f vs) := by
  refine Att.attach_call hn hdf fun w s₀ s₁ mg mb fa o pm cd doc a vs ns G Y ho hd hcd hmg hobj hints hlen hg => ?_
  obtain ⟨K, X, c⟩ := Y
  have GT := G.T.g
  have hok1 : ∀ p ∈ M.fs, p.2.ok = true ∧ p.2.d.at_ = (Str.ofString p.1, none) := fun p hp => by
    unfold Md.ok at hok
    simp only [Bool.and_eq_true] at hok
    have h3 := List.all_eq_true.mp hok.1.1.1 p hp
    simp only [Bool.and_eq_true, decide_eq_true_eq] at h3
    exact h3.1
  have hm := lookup_mem hl
  have h3 := hok1 _ hm
  obtain ⟨fd, F⟩ := c.t.d.defs (d := t.d) (List.mem_append_left _ (List.mem_append_left _ (List.mem_map.mpr ⟨_, hm, rfl⟩)))
  obtain ⟨e1, e2⟩ := t.noDfl h3.1 K
  rw [e1, e2, h3.2] at F
  have hgl : mg (Str.ofString "law") = some (.ref (He.ga K (Str.ofString "law"))) := by
    refine He.glo_ok X GT (c.t.d.facts (M.fa0_sub ?_))
    unfold Md.fa0
    simp only [List.mem_append, List.mem_map]
    exact .inl (.inl (.inl (.inl (.inl (.inl ⟨_, hm, rfl⟩)))))
  rw [hname, hgl] at hmg
  cases hmg
  obtain ⟨H, base, b⟩ := begin_of (prog := l.prog) (w := w) (cs := M.tf.map fun p => (He.cT K p).2) X GT G.T.b G.T.builtins G.T.nolimit hg hobj hints (Nat.le_trans hlen hn2)
    (fun b hb => by obtain ⟨p, hp, rfl⟩ := List.mem_map.mp hb; exact c.empty p hp) (fun b hb => by obtain ⟨p, hp, rfl⟩ := List.mem_map.mp hb; exact c.out p hp)
  have FB : FactsB M.P (Wr.of M K w) mg := factsB_of X GT hok hb c
  have FX : FactsX M.P (Wr.of M K w) mg := factsX_of X GT hok hb c
  have heads : ∀ p ∈ M.tf, PySem.W.CodeHd s₁.heap (He.cT K p).1 (He.cT K p).2 := fun p hp => PySem.W.codeHd_of_K X (c.hd p hp)
  have tabs : ∀ p ∈ (Wr.of M K w).tabs, ∃ q ∈ M.tf, p.1 = (He.cT K q).2 ∧ (Wr.of M K w).lc = (He.cT K q).1 := fun p hp => by
    have hp : p ∈ M.tabs K := hp
    unfold Md.tabs at hp
    split at hp
    · rename_i hlam
      rw [hl] at hp
      refine ⟨(Str.ofString "law", none), by unfold Md.tf; rw [if_pos hlam]; simp, ?_, rfl⟩
      rw [List.mem_singleton.mp hp]
    · cases hp
  have tb : ∀ p ∈ (Wr.of M K w).tabs, LamX.TabB base mg (Wr.of M K w).lc p.1 := fun p hp => by
    obtain ⟨q, hq, z1, z2⟩ := tabs p hp
    rw [z1, z2]
    have empty := c.empty q hq
    refine ⟨?_, ?_, fun z => ?_⟩
    · obtain ⟨o, us, f1, f2, f3, f4, f5, f6, f7, g1, g2, g3, g4, g5, g6, g7, g8, g9, g10⟩ := heads q hq
      refine ⟨o, us, f1, f2, f3, f4, f5, f6, f7, b.old _ _ g1 (fun vs n z => by rw [g3] at z; cases z) (fun z => ?_), g2, g3, g4, g5, g6, g7, g8, g9, g10⟩
      rw [g3] at z
      cases z
      simp at g4
    · obtain ⟨bm, ob, b1, b2, b3, b4, b5, b6⟩ := G.T.bmain
      refine ⟨bm, ob, b1, b2, fun z => ?_, fun z => ?_, b.old _ _ b3 (fun vs n z => by rw [b6] at z; cases z) (fun z => by rw [b6] at z; cases z), b4, b5, b6⟩
      · obtain ⟨o2, es, ep, g1, g2, _⟩ := GT
        rw [z, g1] at b3
        cases b3
        rw [g2] at b6
        cases b6
      · rw [z, empty] at b3
        cases b3
        cases b6
    · obtain ⟨o2, es, ep, g1, g2, _⟩ := GT
      rw [z, empty] at g1
      cases g1
      cases g2
  have lamF : LamOk (Wr.of M K w) t fd := by
    obtain ⟨f', fd', t', m1, m2, m3, m4, F', lam'⟩ := FB.fn "law" t.e (by show (M.fs.lookup "law").map (·.e) = _; rw [hl]; rfl)
    intro mark
    unfold Md.ok at hok
    simp only [Bool.and_eq_true] at hok
    have h5 := List.all_eq_true.mp hok.1.1.1 _ hm
    simp only [Bool.and_eq_true, Bool.or_eq_true, Bool.not_eq_true', decide_eq_true_eq] at h5
    rcases h5.2 with z | ⟨z1, _⟩
    · rw [mark] at z; cases z
    · obtain ⟨oc, od, dV, kV, doc, pm, an, cdv, ct, osl, e, lk, hc, -, -⟩ := F.ex
      have hc : PySem.W.codeIn K fd.code t.d.qual = true := by rw [e]; exact hc
      obtain ⟨c0, e0⟩ := He.codeIn_ref hc
      have e1 := He.codeOf_eq lk e0
      refine ⟨by rw [e0, ← e1]; rfl, (He.cT K (Str.ofString "law", none)).2, ?_⟩
      show M.tabs K = _
      unfold Md.tabs
      rw [if_pos z1, hl]
      rfl
  have run := body_ok (T := Wr.of M K w) (prog := l.prog) (w := w) (mg := mg) (base := base) (P := M.P) (k := k) rfl F h3.1 lamF fun j _ => facts_all rfl FB FX tb j
  have bind := FunD.bindsA (ps := t.ps) F (fun kV doc pm an cdv ct us hl => hb.1.1 _ hm kV doc pm an cdv ct us hl) s₁ [.ref a] (by rw [hps]; rfl)
  have hdef : M.P.defs "law" = some t.e := by show (M.fs.lookup "law").map (·.e) = _; rw [hl]; rfl
  obtain ⟨S, hS⟩ := law ns hlen
  have hS : runDef (cxK M.P k) t.e [.scr ns] [] = .ok (.bl true) S := by simpa only [cxK, hdef] using hS
  have sp : spD (Wr.of M K w) (fun ds S => runDef (cxK M.P k) t.e ds S) [.ref a] H (fun v _ => v = .bl true) fun _ _ _ => False := by
    refine ⟨[], [], [.scr ns], ⟨rfl, List.nodup_nil, fun l o a e => by simp at e, fun p hp => ?_⟩, .cons ?_ .nil, ?_⟩
    · obtain ⟨q, hq, z1, _⟩ := tabs p hp
      refine LamX.TabS.nil ?_
      rw [z1]
      exact b.tab _ (List.mem_map.mpr ⟨q, hq, rfl⟩)
    · rcases b.scr with (z | ⟨o, z⟩) | ⟨o, its, m, q1, q2, q3, q4, q5, q6⟩
      · rcases b.only a with y | ⟨_, o, y⟩ | ⟨_, y⟩ <;> (rw [y] at z; cases z)
      · exact .scrF z
      · exact .scrK q1 q2 q3 q4 q5 q6
    · dsimp only
      rw [hS]
      intro φ' H' b x s rb
      have rb : RepV (Wr.of M K w) φ' H' b (.bl true) := rb
      cases rb
      rfl
  refine codeAny_mono (run.goes callerA (fun _ => rfl) room [] s₁ H ⟨[.ref a], []⟩ [.ref a] [.ref a] _ _ b.env bind (.cons rfl .nil) sp) fun r s' z => ?_
  cases r with
  | error e => exact (show False from by obtain ⟨_, _, _, _, _, _, _, _, _, _, _, _, z⟩ := z; exact z).elim
  | ok fl =>
    cases fl with
    | ret u =>
      obtain ⟨v, H', os, bare, un, ok', rel, rfl⟩ := z
      cases (show u = Value.bool true from rel)
      have same : ∀ c o, c ∉ (M.tf.map fun p => (He.cT K p).2) → s₁.heap.get? c = some o → s'.heap.get? c = some o := fun c o nc e => by
        rcases b.only c with y | ⟨_, o2, y⟩ | ⟨y, _⟩
        · exact un.keep c o e y (by simp [frs]) (by simp)
        · obtain ⟨k1, _⟩ := b.env.hok c _ y
          obtain ⟨k2, _⟩ := ok' c _ (un.frzs c o2 _ y)
          rw [e] at k1
          cases k1
          exact k2
        · exact absurd y nc
      have grown : ∀ p ∈ M.tf, ∃ more : Array Value, s'.heap.get? (He.cT K p).2 = some { cls := .none, data := .fields more } := fun p hp => by
        obtain ⟨more, z⟩ := un.tbls _ #[] (b.tab _ (List.mem_map.mpr ⟨p, hp, rfl⟩))
        exact ⟨_, ok' _ _ z⟩
      refine ⟨rfl, ⟨fun c' o e => ?_, fun c' o e => ?_⟩, os, bare⟩
      · by_cases hc : c' ∈ M.tf.map fun p => (He.cT K p).2
        · obtain ⟨p, hp, rfl⟩ := List.mem_map.mp hc
          obtain ⟨more, hmore⟩ := grown p hp
          rw [c.empty p hp] at e
          cases e
          exact .inr (.inl ⟨((heads p hp).tab (c.empty p hp)).isCodeTable, rfl, #[], more, rfl, by rw [Array.empty_append]; exact hmore⟩)
        · exact .inl (same c' o hc e)
      · by_cases hc : c' ∈ M.tf.map fun p => (He.cT K p).2
        · obtain ⟨p, hp, rfl⟩ := List.mem_map.mp hc
          obtain ⟨more, hmore⟩ := grown p hp
          exact ⟨_, hmore⟩
        · exact ⟨o, same c' o hc e⟩
    | next => exact z.elim
    | brk => exact z.elim
    | cont => exact z.elim
end Ev
end

section
set_option Elab.async false
set_option linter.all false
set_option maxRecDepth 100000
set_option maxHeartbeats 1000000
set_option autoImplicit false
/-! Ev17: the evaluator's rows for simp; loops. -/
namespace Ev
open PySem
section
variable {P : Prg} {k n : Nat} {c : Ctx} {env : EnvD} {S : Store}
@[simp] theorem evE_non : evE c .non env S = .ok .non S := by simp only [evE]
@[simp] theorem evE_bl {b : Bool} : evE c (.bl b) env S = .ok (.bl b) S := by simp only [evE]
@[simp] theorem evE_int {i : Int} : evE c (.int i) env S = .ok (.int i) S := by simp only [evE]
@[simp] theorem evE_str {x : Str} : evE c (.str x) env S = .ok (.str x) S := by simp only [evE]
def varR (o : Option (Option D)) (S : Store) : Res D := match o with
  | some (some d) => .ok d S
  | _ => .bad
@[simp] theorem varR_some {d : D} : varR (some (some d)) S = .ok d S := rfl
@[simp] theorem evE_var {i : Nat} : evE c (.var i) env S = varR env[i]? S := by simp only [evE]; rfl
@[simp] theorem evE_glb {x : String} : evE c (.glb x) env S = okR (c.glb x) S := by simp only [evE]
@[simp] theorem evE_bty {x : String} : evE c (.bty x) env S = if c.bty x then .ok (.ty x) S else .bad := by simp only [evE]
def tupR (ds : List D) (S : Store) : Res D := if ds.length ≤ LIM then .ok (.tup ds) S else .bad
@[simp] theorem evE_tup {es : EXs} : evE c (.tup es) env S = (evEs c es env S).bind tupR := by simp only [evE]; rfl
@[simp] theorem evE_ofl {l : LX} : evE c (.ofl l) env S = (evL c l env S).bind fun ds S => alloc (.lst ds) S := by simp only [evE]
@[simp] theorem evE_dk0 : evE c .dk0 env S = alloc (.dk []) S := by simp only [evE]
@[simp] theorem evE_dt0 : evE c .dt0 env S = alloc (.dt []) S := by simp only [evE]
@[simp] theorem evE_bin {op : Op} {a b : EX} : evE c (.bin op a b) env S = (evE c a env S).bind fun x S => (evE c b env S).bind fun y S => binD op x y S := by simp only [evE]
def negR (x : D) (S : Store) : Res D := match x with
  | .int i => .ok (.int (-i)) S
  | _ => .bad
@[simp] theorem negR_int {i : Int} : negR (.int i) S = .ok (.int (-i)) S := rfl
@[simp] theorem evE_neg {a : EX} : evE c (.neg a) env S = (evE c a env S).bind negR := by simp only [evE]; rfl
@[simp] theorem evE_cmp {op : Cm} {a b : EX} : evE c (.cmp op a b) env S = (evE c a env S).bind fun x S => (evE c b env S).bind fun y S => cmpD op x y S := by simp only [evE]
def bothR (r : D) (S : Store) (f : Store → Res D) : Res D := match r with
  | .bl true => f S
  | .bl false => .ok (.bl false) S
  | _ => .bad
@[simp] theorem bothR_true {f : Store → Res D} : bothR (.bl true) S f = f S := rfl
@[simp] theorem bothR_false {f : Store → Res D} : bothR (.bl false) S f = .ok (.bl false) S := rfl
@[simp] theorem evE_chn {op op' : Cm} {a b z : EX} : evE c (.chn op a b op' z) env S = (evE c a env S).bind fun x S => (evE c b env S).bind fun y S => (cmpD op x y S).bind fun r S => bothR r S fun S => (evE c z env S).bind fun z S => cmpD op' y z S := by simp only [evE]; rfl
@[simp] theorem evE_bop {b : Bool} {es : EXs} : evE c (.bop b es) env S = evBs c b es env S := by simp only [evE]
def ntR (x : D) (S : Store) : Res D := match x with
  | .bl b => .ok (.bl (!b)) S
  | _ => .bad
@[simp] theorem ntR_bl {b : Bool} : ntR (.bl b) S = .ok (.bl (!b)) S := rfl
@[simp] theorem evE_nt {a : EX} : evE c (.nt a) env S = (evE c a env S).bind ntR := by simp only [evE]; rfl
@[simp] theorem evE_ife {t a b : EX} : evE c (.ife t a b) env S = (evE c t env S).bind fun x S => (truR x S).bind fun k S => bif k then evE c a env S else evE c b env S := by
  simp only [evE]
  congr 1
@[simp] theorem evE_sub {a i : EX} : evE c (.sub a i) env S = (evE c a env S).bind fun x S => (evE c i env S).bind fun y S => subD x y S := by simp only [evE]
@[simp] theorem evE_slc0 {a : EX} : evE c (.slc0 a) env S = (evE c a env S).bind fun x S => slcD x none none S := by simp only [evE]
@[simp] theorem evE_slcF {a l : EX} : evE c (.slcF a l) env S = (evE c a env S).bind fun x S => (evE c l env S).bind fun l S => (partR l S).bind fun l S => slcD x (some l) none S := by simp only [evE]
@[simp] theorem evE_slcT {a h : EX} : evE c (.slcT a h) env S = (evE c a env S).bind fun x S => (evE c h env S).bind fun h S => (partR h S).bind fun h S => slcD x none (some h) S := by simp only [evE]
@[simp] theorem evE_slcB {a l h : EX} : evE c (.slcB a l h) env S = (evE c a env S).bind fun x S => (evE c l env S).bind fun l S => (partR l S).bind fun l S => (evE c h env S).bind fun h S => (partR h S).bind fun h S => slcD x (some l) (some h) S := by simp only [evE]
@[simp] theorem evE_call {x : String} {es : EXs} : evE c (.call x es) env S = if c.defd x then (evEs c es env S).bind fun ds S => c.call x ds S else .bad := by simp only [evE]
@[simp] theorem evE_append {a : EX} {es : EXs} : evE c (.meth a .append es) env S = (evE c a env S).bind fun x S => if kindOk .append x S then (evEs c es env S).bind fun ds S => methD x .append ds S else .bad := by simp only [evE]
@[simp] theorem evE_extend {a : EX} {es : EXs} : evE c (.meth a .extend es) env S = (evE c a env S).bind fun x S => if kindOk .extend x S then (evEs c es env S).bind fun ds S => methD x .extend ds S else .bad := by simp only [evE]
@[simp] theorem evE_pop {a : EX} {es : EXs} : evE c (.meth a .pop es) env S = (evE c a env S).bind fun x S => if kindOk .pop x S then (evEs c es env S).bind fun ds S => methD x .pop ds S else .bad := by simp only [evE]
@[simp] theorem evE_get {a : EX} {es : EXs} : evE c (.meth a .get es) env S = (evE c a env S).bind fun x S => if kindOk .get x S then (evEs c es env S).bind fun ds S => methD x .get ds S else .bad := by simp only [evE]
@[simp] theorem evE_update {a : EX} {es : EXs} : evE c (.meth a .update es) env S = (evE c a env S).bind fun x S => if kindOk .update x S then (evEs c es env S).bind fun ds S => methD x .update ds S else .bad := by simp only [evE]
@[simp] theorem evE_blt {f : Bf} {es : EXs} : evE c (.blt f es) env S = if okBf f c.gd then (evEs c es env S).bind fun ds S => bltD f ds S else .bad := by simp only [evE]
@[simp] theorem evE_bll {f : Bl} {l : LX} : evE c (.bll f l) env S = (evL c l env S).bind fun ds S => bllD f ds S := by simp only [evE]
@[simp] theorem evE_index {a : EX} {es : EXs} : evE c (.meth a .index es) env S = (evE c a env S).bind fun x S => if kindOk .index x S then (evEs c es env S).bind fun ds S => methD x .index ds S else .bad := by simp only [evE]
@[simp] theorem evE_lamw {x : String} {b : EX} : evE c (.lamw x b) env S = c.lam x b env S := by simp only [evE]
def fldR (c : Ctx) (f : String) (x : D) (S : Store) : Res D := match x with
  | .loc l => match S[l]? with
    | some (.ins C fs) => if c.att C f then okR (fs.lookup f) S else .bad
    | _ => .bad
  | _ => .bad
@[simp] theorem evE_fld {a : EX} {f : String} : evE c (.fld a f) env S = (evE c a env S).bind (fldR c f) := by simp only [evE]; rfl
def newR' (c : Ctx) (C : String) (ds : List D) (S : Store) : Res D := (noExc (c.init C (.loc S.length :: ds) (S ++ [.ins C []]))).bind fun r S' => match r with
  | .non => .ok (.loc S.length) S'
  | _ => .bad
@[simp] theorem evE_new {C : String} {es : EXs} : evE c (.new C es) env S = if c.newd C then (evEs c es env S).bind (newR' c C) else .bad := by simp only [evE]; rfl
def ownR (c : Ctx) (m : String) (x : D) (S : Store) (f : Store → Res (List D)) : Res D := match x with
  | .loc l => match S[l]? with
    | some (.ins C fs) => if (fs.lookup m).isNone && c.methd C m then (f S).bind fun ds S => c.meth C m (x :: ds) S else .bad
    | _ => .bad
  | _ => .bad
@[simp] theorem evE_own {a : EX} {m : String} {es : EXs} : evE c (.meth a (.own m) es) env S = (evE c a env S).bind fun x S => ownR c m x S (evEs c es env) := by
  simp only [evE]
  congr 1
@[simp] theorem evE_dpop {a : EX} {es : EXs} : evE c (.meth a .dpop es) env S = (evE c a env S).bind fun x S => if kindOk .dpop x S then (evEs c es env S).bind fun ds S => methD x .dpop ds S else .bad := by simp only [evE]
@[simp] theorem evE_fnv {x : String} : evE c (.fnv x) env S = if c.defd x then .ok (.fn x) S else .bad := by simp only [evE]
def bmvR (c : Ctx) (m : String) (x : D) (S : Store) : Res D := match x with
  | .loc l => match S[l]? with
    | some (.ins C fs) => if (fs.lookup m).isNone && c.bmd C m then .ok (.bm C m l) S else .bad
    | _ => .bad
  | _ => .bad
@[simp] theorem evE_bmv {a : EX} {m : String} : evE c (.bmv a m) env S = (evE c a env S).bind (bmvR c m) := by simp only [evE]; rfl
def cvalR (c : Ctx) (o : Option (Option D)) (r : Res (List D)) : Res D := match o with
  | some (some (.fn x)) => if c.defd x then r.bind fun ds S => c.call x ds S else .bad
  | some (some (.bm C m l)) => if c.methd C m && c.bmd C m then r.bind fun ds S => c.meth C m (.loc l :: ds) S else .bad
  | _ => .bad
@[simp] theorem evE_cval {i : Nat} {es : EXs} : evE c (.cval i es) env S = cvalR c env[i]? (evEs c es env S) := by
  simp only [evE]
  unfold cvalR
  rfl
@[simp] theorem cvalR_fn {x : String} {r : Res (List D)} : cvalR c (some (some (.fn x))) r = if c.defd x then r.bind fun ds S => c.call x ds S else .bad := rfl
@[simp] theorem cvalR_bm {C m : String} {l : Nat} {r : Res (List D)} : cvalR c (some (some (.bm C m l))) r = if c.methd C m && c.bmd C m then r.bind fun ds S => c.meth C m (.loc l :: ds) S else .bad := rfl
def dspR (ks : List Str) (ds : List D) (S : Store) : Res D := if ds.length = ks.length ∧ ds.length ≤ 15 then alloc (.dk (putAll [] ((ks.map Sum.inr).zip ds))) S else .bad
@[simp] theorem evE_dsp {ks : List Str} {es : EXs} : evE c (.dsp ks es) env S = (evEs c es env S).bind (dspR ks) := by simp only [evE]; rfl
def turnK (c : Ctx) (own : List Nat) (t : TG) (k v : EX) (env : EnvD) : D → Ob → Store → Res Ob := fun d acc S => match bindT t d (wipeE env own) with
  | some env' => (evE c k env' S).bind fun x S => (evE c v env' S).bind fun y S => putR acc x y S
  | none => .bad
@[simp] theorem evE_dcp {tk : Bool} {own : List (String × Nat)} {t : TG} {it : IT} {kx vx : EX} : evE c (.dcp tk own t it kx vx) env S = (evIt c it env S).bind fun iv S => (noExc (walkI (turnK c (own.map (·.2)) t kx vx env) iv (emptyD tk) S)).bind Ev.alloc := by simp only [evE]; rfl
def revR (x : D) (S : Store) : Res D := match x with
  | .loc l => match S[l]? with
    | some (.lst ds) => Ev.alloc (.lst ds.reverse) S
    | _ => .bad
  | _ => .bad
@[simp] theorem evE_rev {a : EX} : evE c (.rev a) env S = (evE c a env S).bind revR := by simp only [evE]; rfl
theorem revR_loc {l : Nat} {ds : List D} (h : S[l]? = some (.lst ds)) : revR (.loc l) S = .ok (.loc S.length) (S ++ [.lst ds.reverse]) := by
  simp only [revR, h]; rfl
def lrgR (x : D) (S : Store) : Res D := match x with
  | .int n => if n.natAbs ≤ LIM then alloc (.lst (rngL 0 1 n.toNat)) S else .bad
  | _ => .bad
@[simp] theorem evE_lrg {a : EX} : evE c (.lrg a) env S = (evE c a env S).bind lrgR := by simp only [evE]; rfl
theorem lrgR_int {n : Int} (h : n.natAbs ≤ LIM) : lrgR (.int n) S = .ok (.loc S.length) (S ++ [.lst (rngL 0 1 n.toNat)]) := by
  show (if n.natAbs ≤ LIM then alloc (.lst (rngL 0 1 n.toNat)) S else .bad) = _
  rw [if_pos h]
  rfl
@[simp] theorem evIt_enm {a : EX} : evIt c (.enm a) env S = (evE c a env S).bind enmD := by simp only [evIt]
@[simp] theorem enmD_tup {ds : List D} : enmD (.tup ds) S = .ok (.ds (enumL 0 ds)) S := rfl
@[simp] theorem evEs_nil : evEs c .nil env S = .ok [] S := by simp only [evEs]
@[simp] theorem evEs_cons {e : EX} {es : EXs} : evEs c (.cons e es) env S = (evE c e env S).bind fun d S => (evEs c es env S).bind fun ds S => .ok (d :: ds) S := by simp only [evEs]
@[simp] theorem evBs_one {b : Bool} {e : EX} : evBs c b (.cons e .nil) env S = evE c e env S := by simp only [evBs]
def stepB (x : D) (isAnd : Bool) (S : Store) (f : Store → Res D) : Res D := match x with
  | .bl b => if b = isAnd then f S else .ok (.bl b) S
  | _ => .bad
@[simp] theorem stepB_tt {f : Store → Res D} : stepB (.bl true) true S f = f S := rfl
@[simp] theorem stepB_ft {f : Store → Res D} : stepB (.bl false) true S f = .ok (.bl false) S := rfl
@[simp] theorem stepB_tf {f : Store → Res D} : stepB (.bl true) false S f = .ok (.bl true) S := rfl
@[simp] theorem stepB_ff {f : Store → Res D} : stepB (.bl false) false S f = f S := rfl
@[simp] theorem evBs_two {b : Bool} {e e' : EX} {es : EXs} : evBs c b (.cons e (.cons e' es)) env S = (evE c e env S).bind fun x S => stepB x b S fun S => evBs c b (.cons e' es) env S := by simp only [evBs]; rfl
@[simp] theorem evIt_val {e : EX} : evIt c (.val e) env S = (evE c e env S).bind itD := by simp only [evIt]
def rng1R (x : D) (S : Store) : Res ItV := match x with
  | .int n => if small62 n then .ok (.ds (rngL 0 1 n.toNat)) S else .bad
  | _ => .bad
@[simp] theorem evIt_rng1 {a : EX} : evIt c (.rng1 a) env S = (evE c a env S).bind fun x S => rng1R x S := by simp only [evIt]; rfl
def rng2R (x y : D) (S : Store) : Res ItV := match x, y with
  | .int i, .int j => if small62 i && small62 j then .ok (.ds (rngL i 1 (j - i).toNat)) S else .bad
  | _, _ => .bad
@[simp] theorem evIt_rng2 {a b : EX} : evIt c (.rng2 a b) env S = (evE c a env S).bind fun x S => (evE c b env S).bind fun y S => rng2R x y S := by simp only [evIt]; rfl
def rng3R (x y z : D) (S : Store) : Res ItV := match x, y, z with
  | .int i, .int j, .int (-1) => if small62 i && small62 j then .ok (.ds (rngL i (-1) (i - j).toNat)) S else .bad
  | _, _, _ => .bad
@[simp] theorem evIt_rng3 {a b d : EX} : evIt c (.rng3 a b d) env S = (evE c a env S).bind fun x S => (evE c b env S).bind fun y S => (evE c d env S).bind fun z S => rng3R x y z S := by simp only [evIt]; rfl
@[simp] theorem rng1R_int {n : Int} (h : small62 n = true) : rng1R (.int n) S = .ok (.ds (rngL 0 1 n.toNat)) S := by unfold rng1R; simp [h]
@[simp] theorem rng2R_int {i j : Int} (h : small62 i = true) (h2 : small62 j = true) : rng2R (.int i) (.int j) S = .ok (.ds (rngL i 1 (j - i).toNat)) S := by unfold rng2R; simp [h, h2]
@[simp] theorem rng3R_int {i j : Int} (h : small62 i = true) (h2 : small62 j = true) : rng3R (.int i) (.int j) (.int (-1)) S = .ok (.ds (rngL i (-1) (i - j).toNat)) S := by unfold rng3R; simp [h, h2]
def disR (ds : List D) (S : Store) : Res (List D) := if ds.length ≤ LIM then .ok ds S else .bad
@[simp] theorem evL_dis {es : EXs} : evL c (.dis es) env S = (evEs c es env S).bind disR := by simp only [evL]; rfl
/-- a turn of a comprehension -/
def turnC (c : Ctx) (own : List Nat) (t : TG) (tst : EnvD → Store → Res Bool) (e : EX) (env : EnvD) : D → List D → Store → Res (List D) := fun d acc S => match bindT t d (wipeE env own) with
  | some env' => (tst env' S).bind fun k S => match k with
    | true => (evE c e env' S).bind fun y S => if acc.length < LIM then .ok (acc ++ [y]) S else .bad
    | false => .ok acc S
  | none => .bad
theorem bind_assocR {α β γ : Type} (r : Res α) (f : α → Store → Res β) (g : β → Store → Res γ) : (r.bind f).bind g = r.bind fun a S => (f a S).bind g := by
  cases r <;> rfl
@[simp] theorem evL_comp0 {own : List (String × Nat)} {t : TG} {it : IT} {e : EX} : evL c (.comp own t it .nil e) env S = (evIt c it env S).bind fun iv S => noExc (walkI (turnC c (own.map (·.2)) t (fun _ S => .ok true S) e env) iv [] S) := by
  simp only [evL]; rfl
@[simp] theorem evL_comp1 {own : List (String × Nat)} {t : TG} {it : IT} {i e : EX} {is : EXs} : evL c (.comp own t it (.cons i is) e) env S = (evIt c it env S).bind fun iv S => noExc (walkI (turnC c (own.map (·.2)) t (fun env S => (evE c i env S).bind truR) e env) iv [] S) := by
  simp only [evL]
  congr 1; funext iv S; congr 2; funext d acc S
  unfold turnC
  generalize bindT t d (wipeE env (own.map (·.2))) = o
  cases o with
  | none => rfl
  | some env' => exact (bind_assocR _ _ _).symm
/-! ### statements -/
@[simp] theorem evS_expr {e : EX} : evS c n (.expr e) env S = (evE c e env S).out env fun _ S => .nx env S := by simp only [evS]
def setR (env : EnvD) (i : Nat) (d : D) (S : Store) : Out := if i < env.length then .nx (env.set i (some d)) S else .bad
@[simp] theorem evS_set {i : Nat} {e : EX} : evS c n (.set i e) env S = (evE c e env S).out env (setR env i) := by simp only [evS]; rfl
def parR (ns : List Nat) (env : EnvD) (ds : List D) (S : Store) : Out := if ds.length = ns.length then .nx (parE ns ds env) S else .bad
@[simp] theorem evS_par {ns : List Nat} {es : EXs} : evS c n (.par ns es) env S = (evEs c es env S).out env (parR ns env) := by simp only [evS]; rfl
@[simp] theorem evS_asg {t : TAG} {e : EX} : evS c n (.asg t e) env S = (evE c e env S).out env fun d S => asgT c t d env S := by simp only [evS]
def asgsR (c : Ctx) (ts : List TAG) (env : EnvD) (d : D) (S : Store) : Out := match d with
  | .tup ds => if ds.length = ts.length then asgTs c ts ds env S else .bad
  | .loc l => match S[l]? with
    | some (.lst ds) => if ds.length = ts.length then asgTs c ts ds env S else .bad
    | _ => .bad
  | _ => .bad
@[simp] theorem evS_fst {o : EX} {f : String} {e : EX} : evS c n (.fst o f e) env S = (evE c e env S).out env fun d S => (evE c o env S).out env fun x S => (fldD c x f d S).out env fun _ S => .nx env S := by simp only [evS]
@[simp] theorem evS_asgs {ts : List TAG} {e : EX} : evS c n (.asgs ts e) env S = (evE c e env S).out env (asgsR c ts env) := by simp only [evS]; rfl
def augR (o : Option (Option D)) (f : D → Out) : Out := match o with
  | some (some x) => f x
  | _ => .bad
@[simp] theorem augR_some {d : D} {f : D → Out} : augR (some (some d)) f = f d := rfl
@[simp] theorem evS_aug {i : Nat} {op : Op} {e : EX} : evS c n (.aug i op e) env S = augR env[i]? fun x => (evE c e env S).out env fun y S => (augD op x y S).out env fun z S => .nx (env.set i (some z)) S := by simp only [evS]; rfl
@[simp] theorem evS_ret {e : EX} : evS c n (.ret e) env S = (evE c e env S).out env fun d S => .rt d S := by simp only [evS]
@[simp] theorem evS_ret0 : evS c n .ret0 env S = .rt .non S := by simp only [evS]
@[simp] theorem evS_ife {t : EX} {a b : SS} : evS c n (.ife t a b) env S = ((evE c t env S).bind truR).out env fun k S => bif k then evSs c n a env S else evSs c n b env S := by
  simp only [evS]; unfold evTest
  congr 1
@[simp] theorem evS_whl {t : EX} {b : SS} : evS c n (.whl t b) env S = whlT (evTest c t) (fun env S => evSs c n b env S) LIM env S := by simp only [evS]
/-- a turn of a for -/
def turnF (c : Ctx) (n : Nat) (t : TG) (b : SS) : D → EnvD → Store → Out := fun d env S => match bindT t d env with
  | some env => evSs c n b env S
  | none => .bad
def forI (f : Nat → D → EnvD → Store → Out) (n : Nat) (iv : ItV) (env : EnvD) (S : Store) : Out := match iv with
  | .ds ds => forT (f (itBase n (.ds ds) S)) ds env S
  | .lst l => forL (f (max n (l + 1))) l LIM 0 env S
  | .enl l => forE (f (max n (l + 1))) l LIM 0 env S
@[simp] theorem evS_for {t : TG} {it : IT} {b : SS} : evS c n (.for_ t it b) env S = (evIt c it env S).out env fun iv S => forI (fun n => turnF c n t b) n iv env S := by
  simp only [evS]; rfl
@[simp] theorem evS_pack {dead : List Nat} : evS c n (.pack dead) env S = packO n (wipeE env dead) S := by simp only [evS]
@[simp] theorem evS_brk : evS c n .brk env S = .bk env S := by simp only [evS]
@[simp] theorem evS_cont : evS c n .cont env S = .ct env S := by simp only [evS]
@[simp] theorem evS_pass : evS c n .pass env S = .nx env S := by simp only [evS]
def raiseR (b : Bool) (C : String) (env : EnvD) (S : Store) : Out := if b then .exc ⟨C, []⟩ env S else .bad
@[simp] theorem raiseR_true {C : String} : raiseR true C env S = .exc ⟨C, []⟩ env S := rfl
@[simp] theorem evS_raise {C : String} : evS c n (.raise C) env S = raiseR (c.exc C) C env S := by simp only [evS]; rfl
@[simp] theorem evSs_nil : evSs c n .nil env S = .nx env S := by simp only [evSs]
@[simp] theorem evSs_cons {x : ST} {xs : SS} : evSs c n (.cons x xs) env S = (evS c n x env S).then fun env S => evSs c n xs env S := by simp only [evSs]
/-! ### calls -/
@[simp] theorem cxK_glb' : (cxK P k).glb = P.glb := by cases k <;> simp only [cxK]
@[simp] theorem cxK_bty' : (cxK P k).bty = P.bty := by cases k <;> simp only [cxK]
@[simp] theorem cxK_exc' : (cxK P k).exc = P.xc := by cases k <;> simp only [cxK]
@[simp] theorem cxK_att' : (cxK P k).att = P.att := by cases k <;> simp only [cxK]
@[simp] theorem cxK_bmd' : (cxK P k).bmd = P.bm := by cases k <;> simp only [cxK]
@[simp] theorem cxK_methdS {C m : String} : (cxK P (k + 1)).methd C m = (P.meths C m).isSome := by simp only [cxK]
@[simp] theorem cxK_newd' {C : String} : (cxK P (k + 1)).newd C = (!P.gd && (P.meths C "__init__").isSome) := by simp only [cxK]
theorem meth_eq {C m : String} {d : Def} (h : P.meths C m = some d) {ds : List D} : (cxK P (k + 1)).meth C m ds S = runDef (cxK P k) d ds S := by simp only [cxK, h]
theorem init_eq {C : String} {d : Def} (h : P.meths C "__init__" = some d) {ds : List D} : (cxK P (k + 2)).init C ds S = runDef (cxK P k) d ds S := by simp only [cxK, h]
theorem lam_eq {x : String} {b : EX} : (cxK P (k + 2)).lam x b env S = wordR P.xc (P.wrd x) (evE (cxK P k) b env S) := by simp only [cxK]
@[simp] theorem cxK_gd' : (cxK P k).gd = P.gd := by cases k <;> simp only [cxK]
@[simp] theorem cxK_defd' {x : String} : (cxK P (k + 1)).defd x = (P.defs x).isSome := by simp only [cxK]
theorem call_eq {x : String} {d : Def} (h : P.defs x = some d) {ds : List D} : (cxK P (k + 1)).call x ds S = runDef (cxK P k) d ds S := by simp only [cxK, h]
end
end Ev
namespace Ev
open PySem
/-! ### what is let go -/
def wf (S : Store) : Prop := S.all (Ob.bd S.length) = true
section
variable {S S' : Store} {d : D}
@[simp] theorem endO_rt : endO (.rt d S) = .ok d S := rfl
@[simp] theorem endO_nx {env : EnvD} : endO (.nx env S) = .ok .non S := rfl
theorem gc_cut {n : Nat} (h : (S'.take n).all (Ob.bd n) = true) (hd : d.bd n = true) : gc d n S' = (d, S'.take n) := by
  unfold gc; rw [if_pos h, if_pos hd]
theorem gcR_ok (hS : wf S) (hd : d.bd S.length = true) (ht : S'.take S.length = S) : gcR S (.ok d S') = .ok d S := by
  unfold gcR
  have := gc_cut (d := d) (n := S.length) (S' := S') (by rw [ht]; exact hS) hd
  simp only [this, ht]
theorem gcR_same (hS : wf S) (hd : d.bd S.length = true) : gcR S (.ok d S) = .ok d S := gcR_ok hS hd List.take_length
/-- a list laid anew -/
theorem gcR_new {l : Nat} {o : Ob} (hS : wf S) (ht : S'.take S.length = S) (hl : S.length ≤ l) (ho : S'[l]? = some o) (hb : o.bd S.length = true) : gcR S (.ok (.loc l) S') = .ok (.loc S.length) (S ++ [o]) := by
  have h : S.all (Ob.bd S.length) = true := hS
  have hnb : D.bd S.length (.loc l) = false := by simp [D.bd]; omega
  have e : gc (.loc l) S.length S' = (.loc S.length, S ++ [o]) := by
    unfold gc
    rw [ht]
    simp only [h, if_true, hnb, Bool.false_eq_true, if_false, ho, hb]
  unfold gcR
  simp only [e]
theorem wf_nil : wf [] := rfl
@[simp] theorem bd_non {n : Nat} : D.bd n .non = true := rfl
@[simp] theorem bd_bl {n : Nat} {b : Bool} : D.bd n (.bl b) = true := rfl
@[simp] theorem bd_int {n : Nat} {b : Int} : D.bd n (.int b) = true := rfl
@[simp] theorem bd_str {n : Nat} {b : Str} : D.bd n (.str b) = true := rfl
@[simp] theorem bd_scr {n : Nat} {b : List Int} : D.bd n (.scr b) = true := rfl
@[simp] theorem bd_tup {n : Nat} {b : List D} : D.bd n (.tup b) = bds n b := by simp only [D.bd]
@[simp] theorem bd_ktup {n : Nat} {b : List D} : D.bd n (.ktup b) = bds n b := by simp only [D.bd]
@[simp] theorem bd_loc {n l : Nat} : D.bd n (.loc l) = decide (l < n) := by simp only [D.bd]
@[simp] theorem bds_nil {n : Nat} : bds n [] = true := rfl
@[simp] theorem bds_cons {n : Nat} {d : D} {ds : List D} : bds n (d :: ds) = (d.bd n && bds n ds) := rfl
@[simp] theorem bd_lst {n : Nat} {b : List D} : Ob.bd n (.lst b) = bds n b := rfl
theorem run_exc {c : Ctx} {f : Def} {ds : List D} {x : Xc} {env : EnvD} (hl : ds.length = f.np) (h : evSs c S.length f.body (startE f.nn ds) S = .exc x env S') : runDef c f ds S = .exc x S' := by
  unfold runDef
  rw [if_pos hl, h]
  rfl
theorem run_same {c : Ctx} {f : Def} {ds : List D} (hl : ds.length = f.np) (hS : wf S) (hb : d.bd S.length = true) (h : evSs c S.length f.body (startE f.nn ds) S = .rt d S) : runDef c f ds S = .ok d S := by
  unfold runDef
  rw [if_pos hl, h]
  exact gcR_same hS hb
theorem run_cut {c : Ctx} {f : Def} {ds : List D} (hl : ds.length = f.np) (hS : wf S) (hb : d.bd S.length = true) (ht : S'.take S.length = S) (h : evSs c S.length f.body (startE f.nn ds) S = .rt d S') : runDef c f ds S = .ok d S := by
  unfold runDef
  rw [if_pos hl, h]
  exact gcR_ok hS hb ht
theorem run_new {c : Ctx} {f : Def} {ds : List D} {l : Nat} {o : Ob} (hl : ds.length = f.np) (hS : wf S) (ht : S'.take S.length = S) (hll : S.length ≤ l) (ho : S'[l]? = some o) (hb : o.bd S.length = true) (h : evSs c S.length f.body (startE f.nn ds) S = .rt (.loc l) S') : runDef c f ds S = .ok (.loc S.length) (S ++ [o]) := by
  unfold runDef
  rw [if_pos hl, h]
  exact gcR_new hS ht hll ho hb
theorem run_nx {c : Ctx} {f : Def} {ds : List D} {env : EnvD} (hl : ds.length = f.np) (hS : wf S) (ht : S'.take S.length = S) (h : evSs c S.length f.body (startE f.nn ds) S = .nx env S') : runDef c f ds S = .ok .non S := by
  unfold runDef
  rw [if_pos hl, h]
  exact gcR_ok hS rfl ht
theorem gcR_len (hl : S'.length = S.length) (hS : wf S') (hd : d.bd S.length = true) : gcR S (.ok d S') = .ok d S' := by
  have g : gc d S.length S' = (d, S') := by
    have q := gc_cut (d := d) (n := S.length) (S' := S') (by rw [← hl, List.take_length]; exact hS) hd
    rw [q, ← hl, List.take_length]
  unfold gcR
  simp only [g]
/-- changed, nothing new -/
theorem run_nxW {c : Ctx} {f : Def} {ds : List D} {env : EnvD} (hn : ds.length = f.np) (hl : S'.length = S.length) (hS : wf S') (h : evSs c S.length f.body (startE f.nn ds) S = .nx env S') : runDef c f ds S = .ok .non S' := by
  unfold runDef
  rw [if_pos hn, h]
  exact gcR_len hl hS rfl
theorem run_rtW {c : Ctx} {f : Def} {ds : List D} (hn : ds.length = f.np) (hl : S'.length = S.length) (hS : wf S') (hd : d.bd S.length = true) (h : evSs c S.length f.body (startE f.nn ds) S = .rt d S') : runDef c f ds S = .ok d S' := by
  unfold runDef
  rw [if_pos hn, h]
  exact gcR_len hl hS hd
/-- a list of places above stays as it is -/
theorem run_keep {c : Ctx} {f : Def} {ds : List D} {l : Nat} {o : Ob} (hl : ds.length = f.np) (hll : S.length ≤ l) (ho : S'[l]? = some o) (hb : o.bd S.length = false) (h : evSs c S.length f.body (startE f.nn ds) S = .rt (.loc l) S') : runDef c f ds S = .ok (.loc l) S' := by
  unfold runDef
  rw [if_pos hl, h]
  have hnb : D.bd S.length (.loc l) = false := by simp; omega
  have e : gc (.loc l) S.length S' = (.loc l, S') := by
    unfold gc
    simp only [hnb, Bool.false_eq_true, if_false, ho, hb]
    split <;> rfl
  show gcR S (.ok (.loc l) S') = _
  unfold gcR
  simp only [e]
/-- what changed below stays, what was laid above goes -/
theorem run_low {c : Ctx} {f : Def} {ds : List D} {S2 : Store} (hl : ds.length = f.np) (hS : S2.all (Ob.bd S.length) = true) (hb : d.bd S.length = true) (ht : S'.take S.length = S2) (h : evSs c S.length f.body (startE f.nn ds) S = .rt d S') : runDef c f ds S = .ok d S2 := by
  unfold runDef
  rw [if_pos hl, h]
  show gcR S (.ok d S') = _
  unfold gcR
  have := gc_cut (d := d) (n := S.length) (S' := S') (by rw [ht]; exact hS) hb
  simp only [this, ht]
theorem wf_add {o : Ob} (hS : wf S) (h : o.bd (S.length + 1) = true) : wf (S ++ [o]) := by
  unfold wf at hS ⊢
  rw [List.all_append, List.length_append, Bool.and_eq_true]
  refine ⟨List.all_eq_true.mpr fun x hx => Ob.bd_mono (by simp) (List.all_eq_true.mp hS x hx), ?_⟩
  simpa using h
theorem wf_set {l : Nat} {o : Ob} (hS : wf S) (h : o.bd S.length = true) : wf (S.set l o) := by
  unfold wf at hS ⊢
  rw [List.length_set]
  refine List.all_eq_true.mpr fun x hx => ?_
  rcases List.mem_or_eq_of_mem_set hx with hx | rfl
  · exact List.all_eq_true.mp hS x hx
  · exact h
end
/-! ### loops -/
theorem whlT_run {t : EnvD → Store → Res Bool} {f : EnvD → Store → Out} {Q : Out → Prop} (I : Nat → EnvD → Store → Prop)
    (step : ∀ m env S, I m env S → (∃ S', t env S = .ok false S' ∧ Q (.nx env S')) ∨ (∃ S', t env S = .ok true S' ∧ ((∃ env' S'' m', m' < m ∧ (f env S' = .nx env' S'' ∨ f env S' = .ct env' S'') ∧ I m' env' S'') ∨ (∃ d S'', f env S' = .rt d S'' ∧ Q (.rt d S''))))) :
    ∀ (fuel m : Nat) (env : EnvD) (S : Store), m < fuel → I m env S → Q (whlT t f fuel env S)
  | 0, m, env, S, h, _ => absurd h (Nat.not_lt_zero _)
  | fuel + 1, m, env, S, h, hi => by
    unfold whlT
    rcases step m env S hi with ⟨S', e, q⟩ | ⟨S', e, ⟨env', S'', m', hm, e2, i2⟩ | ⟨d, S'', e2, q⟩⟩
    · rw [e]; exact q
    · rw [e]
      have r := whlT_run I step fuel m' env' S'' (by omega) i2
      rcases e2 with e2 | e2 <;> (show Q (match f env S' with | .nx env S => _ | .ct env S => _ | .bk env S => _ | o => o); rw [e2]; exact r)
    · rw [e]
      show Q (match f env S' with | .nx env S => _ | .ct env S => _ | .bk env S => _ | o => o)
      rw [e2]; exact q
theorem forT_run {f : D → EnvD → Store → Out} {Q : Out → Prop} (I : List D → EnvD → Store → Prop)
    (step : ∀ d ds env S, I (d :: ds) env S → (∃ env' S', (f d env S = .nx env' S' ∨ f d env S = .ct env' S') ∧ I ds env' S') ∨ (∃ r S', f d env S = .rt r S' ∧ Q (.rt r S'))) (fin : ∀ env S, I [] env S → Q (.nx env S)) :
    ∀ (ds : List D) (env : EnvD) (S : Store), I ds env S → Q (forT f ds env S)
  | [], env, S, h => fin env S h
  | d :: ds, env, S, h => by
    unfold forT
    rcases step d ds env S h with ⟨env', S', e, i⟩ | ⟨r, S', e, q⟩
    · have r := forT_run I step fin ds env' S' i
      rcases e with e | e <;> (rw [e]; exact r)
    · rw [e]; exact q
theorem forL_run {f : D → EnvD → Store → Out} {Q : Out → Prop} {l : Nat} {xs : List D} (I : List D → EnvD → Store → Prop) (hl : ∀ ds env S, I ds env S → S[l]? = some (.lst xs))
    (step : ∀ d ds env S, I (d :: ds) env S → (∃ env' S', (f d env S = .nx env' S' ∨ f d env S = .ct env' S') ∧ I ds env' S') ∨ (∃ r S', f d env S = .rt r S' ∧ Q (.rt r S'))) (fin : ∀ env S, I [] env S → Q (.nx env S)) :
    ∀ (n i : Nat) (env : EnvD) (S : Store), i ≤ xs.length → xs.length < n + i → I (xs.drop i) env S → Q (forL f l n i env S)
  | 0, i, env, S, h1, h2, _ => by omega
  | n + 1, i, env, S, h1, h2, h => by
    unfold forL
    rw [hl _ _ _ h]
    dsimp only
    by_cases hi : i < xs.length
    · rw [List.drop_eq_getElem_cons hi] at h
      rw [List.getElem?_eq_getElem hi]
      dsimp only
      rcases step _ _ env S h with ⟨env', S', e, q⟩ | ⟨r, S', e, q⟩
      · have r := forL_run I hl step fin n (i + 1) env' S' hi (by omega) q
        rcases e with e | e <;> (rw [e]; exact r)
      · rw [e]; exact q
    · have e : i = xs.length := by omega
      subst e
      rw [List.drop_length] at h
      rw [List.getElem?_eq_none (Nat.le_refl _)]
      exact fin env S h
theorem walkT_run {α : Type} {f : D → α → Store → Res α} {Q : Res α → Prop} (I : List D → α → Store → Prop) (step : ∀ d ds a S, I (d :: ds) a S → ∃ a' S', f d a S = .ok a' S' ∧ I ds a' S') (fin : ∀ a S, I [] a S → Q (.ok a S)) :
    ∀ (ds : List D) (a : α) (S : Store), I ds a S → Q (walkT f ds a S)
  | [], a, S, h => fin a S h
  | d :: ds, a, S, h => by
    obtain ⟨a', S', e, i⟩ := step d ds a S h
    unfold walkT
    rw [e]
    exact walkT_run I step fin ds a' S' i
/-- a comprehension whose element is worked out without the store -/
theorem walkT_map {f : D → List D → Store → Res (List D)} {g : D → D} {S : Store} : ∀ {ds : List D} {acc : List D}, (∀ d ∈ ds, ∀ acc, acc.length < LIM → f d acc S = .ok (acc ++ [g d]) S) → acc.length + ds.length ≤ LIM → walkT f ds acc S = .ok (acc ++ ds.map g) S
  | [], acc, _, _ => by unfold walkT; simp
  | d :: ds, acc, h, hl => by
    unfold walkT
    rw [h d List.mem_cons_self acc (by simp at hl; omega)]
    show walkT f ds (acc ++ [g d]) S = _
    rw [walkT_map (fun e he => h e (List.mem_cons_of_mem _ he)) (by simp at hl ⊢; omega)]
    simp
/-- over a list of the store that stays -/
theorem walkL_map {f : D → List D → Store → Res (List D)} {g : D → D} {S : Store} {l : Nat} {ds : List D} (hS : S[l]? = some (.lst ds)) (h : ∀ d ∈ ds, ∀ acc, acc.length < LIM → f d acc S = .ok (acc ++ [g d]) S) : ∀ (n i : Nat) (acc : List D), acc.length = i → i ≤ ds.length → ds.length ≤ LIM → ds.length < n + i → walkL f l n i acc S = .ok (acc ++ (ds.drop i).map g) S
  | 0, i, acc, _, hi, _, hn => by omega
  | n + 1, i, acc, ha, hi, hl, hn => by
    unfold walkL
    rw [hS]
    dsimp only
    by_cases hlt : i < ds.length
    · rw [List.getElem?_eq_getElem hlt]
      dsimp only
      rw [h _ (List.getElem_mem hlt) acc (by omega)]
      show walkL f l n (i + 1) (acc ++ [g ds[i]]) S = _
      rw [walkL_map hS h n (i + 1) _ (by simp [ha]) hlt hl (by omega), List.drop_eq_getElem_cons hlt, List.map_cons, List.append_assoc]
      rfl
    · have : i = ds.length := by omega
      rw [List.getElem?_eq_none (by omega), List.drop_of_length_le (by omega)]
      simp

/-! ### rows by shapes -/
section
variable {S : Store} {d e : D} {c : Ctx} {env : EnvD}
@[simp] theorem alloc_ok {o : Ob} : Ev.alloc o S = .ok (.loc S.length) (S ++ [o]) := rfl
@[simp] theorem okR_some' : okR (some d) S = .ok d S := rfl
@[simp] theorem boolR_some' {b : Bool} : boolR (some b) S = .ok (.bl b) S := rfl
@[simp] theorem truRbl {b : Bool} : truR (.bl b) S = .ok b S := rfl
@[simp] theorem truR_non : truR .non S = .ok false S := rfl
@[simp] theorem truR_int {i : Int} : truR (.int i) S = .ok (i != 0) S := rfl
@[simp] theorem truR_tup {ds : List D} : truR (.tup ds) S = .ok (!ds.isEmpty) S := rfl
@[simp] theorem okBf_len {b : Bool} : okBf .len b = true := rfl
@[simp] theorem okBf_abs {b : Bool} : okBf .abs b = true := rfl
@[simp] theorem okBf_int {b : Bool} : okBf .int b = true := rfl
@[simp] theorem okBf_max {b : Bool} : okBf .max b = true := rfl
@[simp] theorem okBf_min {b : Bool} : okBf .min b = true := rfl
@[simp] theorem okBf_isi {b : Bool} : okBf .isi b = true := rfl
@[simp] theorem okBf_tuple {b : Bool} : okBf .tuple b = true := rfl
@[simp] theorem okBf_list {b : Bool} : okBf .list b = true := rfl
@[simp] theorem okBf_repr {b : Bool} : okBf .repr b = b := rfl
@[simp] theorem len_tup {ds : List D} : bltD .len [.tup ds] S = .ok (.int ds.length) S := rfl
@[simp] theorem len_ktup {ds : List D} : bltD .len [.ktup ds] S = .ok (.int ds.length) S := rfl
theorem len_loc {l : Nat} {ds : List D} (h : S[l]? = some (.lst ds)) : bltD .len [.loc l] S = .ok (.int ds.length) S := by simp only [bltD, h]
theorem len_str {x : Str} (h : x.length ≤ LIM) : bltD .len [.str x] S = .ok (.int x.length) S := by simp only [bltD, h, if_true]
@[simp] theorem abs_int {i : Int} : bltD .abs [.int i] S = .ok (.int (if i < 0 then -i else i)) S := rfl
@[simp] theorem int_int {i : Int} : bltD .int [.int i] S = .ok (.int i) S := rfl
@[simp] theorem int_bl {b : Bool} : bltD .int [.bl b] S = .ok (.int (if b then 1 else 0)) S := rfl
@[simp] theorem max_int {i j : Int} : bltD .max [.int i, .int j] S = .ok (.int (if j > i then j else i)) S := rfl
@[simp] theorem min_int {i j : Int} : bltD .min [.int i, .int j] S = .ok (.int (if j < i then j else i)) S := rfl
@[simp] theorem tuple_tup {ds : List D} : bltD .tuple [.tup ds] S = .ok (.tup ds) S := rfl
theorem tuple_loc {l : Nat} {ds : List D} (h : S[l]? = some (.lst ds)) : bltD .tuple [.loc l] S = .ok (.tup ds) S := by simp only [bltD, h]
@[simp] theorem list_tup {ds : List D} : bltD .list [.tup ds] S = .ok (.loc S.length) (S ++ [.lst ds]) := rfl
theorem list_loc {l : Nat} {ds : List D} (h : S[l]? = some (.lst ds)) : bltD .list [.loc l] S = .ok (.loc S.length) (S ++ [.lst ds]) := by simp only [bltD, h]; rfl
@[simp] theorem isi_int {i : Int} {u : String} : bltD .isi [.int i, .ty u] S = boolR (isiB "int" u) S := rfl
@[simp] theorem isi_bl {i : Bool} {u : String} : bltD .isi [.bl i, .ty u] S = boolR (isiB "bool" u) S := rfl
@[simp] theorem isi_str {i : Str} {u : String} : bltD .isi [.str i, .ty u] S = boolR (isiB "str" u) S := rfl
@[simp] theorem isi_tup {i : List D} {u : String} : bltD .isi [.tup i, .ty u] S = boolR (isiB "tuple" u) S := rfl
@[simp] theorem isi_ktup {i : List D} {u : String} : bltD .isi [.ktup i, .ty u] S = boolR (isiB "tuple" u) S := rfl
@[simp] theorem isi_non {u : String} : bltD .isi [.non, .ty u] S = boolR (isiB "NoneType" u) S := rfl
@[simp] theorem isiB_ii : isiB "int" "int" = some true := by decide
@[simp] theorem isiB_ib : isiB "int" "bool" = some false := by decide
@[simp] theorem isiB_is : isiB "int" "str" = some false := by decide
@[simp] theorem isiB_it : isiB "int" "tuple" = some false := by decide
@[simp] theorem isiB_bi : isiB "bool" "int" = some true := by decide
@[simp] theorem isiB_bb : isiB "bool" "bool" = some true := by decide
@[simp] theorem isiB_bs : isiB "bool" "str" = some false := by decide
@[simp] theorem isiB_bt : isiB "bool" "tuple" = some false := by decide
@[simp] theorem isiB_si : isiB "str" "int" = some false := by decide
@[simp] theorem isiB_sb : isiB "str" "bool" = some false := by decide
@[simp] theorem isiB_ss : isiB "str" "str" = some true := by decide
@[simp] theorem isiB_st : isiB "str" "tuple" = some false := by decide
@[simp] theorem isiB_ti : isiB "tuple" "int" = some false := by decide
@[simp] theorem isiB_tb : isiB "tuple" "bool" = some false := by decide
@[simp] theorem isiB_ts : isiB "tuple" "str" = some false := by decide
@[simp] theorem isiB_tt : isiB "tuple" "tuple" = some true := by decide
@[simp] theorem cmp_eq : cmpD .eq d e S = boolR (eqD S d e) S := by cases d <;> cases e <;> rfl
@[simp] theorem cmp_ne : cmpD .ne d e S = boolR ((eqD S d e).map not) S := by cases d <;> cases e <;> rfl
@[simp] theorem cmp_lt {i j : Int} : cmpD .lt (.int i) (.int j) S = .ok (.bl (decide (i < j))) S := rfl
@[simp] theorem cmp_le {i j : Int} : cmpD .le (.int i) (.int j) S = .ok (.bl (decide (i ≤ j))) S := rfl
@[simp] theorem cmp_gt {i j : Int} : cmpD .gt (.int i) (.int j) S = .ok (.bl (decide (j < i))) S := rfl
@[simp] theorem cmp_ge {i j : Int} : cmpD .ge (.int i) (.int j) S = .ok (.bl (decide (j ≤ i))) S := rfl
@[simp] theorem cmp_is_non : cmpD .is .non .non S = .ok (.bl true) S := rfl
@[simp] theorem cmp_is_loc {l : Nat} : cmpD .is (.loc l) .non S = .ok (.bl false) S := rfl
@[simp] theorem cmp_is_tup {l : List D} : cmpD .is (.tup l) .non S = .ok (.bl false) S := rfl
@[simp] theorem cmp_in_tup {ds : List D} : cmpD .isin d (.tup ds) S = boolR (inDs d ds) S := by cases d <;> rfl
@[simp] theorem cmp_in_ktup {ds : List D} : cmpD .isin d (.ktup ds) S = boolR (inDs d ds) S := by cases d <;> rfl
@[simp] theorem eqD_str {x y : Str} : eqD S (.str x) (.str y) = some (x == y) := rfl
@[simp] theorem eqD_int {i j : Int} : eqD S (.int i) (.int j) = some (decide (i = j)) := by
  show (if 0 ≤ 60 ∧ 0 ≤ 60 then some (i == j) else none) = _
  simp; rfl
@[simp] theorem bin_add {i j : Int} : binD .add (.int i) (.int j) S = .ok (.int (i + j)) S := rfl
@[simp] theorem bin_sub {i j : Int} : binD .sub (.int i) (.int j) S = .ok (.int (i - j)) S := rfl
theorem bin_tup {xs ys : List D} (h : xs.length + ys.length ≤ LIM) : binD .add (.tup xs) (.tup ys) S = .ok (.tup (xs ++ ys)) S := by simp only [binD, h, if_true]
@[simp] theorem aug_add {i j : Int} : augD .add (.int i) (.int j) S = .ok (.int (i + j)) S := rfl
@[simp] theorem aug_sub {i j : Int} : augD .sub (.int i) (.int j) S = .ok (.int (i - j)) S := rfl
@[simp] theorem sub_tup {ds : List D} {i : Int} : subD (.tup ds) (.int i) S = okR (L2.atI ds i) S := rfl
@[simp] theorem sub_ktup {ds : List D} {i : Int} : subD (.ktup ds) (.int i) S = okR (L2.atI ds i) S := rfl
theorem sub_loc {l : Nat} {ds : List D} {i : Int} (h : S[l]? = some (.lst ds)) : subD (.loc l) (.int i) S = okR (L2.atI ds i) S := by simp only [subD, h]
theorem atI_nat {α : Type} {xs : List α} {i : Nat} (h : i < xs.length) : L2.atI xs (i : Int) = xs[i]? := by
  unfold L2.atI L2.ixN
  have h1 : ((i : Nat) : Int) < (xs.length : Int) := by omega
  simp [h]
theorem sto_loc {l : Nat} {xs : List D} {i : Nat} (h : S[l]? = some (.lst xs)) (hi : i < xs.length) : stoD (.loc l) (.int (i : Int)) d S = .ok () (S.set l (.lst (xs.set i d))) := by
  have e : L2.ixN xs.length (i : Int) = some i := by
    unfold L2.ixN
    simp [hi]
  simp only [stoD, h, e]
@[simp] theorem it_tup {ds : List D} : itD (.tup ds) S = .ok (.ds ds) S := rfl
@[simp] theorem it_ktup {ds : List D} : itD (.ktup ds) S = .ok (.ds ds) S := rfl
theorem it_loc {l : Nat} {ds : List D} (h : S[l]? = some (.lst ds)) : itD (.loc l) S = .ok (.lst l) S := by simp only [itD, h]
@[simp] theorem walkI_ds {α : Type} {f : D → α → Store → Res α} {ds : List D} {a : α} : walkI f (.ds ds) a S = walkT f ds a S := rfl
@[simp] theorem walkI_lst {α : Type} {f : D → α → Store → Res α} {l : Nat} {a : α} : walkI f (.lst l) a S = walkL f l LIM 0 a S := rfl
@[simp] theorem forI_ds {f : Nat → D → EnvD → Store → Out} {n : Nat} {ds : List D} (h : bds n ds = true) : forI f n (.ds ds) env S = forT (f n) ds env S := by
  show forT (f (itBase n (.ds ds) S)) ds env S = _
  unfold itBase
  simp only [h, if_true]
@[simp] theorem forI_lst {f : Nat → D → EnvD → Store → Out} {n l : Nat} : forI f n (.lst l) env S = forL (f (max n (l + 1))) l LIM 0 env S := rfl
@[simp] theorem forI_enl {f : Nat → D → EnvD → Store → Out} {n l : Nat} : forI f n (.enl l) env S = forE (f (max n (l + 1))) l LIM 0 env S := rfl
@[simp] theorem noExc_ok' {α : Type} {a : α} : noExc (.ok a S) = .ok a S := rfl
@[simp] theorem noExc_bad' {α : Type} : noExc (.bad : Res α) = .bad := rfl
theorem bll_all {ds : List D} {bs : List Bool} (h : blsOf ds = some bs) : bllD .all ds S = .ok (.bl (bs.all id)) S := by simp only [bllD, h]
@[simp] theorem bll_tuple {ds : List D} : bllD .tuple ds S = .ok (.tup ds) S := rfl
@[simp] theorem bll_len {ds : List D} : bllD .len ds S = .ok (.int ds.length) S := rfl
theorem kind_append {l : Nat} {ds : List D} (h : S[l]? = some (.lst ds)) : kindOk .append (.loc l) S = true := by simp only [kindOk, h]
theorem kind_extend {l : Nat} {ds : List D} (h : S[l]? = some (.lst ds)) : kindOk .extend (.loc l) S = true := by simp only [kindOk, h]
theorem kind_index {l : Nat} {ds : List D} (h : S[l]? = some (.lst ds)) : kindOk .index (.loc l) S = true := by simp only [kindOk, h]
theorem kind_pop {l : Nat} {ds : List D} (h : S[l]? = some (.lst ds)) : kindOk .pop (.loc l) S = true := by simp only [kindOk, h]
theorem m_append {l : Nat} {ds : List D} (h : S[l]? = some (.lst ds)) (hl : ds.length < LIM) : methD (.loc l) .append [d] S = .ok .non (S.set l (.lst (ds ++ [d]))) := by simp only [methD, h, hl, if_true]
theorem m_extend {l b : Nat} {ds es : List D} (h : S[l]? = some (.lst ds)) (h2 : S[b]? = some (.lst es)) (hl : ds.length + es.length ≤ LIM) : methD (.loc l) .extend [.loc b] S = .ok .non (S.set l (.lst (ds ++ es))) := by simp only [methD, h, h2, hl, if_true]
theorem m_pop {l : Nat} {ds : List D} (h : S[l]? = some (.lst (ds ++ [d]))) : methD (.loc l) .pop [] S = .ok d (S.set l (.lst ds)) := by simp [methD, h]
theorem tupR_ok {ds : List D} (h : ds.length ≤ LIM) : tupR ds S = .ok (.tup ds) S := by simp only [tupR, h, if_true]
@[simp] theorem tupR0 : tupR [] S = .ok (.tup []) S := rfl
@[simp] theorem tupR1 {a : D} : tupR [a] S = .ok (.tup [a]) S := by simp [tupR, LIM]
@[simp] theorem tupR2 {a b : D} : tupR [a, b] S = .ok (.tup [a, b]) S := by simp [tupR, LIM]
@[simp] theorem tupR3 {a b c : D} : tupR [a, b, c] S = .ok (.tup [a, b, c]) S := by simp [tupR, LIM]
@[simp] theorem tupR4 {a b c d : D} : tupR [a, b, c, d] S = .ok (.tup [a, b, c, d]) S := by simp [tupR, LIM]
@[simp] theorem disR0 : disR [] S = .ok [] S := rfl
@[simp] theorem disR1 {a : D} : disR [a] S = .ok [a] S := by simp [disR, LIM]
@[simp] theorem disR2 {a b : D} : disR [a, b] S = .ok [a, b] S := by simp [disR, LIM]
@[simp] theorem disR5 {a b c d e : D} : disR [a, b, c, d, e] S = .ok [a, b, c, d, e] S := by simp [disR, LIM]
theorem disR_ok {ds : List D} (h : ds.length ≤ LIM) : disR ds S = .ok ds S := by simp only [disR, h, if_true]
end

section
variable {α : Type} {a b c d e : α} {l : List α}
@[simp] theorem atI_0 : L2.atI (a :: l) 0 = some a := by have := atI_nat (xs := a :: l) (i := 0) (by simp); simpa using this
@[simp] theorem atI_1 : L2.atI (a :: b :: l) 1 = some b := by have := atI_nat (xs := a :: b :: l) (i := 1) (by simp); simpa using this
@[simp] theorem atI_2 : L2.atI (a :: b :: c :: l) 2 = some c := by have := atI_nat (xs := a :: b :: c :: l) (i := 2) (by simp); simpa using this
@[simp] theorem atI_3 : L2.atI (a :: b :: c :: d :: l) 3 = some d := by have := atI_nat (xs := a :: b :: c :: d :: l) (i := 3) (by simp); simpa using this
@[simp] theorem atI_4 : L2.atI (a :: b :: c :: d :: e :: l) 4 = some e := by have := atI_nat (xs := a :: b :: c :: d :: e :: l) (i := 4) (by simp); simpa using this
theorem atI_last : L2.atI (l ++ [a]) (-1) = some a := by
  unfold L2.atI L2.ixN
  have h : (-1 + ((l.length : Int) + 1)).toNat = l.length := by omega
  have h2 : (1 : Int) ≤ (l.length : Int) + 1 := by omega
  simp [h, h2]
end
end Ev
end

section
set_option Elab.async false
set_option linter.all false
set_option maxRecDepth 100000
set_option maxHeartbeats 1000000
set_option autoImplicit false
/-! Ev18: a def's own objects, laid behind what stood; loops told by their turns; dicts told by their pairs. -/
namespace Ev
open PySem
/-! ### own objects -/
section
variable {S : Store} {L : List Ob} {o : Ob} {i : Nat}
@[simp] theorem own_at : (S ++ L)[S.length + i]? = L[i]? := by rw [List.getElem?_append_right (Nat.le_add_right _ _)]; congr 1; omega
@[simp] theorem own_at0 : (S ++ L)[S.length]? = L[0]? := by rw [List.getElem?_append_right (Nat.le_refl _)]; congr 1; omega
@[simp] theorem own_set : (S ++ L).set (S.length + i) o = S ++ L.set i o := by rw [List.set_append_right _ _ (Nat.le_add_right _ _)]; congr 2; omega
@[simp] theorem own_set0 : (S ++ L).set S.length o = S ++ L.set 0 o := by rw [List.set_append_right _ _ (Nat.le_refl _)]; congr 2; omega
theorem low_at {l : Nat} (h : l < S.length) : (S ++ L)[l]? = S[l]? := List.getElem?_append_left h
@[simp] theorem own_take : (S ++ L).take S.length = S := List.take_left
@[simp] theorem not_below : (S.length + i < S.length) = False := by simp
theorem wf_all (h : wf S) : S.all (Ob.bd S.length) = true := h
def packL (n l : Nat) (S : Store) (env : EnvD) (rs : List Nat) (os : List Ob) (j : Option Nat) (o : Option Ob) : EnvD × List Ob := match j, o with
  | some j, _ => (some (.loc (n + j)) :: (packGo n S env rs os).1, (packGo n S env rs os).2)
  | none, some o => if o.bd n then (some (.loc (n + rs.length)) :: (packGo n S env (rs ++ [l]) (os ++ [o])).1, (packGo n S env (rs ++ [l]) (os ++ [o])).2) else (none :: (packGo n S env rs os).1, (packGo n S env rs os).2)
  | none, none => (none :: (packGo n S env rs os).1, (packGo n S env rs os).2)
variable {n l : Nat} {env : EnvD} {rs : List Nat} {os : List Ob} {d : D}
@[simp] theorem pack_nil : packGo n S [] rs os = ([], os) := by simp only [packGo]
@[simp] theorem pack_none : packGo n S (none :: env) rs os = (none :: (packGo n S env rs os).1, (packGo n S env rs os).2) := by simp only [packGo]
theorem pack_low (h : l < n) : packGo n S (some (.loc l) :: env) rs os = (some (.loc l) :: (packGo n S env rs os).1, (packGo n S env rs os).2) := by simp only [packGo, h, if_true]
theorem pack_own (h : n ≤ l) : packGo n S (some (.loc l) :: env) rs os = packL n l S env rs os (rs.findIdx? fun r => decide (r = l)) S[l]? := by
  simp only [packGo]
  rw [if_neg (by omega)]
  unfold packL
  cases rs.findIdx? fun r => decide (r = l) with
  | some j => rfl
  | none => cases S[l]? <;> rfl
@[simp] theorem pack_at : packGo S.length (S ++ L) (some (.loc (S.length + i)) :: env) rs os = packL S.length (S.length + i) (S ++ L) env rs os (rs.findIdx? fun r => decide (r = S.length + i)) L[i]? := by
  rw [pack_own (Nat.le_add_right _ _), own_at]
@[simp] theorem pack_at0 : packGo S.length (S ++ L) (some (.loc S.length) :: env) rs os = packL S.length S.length (S ++ L) env rs os (rs.findIdx? fun r => decide (r = S.length)) L[0]? := by
  rw [pack_own (Nat.le_refl _), own_at0]
@[simp] theorem packL_old {j : Nat} {o : Option Ob} : packL n l S env rs os (some j) o = (some (.loc (n + j)) :: (packGo n S env rs os).1, (packGo n S env rs os).2) := rfl
@[simp] theorem packL_new : packL n l S env rs os none (some o) = if o.bd n then (some (.loc (n + rs.length)) :: (packGo n S env (rs ++ [l]) (os ++ [o])).1, (packGo n S env (rs ++ [l]) (os ++ [o])).2) else (none :: (packGo n S env rs os).1, (packGo n S env rs os).2) := rfl
@[simp] theorem pack_int {x : Int} : packGo n S (some (.int x) :: env) rs os = (some (.int x) :: (packGo n S env rs os).1, (packGo n S env rs os).2) := by simp [packGo]
@[simp] theorem pack_str {x : Str} : packGo n S (some (.str x) :: env) rs os = (some (.str x) :: (packGo n S env rs os).1, (packGo n S env rs os).2) := by simp [packGo]
@[simp] theorem pack_bl {x : Bool} : packGo n S (some (.bl x) :: env) rs os = (some (.bl x) :: (packGo n S env rs os).1, (packGo n S env rs os).2) := by simp [packGo]
@[simp] theorem pack_non : packGo n S (some .non :: env) rs os = (some .non :: (packGo n S env rs os).1, (packGo n S env rs os).2) := by simp [packGo]
@[simp] theorem pack_scr {x : List Int} : packGo n S (some (.scr x) :: env) rs os = (some (.scr x) :: (packGo n S env rs os).1, (packGo n S env rs os).2) := by simp [packGo]
@[simp] theorem pack_fn {x : String} : packGo n S (some (.fn x) :: env) rs os = (some (.fn x) :: (packGo n S env rs os).1, (packGo n S env rs os).2) := by simp [packGo, D.bd]
@[simp] theorem pack_tup {x : List D} (h : bds n x = true) : packGo n S (some (.tup x) :: env) rs os = (some (.tup x) :: (packGo n S env rs os).1, (packGo n S env rs os).2) := by simp [packGo, h]
theorem pack_flat (h : d.bd n = true) (hl : ∀ l, d ≠ .loc l) : packGo n S (some d :: env) rs os = (some d :: (packGo n S env rs os).1, (packGo n S env rs os).2) := by
  cases d <;> first | exact absurd rfl (hl _) | (simp only [packGo]; rw [h]; rfl)
@[simp] theorem packO_own (h : S.all (Ob.bd S.length) = true) : packO S.length env (S ++ L) = .nx (packGo S.length (S ++ L) env [] []).1 (S ++ (packGo S.length (S ++ L) env [] []).2) := by
  unfold packO
  rw [if_pos ⟨by simp, by rw [own_take]; exact h⟩, own_take]
end
/-! ### flat things -/
theorem bds_mapF {α : Type} {f : α → D} {n : Nat} (h : ∀ x, (f x).bd n = true) : ∀ l : List α, bds n (l.map f) = true
  | [] => rfl
  | x :: l => by rw [List.map_cons, bds_cons, h x, bds_mapF h l]; rfl
@[simp] theorem bds_ints {n : Nat} (l : List Int) : bds n (l.map D.int) = true := bds_mapF (fun _ => rfl) l
@[simp] theorem bds_nats {n : Nat} (l : List Nat) : bds n (l.map fun a => D.int ((a : Nat) : Int)) = true := bds_mapF (fun _ => rfl) l
@[simp] theorem bds_rng {n : Nat} {lo c : Int} : ∀ {k : Nat}, bds n (rngL lo c k) = true := by
  intro k
  induction k generalizing lo with
  | zero => rfl
  | succ k ih => unfold rngL; show (true && _) = true; rw [ih]; rfl
@[simp] theorem bds_enum {n : Nat} : ∀ (ds : List D) (i : Nat), bds n (enumL i ds) = bds n ds
  | [], _ => rfl
  | d :: ds, i => by
    show (D.bd n (.tup [.int (i : Nat), d]) && bds n (enumL (i + 1) ds)) = (d.bd n && bds n ds)
    rw [bds_enum ds]
    simp
theorem enumL_map {α : Type} (f : α → D) : ∀ (l : List α) (i : Nat), enumL i (l.map f) = (l.zipIdx i).map fun p => .tup [.int ((p.2 : Nat) : Int), f p.1]
  | [], _ => rfl
  | a :: l, i => by
    rw [List.map_cons, List.zipIdx_cons, List.map_cons, enumL, enumL_map f l (i + 1)]
theorem rngL_map (lo : Int) : ∀ (k : Nat) (j : Nat), rngL (lo + j) 1 k = (List.range' j k).map fun i : Nat => D.int (lo + i)
  | 0, _ => rfl
  | k + 1, j => by
    rw [rngL, List.range'_succ, List.map_cons, show lo + (j : Int) + 1 = lo + ((j + 1 : Nat) : Int) from by omega, rngL_map lo k (j + 1)]
theorem rngL_nat (k : Nat) : rngL 0 1 k = (List.range k).map fun i : Nat => D.int ((i : Nat) : Int) := by
  have := rngL_map 0 k 0
  simp only [Int.zero_add] at this
  rw [List.range_eq_range']
  simpa using this
/-! ### loops -/
section
variable {α σ : Type} {f : D → EnvD → Store → Out} {g : α → D} {E : σ → EnvD} {H : σ → Store}
/-- every turn goes on -/
theorem forT_inv (I : List α → σ → Prop) (next : α → σ → σ) (turn : ∀ a l s, I (a :: l) s → (f (g a) (E s) (H s) = .nx (E (next a s)) (H (next a s)) ∨ f (g a) (E s) (H s) = .ct (E (next a s)) (H (next a s))) ∧ I l (next a s)) :
    ∀ (l : List α) (s : σ), I l s → forT f (l.map g) (E s) (H s) = .nx (E (l.foldl (fun s a => next a s) s)) (H (l.foldl (fun s a => next a s) s)) ∧ I [] (l.foldl (fun s a => next a s) s)
  | [], s, h => ⟨rfl, h⟩
  | a :: l, s, h => by
    obtain ⟨e, i⟩ := turn a l s h
    have r := forT_inv I next turn l (next a s) i
    rw [List.map_cons, List.foldl_cons]
    refine ⟨?_, r.2⟩
    unfold forT
    rcases e with e | e <;> (rw [e]; exact r.1)
/-- some turn tells what comes of the def -/
theorem forT_ret (I : List α → σ → Prop) (next : α → σ → Option σ) (res : α → σ → D × Store) (turn : ∀ a l s, I (a :: l) s → match next a s with
      | some s' => (f (g a) (E s) (H s) = .nx (E s') (H s') ∨ f (g a) (E s) (H s) = .ct (E s') (H s')) ∧ I l s'
      | none => f (g a) (E s) (H s) = .rt (res a s).1 (res a s).2) :
    ∀ (l : List α) (s : σ), I l s → (∃ s', l.foldlM (fun s a => next a s) s = some s' ∧ forT f (l.map g) (E s) (H s) = .nx (E s') (H s') ∧ I [] s') ∨ (∃ a l' s', l.foldlM (fun s a => next a s) s = none ∧ a ∈ l ∧ next a s' = none ∧ I (a :: l') s' ∧ forT f (l.map g) (E s) (H s) = .rt (res a s').1 (res a s').2)
  | [], s, h => .inl ⟨s, rfl, rfl, h⟩
  | a :: l, s, h => by
    have t := turn a l s h
    rw [List.map_cons, List.foldlM_cons]
    unfold forT
    cases hn : next a s with
    | none =>
      rw [hn] at t
      exact .inr ⟨a, l, s, rfl, List.mem_cons_self, hn, h, by rw [t]⟩
    | some s' =>
      rw [hn] at t
      obtain ⟨e, i⟩ := t
      rcases forT_ret I next res turn l s' i with ⟨s2, r1, r2, r3⟩ | ⟨b, l', s2, r1, r2, r3, r4, r5⟩
      · exact .inl ⟨s2, r1, by rcases e with e | e <;> (rw [e]; exact r2), r3⟩
      · exact .inr ⟨b, l', s2, r1, List.mem_cons_of_mem _ r2, r3, r4, by rcases e with e | e <;> (rw [e]; exact r5)⟩
end
/-- over a list of the store that the turns leave -/
theorem forL_forT {f : D → EnvD → Store → Out} {l : Nat} {xs : List D} (J : EnvD → Store → Prop) (hl : ∀ env S, J env S → S[l]? = some (.lst xs)) (hf : ∀ d env S env' S', J env S → d ∈ xs → (f d env S = .nx env' S' ∨ f d env S = .ct env' S') → J env' S') :
    ∀ (n i : Nat) (env : EnvD) (S : Store), i ≤ xs.length → xs.length < n + i → J env S → forL f l n i env S = forT f (xs.drop i) env S
  | 0, i, env, S, h1, h2, _ => by omega
  | n + 1, i, env, S, h1, h2, h => by
    unfold forL
    rw [hl env S h]
    dsimp only
    by_cases hi : i < xs.length
    · rw [List.getElem?_eq_getElem hi, List.drop_eq_getElem_cons hi]
      dsimp only
      conv => rhs; unfold forT
      cases e : f xs[i] env S with
      | nx env' S' => exact forL_forT J hl hf n (i + 1) env' S' hi (by omega) (hf _ _ _ _ _ h (List.getElem_mem hi) (.inl e))
      | ct env' S' => exact forL_forT J hl hf n (i + 1) env' S' hi (by omega) (hf _ _ _ _ _ h (List.getElem_mem hi) (.inr e))
      | _ => rfl
    · have e : i = xs.length := by omega
      subst e
      rw [List.getElem?_eq_none (Nat.le_refl _), List.drop_length]
      rfl
section
variable {σ : Type} {t : EnvD → Store → Res Bool} {f : EnvD → Store → Out} {E : σ → EnvD} {H : σ → Store}
/-- a while: the turns go on, a measure falls -/
theorem whlT_inv (I : σ → Prop) (go : σ → Bool) (next : σ → σ) (m : σ → Nat) (test : ∀ s, I s → t (E s) (H s) = .ok (go s) (H s))
    (turn : ∀ s, I s → go s = true → (f (E s) (H s) = .nx (E (next s)) (H (next s)) ∨ f (E s) (H s) = .ct (E (next s)) (H (next s))) ∧ I (next s) ∧ m (next s) < m s) :
    ∀ (fuel : Nat) (s : σ), I s → m s < fuel → ∃ s', whlT t f fuel (E s) (H s) = .nx (E s') (H s') ∧ I s' ∧ go s' = false
  | 0, s, _, h => absurd h (Nat.not_lt_zero _)
  | fuel + 1, s, hi, hm => by
    unfold whlT
    rw [test s hi]
    cases hg : go s with
    | false => exact ⟨s, rfl, hi, hg⟩
    | true =>
      obtain ⟨e, i, lt⟩ := turn s hi hg
      obtain ⟨s', r1, r2, r3⟩ := whlT_inv I go next m test turn fuel (next s) i (by omega)
      refine ⟨s', ?_, r2, r3⟩
      show (match f (E s) (H s) with | .nx env S => whlT t f fuel env S | .ct env S => whlT t f fuel env S | .bk env S => .nx env S | o => o) = _
      rcases e with e | e <;> (rw [e]; exact r1)
end
/-! ### dicts by their pairs -/
section
variable {α β κ : Type} [DecidableEq α] [DecidableEq κ]
def mget (m : List (α × β)) (a : α) : Option β := (m.find? fun p => decide (p.1 = a)).map (·.2)
def mput (m : List (α × β)) (a : α) (b : β) : List (α × β) := if m.any (fun p => decide (p.1 = a)) then m.map fun p => if p.1 = a then (p.1, b) else p else m ++ [(a, b)]
def mdel (m : List (α × β)) (a : α) : List (α × β) := m.filter fun p => !decide (p.1 = a)
def dkM (kf : α → κ) (g : β → D) (m : List (α × β)) : List (κ × D) := m.map fun p => (kf p.1, g p.2)
variable {kf : α → κ} {g : β → D} (inj : ∀ a b, kf a = kf b → a = b)
include inj
theorem kf_dec (a b : α) : decide (kf a = kf b) = decide (a = b) := by
  by_cases h : a = b
  · rw [h]; simp
  · rw [decide_eq_false h, decide_eq_false fun e => h (inj a b e)]
theorem dk_get (m : List (α × β)) (a : α) : kget (dkM kf g m) (kf a) = (mget m a).map g := by
  induction m with
  | nil => rfl
  | cons p m ih =>
    unfold kget mget dkM at ih ⊢
    rw [List.map_cons, List.find?_cons, List.find?_cons, kf_dec inj]
    cases decide (p.1 = a) with
    | true => rfl
    | false => exact ih
theorem dk_any (m : List (α × β)) (a : α) : (dkM kf g m).any (fun kv => decide (kv.1 = kf a)) = m.any fun p => decide (p.1 = a) := by
  induction m with
  | nil => rfl
  | cons p m ih =>
    unfold dkM at ih ⊢
    rw [List.map_cons, List.any_cons, List.any_cons, ih, kf_dec inj]
theorem dk_put (m : List (α × β)) (a : α) (b : β) : kput (dkM kf g m) (kf a) (g b) = dkM kf g (mput m a b) := by
  unfold kput mput
  rw [dk_any inj]
  split
  · unfold dkM
    rw [List.map_map, List.map_map]
    refine List.map_congr_left fun p _ => ?_
    simp only [Function.comp]
    by_cases h : p.1 = a
    · rw [if_pos h, if_pos (by rw [h])]
    · rw [if_neg h, if_neg fun e => h (inj _ _ e)]
  · unfold dkM
    rw [List.map_append]
    rfl
theorem dk_del (m : List (α × β)) (a : α) : (dkM kf g m).filter (fun p => !decide (p.1 = kf a)) = dkM kf g (mdel m a) := by
  unfold dkM mdel
  rw [List.filter_map]
  congr 1
  refine List.filter_congr fun p _ => ?_
  simp only [Function.comp]
  rw [kf_dec inj]
omit inj
theorem mget_nil (a : α) : mget ([] : List (α × β)) a = none := rfl
theorem mget_put (m : List (α × β)) (a b : α) (v : β) : mget (mput m a v) b = if b = a then some v else mget m b := by
  unfold mput
  split
  · rename_i h
    induction m with
    | nil => simp at h
    | cons p m ih =>
      unfold mget at ih ⊢
      rw [List.map_cons, List.find?_cons]
      by_cases hp : p.1 = a
      · rw [if_pos hp]
        by_cases hb : b = a
        · subst hb
          simp [hp]
        · have e1 : decide (p.1 = b) = false := decide_eq_false fun e => hb (e.symm.trans hp)
          have rest : (m.map fun p => if p.1 = a then (p.1, v) else p).find? (fun p => decide (p.1 = b)) = m.find? fun p => decide (p.1 = b) := by
            clear ih h
            induction m with
            | nil => rfl
            | cons q m ih =>
              rw [List.map_cons, List.find?_cons, List.find?_cons]
              by_cases hq : q.1 = a
              · have e2 : decide (q.1 = b) = false := decide_eq_false fun e => hb (e.symm.trans hq)
                rw [if_pos hq]
                simp only [e2, ih]
              · rw [if_neg hq]
                by_cases hq2 : q.1 = b
                · simp [hq2]
                · simp only [decide_eq_false hq2, ih]
          simp only [e1, rest, if_neg hb, List.find?_cons]
      · rw [if_neg hp]
        have h' : m.any (fun p => decide (p.1 = a)) = true := by simpa [hp] using h
        by_cases hq : p.1 = b
        · have hb : ¬ b = a := fun e => hp (hq.trans e)
          simp [hq, hb]
        · simp only [decide_eq_false hq, List.find?_cons]
          exact ih h'
  · rename_i h
    have h : m.any (fun p => decide (p.1 = a)) = false := Bool.eq_false_iff.mpr h
    unfold mget
    rw [List.find?_append]
    by_cases hb : b = a
    · subst hb
      have : m.find? (fun p => decide (p.1 = b)) = none := by
        rw [List.find?_eq_none]
        intro x hx
        have := List.any_eq_false.mp h x hx
        exact this
      rw [this]
      simp
    · simp [hb, Ne.symm hb]
theorem mput_len (m : List (α × β)) (a : α) (v : β) : (mput m a v).length ≤ m.length + 1 := by
  unfold mput
  split <;> simp
theorem mdel_len (m : List (α × β)) (a : α) : (mdel m a).length ≤ m.length := List.length_filter_le _ _
theorem mget_del (m : List (α × β)) (a b : α) : mget (mdel m a) b = if b = a then none else mget m b := by
  unfold mget mdel
  rw [List.find?_filter]
  by_cases hb : b = a
  · subst hb
    rw [if_pos rfl]
    have : (m.find? fun p => (!decide (p.1 = b)) && decide (p.1 = b)) = none := by
      rw [List.find?_eq_none]
      intro x _
      simp
    simp
  · rw [if_neg hb]
    congr 2
    funext p
    by_cases hp : p.1 = b
    · have : ¬ p.1 = a := fun e => hb (hp.symm.trans e)
      simp [hp, hb]
    · simp [hp]
theorem mget_app {m : List (α × β)} {a : α} (h : mget m a = none) (v : β) : mput m a v = m ++ [(a, v)] := by
  unfold mput
  have : m.any (fun p => decide (p.1 = a)) = false := by
    unfold mget at h
    rw [Option.map_eq_none_iff] at h
    rw [List.any_eq_false]
    intro x hx
    exact List.find?_eq_none.mp h x hx
  rw [this]
  rfl
theorem dkM_len (kf : α → κ) (g : β → D) (m : List (α × β)) : (dkM kf g m).length = m.length := List.length_map ..
end
/-- dicts of numbers -/
def kN (a : Nat) : Key := .inl ((a : Nat) : Int)
theorem kN_inj : ∀ a b, kN a = kN b → a = b := fun a b e => by
  have := Sum.inl.inj e
  omega
def gN (a : Nat) : D := .int ((a : Nat) : Int)
def nD (l : List Nat) : List D := l.map gN
abbrev NM := List (Nat × Nat)
def dN (m : NM) : Ob := .dk (dkM kN gN m)
section
variable {S : Store} {l a v : Nat} {m : NM}
theorem bd_dkM {α β : Type} {g : β → D} {kf : α → Key} {n : Nat} (h : ∀ b, (g b).bd n = true) (m : List (α × β)) : Ob.bd n (.dk (dkM kf g m)) = true := by
  simp only [Ob.bd]
  rw [List.all_eq_true]
  intro x hx
  unfold dkM at hx
  obtain ⟨p, _, rfl⟩ := List.mem_map.mp hx
  exact h _
@[simp] theorem bd_dN {n : Nat} : Ob.bd n (dN m) = true := bd_dkM (fun _ => rfl) m
@[simp] theorem bds_nD {n : Nat} (l : List Nat) : bds n (nD l) = true := bds_mapF (fun _ => rfl) l
theorem dN_sub (h : S[l]? = some (dN m)) (e : mget m a = some v) : subD (.loc l) (.int ((a : Nat) : Int)) S = .ok (.int ((v : Nat) : Int)) S := by
  have g := dk_get (g := gN) kN_inj m a
  rw [e] at g
  have h : S[l]? = some (.dk (dkM kN gN m)) := h
  simp only [subD, h, obGet, keyOf, Option.map_some]
  rw [show (Sum.inl ((a : Nat) : Int) : Key) = kN a from rfl, g]
  rfl
theorem dN_in (h : S[l]? = some (dN m)) : cmpD .isin (.int ((a : Nat) : Int)) (.loc l) S = .ok (.bl (mget m a).isSome) S := by
  have g := dk_get (g := gN) kN_inj m a
  have h : S[l]? = some (.dk (dkM kN gN m)) := h
  simp only [cmpD, h, obGet, keyOf, Option.map_some]
  rw [show (Sum.inl ((a : Nat) : Int) : Key) = kN a from rfl, g]
  simp
theorem dN_nin (h : S[l]? = some (dN m)) : cmpD .nin (.int ((a : Nat) : Int)) (.loc l) S = .ok (.bl (!(mget m a).isSome)) S := by
  have g := dk_get (g := gN) kN_inj m a
  have h : S[l]? = some (.dk (dkM kN gN m)) := h
  simp only [cmpD, h, obGet, keyOf, Option.map_some]
  rw [show (Sum.inl ((a : Nat) : Int) : Key) = kN a from rfl, g]
  simp
theorem dN_sto (h : S[l]? = some (dN m)) (hl : m.length < LIM) : stoD (.loc l) (.int ((a : Nat) : Int)) (.int ((v : Nat) : Int)) S = .ok () (S.set l (dN (mput m a v))) := by
  have p := dk_put (g := gN) kN_inj m a v
  have h : S[l]? = some (.dk (dkM kN gN m)) := h
  have ob : obPut (.dk (dkM kN gN m)) (.int ((a : Nat) : Int)) (.int ((v : Nat) : Int)) = some (dN (mput m a v)) := by
    simp only [obPut, keyOf, Option.bind_some, dkM_len, hl, if_true]
    rw [show (Sum.inl ((a : Nat) : Int) : Key) = kN a from rfl, show (D.int ((v : Nat) : Int)) = gN v from rfl, p]
    rfl
  simp only [stoD, h, ob]
end
end Ev
namespace Ev
open PySem
section
variable {α β : Type} [DecidableEq α] {κ : Type} [DecidableEq κ] {kf : α → κ} {g : β → D}
theorem dk_putAll (inj : ∀ a b, kf a = kf b → a = b) : ∀ (m2 m : List (α × β)), putAll (dkM kf g m) (dkM kf g m2) = dkM kf g (m2.foldl (fun m p => mput m p.1 p.2) m)
  | [], m => rfl
  | p :: m2, m => by
    have ih := dk_putAll inj m2 (mput m p.1 p.2)
    rw [List.foldl_cons, ← ih]
    show List.foldl _ (kput (dkM kf g m) (kf p.1) (g p.2)) (dkM kf g m2) = _
    rw [dk_put inj]
    rfl
end
section
variable {α σ β : Type} {S : Store}
/-- a comprehension whose turns leave the store -/
theorem walkT_fold {f : D → β → Store → Res β} {g : α → D} {A : σ → β} (I : List α → σ → Prop) (next : σ → α → σ) (turn : ∀ a l s, I (a :: l) s → f (g a) (A s) S = .ok (A (next s a)) S ∧ I l (next s a)) :
    ∀ (l : List α) (s : σ), I l s → walkT f (l.map g) (A s) S = .ok (A (l.foldl next s)) S
  | [], s, _ => rfl
  | a :: l, s, h => by
    obtain ⟨e, i⟩ := turn a l s h
    rw [List.map_cons, List.foldl_cons]
    unfold walkT
    rw [e]
    exact walkT_fold I next turn l _ i
theorem walkT_mapS {f : D → List D → Store → Res (List D)} {g : α → D} {h : α → D} (l : List α) (hf : ∀ a ∈ l, ∀ acc, acc.length < LIM → f (h a) acc S = .ok (acc ++ [g a]) S) : ∀ (acc : List D), acc.length + l.length ≤ LIM → walkT f (l.map h) acc S = .ok (acc ++ l.map g) S := by
  induction l with
  | nil => intro acc _; simp [walkT]
  | cons a l ih =>
    intro acc hl
    rw [List.length_cons] at hl
    rw [List.map_cons]
    unfold walkT
    rw [hf a List.mem_cons_self acc (by omega)]
    show walkT _ _ _ _ = _
    rw [ih (fun b hb => hf b (List.mem_cons_of_mem _ hb)) (acc ++ [g a]) (by rw [List.length_append, List.length_singleton]; omega)]
    simp
/-- .. those that the test lets by -/
theorem walkT_filterS {f : D → List D → Store → Res (List D)} {g : α → D} {h : α → D} {p : α → Bool} (l : List α) (hf : ∀ a ∈ l, ∀ acc, acc.length < LIM → f (h a) acc S = .ok (if p a then acc ++ [g a] else acc) S) : ∀ (acc : List D), acc.length + l.length ≤ LIM → walkT f (l.map h) acc S = .ok (acc ++ (l.filter p).map g) S := by
  induction l with
  | nil => intro acc _; simp [walkT]
  | cons a l ih =>
    intro acc hl
    rw [List.length_cons] at hl
    rw [List.map_cons]
    unfold walkT
    rw [hf a List.mem_cons_self acc (by omega)]
    show walkT _ _ _ _ = _
    rw [ih (fun b hb => hf b (List.mem_cons_of_mem _ hb)) _ (by cases p a <;> simp <;> omega)]
    cases hp : p a with
    | true => simp [hp]
    | false => simp [hp]
end
section
variable {S S' : Store} {L : List Ob} {n : Nat} {env : EnvD}
theorem wf_own (h : wf S) (hl : L.all (Ob.bd S.length) = true) : wf (S ++ L) := by
  unfold wf at h ⊢
  rw [List.all_append, Bool.and_eq_true]
  exact ⟨List.all_eq_true.mpr fun x hx => Ob.bd_mono (by simp) (List.all_eq_true.mp h x hx), List.all_eq_true.mpr fun x hx => Ob.bd_mono (by simp) (List.all_eq_true.mp hl x hx)⟩
def okN (n : Nat) : Option D → Bool
  | none => true
  | some d => d.bd n
theorem packGo_low : ∀ (env : EnvD), env.all (okN n) = true → packGo n S env [] [] = (env, [])
  | [], _ => by simp only [packGo]
  | none :: env, h => by
    have h : env.all (okN n) = true := by simpa [okN] using h
    simp only [packGo, packGo_low env h]
  | some d :: env, h => by
    have h : d.bd n = true ∧ env.all (okN n) = true := by simpa [okN] using h
    cases d with
    | loc l =>
      have hl : l < n := by simpa [D.bd] using h.1
      simp only [packGo, packGo_low env h.2, hl, if_true]
    | _ => simp only [packGo, packGo_low env h.2]; rw [h.1]; rfl
/-- nothing is behind: nothing is laid anew -/
theorem packO_full (hn : n = S.length) (h : wf S) (he : env.all (okN n) = true) : packO n env S = .nx env S := by
  subst hn
  unfold packO
  rw [if_pos ⟨Nat.le_refl _, by rw [List.take_length]; exact h⟩, packGo_low env he, List.take_length, List.append_nil]
@[simp] theorem max_own {n i : Nat} : max n (n + i + 1) = n + i + 1 := by omega
@[simp] theorem max_own0 {n : Nat} : max n (n + 1) = n + 1 := by omega
theorem dN_obPut {m : NM} {a v : Nat} (hl : m.length < LIM) : obPut (dN m) (.int ((a : Nat) : Int)) (.int ((v : Nat) : Int)) = some (dN (mput m a v)) := by
  have p := dk_put (g := gN) kN_inj m a v
  have : obPut (.dk (dkM kN gN m)) (.int ((a : Nat) : Int)) (.int ((v : Nat) : Int)) = some (dN (mput m a v)) := by
    simp only [obPut, keyOf, Option.bind_some, dkM_len, hl, if_true]
    rw [show (Sum.inl ((a : Nat) : Int) : Key) = kN a from rfl, show (D.int ((v : Nat) : Int)) = gN v from rfl, p]
    rfl
  exact this
end
end Ev
namespace Ev
open PySem
/-- holds no place -/
def Fl (x : Option D) : Prop := (∀ n, okN n x = true) ∧ ∀ l, x ≠ some (.loc l)
section
variable {x : Option D} {n : Nat} {S : Store} {env : EnvD} {rs : List Nat} {os : List Ob}
theorem Fl.pack (h : Fl x) : packGo n S (x :: env) rs os = (x :: (packGo n S env rs os).1, (packGo n S env rs os).2) := by
  cases x with
  | none => simp only [packGo]
  | some d => exact pack_flat (h.1 n) fun l e => h.2 l (by rw [e])
theorem Fl.none : Fl none := ⟨fun _ => rfl, fun _ h => by cases h⟩
theorem Fl.tup {ds : List D} (h : ∀ n, bds n ds = true) : Fl (some (.tup ds)) := ⟨fun n => by show D.bd n (.tup ds) = true; rw [bd_tup]; exact h n, fun _ h => by cases h⟩
theorem Fl.int {i : Int} : Fl (some (.int i)) := ⟨fun _ => rfl, fun _ h => by cases h⟩
theorem Fl.str {i : Str} : Fl (some (.str i)) := ⟨fun _ => rfl, fun _ h => by cases h⟩
theorem Fl.bl {i : Bool} : Fl (some (.bl i)) := ⟨fun _ => rfl, fun _ h => by cases h⟩
theorem Fl.scr {i : List Int} : Fl (some (.scr i)) := ⟨fun _ => rfl, fun _ h => by cases h⟩
end
end Ev
namespace Ev
@[simp] theorem forI_nil {f : Nat → D → EnvD → Store → Out} {n : Nat} {env : EnvD} {S : Store} : forI f n (.ds []) env S = .nx env S := rfl
end Ev
namespace Ev
@[simp] theorem bd_dk0 {n : Nat} : Ob.bd n (.dk []) = true := rfl
@[simp] theorem bd_dt0 {n : Nat} : Ob.bd n (.dt []) = true := rfl
end Ev
namespace Ev
open PySem
section
variable {c : Ctx} {env : EnvD} {S : Store} {L : List Ob} {i : Nat}
def srsR (x : D) (S : Store) : Res D := match x with
  | .tup ds => match intsD ds with
    | some is => if is.length < 64 then Ev.alloc (.lst ((setI is).map D.int)) S else .bad
    | none => .bad
  | _ => .bad
@[simp] theorem evE_srs {a : EX} : evE c (.srs a) env S = (evE c a env S).bind srsR := by simp only [evE]; rfl
theorem srsR_tup {ds : List D} {is : List Int} (h : intsD ds = some is) (hl : is.length < 64) : srsR (.tup ds) S = .ok (.loc S.length) (S ++ [.lst ((setI is).map D.int)]) := by
  simp only [srsR, h]
  rw [if_pos hl]
  rfl
theorem forL_nil {f : D → EnvD → Store → Out} {l : Nat} (h : S[l]? = some (.lst [])) : forL f l LIM 0 env S = .nx env S := by
  show forL f l (999999 + 1) 0 env S = _
  unfold forL
  rw [h]
  rfl
/-- over an own list that the turns leave where it is -/
theorem forL_own {f : D → EnvD → Store → Out} {xs : List D} {α σ : Type} {g : α → D} {E : σ → EnvD} {L : σ → List Ob} {as : List α} (hx : xs = as.map g) (hlen : as.length < 100000) (s : σ) (I : List α → σ → Prop) (hL : ∀ l s, I l s → (L s)[i]? = some (.lst xs)) (next : α → σ → σ)
    (turn : ∀ a l s, I (a :: l) s → (f (g a) (E s) (S ++ L s) = .nx (E (next a s)) (S ++ L (next a s)) ∨ f (g a) (E s) (S ++ L s) = .ct (E (next a s)) (S ++ L (next a s))) ∧ I l (next a s)) (h0 : I as s) :
    forL f (S.length + i) LIM 0 (E s) (S ++ L s) = .nx (E (as.foldl (fun s a => next a s) s)) (S ++ L (as.foldl (fun s a => next a s) s)) ∧ I [] (as.foldl (fun s a => next a s) s) := by
  have main : ∀ (n : Nat) (j : Nat) (s : σ), j ≤ as.length → as.length < n + j → I (as.drop j) s → forL f (S.length + i) n j (E s) (S ++ L s) = .nx (E ((as.drop j).foldl (fun s a => next a s) s)) (S ++ L ((as.drop j).foldl (fun s a => next a s) s)) ∧ I [] ((as.drop j).foldl (fun s a => next a s) s) := by
    intro n
    induction n with
    | zero => intro j s h1 h2 _; omega
    | succ n ih =>
      intro j s h1 h2 h3
      unfold forL
      rw [own_at, hL _ s h3]
      dsimp only
      by_cases hj : j < as.length
      · have e : xs[j]? = some (g as[j]) := by rw [hx, List.getElem?_map, List.getElem?_eq_getElem hj]; rfl
        rw [e, List.drop_eq_getElem_cons hj, List.foldl_cons]
        rw [List.drop_eq_getElem_cons hj] at h3
        obtain ⟨t, q⟩ := turn _ _ s h3
        have r := ih (j + 1) (next as[j] s) hj (by omega) q
        refine ⟨?_, r.2⟩
        dsimp only
        rcases t with t | t <;> (rw [t]; exact r.1)
      · have : j = as.length := by omega
        subst this
        rw [List.getElem?_eq_none (by rw [hx, List.length_map]; exact Nat.le_refl _)]
        rw [List.drop_length] at h3 ⊢
        exact ⟨rfl, h3⟩
  have := main LIM 0 s (Nat.zero_le _) (by simp [LIM]; omega) (by simpa using h0)
  simpa using this
end
end Ev
namespace Ev
@[simp] theorem find_place {a l : Nat} {rs : List Nat} : List.findIdx? (fun r => decide (r = l)) (a :: rs) = if a = l then some 0 else (List.findIdx? (fun r => decide (r = l)) rs).map (· + 1) := by
  rw [List.findIdx?_cons]
  by_cases h : a = l <;> simp [h]
end Ev
namespace Ev
@[simp] theorem plus1 {n : Nat} : n + 1 + 1 = n + 2 := rfl
@[simp] theorem plus2 {n : Nat} : n + 2 + 1 = n + 3 := rfl
@[simp] theorem plus3 {n : Nat} : n + 3 + 1 = n + 4 := rfl
@[simp] theorem plus4 {n : Nat} : n + 4 + 1 = n + 5 := rfl
@[simp] theorem plus5 {n : Nat} : n + 5 + 1 = n + 6 := rfl
@[simp] theorem plus6 {n : Nat} : n + 6 + 1 = n + 7 := rfl
@[simp] theorem plus7 {n : Nat} : n + 7 + 1 = n + 8 := rfl
@[simp] theorem plus8 {n : Nat} : n + 8 + 1 = n + 9 := rfl
@[simp] theorem plus9 {n : Nat} : n + 9 + 1 = n + 10 := rfl
@[simp] theorem plus10 {n : Nat} : n + 10 + 1 = n + 11 := rfl
@[simp] theorem plus11 {n : Nat} : n + 11 + 1 = n + 12 := rfl
@[simp] theorem plus12 {n : Nat} : n + 12 + 1 = n + 13 := rfl
@[simp] theorem plus13 {n : Nat} : n + 13 + 1 = n + 14 := rfl
@[simp] theorem plus14 {n : Nat} : n + 14 + 1 = n + 15 := rfl
@[simp] theorem plus15 {n : Nat} : n + 15 + 1 = n + 16 := rfl
end Ev
namespace Ev
@[simp] theorem plus1_2 {n : Nat} : n + 1 + 2 = n + 3 := rfl
@[simp] theorem plus1_3 {n : Nat} : n + 1 + 3 = n + 4 := rfl
@[simp] theorem plus1_4 {n : Nat} : n + 1 + 4 = n + 5 := rfl
@[simp] theorem plus1_5 {n : Nat} : n + 1 + 5 = n + 6 := rfl
@[simp] theorem plus1_6 {n : Nat} : n + 1 + 6 = n + 7 := rfl
@[simp] theorem plus1_7 {n : Nat} : n + 1 + 7 = n + 8 := rfl
@[simp] theorem plus1_8 {n : Nat} : n + 1 + 8 = n + 9 := rfl
@[simp] theorem plus2_2 {n : Nat} : n + 2 + 2 = n + 4 := rfl
@[simp] theorem plus2_3 {n : Nat} : n + 2 + 3 = n + 5 := rfl
@[simp] theorem plus2_4 {n : Nat} : n + 2 + 4 = n + 6 := rfl
@[simp] theorem plus2_5 {n : Nat} : n + 2 + 5 = n + 7 := rfl
@[simp] theorem plus2_6 {n : Nat} : n + 2 + 6 = n + 8 := rfl
@[simp] theorem plus2_7 {n : Nat} : n + 2 + 7 = n + 9 := rfl
@[simp] theorem plus2_8 {n : Nat} : n + 2 + 8 = n + 10 := rfl
@[simp] theorem plus3_2 {n : Nat} : n + 3 + 2 = n + 5 := rfl
@[simp] theorem plus3_3 {n : Nat} : n + 3 + 3 = n + 6 := rfl
@[simp] theorem plus3_4 {n : Nat} : n + 3 + 4 = n + 7 := rfl
@[simp] theorem plus3_5 {n : Nat} : n + 3 + 5 = n + 8 := rfl
@[simp] theorem plus3_6 {n : Nat} : n + 3 + 6 = n + 9 := rfl
@[simp] theorem plus3_7 {n : Nat} : n + 3 + 7 = n + 10 := rfl
@[simp] theorem plus3_8 {n : Nat} : n + 3 + 8 = n + 11 := rfl
@[simp] theorem plus4_2 {n : Nat} : n + 4 + 2 = n + 6 := rfl
@[simp] theorem plus4_3 {n : Nat} : n + 4 + 3 = n + 7 := rfl
@[simp] theorem plus4_4 {n : Nat} : n + 4 + 4 = n + 8 := rfl
@[simp] theorem plus4_5 {n : Nat} : n + 4 + 5 = n + 9 := rfl
@[simp] theorem plus4_6 {n : Nat} : n + 4 + 6 = n + 10 := rfl
@[simp] theorem plus4_7 {n : Nat} : n + 4 + 7 = n + 11 := rfl
@[simp] theorem plus4_8 {n : Nat} : n + 4 + 8 = n + 12 := rfl
@[simp] theorem plus5_2 {n : Nat} : n + 5 + 2 = n + 7 := rfl
@[simp] theorem plus5_3 {n : Nat} : n + 5 + 3 = n + 8 := rfl
@[simp] theorem plus5_4 {n : Nat} : n + 5 + 4 = n + 9 := rfl
@[simp] theorem plus5_5 {n : Nat} : n + 5 + 5 = n + 10 := rfl
@[simp] theorem plus5_6 {n : Nat} : n + 5 + 6 = n + 11 := rfl
@[simp] theorem plus5_7 {n : Nat} : n + 5 + 7 = n + 12 := rfl
@[simp] theorem plus5_8 {n : Nat} : n + 5 + 8 = n + 13 := rfl
@[simp] theorem plus6_2 {n : Nat} : n + 6 + 2 = n + 8 := rfl
@[simp] theorem plus6_3 {n : Nat} : n + 6 + 3 = n + 9 := rfl
@[simp] theorem plus6_4 {n : Nat} : n + 6 + 4 = n + 10 := rfl
@[simp] theorem plus6_5 {n : Nat} : n + 6 + 5 = n + 11 := rfl
@[simp] theorem plus6_6 {n : Nat} : n + 6 + 6 = n + 12 := rfl
@[simp] theorem plus6_7 {n : Nat} : n + 6 + 7 = n + 13 := rfl
@[simp] theorem plus6_8 {n : Nat} : n + 6 + 8 = n + 14 := rfl
@[simp] theorem plus7_2 {n : Nat} : n + 7 + 2 = n + 9 := rfl
@[simp] theorem plus7_3 {n : Nat} : n + 7 + 3 = n + 10 := rfl
@[simp] theorem plus7_4 {n : Nat} : n + 7 + 4 = n + 11 := rfl
@[simp] theorem plus7_5 {n : Nat} : n + 7 + 5 = n + 12 := rfl
@[simp] theorem plus7_6 {n : Nat} : n + 7 + 6 = n + 13 := rfl
@[simp] theorem plus7_7 {n : Nat} : n + 7 + 7 = n + 14 := rfl
@[simp] theorem plus7_8 {n : Nat} : n + 7 + 8 = n + 15 := rfl
@[simp] theorem plus8_2 {n : Nat} : n + 8 + 2 = n + 10 := rfl
@[simp] theorem plus8_3 {n : Nat} : n + 8 + 3 = n + 11 := rfl
@[simp] theorem plus8_4 {n : Nat} : n + 8 + 4 = n + 12 := rfl
@[simp] theorem plus8_5 {n : Nat} : n + 8 + 5 = n + 13 := rfl
@[simp] theorem plus8_6 {n : Nat} : n + 8 + 6 = n + 14 := rfl
@[simp] theorem plus8_7 {n : Nat} : n + 8 + 7 = n + 15 := rfl
@[simp] theorem plus8_8 {n : Nat} : n + 8 + 8 = n + 16 := rfl
end Ev
namespace Ev
open PySem
mutual
theorem data_refl : ∀ {d : D} {p : PyData}, d.data = some p → p.eqv p = true
  | .non, p, h => by cases h; rfl
  | .bl b, p, h => by cases h; cases b <;> rfl
  | .int i, p, h => by cases h; show (i == i) = true; simp
  | .str x, p, h => by
    simp only [D.data] at h
    split at h
    · cases h; show (x == x) = true; simp
    · cases h
  | .tup ds, p, h => by
    simp only [D.data] at h
    cases e : datas ds with
    | none => rw [e] at h; cases h
    | some ps => rw [e] at h; cases h; simpa only [PyData.eqv] using datas_refl e
  | .ktup ds, p, h => by
    simp only [D.data] at h
    cases e : datas ds with
    | none => rw [e] at h; cases h
    | some ps => rw [e] at h; cases h; simpa only [PyData.eqv] using datas_refl e
  | .loc _, p, h => by cases h
  | .scr _, p, h => by cases h
  | .ty _, p, h => by cases h
  | .fn _, p, h => by cases h
  | .bm _ _ _, p, h => by cases h
  | .kd _ _, p, h => by cases h
theorem datas_refl : ∀ {ds : List D} {ps : List PyData}, datas ds = some ps → PyData.eqvAll ps ps = true
  | [], ps, h => by cases h; rfl
  | d :: ds, ps, h => by
    simp only [datas] at h
    cases e1 : d.data with
    | none => rw [e1] at h; cases h
    | some q =>
      cases e2 : datas ds with
      | none => rw [e1, e2] at h; cases h
      | some qs =>
        rw [e1, e2] at h
        cases h
        simp only [PyData.eqvAll, data_refl e1, datas_refl e2, Bool.and_self]
end
theorem eqD_refl {d : D} {p : PyData} {S : Store} (h : d.data = some p) (hd : p.depth ≤ 60) : eqD S d d = some true := by
  cases d with
  | str x => simp [eqD]
  | loc l => cases h
  | _ =>
    simp only [eqD, dataOf, h]
    rw [if_pos ⟨hd, hd⟩, data_refl h]
/-- data of small depth -/
def Dt (n : Nat) (d : D) : Prop := ∃ p, d.data = some p ∧ p.depth ≤ n
theorem Dt.eq {n : Nat} {d : D} (h : Dt n d) (hn : n ≤ 60) {S : Store} : eqD S d d = some true := by
  obtain ⟨p, h1, h2⟩ := h
  exact eqD_refl h1 (by omega)
theorem Dt.int {n : Nat} {i : Int} : Dt n (.int i) := ⟨_, rfl, by simp [PyData.depth]⟩
theorem Dt.bl {n : Nat} {i : Bool} : Dt n (.bl i) := ⟨_, rfl, by simp [PyData.depth]⟩
theorem Dt.str {n : Nat} {x : Str} (h : PyData.strOk x = true) : Dt n (.str x) := ⟨.str x, by simp only [D.data, h, if_true], by simp [PyData.depth]⟩
theorem Dt.mono {n m : Nat} {d : D} (h : Dt n d) (hn : n ≤ m) : Dt m d := by
  obtain ⟨p, h1, h2⟩ := h
  exact ⟨p, h1, by omega⟩
theorem Dt.tup {n : Nat} {ds : List D} (h : ∀ d ∈ ds, Dt n d) : Dt (n + 1) (.tup ds) := by
  have : ∃ ps, datas ds = some ps ∧ PyData.depthAll ps ≤ n := by
    induction ds with
    | nil => exact ⟨[], rfl, by simp [PyData.depthAll]⟩
    | cons d ds ih =>
      obtain ⟨p, e1, h1⟩ := h d List.mem_cons_self
      obtain ⟨ps, e2, h2⟩ := ih fun x hx => h x (List.mem_cons_of_mem _ hx)
      refine ⟨p :: ps, by simp only [datas, e1, e2], ?_⟩
      rw [PyData.depthAll]
      omega
  obtain ⟨ps, e, hp⟩ := this
  refine ⟨.tuple ps, by simp only [D.data, e, Option.map_some], ?_⟩
  rw [PyData.depth]
  omega
end Ev
end

section
set_option Elab.async false
set_option linter.all false
set_option maxRecDepth 100000
set_option maxHeartbeats 0
namespace K84
open PySem PySem.Spec PyProof.Rows L2 Ev
abbrev top (i : Nat) : Stmt := PySem.Challenge.pw_pilewords_k84_whole_what_are_no_values.main.body.getD i (.Pass ⟨0, 0, 0, 0⟩)
def b_is_integer : Ev.SS := (.cons (.ret (.bop true (.cons (.blt .isi (.cons (.var 0) (.cons (.bty "int") .nil))) (.cons (.nt (.blt .isi (.cons (.var 0) (.cons (.bty "bool") .nil)))) .nil)))) .nil)
def t_is_integer : Tx := ⟨⟨("is_integer", none), "is_integer", "is_integer", defArgs (top 7), defBody (top 7), defScope (top 7), [], []⟩, ⟨1, 1, b_is_integer⟩, ["thing"], ["thing"]⟩
def b_is_within : Ev.SS := (.cons (.ret (.bop true (.cons (.call "is_integer" (.cons (.var 0) .nil)) (.cons (.chn .le (.var 1) (.var 0) .le (.var 2)) .nil)))) .nil)
def t_is_within : Tx := ⟨⟨("is_within", none), "is_within", "is_within", defArgs (top 8), defBody (top 8), defScope (top 8), [], []⟩, ⟨3, 3, b_is_within⟩, ["thing", "low", "high"], ["thing", "low", "high"]⟩
def b_is_straight_item : Ev.SS := (.cons (.ife (.blt .isi (.cons (.var 0) (.cons (.bty "str") .nil))) (.cons (.ret (.bop false (.cons (.cmp .isin (.var 0) (.glb "SHUFFLES")) (.cons (.cmp .isin (.var 0) (.glb "SUMS")) .nil)))) .nil) .nil) (.cons (.ret (.bop true (.cons (.call "is_integer" (.cons (.var 0) .nil)) (.cons (.cmp .le (.blt .abs (.cons (.var 0) .nil)) (.glb "MOST_INTEGER")) .nil)))) .nil))
def t_is_straight_item : Tx := ⟨⟨("is_straight_item", none), "is_straight_item", "is_straight_item", defArgs (top 15), defBody (top 15), defScope (top 15), [], []⟩, ⟨1, 1, b_is_straight_item⟩, ["item"], ["item"]⟩
def b_is_straight : Ev.SS := (.cons (.ife (.bop false (.cons (.nt (.blt .isi (.cons (.var 0) (.cons (.bty "tuple") .nil)))) (.cons (.cmp .gt (.blt .len (.cons (.var 0) .nil)) (.glb "MOST_ITEMS")) (.cons (.nt (.bll .all (.comp [("item", 1)] (.name 1) (.val (.var 0)) .nil (.call "is_straight_item" (.cons (.var 1) .nil))))) .nil)))) (.cons (.ret (.bl false)) .nil) .nil) (.cons (.ret (.cmp .le (.bll .len (.comp [("item", 1)] (.name 1) (.val (.var 0)) (.cons (.cmp .eq (.var 1) (.str "mul")) .nil) (.int 1))) (.glb "MOST_PRODUCTS"))) .nil))
def t_is_straight : Tx := ⟨⟨("is_straight", none), "is_straight", "is_straight", defArgs (top 16), defBody (top 16), defScope (top 16), [], []⟩, ⟨1, 2, b_is_straight⟩, ["thing", "item"], ["thing"]⟩
def b_check_straight : Ev.SS := (.cons (.ife (.nt (.call "is_straight" (.cons (.var 0) .nil))) (.cons (.raise "NoStraight") .nil) .nil) .nil)
def t_check_straight : Tx := ⟨⟨("check_straight", none), "check_straight", "check_straight", defArgs (top 17), defBody (top 17), defScope (top 17), [], []⟩, ⟨1, 1, b_check_straight⟩, ["thing"], ["thing"]⟩
def b_takes_of : Ev.SS := (.cons (.ife (.nt (.blt .isi (.cons (.var 0) (.cons (.bty "str") .nil)))) (.cons (.ret (.tup (.cons (.int 0) (.cons (.int 1) .nil)))) .nil) .nil) (.cons (.ret (.tup (.cons (.blt .len (.cons (.sub (.glb "MANY") (.var 0)) .nil)) (.cons (.ife (.cmp .isin (.var 0) (.glb "SHUFFLES")) (.blt .len (.cons (.sub (.glb "SHUFFLES") (.var 0)) .nil)) (.int 1)) .nil)))) .nil))
def t_takes_of : Tx := ⟨⟨("takes_of", none), "takes_of", "takes_of", defArgs (top 18), defBody (top 18), defScope (top 18), [], []⟩, ⟨1, 1, b_takes_of⟩, ["item"], ["item"]⟩
def l_raw_wants_0 : Ev.SS := (.cons (.asgs [(.name 4), (.name 5)] (.call "takes_of" (.cons (.var 3) .nil))) (.cons (.ife (.cmp .lt (.var 2) (.var 4)) (.cons (.par [1, 2] (.cons (.bin .sub (.bin .add (.var 1) (.var 4)) (.var 2)) (.cons (.var 4) .nil))) .nil) .nil) (.cons (.set 2 (.bin .add (.bin .sub (.var 2) (.var 4)) (.var 5))) .nil)))
def b_raw_wants : Ev.SS := (.cons (.asgs [(.name 1), (.name 2)] (.tup (.cons (.int 0) (.cons (.int 0) .nil)))) (.cons (.for_ (.name 3) (.val (.var 0)) l_raw_wants_0) (.cons (.ret (.tup (.cons (.var 1) (.cons (.var 2) .nil)))) .nil)))
def t_raw_wants : Tx := ⟨⟨("raw_wants", none), "raw_wants", "raw_wants", defArgs (top 19), defBody (top 19), defScope (top 19), [], []⟩, ⟨1, 6, b_raw_wants⟩, ["program", "wants", "stand", "item", "takes", "leaves"], ["program"]⟩
def l_straight_pile_0 : Ev.SS := (.cons (.ife (.nt (.blt .isi (.cons (.var 5) (.cons (.bty "str") .nil)))) (.cons (.expr (.meth (.var 4) .append (.cons (.cval 2 (.cons (.var 5) .nil)) .nil))) (.cons .cont .nil)) .nil) (.cons (.set 6 (.sub (.call "takes_of" (.cons (.var 5) .nil)) (.int 0))) (.cons (.set 7 (.slcF (.var 4) (.bin .sub (.blt .len (.cons (.var 4) .nil)) (.var 6)))) (.cons (.set 4 (.slcT (.var 4) (.bin .sub (.blt .len (.cons (.var 4) .nil)) (.var 6)))) (.cons (.expr (.meth (.var 4) .extend (.cons (.ife (.cmp .isin (.var 5) (.glb "SHUFFLES")) (.ofl (.comp [("at", 8)] (.name 8) (.val (.sub (.glb "SHUFFLES") (.var 5))) .nil (.sub (.var 7) (.var 8)))) (.ofl (.dis (.cons (.cval 3 (.cons (.var 5) (.cons (.var 7) .nil))) .nil)))) .nil))) .nil)))))
def b_straight_pile : Ev.SS := (.cons (.set 4 (.blt .list (.cons (.var 1) .nil))) (.cons (.for_ (.name 5) (.val (.var 0)) l_straight_pile_0) (.cons (.ret (.var 4)) .nil)))
def t_straight_pile : Tx := ⟨⟨("straight_pile", none), "straight_pile", "straight_pile", defArgs (top 20), defBody (top 20), defScope (top 20), [], []⟩, ⟨4, 9, b_straight_pile⟩, ["program", "pile", "made", "told", "found", "item", "takes", "args", "at"], ["program", "pile", "made", "told"]⟩
def b_sum_told : Ev.SS := (.cons (.ife (.cmp .eq (.var 0) (.str "neg")) (.cons (.ret (.neg (.sub (.var 1) (.int 0)))) .nil) .nil) (.cons (.asgs [(.name 2), (.name 3)] (.var 1)) (.cons (.ret (.sub (.dsp ["add", "sub", "mul"] (.cons (.bin .add (.var 2) (.var 3)) (.cons (.bin .sub (.var 2) (.var 3)) (.cons (.bin .mul (.var 2) (.var 3)) .nil)))) (.var 0))) .nil)))
def t_sum_told : Tx := ⟨⟨("sum_told", none), "sum_told", "sum_told", defArgs (top 21), defBody (top 21), defScope (top 21), [], []⟩, ⟨2, 4, b_sum_told⟩, ["word", "args", "one", "other"], ["word", "args"]⟩
def b_raw_values : Ev.SS := (.cons (.set 1 (.sub (.call "raw_wants" (.cons (.var 0) .nil)) (.int 0))) (.cons (.set 2 (.new "Values" (.cons (.var 1) .nil))) (.cons (.set 3 (.call "straight_pile" (.cons (.var 0) (.cons (.lrg (.var 1)) (.cons (.bmv (.var 2) "whole") (.cons (.bmv (.var 2) "told") .nil)))))) (.cons (.ret (.tup (.cons (.blt .tuple (.cons (.fld (.var 2) "rows") .nil)) (.cons (.blt .tuple (.cons (.var 3) .nil)) .nil)))) .nil))))
def t_raw_values : Tx := ⟨⟨("raw_values", none), "raw_values", "raw_values", defArgs (top 26), defBody (top 26), defScope (top 26), [], []⟩, ⟨1, 4, b_raw_values⟩, ["program", "wide", "values", "left"], ["program"]⟩
def b_values_of : Ev.SS := (.cons (.expr (.call "check_straight" (.cons (.var 0) .nil))) (.cons (.ret (.call "raw_values" (.cons (.var 0) .nil))) .nil))
def t_values_of : Tx := ⟨⟨("values_of", none), "values_of", "values_of", defArgs (top 27), defBody (top 27), defScope (top 27), [], []⟩, ⟨1, 1, b_values_of⟩, ["program"], ["program"]⟩
def b_is_value_row : Ev.SS := (.cons (.ife (.bop false (.cons (.nt (.blt .isi (.cons (.var 0) (.cons (.bty "tuple") .nil)))) (.cons (.cmp .nin (.blt .len (.cons (.var 0) .nil)) (.tup (.cons (.int 2) (.cons (.int 3) .nil)))) (.cons (.nt (.blt .isi (.cons (.sub (.var 0) (.int 0)) (.cons (.bty "str") .nil)))) .nil)))) (.cons (.ret (.bl false)) .nil) .nil) (.cons (.ife (.cmp .eq (.sub (.var 0) (.int 0)) (.str "in")) (.cons (.ret (.bop true (.cons (.cmp .eq (.blt .len (.cons (.var 0) .nil)) (.int 2)) (.cons (.call "is_integer" (.cons (.sub (.var 0) (.int 1)) .nil)) (.cons (.cmp .eq (.sub (.var 0) (.int 1)) (.var 1)) .nil))))) .nil) .nil) (.cons (.ife (.cmp .eq (.sub (.var 0) (.int 0)) (.str "int")) (.cons (.ret (.bop true (.cons (.cmp .eq (.blt .len (.cons (.var 0) .nil)) (.int 2)) (.cons (.call "is_integer" (.cons (.sub (.var 0) (.int 1)) .nil)) .nil)))) .nil) .nil) (.cons (.ife (.bop false (.cons (.cmp .nin (.sub (.var 0) (.int 0)) (.glb "SUMS")) (.cons (.cmp .ne (.blt .len (.cons (.var 0) .nil)) (.ife (.cmp .eq (.sub (.var 0) (.int 0)) (.str "neg")) (.int 2) (.int 3))) .nil))) (.cons (.ret (.bl false)) .nil) .nil) (.cons (.ret (.bll .all (.comp [("one", 2)] (.name 2) (.val (.slcF (.var 0) (.int 1))) .nil (.call "is_within" (.cons (.var 2) (.cons (.int 0) (.cons (.bin .sub (.var 1) (.int 1)) .nil))))))) .nil)))))
def t_is_value_row : Tx := ⟨⟨("is_value_row", none), "is_value_row", "is_value_row", defArgs (top 28), defBody (top 28), defScope (top 28), [], []⟩, ⟨2, 3, b_is_value_row⟩, ["row", "number", "one"], ["row", "number"]⟩
def b_are_values : Ev.SS := (.cons (.ife (.bop false (.cons (.nt (.blt .isi (.cons (.var 0) (.cons (.bty "tuple") .nil)))) (.cons (.cmp .ne (.blt .len (.cons (.var 0) .nil)) (.int 2)) (.cons (.nt (.bll .all (.comp [("one", 1)] (.name 1) (.val (.var 0)) .nil (.blt .isi (.cons (.var 1) (.cons (.bty "tuple") .nil)))))) .nil)))) (.cons (.ret (.bl false)) .nil) .nil) (.cons (.asgs [(.name 2), (.name 3)] (.var 0)) (.cons (.ife (.bop false (.cons (.cmp .gt (.blt .len (.cons (.var 2) .nil)) (.glb "MOST_VALUES")) (.cons (.nt (.bll .all (.comp [("number", 4), ("row", 5)] (.tup (.cons (.name 4) (.cons (.name 5) .nil))) (.enm (.var 2)) .nil (.call "is_value_row" (.cons (.var 5) (.cons (.var 4) .nil)))))) .nil))) (.cons (.ret (.bl false)) .nil) .nil) (.cons (.set 6 (.bll .len (.comp [("row", 5)] (.name 5) (.val (.var 2)) (.cons (.cmp .eq (.sub (.var 5) (.int 0)) (.str "in")) .nil) (.var 5)))) (.cons (.ife (.nt (.bll .all (.comp [("row", 5)] (.name 5) (.val (.slcT (.var 2) (.var 6))) .nil (.cmp .eq (.sub (.var 5) (.int 0)) (.str "in"))))) (.cons (.ret (.bl false)) .nil) .nil) (.cons (.ret (.bll .all (.comp [("one", 1)] (.name 1) (.val (.var 3)) .nil (.call "is_within" (.cons (.var 1) (.cons (.int 0) (.cons (.bin .sub (.blt .len (.cons (.var 2) .nil)) (.int 1)) .nil))))))) .nil))))))
def t_are_values : Tx := ⟨⟨("are_values", none), "are_values", "are_values", defArgs (top 29), defBody (top 29), defScope (top 29), [], []⟩, ⟨1, 7, b_are_values⟩, ["thing", "one", "rows", "left", "number", "row", "wide"], ["thing"]⟩
def b_check_values : Ev.SS := (.cons (.ife (.nt (.call "are_values" (.cons (.var 0) .nil))) (.cons (.raise "NoValues") .nil) .nil) .nil)
def t_check_values : Tx := ⟨⟨("check_values", none), "check_values", "check_values", defArgs (top 30), defBody (top 30), defScope (top 30), [], []⟩, ⟨1, 1, b_check_values⟩, ["thing"], ["thing"]⟩
def b_wide_of : Ev.SS := (.cons (.ret (.bll .len (.comp [("row", 1)] (.name 1) (.val (.var 0)) (.cons (.cmp .eq (.sub (.var 1) (.int 0)) (.str "in")) .nil) (.var 1)))) .nil)
def t_wide_of : Tx := ⟨⟨("wide_of", none), "wide_of", "wide_of", defArgs (top 31), defBody (top 31), defScope (top 31), [], []⟩, ⟨1, 2, b_wide_of⟩, ["rows", "row"], ["rows"]⟩
def b_check_integers : Ev.SS := (.cons (.ife (.bop false (.cons (.nt (.blt .isi (.cons (.var 0) (.cons (.bty "tuple") .nil)))) (.cons (.nt (.bll .all (.comp [("one", 2)] (.name 2) (.val (.var 0)) .nil (.call "is_integer" (.cons (.var 2) .nil))))) (.cons (.cmp .lt (.blt .len (.cons (.var 0) .nil)) (.var 1)) .nil)))) (.cons (.raise "NoPile") .nil) .nil) .nil)
def t_check_integers : Tx := ⟨⟨("check_integers", none), "check_integers", "check_integers", defArgs (top 32), defBody (top 32), defScope (top 32), [], []⟩, ⟨2, 3, b_check_integers⟩, ["pile", "wide", "one"], ["pile", "wide"]⟩
def l_run_values_0 : Ev.SS := (.cons (.ife (.cmp .eq (.sub (.var 6) (.int 0)) (.str "in")) (.cons (.expr (.meth (.var 5) .append (.cons (.sub (.var 1) (.bin .add (.var 4) (.sub (.var 6) (.int 1)))) .nil))) .nil) (.cons (.ife (.cmp .eq (.sub (.var 6) (.int 0)) (.str "int")) (.cons (.expr (.meth (.var 5) .append (.cons (.sub (.var 6) (.int 1)) .nil))) .nil) (.cons (.expr (.meth (.var 5) .append (.cons (.call "sum_told" (.cons (.sub (.var 6) (.int 0)) (.cons (.ofl (.comp [("one", 7)] (.name 7) (.val (.slcF (.var 6) (.int 1))) .nil (.sub (.var 5) (.var 7)))) .nil))) .nil))) .nil)) .nil)) (.cons (.pack [0, 6]) .nil))
def b_run_values : Ev.SS := (.cons (.expr (.call "check_values" (.cons (.var 0) .nil))) (.cons (.asgs [(.name 2), (.name 3)] (.var 0)) (.cons (.expr (.call "check_integers" (.cons (.var 1) (.cons (.call "wide_of" (.cons (.var 2) .nil)) .nil)))) (.cons (.set 4 (.bin .sub (.blt .len (.cons (.var 1) .nil)) (.call "wide_of" (.cons (.var 2) .nil)))) (.cons (.set 5 (.ofl (.dis .nil))) (.cons (.pack [0, 6]) (.cons (.for_ (.name 6) (.val (.var 2)) l_run_values_0) (.cons (.ret (.bin .add (.slcT (.var 1) (.var 4)) (.bll .tuple (.comp [("one", 7)] (.name 7) (.val (.var 3)) .nil (.sub (.var 5) (.var 7)))))) .nil))))))))
def t_run_values : Tx := ⟨⟨("run_values", none), "run_values", "run_values", defArgs (top 33), defBody (top 33), defScope (top 33), [], []⟩, ⟨2, 8, b_run_values⟩, ["values", "pile", "rows", "left", "under", "found", "row", "one"], ["values", "pile"]⟩
def l_used_rows_0 : Ev.SS := (.cons (.set 4 (.meth (.var 3) .pop .nil)) (.cons (.ife (.cmp .nin (.var 4) (.var 2)) (.cons (.asg (.sub (.var 2) (.var 4)) (.bl true)) (.cons (.expr (.meth (.var 3) .extend (.cons (.ife (.cmp .isin (.sub (.sub (.var 0) (.var 4)) (.int 0)) (.glb "SUMS")) (.blt .list (.cons (.slcF (.sub (.var 0) (.var 4)) (.int 1)) .nil)) (.ofl (.dis .nil))) .nil))) .nil)) .nil) .nil))
def b_used_rows : Ev.SS := (.cons (.par [2, 3] (.cons .dk0 (.cons (.blt .list (.cons (.var 1) .nil)) .nil))) (.cons (.whl (.cmp .gt (.blt .len (.cons (.var 3) .nil)) (.int 0)) l_used_rows_0) (.cons (.ret (.var 2)) .nil)))
def t_used_rows : Tx := ⟨⟨("used_rows", none), "used_rows", "used_rows", defArgs (top 34), defBody (top 34), defScope (top 34), [], []⟩, ⟨2, 5, b_used_rows⟩, ["rows", "left", "found", "waiting", "here"], ["rows", "left"]⟩
def l_used_values_0 : Ev.SS := (.cons (.ife (.bop false (.cons (.cmp .eq (.sub (.var 7) (.int 0)) (.str "in")) (.cons (.cmp .isin (.var 6) (.var 3)) .nil))) (.cons (.asg (.sub (.var 4) (.var 6)) (.blt .len (.cons (.var 5) .nil))) (.cons (.expr (.meth (.var 5) .append (.cons (.ife (.cmp .isin (.sub (.var 7) (.int 0)) (.glb "SUMS")) (.bin .add (.tup (.cons (.sub (.var 7) (.int 0)) .nil)) (.bll .tuple (.comp [("one", 8)] (.name 8) (.val (.slcF (.var 7) (.int 1))) .nil (.sub (.var 4) (.var 8))))) (.var 7)) .nil))) .nil)) .nil) .nil)
def b_used_values : Ev.SS := (.cons (.expr (.call "check_values" (.cons (.var 0) .nil))) (.cons (.asgs [(.name 1), (.name 2)] (.var 0)) (.cons (.asgs [(.name 3), (.name 4), (.name 5)] (.tup (.cons (.call "used_rows" (.cons (.var 1) (.cons (.var 2) .nil))) (.cons .dk0 (.cons (.ofl (.dis .nil)) .nil))))) (.cons (.for_ (.tup (.cons (.name 6) (.cons (.name 7) .nil))) (.enm (.var 1)) l_used_values_0) (.cons (.ret (.tup (.cons (.blt .tuple (.cons (.var 5) .nil)) (.cons (.bll .tuple (.comp [("one", 8)] (.name 8) (.val (.var 2)) .nil (.sub (.var 4) (.var 8)))) .nil)))) .nil)))))
def t_used_values : Tx := ⟨⟨("used_values", none), "used_values", "used_values", defArgs (top 35), defBody (top 35), defScope (top 35), [], []⟩, ⟨1, 9, b_used_values⟩, ["values", "rows", "left", "used", "numbers", "found", "number", "row", "one"], ["values"]⟩
def l_last_uses_0 : Ev.SS := (.cons (.asg (.sub (.var 2) (.var 5)) (.var 3)) (.cons (.pack [5]) .nil))
def l_last_uses_1 : Ev.SS := (.cons (.pack [5]) (.cons (.for_ (.name 5) (.val (.ife (.cmp .isin (.sub (.var 4) (.int 0)) (.glb "SUMS")) (.slcF (.var 4) (.int 1)) (.tup .nil))) l_last_uses_0) (.cons (.pack [3, 4, 5]) .nil)))
def b_last_uses : Ev.SS := (.cons (.set 2 .dk0) (.cons (.pack [3, 4, 5]) (.cons (.for_ (.tup (.cons (.name 3) (.cons (.name 4) .nil))) (.enm (.var 0)) l_last_uses_1) (.cons (.expr (.meth (.var 2) .update (.cons (.dcp false [("one", 5)] (.name 5) (.val (.var 1)) (.var 5) (.blt .len (.cons (.var 0) .nil))) .nil))) (.cons (.ret (.var 2)) .nil)))))
def t_last_uses : Tx := ⟨⟨("last_uses", none), "last_uses", "last_uses", defArgs (top 36), defBody (top 36), defScope (top 36), [], []⟩, ⟨2, 6, b_last_uses⟩, ["rows", "left", "found", "number", "row", "one"], ["rows", "left"]⟩
def l_raw_registers_0 : Ev.SS := (.cons (.ife (.cmp .eq (.sub (.var 2) (.var 10)) (.var 7)) (.cons (.expr (.meth (.var 4) .append (.cons (.sub (.var 3) (.var 10)) .nil))) .nil) .nil) (.cons (.pack [10]) .nil))
def l_raw_registers_1 : Ev.SS := (.cons (.set 9 (.ife (.cmp .isin (.sub (.var 8) (.int 0)) (.glb "SUMS")) (.bll .tuple (.comp [("one", 10)] (.name 10) (.val (.slcF (.var 8) (.int 1))) .nil (.sub (.var 3) (.var 10)))) (.slcF (.var 8) (.int 1)))) (.cons (.pack [10]) (.cons (.for_ (.name 10) (.val (.ife (.cmp .isin (.sub (.var 8) (.int 0)) (.glb "SUMS")) (.srs (.slcF (.var 8) (.int 1))) (.ofl (.dis .nil)))) l_raw_registers_0) (.cons (.ife (.cmp .gt (.blt .len (.cons (.var 4) .nil)) (.int 0)) (.cons (.set 4 (.blt .sorted (.cons (.var 4) .nil))) (.cons (.asgs [(.sub (.var 3) (.var 7)), (.name 4)] (.tup (.cons (.sub (.var 4) (.int 0)) (.cons (.slcF (.var 4) (.int 1)) .nil)))) .nil)) (.cons (.asgs [(.sub (.var 3) (.var 7)), (.name 5)] (.tup (.cons (.var 5) (.cons (.bin .add (.var 5) (.int 1)) .nil)))) .nil)) (.cons (.expr (.meth (.var 6) .append (.cons (.bin .add (.tup (.cons (.sub (.var 8) (.int 0)) (.cons (.sub (.var 3) (.var 7)) .nil))) (.var 9)) .nil))) (.cons (.ife (.cmp .nin (.var 7) (.var 2)) (.cons (.expr (.meth (.var 4) .append (.cons (.sub (.var 3) (.var 7)) .nil))) .nil) .nil) (.cons (.pack [7, 8, 9, 10]) .nil)))))))
def b_raw_registers : Ev.SS := (.cons (.asgs [(.name 2), (.name 3), (.name 4), (.name 5), (.name 6)] (.tup (.cons (.call "last_uses" (.cons (.var 0) (.cons (.var 1) .nil))) (.cons .dk0 (.cons (.ofl (.dis .nil)) (.cons (.int 0) (.cons (.ofl (.dis .nil)) .nil))))))) (.cons (.pack [7, 8, 9, 10]) (.cons (.for_ (.tup (.cons (.name 7) (.cons (.name 8) .nil))) (.enm (.var 0)) l_raw_registers_1) (.cons (.ret (.tup (.cons (.blt .tuple (.cons (.var 6) .nil)) (.cons (.bll .tuple (.comp [("one", 10)] (.name 10) (.val (.var 1)) .nil (.sub (.var 3) (.var 10)))) (.cons (.var 5) .nil))))) .nil))))
def t_raw_registers : Tx := ⟨⟨("raw_registers", none), "raw_registers", "raw_registers", defArgs (top 37), defBody (top 37), defScope (top 37), [], []⟩, ⟨2, 11, b_raw_registers⟩, ["rows", "left", "last", "places", "free", "many", "found", "number", "row", "sources", "one"], ["rows", "left"]⟩
def b_registers : Ev.SS := (.cons (.expr (.call "check_straight" (.cons (.var 0) .nil))) (.cons (.asgs [(.name 1), (.name 2)] (.call "used_values" (.cons (.call "raw_values" (.cons (.var 0) .nil)) .nil))) (.cons (.ret (.call "raw_registers" (.cons (.var 1) (.cons (.var 2) .nil)))) .nil)))
def t_registers : Tx := ⟨⟨("registers", none), "registers", "registers", defArgs (top 38), defBody (top 38), defScope (top 38), [], []⟩, ⟨1, 3, b_registers⟩, ["program", "rows", "left"], ["program"]⟩
def b_repeats_many : Ev.SS := (.cons (.expr (.call "check_straight" (.cons (.var 0) .nil))) (.cons (.set 1 (.bll .len (.comp [("item", 2)] (.name 2) (.val (.var 0)) (.cons (.bop true (.cons (.blt .isi (.cons (.var 2) (.cons (.bty "str") .nil))) (.cons (.cmp .isin (.var 2) (.glb "SUMS")) .nil))) .nil) (.var 2)))) (.cons (.ret (.bin .sub (.var 1) (.bll .len (.comp [("row", 3)] (.name 3) (.val (.sub (.call "raw_values" (.cons (.var 0) .nil)) (.int 0))) (.cons (.cmp .isin (.sub (.var 3) (.int 0)) (.glb "SUMS")) .nil) (.var 3))))) .nil)))
def t_repeats_many : Tx := ⟨⟨("repeats_many", none), "repeats_many", "repeats_many", defArgs (top 39), defBody (top 39), defScope (top 39), [], []⟩, ⟨1, 4, b_repeats_many⟩, ["program", "ops", "item", "row"], ["program"]⟩
def b__law_bag : Ev.SS := (.cons (.set 1 (.ofl (.comp [("cell", 2)] (.name 2) (.val (.slcT (.var 0) (.int 63))) .nil (.bin .mod (.blt .int (.cons (.blt .abs (.cons (.blt .int (.cons (.var 2) .nil)) .nil)) .nil)) (.bin .pow (.int 10) (.int 36)))))) (.cons (.ret (.ofl (.dis (.cons (.var 1) (.cons (.int 0) (.cons (.int 0) (.cons (.bin .add (.int 7507) (.bin .mul (.int 5) (.blt .len (.cons (.var 1) .nil)))) (.cons (.int 0) .nil)))))))) .nil))
def t__law_bag : Tx := ⟨⟨("_law_bag", none), "_law_bag", "_law_bag", defArgs (top 41), defBody (top 41), defScope (top 41), [], []⟩, ⟨1, 3, b__law_bag⟩, ["script", "cells", "cell"], ["script"]⟩
def b__law_pick : Ev.SS := (.cons (.ife (.bop true (.cons (.cmp .eq (.sub (.var 0) (.int 2)) (.int 0)) (.cons (.cmp .lt (.sub (.var 0) (.int 1)) (.blt .len (.cons (.sub (.var 0) (.int 0)) .nil))) .nil))) (.cons (.set 2 (.sub (.sub (.var 0) (.int 0)) (.sub (.var 0) (.int 1)))) (.cons (.asg (.sub (.var 0) (.int 1)) (.bin .add (.sub (.var 0) (.int 1)) (.int 1))) (.cons (.asg (.sub (.var 0) (.int 3)) (.bin .mod (.blt .int (.cons (.bin .add (.bin .add (.bin .mul (.sub (.var 0) (.int 3)) (.int 69621)) (.bin .mul (.var 2) (.int 40692))) (.int 37)) .nil)) (.int 2147483629))) (.cons (.ife (.cmp .ge (.var 2) (.bin .pow (.int 10) (.int 18))) (.cons (.asg (.sub (.var 0) (.int 2)) (.var 2)) .nil) .nil) .nil)))) .nil) (.cons (.ife (.cmp .gt (.sub (.var 0) (.int 2)) (.int 0)) (.cons (.set 3 (.bin .mod (.blt .int (.cons (.sub (.var 0) (.int 2)) .nil)) (.var 1))) (.cons (.asg (.sub (.var 0) (.int 2)) (.bin .fdiv (.sub (.var 0) (.int 2)) (.var 1))) (.cons (.ret (.var 3)) .nil))) .nil) (.cons (.asg (.sub (.var 0) (.int 4)) (.bin .add (.sub (.var 0) (.int 4)) (.int 1))) (.cons (.set 4 (.bin .mod (.blt .int (.cons (.bin .mul (.blt .int (.cons (.bin .add (.sub (.var 0) (.int 3)) (.bin .mul (.int 7919) (.sub (.var 0) (.int 4)))) .nil)) (.int 48271)) .nil)) (.int 2147483647))) (.cons (.set 4 (.bin .mod (.blt .int (.cons (.bin .mul (.var 4) (.bin .add (.bin .fdiv (.var 4) (.int 1009)) (.int 69621))) .nil)) (.int 2147483647))) (.cons (.set 4 (.bin .mod (.blt .int (.cons (.bin .mul (.var 4) (.bin .add (.bin .fdiv (.var 4) (.int 2003)) (.int 40014))) .nil)) (.int 2147483563))) (.cons (.ret (.bin .mod (.blt .int (.cons (.bin .fdiv (.var 4) (.int 16)) .nil)) (.var 1))) .nil)))))))
def t__law_pick : Tx := ⟨⟨("_law_pick", none), "_law_pick", "_law_pick", defArgs (top 42), defBody (top 42), defScope (top 42), [], []⟩, ⟨2, 5, b__law_pick⟩, ["bag", "width", "cell", "digit", "number"], ["bag", "width"]⟩
def b__law_some : Ev.SS := (.cons (.ret (.sub (.var 1) (.call "_law_pick" (.cons (.var 0) (.cons (.blt .len (.cons (.var 1) .nil)) .nil))))) .nil)
def t__law_some : Tx := ⟨⟨("_law_some", none), "_law_some", "_law_some", defArgs (top 43), defBody (top 43), defScope (top 43), [], []⟩, ⟨2, 2, b__law_some⟩, ["bag", "things"], ["bag", "things"]⟩
def b__law_needs : Ev.SS := (.cons (.set 0 (.dsp ["dup", "drop", "swap", "over", "rot", "nip"] (.cons (.tup (.cons (.int 1) (.cons (.int 2) .nil))) (.cons (.tup (.cons (.int 1) (.cons (.int 0) .nil))) (.cons (.tup (.cons (.int 2) (.cons (.int 2) .nil))) (.cons (.tup (.cons (.int 2) (.cons (.int 3) .nil))) (.cons (.tup (.cons (.int 3) (.cons (.int 3) .nil))) (.cons (.tup (.cons (.int 2) (.cons (.int 1) .nil))) .nil)))))))) (.cons (.expr (.meth (.var 0) .update (.cons (.dsp ["tuck", "add", "sub", "neg", "mul"] (.cons (.tup (.cons (.int 2) (.cons (.int 3) .nil))) (.cons (.tup (.cons (.int 2) (.cons (.int 1) .nil))) (.cons (.tup (.cons (.int 2) (.cons (.int 1) .nil))) (.cons (.tup (.cons (.int 1) (.cons (.int 1) .nil))) (.cons (.tup (.cons (.int 2) (.cons (.int 1) .nil))) .nil)))))) .nil))) (.cons (.ret (.var 0)) .nil)))
def t__law_needs : Tx := ⟨⟨("_law_needs", none), "_law_needs", "_law_needs", defArgs (top 44), defBody (top 44), defScope (top 44), [], []⟩, ⟨0, 1, b__law_needs⟩, ["found"], []⟩
def l__law_straight_0 : Ev.SS := (.cons (.set 6 (.call "_law_some" (.cons (.var 0) (.cons (.bin .add (.var 3) (.ofl (.dis (.cons (.str "add") (.cons (.str "sub") (.cons (.bin .sub (.call "_law_pick" (.cons (.var 0) (.cons (.int 7) .nil))) (.int 3)) (.cons (.int 2) .nil))))))) .nil)))) (.cons (.ife (.bop false (.cons (.cmp .ne (.var 6) (.str "mul")) (.cons (.cmp .lt (.var 4) (.int 5)) .nil))) (.cons (.expr (.meth (.var 2) .append (.cons (.var 6) .nil))) .nil) .nil) (.cons (.set 4 (.bin .add (.var 4) (.blt .int (.cons (.cmp .eq (.var 6) (.str "mul")) .nil)))) .nil)))
def b__law_straight : Ev.SS := (.cons (.par [2, 3, 4] (.cons (.ofl (.dis .nil)) (.cons (.blt .sorted (.cons (.call "_law_needs" .nil) .nil)) (.cons (.int 0) .nil)))) (.cons (.for_ (.name 5) (.rng1 (.call "_law_pick" (.cons (.var 0) (.cons (.bin .add (.var 1) (.int 1)) .nil)))) l__law_straight_0) (.cons (.ret (.blt .tuple (.cons (.var 2) .nil))) .nil)))
def t__law_straight : Tx := ⟨⟨("_law_straight", none), "_law_straight", "_law_straight", defArgs (top 45), defBody (top 45), defScope (top 45), [], []⟩, ⟨2, 7, b__law_straight⟩, ["bag", "most", "items", "words", "muls", "turn", "word"], ["bag", "most"]⟩
def b__law_orders : Ev.SS := (.cons (.set 0 (.dsp ["dup", "drop", "swap", "over", "rot", "nip"] (.cons (.tup (.cons (.int 0) (.cons (.int 0) .nil))) (.cons (.tup .nil) (.cons (.tup (.cons (.int 1) (.cons (.int 0) .nil))) (.cons (.tup (.cons (.int 0) (.cons (.int 1) (.cons (.int 0) .nil)))) (.cons (.tup (.cons (.int 1) (.cons (.int 2) (.cons (.int 0) .nil)))) (.cons (.tup (.cons (.int 1) .nil)) .nil)))))))) (.cons (.asg (.sub (.var 0) (.str "tuck")) (.tup (.cons (.int 1) (.cons (.int 0) (.cons (.int 1) .nil))))) (.cons (.ret (.var 0)) .nil)))
def t__law_orders : Tx := ⟨⟨("_law_orders", none), "_law_orders", "_law_orders", defArgs (top 46), defBody (top 46), defScope (top 46), [], []⟩, ⟨0, 1, b__law_orders⟩, ["found"], []⟩
def l__law_wants_0 : Ev.SS := (.cons (.ife (.blt .isi (.cons (.var 3) (.cons (.bty "str") .nil))) (.cons (.asgs [(.name 4), (.name 5)] (.sub (.call "_law_needs" .nil) (.var 3))) (.cons (.par [2, 1] (.cons (.bin .add (.var 2) (.blt .max (.cons (.int 0) (.cons (.bin .sub (.var 4) (.var 1)) .nil)))) (.cons (.bin .add (.bin .sub (.blt .max (.cons (.var 1) (.cons (.var 4) .nil))) (.var 4)) (.var 5)) .nil))) .nil)) (.cons (.set 1 (.bin .add (.var 1) (.int 1))) .nil)) .nil)
def b__law_wants : Ev.SS := (.cons (.asgs [(.name 1), (.name 2)] (.tup (.cons (.int 0) (.cons (.int 0) .nil)))) (.cons (.for_ (.name 3) (.val (.var 0)) l__law_wants_0) (.cons (.ret (.var 2)) .nil)))
def t__law_wants : Tx := ⟨⟨("_law_wants", none), "_law_wants", "_law_wants", defArgs (top 47), defBody (top 47), defScope (top 47), [], []⟩, ⟨1, 6, b__law_wants⟩, ["program", "there", "wants", "item", "takes", "leaves"], ["program"]⟩
def l__law_values_0 : Ev.SS := (.cons (.set 6 (.tup (.cons (.str "int") (.cons (.var 5) .nil)))) (.cons (.ife (.blt .isi (.cons (.var 5) (.cons (.bty "str") .nil))) (.cons (.set 7 (.sub (.sub (.call "_law_needs" .nil) (.var 5)) (.int 0))) (.cons (.set 8 (.blt .tuple (.cons (.slcF (.var 3) (.bin .sub (.blt .len (.cons (.var 3) .nil)) (.var 7))) .nil))) (.cons (.set 3 (.slcT (.var 3) (.bin .sub (.blt .len (.cons (.var 3) .nil)) (.var 7)))) (.cons (.ife (.cmp .isin (.var 5) (.call "_law_orders" .nil)) (.cons (.expr (.meth (.var 3) .extend (.cons (.ofl (.comp [("at", 9)] (.name 9) (.val (.sub (.call "_law_orders" .nil) (.var 5))) .nil (.sub (.var 8) (.var 9)))) .nil))) (.cons .cont .nil)) .nil) (.cons (.set 6 (.bin .add (.tup (.cons (.var 5) .nil)) (.ife (.cmp .isin (.var 5) (.tup (.cons (.str "add") (.cons (.str "mul") .nil)))) (.blt .tuple (.cons (.blt .sorted (.cons (.var 8) .nil)) .nil)) (.var 8)))) .nil))))) .nil) (.cons (.ife (.cmp .nin (.var 6) (.var 2)) (.cons (.expr (.meth (.var 2) .append (.cons (.var 6) .nil))) .nil) .nil) (.cons (.expr (.meth (.var 3) .append (.cons (.meth (.var 2) .index (.cons (.var 6) .nil)) .nil))) .nil))))
def b__law_values : Ev.SS := (.cons (.set 1 (.call "_law_wants" (.cons (.var 0) .nil))) (.cons (.par [2, 3] (.cons (.ofl (.comp [("number", 4)] (.name 4) (.rng1 (.var 1)) .nil (.tup (.cons (.str "in") (.cons (.var 4) .nil))))) (.cons (.lrg (.var 1)) .nil))) (.cons (.for_ (.name 5) (.val (.var 0)) l__law_values_0) (.cons (.ret (.tup (.cons (.blt .tuple (.cons (.var 2) .nil)) (.cons (.blt .tuple (.cons (.var 3) .nil)) .nil)))) .nil))))
def t__law_values : Tx := ⟨⟨("_law_values", none), "_law_values", "_law_values", defArgs (top 48), defBody (top 48), defScope (top 48), [], []⟩, ⟨1, 10, b__law_values⟩, ["program", "wants", "rows", "pile", "number", "item", "row", "takes", "taken", "at"], ["program"]⟩
def l__law_done_0 : Ev.SS := (.cons (.ife (.nt (.blt .isi (.cons (.var 3) (.cons (.bty "str") .nil)))) (.cons (.expr (.meth (.var 2) .append (.cons (.var 3) .nil))) (.cons .cont .nil)) .nil) (.cons (.set 4 (.sub (.sub (.call "_law_needs" .nil) (.var 3)) (.int 0))) (.cons (.set 5 (.slcF (.var 2) (.bin .sub (.blt .len (.cons (.var 2) .nil)) (.var 4)))) (.cons (.set 2 (.slcT (.var 2) (.bin .sub (.blt .len (.cons (.var 2) .nil)) (.var 4)))) (.cons (.ife (.cmp .isin (.var 3) (.call "_law_orders" .nil)) (.cons (.expr (.meth (.var 2) .extend (.cons (.ofl (.comp [("at", 6)] (.name 6) (.val (.sub (.call "_law_orders" .nil) (.var 3))) .nil (.sub (.var 5) (.var 6)))) .nil))) .nil) (.cons (.ife (.cmp .eq (.var 3) (.str "neg")) (.cons (.expr (.meth (.var 2) .append (.cons (.neg (.sub (.var 5) (.int 0))) .nil))) .nil) (.cons (.asgs [(.name 7), (.name 8)] (.var 5)) (.cons (.expr (.meth (.var 2) .append (.cons (.sub (.dsp ["add", "sub", "mul"] (.cons (.bin .add (.var 7) (.var 8)) (.cons (.bin .sub (.var 7) (.var 8)) (.cons (.bin .mul (.var 7) (.var 8)) .nil)))) (.var 3)) .nil))) .nil))) .nil)) .nil)))))
def b__law_done : Ev.SS := (.cons (.set 2 (.blt .list (.cons (.var 1) .nil))) (.cons (.for_ (.name 3) (.val (.var 0)) l__law_done_0) (.cons (.ret (.blt .tuple (.cons (.var 2) .nil))) .nil)))
def t__law_done : Tx := ⟨⟨("_law_done", none), "_law_done", "_law_done", defArgs (top 49), defBody (top 49), defScope (top 49), [], []⟩, ⟨2, 9, b__law_done⟩, ["program", "pile", "there", "item", "takes", "taken", "at", "x", "y"], ["program", "pile"]⟩
def t__law_word_of : Tx := ⟨⟨("_law_word_of", none), "_law_word_of", "_law_word_of", defArgs (top 50), defBody (top 50), defScope (top 50), [], []⟩, ⟨1, 1, .nil⟩, ["ask"], ["ask"]⟩
def b__law_spoiled : Ev.SS := (.cons (.asgs [(.name 2), (.name 3)] (.var 1)) (.cons (.set 4 (.ofl (.dis (.cons .non (.cons (.tup .nil) (.cons (.blt .list (.cons (.var 1) .nil)) (.cons (.tup (.cons (.blt .list (.cons (.var 2) .nil)) (.cons (.var 3) .nil))) (.cons (.tup (.cons (.var 2) (.cons (.blt .list (.cons (.var 3) .nil)) .nil))) (.cons (.var 2) (.cons (.tup (.cons (.var 2) (.cons (.var 3) (.cons (.int 0) .nil)))) .nil)))))))))) (.cons (.set 4 (.bin .add (.var 4) (.ofl (.dis (.cons (.tup (.cons (.var 2) (.cons (.bin .add (.var 3) (.tup (.cons (.blt .len (.cons (.var 2) .nil)) .nil))) .nil))) (.cons (.tup (.cons (.var 2) (.cons (.bin .add (.var 3) (.tup (.cons (.neg (.int 1)) .nil))) .nil))) (.cons (.tup (.cons (.var 2) (.cons (.tup (.cons (.bl true) .nil)) .nil))) (.cons (.tup (.cons (.bin .add (.var 2) (.tup (.cons (.str "neg") .nil))) (.cons (.var 3) .nil))) .nil)))))))) (.cons (.set 5 (.ofl (.dis (.cons (.tup (.cons (.str "out") (.cons (.int 0) .nil))) (.cons (.tup (.cons (.str "neg") (.cons (.blt .len (.cons (.var 2) .nil)) .nil))) (.cons (.tup (.cons (.str "add") (.cons (.int 0) .nil))) (.cons (.tup (.cons (.str "neg") (.cons (.tup (.cons (.int 0) .nil)) .nil))) (.cons (.tup (.cons (.str "neg") (.cons (.bl true) .nil))) (.cons (.tup (.cons (.str "int") (.cons (.bl true) .nil))) (.cons (.tup (.cons (.str "int") (.cons (.str "1") .nil))) .nil)))))))))) (.cons (.set 4 (.bin .add (.var 4) (.ofl (.comp [("row", 6)] (.name 6) (.val (.var 5)) .nil (.tup (.cons (.bin .add (.var 2) (.tup (.cons (.var 6) .nil))) (.cons (.var 3) .nil))))))) (.cons (.ret (.call "_law_some" (.cons (.var 0) (.cons (.bin .add (.var 4) (.ofl (.dis (.cons (.tup (.cons (.bin .add (.var 2) (.tup (.cons (.tup (.cons (.str "in") (.cons (.int 0) .nil))) (.cons (.tup (.cons (.str "in") (.cons (.int 0) .nil))) .nil)))) (.cons (.var 3) .nil))) .nil)))) .nil)))) .nil))))))
def t__law_spoiled : Tx := ⟨⟨("_law_spoiled", none), "_law_spoiled", "_law_spoiled", defArgs (top 51), defBody (top 51), defScope (top 51), [], []⟩, ⟨2, 7, b__law_spoiled⟩, ["bag", "values", "rows", "left", "some", "more", "row"], ["bag", "values"]⟩
def l_law_0 : Ev.SS := (.cons (.set 5 (.call "_law_spoiled" (.cons (.var 1) (.cons (.var 3) .nil)))) (.cons (.ife (.bop false (.cons (.cmp .isn (.call "are_values" (.cons (.var 5) .nil)) (.bl false)) (.cons (.cmp .ne (.lamw "_law_word_of" (.call "used_values" (.cons (.var 5) .nil))) (.str "values")) .nil))) (.cons (.ret (.bl false)) .nil) .nil) (.cons (.ife (.cmp .ne (.lamw "_law_word_of" (.call "run_values" (.cons (.var 5) (.cons .non .nil)))) (.str "values")) (.cons (.ret (.bl false)) .nil) .nil) .nil)))
def b_law : Ev.SS := (.cons (.set 1 (.call "_law_bag" (.cons (.var 0) .nil))) (.cons (.ife (.cmp .isn (.call "are_values" (.cons (.tup (.cons (.tup (.cons (.tup (.cons (.str "in") (.cons (.int 0) .nil))) (.cons (.tup (.cons (.str "neg") (.cons (.int 0) .nil))) .nil))) (.cons (.tup (.cons (.int 1) .nil)) .nil))) .nil)) (.bl true)) (.cons (.ret (.bl false)) .nil) .nil) (.cons (.ife (.cmp .isn (.call "are_values" (.cons (.tup (.cons (.tup (.cons (.tup (.cons (.str "neg") (.cons (.int 0) .nil))) (.cons (.tup (.cons (.str "in") (.cons (.int 0) .nil))) .nil))) (.cons (.tup (.cons (.int 1) .nil)) .nil))) .nil)) (.bl false)) (.cons (.ret (.bl false)) .nil) .nil) (.cons (.set 2 (.bin .add (.call "_law_straight" (.cons (.var 1) (.cons (.int 15) .nil))) (.tup (.cons (.int 2) .nil)))) (.cons (.set 3 (.call "values_of" (.cons (.var 2) .nil))) (.cons (.ife (.bop false (.cons (.cmp .isn (.call "are_values" (.cons (.var 3) .nil)) (.bl true)) (.cons (.cmp .isn (.call "are_values" (.cons (.call "used_values" (.cons (.var 3) .nil)) .nil)) (.bl true)) .nil))) (.cons (.ret (.bl false)) .nil) .nil) (.cons (.for_ (.name 4) (.rng1 (.int 4)) l_law_0) (.cons (.set 6 (.call "_law_wants" (.cons (.var 2) .nil))) (.cons (.set 7 (.call "_law_some" (.cons (.var 1) (.cons (.ofl (.dis (.cons .non (.cons (.bin .mul (.ofl (.dis (.cons (.int 1) .nil))) (.var 6)) (.cons (.bin .mul (.tup (.cons (.bl true) .nil)) (.blt .max (.cons (.int 1) (.cons (.var 6) .nil)))) (.cons (.bin .mul (.tup (.cons (.str "1") .nil)) (.blt .max (.cons (.int 1) (.cons (.var 6) .nil)))) (.cons (.bin .mul (.tup (.cons (.tup .nil) .nil)) (.bin .add (.var 6) (.int 1))) .nil))))))) .nil)))) (.cons (.ife (.cmp .ne (.lamw "_law_word_of" (.call "run_values" (.cons (.var 3) (.cons (.var 7) .nil)))) (.str "pile")) (.cons (.ret (.bl false)) .nil) .nil) (.cons (.ife (.bop true (.cons (.cmp .gt (.var 6) (.int 0)) (.cons (.cmp .ne (.lamw "_law_word_of" (.call "run_values" (.cons (.var 3) (.cons (.bin .mul (.tup (.cons (.int 3) .nil)) (.bin .sub (.var 6) (.int 1))) .nil)))) (.str "pile")) .nil))) (.cons (.ret (.bl false)) .nil) .nil) (.cons (.set 8 (.call "_law_some" (.cons (.var 1) (.cons (.ofl (.dis (.cons (.tup (.cons (.bl true) .nil)) (.cons (.tup (.cons (.str "call") .nil)) (.cons (.bin .mul (.tup (.cons (.str "mul") .nil)) (.int 7)) (.cons (.bin .mul (.tup (.cons (.int 1) .nil)) (.int 61)) (.cons (.tup (.cons (.str "zz") .nil)) (.cons (.tup (.cons (.tup (.cons (.str "quote") (.cons (.tup .nil) .nil))) .nil)) .nil)))))))) .nil)))) (.cons (.ife (.cmp .ne (.lamw "_law_word_of" (.call "values_of" (.cons (.var 8) .nil))) (.str "straight")) (.cons (.ret (.bl false)) .nil) .nil) (.cons (.ife (.cmp .ne (.lamw "_law_word_of" (.call "repeats_many" (.cons (.var 8) .nil))) (.str "straight")) (.cons (.ret (.bl false)) .nil) .nil) (.cons (.ret (.cmp .eq (.lamw "_law_word_of" (.call "registers" (.cons (.var 8) .nil))) (.str "straight"))) .nil)))))))))))))))
def t_law : Tx := ⟨⟨("law", none), "law", "law", defArgs (top 52), defBody (top 52), defScope (top 52), [], []⟩, ⟨1, 10, b_law⟩, ["script", "bag", "program", "values", "lap", "odd", "many", "pile", "none", "<lambda>"], ["script"]⟩
def b_Values___init__ : Ev.SS := (.cons (.fst (.var 0) "rows" (.ofl (.comp [("at", 2)] (.name 2) (.rng1 (.var 1)) .nil (.tup (.cons (.str "in") (.cons (.var 2) .nil)))))) (.cons (.fst (.var 0) "numbers" (.dcp true [("at", 2), ("row", 3)] (.tup (.cons (.name 2) (.cons (.name 3) .nil))) (.enm (.fld (.var 0) "rows")) (.var 3) (.var 2))) .nil))
abbrev cm_Values___init__ : Stmt := (C8.clsBody (top 25)).getD 0 (.Pass ⟨0, 0, 0, 0⟩)
def t_Values___init__ : Tx := ⟨⟨("Values", some "__init__"), "__init__", "Values.__init__", defArgs cm_Values___init__, defBody cm_Values___init__, defScope cm_Values___init__, [], []⟩, ⟨2, 4, b_Values___init__⟩, ["self", "wide", "at", "row"], ["self", "wide"]⟩
def b_Values_value_number : Ev.SS := (.cons (.ife (.cmp .nin (.var 1) (.fld (.var 0) "numbers")) (.cons (.asg (.sub (.fld (.var 0) "numbers") (.var 1)) (.blt .len (.cons (.fld (.var 0) "rows") .nil))) (.cons (.expr (.meth (.fld (.var 0) "rows") .append (.cons (.var 1) .nil))) .nil)) .nil) (.cons (.ret (.sub (.fld (.var 0) "numbers") (.var 1))) .nil))
abbrev cm_Values_value_number : Stmt := (C8.clsBody (top 25)).getD 1 (.Pass ⟨0, 0, 0, 0⟩)
def t_Values_value_number : Tx := ⟨⟨("Values", some "value_number"), "value_number", "Values.value_number", defArgs cm_Values_value_number, defBody cm_Values_value_number, defScope cm_Values_value_number, [], []⟩, ⟨2, 2, b_Values_value_number⟩, ["self", "row"], ["self", "row"]⟩
def b_Values_whole : Ev.SS := (.cons (.ret (.meth (.var 0) (.own "value_number") (.cons (.tup (.cons (.str "int") (.cons (.var 1) .nil))) .nil))) .nil)
abbrev cm_Values_whole : Stmt := (C8.clsBody (top 25)).getD 2 (.Pass ⟨0, 0, 0, 0⟩)
def t_Values_whole : Tx := ⟨⟨("Values", some "whole"), "whole", "Values.whole", defArgs cm_Values_whole, defBody cm_Values_whole, defScope cm_Values_whole, [], []⟩, ⟨2, 2, b_Values_whole⟩, ["self", "number"], ["self", "number"]⟩
def b_Values_told : Ev.SS := (.cons (.set 3 (.ife (.cmp .isin (.var 1) (.glb "SAME")) (.blt .tuple (.cons (.blt .sorted (.cons (.var 2) .nil)) .nil)) (.blt .tuple (.cons (.var 2) .nil)))) (.cons (.ret (.meth (.var 0) (.own "value_number") (.cons (.bin .add (.tup (.cons (.var 1) .nil)) (.var 3)) .nil))) .nil))
abbrev cm_Values_told : Stmt := (C8.clsBody (top 25)).getD 3 (.Pass ⟨0, 0, 0, 0⟩)
def t_Values_told : Tx := ⟨⟨("Values", some "told"), "told", "Values.told", defArgs cm_Values_told, defBody cm_Values_told, defScope cm_Values_told, [], []⟩, ⟨3, 4, b_Values_told⟩, ["self", "word", "args", "parts"], ["self", "word", "args"]⟩
def md : Md where
  fs := [("is_integer", t_is_integer), ("is_within", t_is_within), ("is_straight_item", t_is_straight_item), ("is_straight", t_is_straight), ("check_straight", t_check_straight), ("takes_of", t_takes_of), ("raw_wants", t_raw_wants), ("straight_pile", t_straight_pile), ("sum_told", t_sum_told), ("raw_values", t_raw_values), ("values_of", t_values_of), ("is_value_row", t_is_value_row), ("are_values", t_are_values), ("check_values", t_check_values), ("wide_of", t_wide_of), ("check_integers", t_check_integers), ("run_values", t_run_values), ("used_rows", t_used_rows), ("used_values", t_used_values), ("last_uses", t_last_uses), ("raw_registers", t_raw_registers), ("registers", t_registers), ("repeats_many", t_repeats_many), ("_law_bag", t__law_bag), ("_law_pick", t__law_pick), ("_law_some", t__law_some), ("_law_needs", t__law_needs), ("_law_straight", t__law_straight), ("_law_orders", t__law_orders), ("_law_wants", t__law_wants), ("_law_values", t__law_values), ("_law_done", t__law_done), ("_law_spoiled", t__law_spoiled), ("law", t_law)]
  gl := [("MOST_INTEGER", .int (1000000000000000000)), ("MOST_ITEMS", .int 60), ("MOST_PRODUCTS", .int 6), ("SUMS", .ktup [.str "add", .str "sub", .str "mul", .str "neg"]), ("MOST_VALUES", .int 200), ("SAME", .ktup [.str "add", .str "mul"])]
  bt := ["int", "bool", "str", "tuple", "list", "dict"]
  ms := [("Values", [("__init__", t_Values___init__), ("value_number", t_Values_value_number), ("whole", t_Values_whole), ("told", t_Values_told)])]
  fl := [("Values", ["rows", "numbers"])]
  tb := [("MANY", (["dup", "drop", "swap", "over", "rot", "nip", "tuck", "add", "sub", "mul", "div", "neg", "less", "same", "and", "or", "not", "nil", "cons", "call", "dip", "if", "case", "times", "each", "while", "hold", "join", "say"], [.str "a", .str "a", .str "aa", .str "aa", .str "aaa", .str "aa", .str "aa", .str "ii", .str "ii", .str "ii", .str "ii", .str "i", .str "ii", .str "ii", .str "ff", .str "ff", .str "f", .str "", .str "al", .str "q", .str "aq", .str "fqq", .str "lqq", .str "iq", .str "lq", .str "qq", .str "aq", .str "qq", .str "a"])), ("SHUFFLES", (["dup", "drop", "swap", "over", "rot", "nip", "tuck"], [.ktup [.int 0, .int 0], .ktup [], .ktup [.int 1, .int 0], .ktup [.int 0, .int 1, .int 0], .ktup [.int 1, .int 2, .int 0], .ktup [.int 1], .ktup [.int 1, .int 0, .int 1]]))]
  bm := [("Values", "told"), ("Values", "whole")]
  gd := false
  lam := true
  xc := ["NoStraight", "NoValues", "NoPile"]
  wr := [("_law_word_of", ⟨t__law_word_of, "ask", [("NoValues", "values"), ("NoPile", "pile"), ("NoStraight", "straight")], "told"⟩)]
theorem md_binds : md.binds := by
  refine ⟨⟨fun p hp => ?_, fun p hp => ?_⟩, fun p hp => ?_⟩
  · simp only [md, List.mem_cons, List.not_mem_nil, or_false] at hp
    rcases hp with rfl | rfl | rfl | rfl | rfl | rfl | rfl | rfl | rfl | rfl | rfl | rfl | rfl | rfl | rfl | rfl | rfl | rfl | rfl | rfl | rfl | rfl | rfl | rfl | rfl | rfl | rfl | rfl | rfl | rfl | rfl | rfl | rfl | rfl
    · exact fun _ _ _ _ _ _ us hl => match us, hl with | [_], _ => rfl
    · exact fun _ _ _ _ _ _ us hl => match us, hl with | [_, _, _], _ => rfl
    · exact fun _ _ _ _ _ _ us hl => match us, hl with | [_], _ => rfl
    · exact fun _ _ _ _ _ _ us hl => match us, hl with | [_], _ => rfl
    · exact fun _ _ _ _ _ _ us hl => match us, hl with | [_], _ => rfl
    · exact fun _ _ _ _ _ _ us hl => match us, hl with | [_], _ => rfl
    · exact fun _ _ _ _ _ _ us hl => match us, hl with | [_], _ => rfl
    · exact fun _ _ _ _ _ _ us hl => match us, hl with | [_, _, _, _], _ => rfl
    · exact fun _ _ _ _ _ _ us hl => match us, hl with | [_, _], _ => rfl
    · exact fun _ _ _ _ _ _ us hl => match us, hl with | [_], _ => rfl
    · exact fun _ _ _ _ _ _ us hl => match us, hl with | [_], _ => rfl
    · exact fun _ _ _ _ _ _ us hl => match us, hl with | [_, _], _ => rfl
    · exact fun _ _ _ _ _ _ us hl => match us, hl with | [_], _ => rfl
    · exact fun _ _ _ _ _ _ us hl => match us, hl with | [_], _ => rfl
    · exact fun _ _ _ _ _ _ us hl => match us, hl with | [_], _ => rfl
    · exact fun _ _ _ _ _ _ us hl => match us, hl with | [_, _], _ => rfl
    · exact fun _ _ _ _ _ _ us hl => match us, hl with | [_, _], _ => rfl
    · exact fun _ _ _ _ _ _ us hl => match us, hl with | [_, _], _ => rfl
    · exact fun _ _ _ _ _ _ us hl => match us, hl with | [_], _ => rfl
    · exact fun _ _ _ _ _ _ us hl => match us, hl with | [_, _], _ => rfl
    · exact fun _ _ _ _ _ _ us hl => match us, hl with | [_, _], _ => rfl
    · exact fun _ _ _ _ _ _ us hl => match us, hl with | [_], _ => rfl
    · exact fun _ _ _ _ _ _ us hl => match us, hl with | [_], _ => rfl
    · exact fun _ _ _ _ _ _ us hl => match us, hl with | [_], _ => rfl
    · exact fun _ _ _ _ _ _ us hl => match us, hl with | [_, _], _ => rfl
    · exact fun _ _ _ _ _ _ us hl => match us, hl with | [_, _], _ => rfl
    · exact fun _ _ _ _ _ _ us hl => match us, hl with | [], _ => rfl
    · exact fun _ _ _ _ _ _ us hl => match us, hl with | [_, _], _ => rfl
    · exact fun _ _ _ _ _ _ us hl => match us, hl with | [], _ => rfl
    · exact fun _ _ _ _ _ _ us hl => match us, hl with | [_], _ => rfl
    · exact fun _ _ _ _ _ _ us hl => match us, hl with | [_], _ => rfl
    · exact fun _ _ _ _ _ _ us hl => match us, hl with | [_, _], _ => rfl
    · exact fun _ _ _ _ _ _ us hl => match us, hl with | [_, _], _ => rfl
    · exact fun _ _ _ _ _ _ us hl => match us, hl with | [_], _ => rfl
  · simp only [md, List.mem_cons, List.not_mem_nil, or_false] at hp
    rcases hp with rfl
    · intro q hq
      simp only [List.mem_cons, List.not_mem_nil, or_false] at hq
      rcases hq with rfl | rfl | rfl | rfl
      · exact fun _ _ _ _ _ _ us hl => match us, hl with | [_, _], _ => rfl
      · exact fun _ _ _ _ _ _ us hl => match us, hl with | [_, _], _ => rfl
      · exact fun _ _ _ _ _ _ us hl => match us, hl with | [_, _], _ => rfl
      · exact fun _ _ _ _ _ _ us hl => match us, hl with | [_, _, _], _ => rfl
  · simp only [md, List.mem_cons, List.not_mem_nil, or_false] at hp
    rcases hp with rfl
    · exact fun _ _ _ _ _ _ us hl => match us, hl with | [_], _ => rfl
theorem md_ok : md.ok = true := by decide +kernel
end K84
end

section
set_option Elab.async false
set_option linter.all false
set_option maxRecDepth 100000
set_option maxHeartbeats 1000000
set_option autoImplicit false
/-! K84p: straight programs, their values told once: the plain law. -/
namespace K84
inductive Wd where | dup | drop | swap | over | rot | nip | tuck | add | sub | neg | mul
  deriving DecidableEq
inductive It where | w (x : Wd) | n (i : Int)
  deriving DecidableEq
def Wd.takes : Wd → Nat
  | .dup => 1 | .drop => 1 | .swap => 2 | .over => 2 | .rot => 3 | .nip => 2 | .tuck => 2 | .add => 2 | .sub => 2 | .neg => 1 | .mul => 2
def Wd.shuf : Wd → Option (List Nat)
  | .dup => some [0, 0] | .drop => some [] | .swap => some [1, 0] | .over => some [0, 1, 0] | .rot => some [1, 2, 0] | .nip => some [1] | .tuck => some [1, 0, 1] | _ => none
def Wd.gives (x : Wd) : Nat := match x.shuf with
  | some l => l.length
  | none => 1
def It.takes : It → Nat
  | .w x => x.takes
  | .n _ => 0
def It.gives : It → Nat
  | .w x => x.gives
  | .n _ => 1
/-! ### how deep -/
def wst : List It → Nat → Nat → Nat × Nat
  | [], w, s => (w, s)
  | x :: p, w, s => wst p (w + (x.takes - s)) (max s x.takes - x.takes + x.gives)
def wants (p : List It) : Nat := (wst p 0 0).1
def stands (p : List It) : Nat := (wst p 0 0).2
def fits : List It → Nat → Prop
  | [], _ => True
  | x :: p, h => x.takes ≤ h ∧ fits p (h - x.takes + x.gives)
def height : List It → Nat → Nat
  | [], h => h
  | x :: p, h => height p (h - x.takes + x.gives)
theorem fits_wst : ∀ (p : List It) (w s : Nat), w ≤ (wst p w s).1 ∧ fits p (s + ((wst p w s).1 - w)) ∧ height p (s + ((wst p w s).1 - w)) = (wst p w s).2
  | [], w, s => by simp [wst, fits, height]
  | x :: p, w, s => by
    obtain ⟨h1, h2, h3⟩ := fits_wst p (w + (x.takes - s)) (max s x.takes - x.takes + x.gives)
    unfold wst fits height
    have e : s + ((wst p (w + (x.takes - s)) (max s x.takes - x.takes + x.gives)).1 - w) - x.takes + x.gives = max s x.takes - x.takes + x.gives + ((wst p (w + (x.takes - s)) (max s x.takes - x.takes + x.gives)).1 - (w + (x.takes - s))) := by omega
    rw [e]
    exact ⟨by omega, ⟨by omega, h2⟩, h3⟩
theorem fits_wants (p : List It) : fits p (wants p) := by
  have := (fits_wst p 0 0).2.1
  simpa [wants] using this
theorem height_wants (p : List It) : height p (wants p) = stands p := by
  have := (fits_wst p 0 0).2.2
  simpa [wants, stands] using this
/-! ### a pile worked off -/
structure Mc (α σ : Type) where
  made : Int → σ → α × σ
  told : Wd → List α → σ → α × σ
section
variable {α σ : Type} [Inhabited α] (M : Mc α σ)
/-- a pile behind an item -/
def step (x : It) (st : List α) (s : σ) : List α × σ := match x with
  | .n i => (st ++ [(M.made i s).1], (M.made i s).2)
  | .w x => match x.shuf with
    | some l => (st.take (st.length - x.takes) ++ l.map fun a => (st.drop (st.length - x.takes)).getD a default, s)
    | none => (st.take (st.length - x.takes) ++ [(M.told x (st.drop (st.length - x.takes)) s).1], (M.told x (st.drop (st.length - x.takes)) s).2)
def exec : List It → List α → σ → List α × σ
  | [], st, s => (st, s)
  | x :: p, st, s => exec p (step M x st s).1 (step M x st s).2
theorem step_len (x : It) (st : List α) (s : σ) (h : x.takes ≤ st.length) : (step M x st s).1.length = st.length - x.takes + x.gives := by
  cases x with
  | n i => simp [step, It.takes, It.gives]
  | w x => cases x <;> simp [step, It.takes, It.gives, Wd.takes, Wd.gives, Wd.shuf]
theorem exec_len : ∀ (p : List It) (st : List α) (s : σ), fits p st.length → (exec M p st s).1.length = height p st.length
  | [], _, _, _ => rfl
  | x :: p, st, s, h => by
    have e := step_len M x st s h.1
    unfold exec height
    rw [exec_len p _ _ (by rw [e]; exact h.2), e]
end
/-! ### integers -/
def arith : Wd → List Int → Int
  | .neg, [a] => -a
  | .add, [a, b] => a + b
  | .sub, [a, b] => a - b
  | .mul, [a, b] => a * b
  | _, _ => 0
def IM : Mc Int Unit := ⟨fun i s => (i, s), fun w as s => (arith w as, s)⟩
/-! ### values told once -/
inductive Row where
  | inn (k : Nat) | cst (i : Int) | one (w : Wd) (a : Nat) | two (w : Wd) (a b : Nat)
  deriving DecidableEq
def number (r : Row) (rows : List Row) : Nat × List Row := match rows.findIdx? fun q => decide (q = r) with
  | some i => (i, rows)
  | none => (rows.length, rows ++ [r])
def rowOf : Wd → List Nat → Row
  | .neg, [a] => .one .neg a
  | .add, [a, b] => .two .add (min a b) (max a b)
  | .mul, [a, b] => .two .mul (min a b) (max a b)
  | w, [a, b] => .two w a b
  | w, _ => .one w 0
def VM : Mc Nat (List Row) := ⟨fun i rows => number (.cst i) rows, fun w as rows => number (rowOf w as) rows⟩
def ins (n : Nat) : List Row := (List.range n).map .inn
def vals (p : List It) : List Nat × List Row := exec VM p (List.range (wants p)) (ins (wants p))
/-- what a row is worth, those ahead of it known -/
def Row.val (pile acc : List Int) : Row → Int
  | .inn k => pile.getD k 0
  | .cst i => i
  | .one w a => arith w [acc.getD a 0]
  | .two w a b => arith w [acc.getD a 0, acc.getD b 0]
def evs (pile : List Int) : List Row → List Int → List Int
  | [], acc => acc
  | r :: rows, acc => evs pile rows (acc ++ [r.val pile acc])
def ev (pile : List Int) (rows : List Row) : List Int := evs pile rows []
theorem evs_app (pile : List Int) : ∀ (r1 r2 : List Row) (acc : List Int), evs pile (r1 ++ r2) acc = evs pile r2 (evs pile r1 acc)
  | [], _, _ => rfl
  | r :: r1, r2, acc => evs_app pile r1 r2 _
theorem evs_pre (pile : List Int) : ∀ (rows : List Row) (acc : List Int), acc <+: evs pile rows acc
  | [], _ => List.prefix_refl _
  | r :: rows, acc => (List.prefix_append _ _).trans (evs_pre pile rows _)
theorem evs_len (pile : List Int) : ∀ (rows : List Row) (acc : List Int), (evs pile rows acc).length = acc.length + rows.length
  | [], _ => rfl
  | r :: rows, acc => by
    unfold evs
    rw [evs_len pile rows]
    simp
    omega
theorem ev_app (pile : List Int) (r1 r2 : List Row) : ev pile (r1 ++ r2) = evs pile r2 (ev pile r1) := evs_app pile r1 r2 []
theorem ev_len (pile : List Int) (rows : List Row) : (ev pile rows).length = rows.length := by
  unfold ev
  rw [evs_len]
  simp
/-- a row that names only rows ahead of it -/
def Row.low (n : Nat) : Row → Prop
  | .inn k => k = n
  | .cst _ => True
  | .one w a => w = .neg ∧ a < n
  | .two w a b => (w = .add ∨ w = .sub ∨ w = .mul) ∧ a < n ∧ b < n
def lows (rows : List Row) : Prop := ∀ (i : Nat) (r : Row), rows[i]? = some r → r.low i
theorem getD_pre {l m : List Int} (h : l <+: m) {i : Nat} (hi : i < l.length) : m.getD i 0 = l.getD i 0 := by
  obtain ⟨t, rfl⟩ := h
  rw [List.getD_eq_getElem?_getD, List.getD_eq_getElem?_getD, List.getElem?_append_left hi]
theorem Row.val_pre {pile acc acc' : List Int} {r : Row} (h : acc <+: acc') (hr : r.low acc.length) : r.val pile acc' = r.val pile acc := by
  cases r with
  | inn k => rfl
  | cst i => rfl
  | one w a => simp only [Row.val]; rw [getD_pre h hr.2]
  | two w a b => simp only [Row.val]; rw [getD_pre h hr.2.1, getD_pre h hr.2.2]
/-- the value at a row's number is the row's own -/
theorem ev_at (pile : List Int) {rows : List Row} (hl : lows rows) {i : Nat} {r : Row} (h : rows[i]? = some r) : (ev pile rows).getD i 0 = r.val pile (ev pile rows) := by
  obtain ⟨hi, e⟩ := List.getElem?_eq_some_iff.mp h
  have sp : rows = rows.take i ++ r :: rows.drop (i + 1) := by
    rw [← e, List.getElem_cons_drop, List.take_append_drop]
  have lo := hl i r h
  have tl : (rows.take i).length = i := by rw [List.length_take]; omega
  have e1 : ev pile rows = evs pile (rows.drop (i + 1)) (ev pile (rows.take i) ++ [r.val pile (ev pile (rows.take i))]) := by
    conv => lhs; rw [sp]
    rw [ev_app]
    rfl
  have p1 : ev pile (rows.take i) ++ [r.val pile (ev pile (rows.take i))] <+: ev pile rows := by
    rw [e1]
    exact evs_pre _ _ _
  have l1 : (ev pile (rows.take i)).length = i := by rw [ev_len, tl]
  rw [getD_pre p1 (by rw [List.length_append, l1]; simp), Row.val_pre ((List.prefix_append _ _).trans p1) (by rw [l1]; exact lo)]
  rw [List.getD_eq_getElem?_getD, List.getElem?_append_right (by omega), l1]
  simp
/-! ### the rows of a program -/
theorem number_spec (r : Row) (rows : List Row) : (number r rows).2[(number r rows).1]? = some r ∧ (number r rows).1 < (number r rows).2.length ∧ rows <+: (number r rows).2 ∧ ((number r rows).2 = rows ∨ (number r rows).2 = rows ++ [r]) := by
  unfold number
  cases h : rows.findIdx? fun q => decide (q = r) with
  | some i =>
    obtain ⟨hi, e, _⟩ := List.findIdx?_eq_some_iff_getElem.mp h
    have e : rows[i] = r := of_decide_eq_true e
    exact ⟨by rw [List.getElem?_eq_getElem hi, e], hi, List.prefix_refl _, .inl rfl⟩
  | none => exact ⟨by simp, by simp, List.prefix_append _ _, .inr rfl⟩
theorem lows_add {rows : List Row} {r : Row} (h : lows rows) (hr : r.low rows.length) : lows (rows ++ [r]) := by
  intro i q e
  by_cases hi : i < rows.length
  · rw [List.getElem?_append_left hi] at e
    exact h i q e
  · have : i = rows.length := by
      have := (List.getElem?_eq_some_iff.mp e).1
      simp at this
      omega
    subst this
    rw [List.getElem?_append_right (Nat.le_refl _)] at e
    simp at e
    subst e
    exact hr
theorem number_lows {rows : List Row} {r : Row} (h : lows rows) (hr : r.low rows.length) : lows (number r rows).2 := by
  rcases (number_spec r rows).2.2.2 with e | e
  · rw [e]; exact h
  · rw [e]; exact lows_add h hr
theorem rowOf_low {w : Wd} {as : List Nat} {n : Nat} (hw : w = .add ∨ w = .sub ∨ w = .mul ∨ w = .neg) (hl : as.length = w.takes) (h : ∀ a ∈ as, a < n) : (rowOf w as).low n := by
  rcases hw with rfl | rfl | rfl | rfl
  · match as, hl with
    | [a, b], _ =>
      have ha := h a (by simp)
      have hb := h b (by simp)
      exact ⟨.inl rfl, by omega, by omega⟩
  · match as, hl with
    | [a, b], _ => exact ⟨.inr (.inl rfl), h a (by simp), h b (by simp)⟩
  · match as, hl with
    | [a, b], _ =>
      have ha := h a (by simp)
      have hb := h b (by simp)
      exact ⟨.inr (.inr rfl), by omega, by omega⟩
  · match as, hl with
    | [a], _ => exact ⟨rfl, h a (by simp)⟩
theorem rowOf_val {w : Wd} {as : List Nat} {pile acc : List Int} (hw : w = .add ∨ w = .sub ∨ w = .mul ∨ w = .neg) (hl : as.length = w.takes) : (rowOf w as).val pile acc = arith w (as.map fun a => acc.getD a 0) := by
  rcases hw with rfl | rfl | rfl | rfl
  · match as, hl with
    | [a, b], _ =>
      simp only [rowOf, Row.val, arith, List.map_cons, List.map_nil]
      rcases Nat.le_total a b with h | h
      · rw [Nat.min_eq_left h, Nat.max_eq_right h]
      · rw [Nat.min_eq_right h, Nat.max_eq_left h, Int.add_comm]
  · match as, hl with
    | [a, b], _ => rfl
  · match as, hl with
    | [a, b], _ =>
      simp only [rowOf, Row.val, arith, List.map_cons, List.map_nil]
      rcases Nat.le_total a b with h | h
      · rw [Nat.min_eq_left h, Nat.max_eq_right h]
      · rw [Nat.min_eq_right h, Nat.max_eq_left h, Int.mul_comm]
  · match as, hl with
    | [a], _ => rfl
theorem shuf_none {w : Wd} (h : w.shuf = none) : w = .add ∨ w = .sub ∨ w = .mul ∨ w = .neg := by cases w <;> simp_all [Wd.shuf]
/-- what the rows' values tell of the pile -/
theorem exec_vals (pile : List Int) : ∀ (p : List It) (st : List Nat) (rows : List Row), fits p st.length → lows rows → (∀ a ∈ st, a < rows.length) →
    let r := exec VM p st rows
    lows r.2 ∧ rows <+: r.2 ∧ (∀ a ∈ r.1, a < r.2.length) ∧ (exec IM p (st.map fun a => (ev pile rows).getD a 0) ()).1 = r.1.map fun a => (ev pile r.2).getD a 0
  | [], st, rows, _, hl, hs => ⟨hl, List.prefix_refl _, hs, rfl⟩
  | x :: p, st, rows, hf, hl, hs => by
    have len := step_len VM x st rows hf.1
    have hf2 := hf.2
    rw [← len] at hf2
    have key : lows (step VM x st rows).2 ∧ rows <+: (step VM x st rows).2 ∧ (∀ a ∈ (step VM x st rows).1, a < (step VM x st rows).2.length) ∧ (step IM x (st.map fun a => (ev pile rows).getD a 0) ()).1 = (step VM x st rows).1.map fun a => (ev pile (step VM x st rows).2).getD a 0 := by
      have keep : ∀ {r : Row} {a : Nat}, a < rows.length → (ev pile (number r rows).2).getD a 0 = (ev pile rows).getD a 0 := fun {r a} ha => by
        rcases (number_spec r rows).2.2.2 with e | e
        · rw [e]
        · rw [e, ev_app]
          exact getD_pre (evs_pre _ _ _) (by rw [ev_len]; exact ha)
      have fin : ∀ {r : Row}, r.low rows.length → (ev pile (number r rows).2).getD (number r rows).1 0 = r.val pile (ev pile rows) := fun {r} hr => by
        have sp := number_spec r rows
        rw [ev_at pile (number_lows hl hr) sp.1]
        refine Row.val_pre ?_ (by rw [ev_len]; exact hr)
        rcases sp.2.2.2 with e | e
        · rw [e]; exact List.prefix_refl _
        · rw [e, ev_app]; exact evs_pre _ _ _
      cases x with
      | n i =>
        have sp := number_spec (.cst i) rows
        refine ⟨number_lows hl trivial, sp.2.2.1, fun a ha => ?_, ?_⟩
        · have ha : a ∈ st ++ [(number (.cst i) rows).1] := ha
          rcases List.mem_append.mp ha with h | h
          · have := hs a h
            have := sp.2.2.1.length_le
            show a < (number (.cst i) rows).2.length
            omega
          · rw [List.mem_singleton.mp h]; exact sp.2.1
        · show (st.map fun a => (ev pile rows).getD a 0) ++ [i] = (st ++ [(number (.cst i) rows).1]).map fun a => (ev pile (number (.cst i) rows).2).getD a 0
          rw [List.map_append, List.map_cons, List.map_nil, fin (r := .cst i) trivial]
          congr 1
          exact List.map_congr_left fun a ha => (keep (hs a ha)).symm
      | w w =>
        have ht : w.takes ≤ st.length := hf.1
        cases hsh : w.shuf with
        | some l =>
          have lt : ∀ a ∈ l, a < w.takes := by cases w <;> simp [Wd.shuf] at hsh <;> subst hsh <;> simp [Wd.takes]
          have e1 : step VM (.w w) st rows = (st.take (st.length - w.takes) ++ l.map fun a => (st.drop (st.length - w.takes)).getD a default, rows) := by simp only [step, hsh]
          rw [e1]
          refine ⟨hl, List.prefix_refl _, fun a ha => ?_, ?_⟩
          · rcases List.mem_append.mp ha with h | h
            · exact hs a (List.mem_of_mem_take h)
            · obtain ⟨b, hb, rfl⟩ := List.mem_map.mp h
              have := lt b hb
              have hd : b < (st.drop (st.length - w.takes)).length := by rw [List.length_drop]; omega
              refine hs _ (List.mem_of_mem_drop (i := st.length - w.takes) ?_)
              rw [List.getD_eq_getElem?_getD, List.getElem?_eq_getElem hd]
              exact List.getElem_mem hd
          · simp only [step, hsh, List.length_map, List.map_append, List.map_map]
            rw [List.map_take]
            congr 1
            refine List.map_congr_left fun b hb => ?_
            have := lt b hb
            have hd : b < (st.drop (st.length - w.takes)).length := by rw [List.length_drop]; omega
            have e2 : (st.drop (st.length - w.takes)).getD b default = (st.drop (st.length - w.takes))[b] := by
              rw [List.getD_eq_getElem?_getD, List.getElem?_eq_getElem hd]
              rfl
            simp only [Function.comp]
            rw [e2, ← List.map_drop, List.getD_eq_getElem?_getD, List.getElem?_map, List.getElem?_eq_getElem hd]
            rfl
        | none =>
          have hw := shuf_none hsh
          have dl : (st.drop (st.length - w.takes)).length = w.takes := by rw [List.length_drop]; omega
          have lo : (rowOf w (st.drop (st.length - w.takes))).low rows.length := rowOf_low hw dl fun a ha => hs a (List.mem_of_mem_drop ha)
          have sp := number_spec (rowOf w (st.drop (st.length - w.takes))) rows
          have e1 : step VM (.w w) st rows = (st.take (st.length - w.takes) ++ [(number (rowOf w (st.drop (st.length - w.takes))) rows).1], (number (rowOf w (st.drop (st.length - w.takes))) rows).2) := by simp only [step, hsh]; rfl
          rw [e1]
          refine ⟨number_lows hl lo, sp.2.2.1, fun a ha => ?_, ?_⟩
          · rcases List.mem_append.mp ha with h | h
            · have := hs a (List.mem_of_mem_take h)
              have := sp.2.2.1.length_le
              show a < (number _ rows).2.length
              omega
            · rw [List.mem_singleton.mp h]; exact sp.2.1
          · simp only [step, hsh, List.length_map, List.map_append, List.map_cons, List.map_nil]
            rw [fin lo, rowOf_val hw dl, ← List.map_drop]
            congr 1
            rw [← List.map_take]
            exact List.map_congr_left fun a ha => (keep (hs a (List.mem_of_mem_take ha))).symm
    obtain ⟨k1, k2, k3, k4⟩ := key
    obtain ⟨i1, i2, i3, i4⟩ := exec_vals pile p (step VM x st rows).1 (step VM x st rows).2 hf2 k1 k3
    refine ⟨i1, k2.trans i2, i3, ?_⟩
    unfold exec
    rw [← i4, ← k4]
end K84
end

section
set_option Elab.async false
set_option linter.all false
set_option maxRecDepth 100000
set_option maxHeartbeats 1000000
set_option autoImplicit false
/-! K84q: what the values tell of a pile; the rows that are used. -/
namespace K84
theorem ins_get {n i : Nat} (h : i < n) : (ins n)[i]? = some (.inn i) := by simp [ins, h]
theorem ins_len (n : Nat) : (ins n).length = n := by simp [ins]
theorem lows_ins (n : Nat) : lows (ins n) := fun i r e => by
  have hi : i < n := by
    have := (List.getElem?_eq_some_iff.mp e).1
    rwa [ins_len] at this
  rw [ins_get hi] at e
  cases e
  rfl
theorem ev_ins (pile : List Int) {n i : Nat} (h : i < n) : (ev pile (ins n)).getD i 0 = pile.getD i 0 := by
  rw [ev_at pile (lows_ins n) (ins_get h)]
  rfl
/-- the values of a program: its rows name only rows ahead, its left ones are rows; they tell what is left of a pile -/
theorem vals_run (p : List It) : lows (vals p).2 ∧ ins (wants p) <+: (vals p).2 ∧ (∀ a ∈ (vals p).1, a < (vals p).2.length) ∧ (vals p).1.length = stands p ∧
    ∀ pile : List Int, pile.length = wants p → (exec IM p pile ()).1 = (vals p).1.map fun a => (ev pile (vals p).2).getD a 0 := by
  have hs : ∀ a ∈ List.range (wants p), a < (ins (wants p)).length := fun a ha => by rw [ins_len]; exact List.mem_range.mp ha
  have hf : fits p (List.range (wants p)).length := by rw [List.length_range]; exact fits_wants p
  have base := exec_vals [] p (List.range (wants p)) (ins (wants p)) hf (lows_ins _) hs
  refine ⟨base.1, base.2.1, base.2.2.1, ?_, fun pile hp => ?_⟩
  · unfold vals
    rw [exec_len VM p _ _ hf, List.length_range, height_wants]
  · have := (exec_vals pile p (List.range (wants p)) (ins (wants p)) hf (lows_ins _) hs).2.2.2
    have e : (List.range (wants p)).map (fun a => (ev pile (ins (wants p))).getD a 0) = pile := by
      refine List.ext_getElem? fun i => ?_
      rw [List.getElem?_map]
      by_cases hi : i < wants p
      · rw [List.getElem?_range hi]
        simp only [Option.map_some]
        rw [ev_ins pile hi, List.getD_eq_getElem?_getD, List.getElem?_eq_getElem (by omega)]
        rfl
      · rw [List.getElem?_eq_none (by simpa using hi), List.getElem?_eq_none (by omega)]
        rfl
    rw [e] at this
    exact this
/-- behind the first rows none is of the pile -/
def innFirst (wide : Nat) (rows : List Row) : Prop := wide ≤ rows.length ∧ ∀ (i : Nat) (r : Row), rows[i]? = some r → (i < wide ↔ ∃ k, r = .inn k)
theorem innFirst_ins (n : Nat) : innFirst n (ins n) := ⟨by rw [ins_len]; omega, fun i r e => by
  have hi : i < n := by
    have := (List.getElem?_eq_some_iff.mp e).1
    rwa [ins_len] at this
  rw [ins_get hi] at e
  cases e
  exact ⟨fun _ => ⟨i, rfl⟩, fun _ => hi⟩⟩
theorem innFirst_number {wide : Nat} {rows : List Row} {r : Row} (h : innFirst wide rows) (hr : ∀ k, r ≠ .inn k) : innFirst wide (number r rows).2 := by
  rcases (number_spec r rows).2.2.2 with e | e
  · rw [e]; exact h
  · rw [e]
    refine ⟨by rw [List.length_append]; have := h.1; omega, fun i q hq => ?_⟩
    by_cases hi : i < rows.length
    · rw [List.getElem?_append_left hi] at hq
      exact h.2 i q hq
    · have : i = rows.length := by
        have := (List.getElem?_eq_some_iff.mp hq).1
        simp at this
        omega
      subst this
      rw [List.getElem?_append_right (Nat.le_refl _)] at hq
      simp at hq
      subst hq
      exact ⟨fun z => absurd z (by have := h.1; omega), fun ⟨k, z⟩ => absurd z (hr k)⟩
theorem rowOf_inn (w : Wd) (as : List Nat) (k : Nat) : rowOf w as ≠ .inn k := by
  unfold rowOf
  split <;> simp
theorem exec_inn {wide : Nat} : ∀ (p : List It) (st : List Nat) (rows : List Row), innFirst wide rows → innFirst wide (exec VM p st rows).2
  | [], _, _, h => h
  | x :: p, st, rows, h => by
    unfold exec
    refine exec_inn p _ _ ?_
    cases x with
    | n i => exact innFirst_number h fun k z => by cases z
    | w w =>
      unfold step
      dsimp only
      cases w.shuf with
      | some l => exact h
      | none => exact innFirst_number h fun k => rowOf_inn w _ k
theorem vals_inn (p : List It) : innFirst (wants p) (vals p).2 := exec_inn p _ _ (innFirst_ins _)
/-! ### what is used -/
def Row.args : Row → List Nat
  | .one _ a => [a]
  | .two _ a b => [a, b]
  | _ => []
def Row.isIn : Row → Bool
  | .inn _ => true
  | _ => false
inductive Reach (rows : List Row) (left : List Nat) : Nat → Prop
  | base {i : Nat} : i ∈ left → Reach rows left i
  | arg {i j : Nat} {r : Row} : Reach rows left j → rows[j]? = some r → i ∈ r.args → Reach rows left i
/-- the numbers of those kept, from k on -/
def keptF (u : Nat → Bool) : List Row → Nat → List Nat
  | [], _ => []
  | r :: rows, k => if r.isIn || u k then k :: keptF u rows (k + 1) else keptF u rows (k + 1)
def kept (u : Nat → Bool) (rows : List Row) : List Nat := keptF u rows 0
def lead (ks : List Nat) (i : Nat) : Nat := ks.findIdx fun k => decide (k = i)
def ren (f : Nat → Nat) : Row → Row
  | .one w a => .one w (f a)
  | .two w a b => .two w (f a) (f b)
  | r => r
def usedR (u : Nat → Bool) (rows : List Row) : List Row := (kept u rows).map fun k => ren (lead (kept u rows)) (rows.getD k (.cst 0))
def usedL (u : Nat → Bool) (rows : List Row) (left : List Nat) : List Nat := left.map (lead (kept u rows))
theorem keptF_mem {u : Nat → Bool} : ∀ (rows : List Row) (k i : Nat), i ∈ keptF u rows k ↔ k ≤ i ∧ ∃ r, rows[i - k]? = some r ∧ (r.isIn = true ∨ u i = true)
  | [], k, i => by simp [keptF]
  | r :: rows, k, i => by
    have ih := keptF_mem (u := u) rows (k + 1) i
    have shift : k + 1 ≤ i → (r :: rows)[i - k]? = rows[i - (k + 1)]? := fun h => by
      have : i - k = (i - (k + 1)) + 1 := by omega
      rw [this, List.getElem?_cons_succ]
    unfold keptF
    split
    · rename_i hc
      rw [List.mem_cons, ih]
      constructor
      · rintro (rfl | ⟨h1, q, h2, h3⟩)
        · exact ⟨Nat.le_refl _, r, by simp, by simpa using hc⟩
        · exact ⟨by omega, q, by rw [shift h1]; exact h2, h3⟩
      · rintro ⟨h1, q, h2, h3⟩
        rcases Nat.eq_or_lt_of_le h1 with e | e
        · exact .inl e.symm
        · exact .inr ⟨e, q, by rw [← shift e]; exact h2, h3⟩
    · rename_i hc
      rw [ih]
      constructor
      · rintro ⟨h1, q, h2, h3⟩
        exact ⟨by omega, q, by rw [shift h1]; exact h2, h3⟩
      · rintro ⟨h1, q, h2, h3⟩
        rcases Nat.eq_or_lt_of_le h1 with e | e
        · subst e
          simp at h2
          subst h2
          exact absurd (by simpa using h3) hc
        · exact ⟨e, q, by rw [← shift e]; exact h2, h3⟩
theorem kept_mem {u : Nat → Bool} {rows : List Row} {i : Nat} : i ∈ kept u rows ↔ ∃ r, rows[i]? = some r ∧ (r.isIn = true ∨ u i = true) := by
  unfold kept
  rw [keptF_mem]
  simp
theorem keptF_inc {u : Nat → Bool} : ∀ (rows : List Row) (k : Nat), (keptF u rows k).Pairwise (· < ·)
  | [], _ => .nil
  | r :: rows, k => by
    unfold keptF
    split
    · rw [List.pairwise_cons]
      refine ⟨fun i hi => ?_, keptF_inc rows (k + 1)⟩
      have := ((keptF_mem rows (k + 1) i).mp hi).1
      omega
    · exact keptF_inc rows (k + 1)
theorem lead_at {ks : List Nat} {i : Nat} (h : i ∈ ks) : lead ks i < ks.length ∧ ks[lead ks i]? = some i := by
  have h1 : lead ks i < ks.length := List.findIdx_lt_length_of_exists ⟨i, h, by simp⟩
  have h2 := List.findIdx_getElem (xs := ks) (p := fun k => decide (k = i)) (w := h1)
  exact ⟨h1, by rw [List.getElem?_eq_getElem h1]; exact congrArg some (of_decide_eq_true h2)⟩
theorem lead_of {ks : List Nat} (hs : ks.Pairwise (· < ·)) {q i : Nat} (h : ks[q]? = some i) : lead ks i = q := by
  obtain ⟨hq, e⟩ := List.getElem?_eq_some_iff.mp h
  have hm : i ∈ ks := List.mem_of_getElem? h
  obtain ⟨h1, h2⟩ := lead_at hm
  have nd : ks.Nodup := hs.imp fun h => Nat.ne_of_lt h
  exact (List.getElem?_inj h1 nd).mp (h2.trans h.symm)
theorem lead_lt {ks : List Nat} (hs : ks.Pairwise (· < ·)) {a i : Nat} (ha : a ∈ ks) (hi : i ∈ ks) (h : a < i) : lead ks a < lead ks i := by
  obtain ⟨a1, a2⟩ := lead_at ha
  obtain ⟨i1, i2⟩ := lead_at hi
  obtain ⟨_, e1⟩ := List.getElem?_eq_some_iff.mp a2
  obtain ⟨_, e2⟩ := List.getElem?_eq_some_iff.mp i2
  rcases Nat.lt_trichotomy (lead ks a) (lead ks i) with q | q | q
  · exact q
  · exfalso
    have : a = i := by rw [← e1, ← e2]; congr 1
    omega
  · exfalso
    have := List.pairwise_iff_getElem.mp hs _ _ i1 a1 q
    omega
/-- u tells the rows that are used -/
structure Good (u : Nat → Bool) (rows : List Row) (left : List Nat) : Prop where
  lows : lows rows
  low : ∀ a ∈ left, a < rows.length
  is : ∀ i, u i = true ↔ Reach rows left i
theorem Reach.lt {rows : List Row} {left : List Nat} (hl : lows rows) (h : ∀ a ∈ left, a < rows.length) {i : Nat} (r : Reach rows left i) : i < rows.length := by
  induction r with
  | base hi => exact h _ hi
  | @arg i j r _ e ha _ =>
    have hj := (List.getElem?_eq_some_iff.mp e).1
    have lo := hl _ _ e
    cases r with
    | inn k => cases ha
    | cst k => cases ha
    | one w a => rw [List.mem_singleton.mp ha]; exact Nat.lt_trans lo.2 hj
    | two w a b =>
      rcases List.mem_cons.mp ha with q | q
      · rw [q]; exact Nat.lt_trans lo.2.1 hj
      · rw [List.mem_singleton.mp q]; exact Nat.lt_trans lo.2.2 hj
section
variable {u : Nat → Bool} {rows : List Row} {left : List Nat} {wide : Nat}
theorem kept_inc : (kept u rows).Pairwise (· < ·) := keptF_inc rows 0
theorem Good.left_kept (g : Good u rows left) {a : Nat} (h : a ∈ left) : a ∈ kept u rows := by
  have hl := g.low a h
  exact kept_mem.mpr ⟨_, List.getElem?_eq_getElem hl, .inr ((g.is a).mpr (.base h))⟩
theorem Good.args_kept (g : Good u rows left) {i a : Nat} {r : Row} (hi : i ∈ kept u rows) (hr : rows[i]? = some r) (ha : a ∈ r.args) : a ∈ kept u rows := by
  obtain ⟨q, h1, h2⟩ := kept_mem.mp hi
  rw [hr] at h1
  cases h1
  have hu : u i = true := by
    rcases h2 with h2 | h2
    · cases r <;> first | (cases ha; done) | cases h2
    · exact h2
  have re : Reach rows left a := .arg ((g.is i).mp hu) hr ha
  have hl := re.lt g.lows g.low
  exact kept_mem.mpr ⟨_, List.getElem?_eq_getElem hl, .inr ((g.is a).mpr re)⟩
theorem usedR_len : (usedR u rows).length = (kept u rows).length := by simp [usedR]
theorem usedR_get {q i : Nat} {r : Row} (h : (kept u rows)[q]? = some i) (hr : rows[i]? = some r) : (usedR u rows)[q]? = some (ren (lead (kept u rows)) r) := by
  unfold usedR
  rw [List.getElem?_map, h, Option.map_some, List.getD_eq_getElem?_getD, hr]
  rfl
theorem usedR_of {q : Nat} {r' : Row} (h : (usedR u rows)[q]? = some r') : ∃ i r, (kept u rows)[q]? = some i ∧ rows[i]? = some r ∧ r' = ren (lead (kept u rows)) r := by
  have hq := (List.getElem?_eq_some_iff.mp h).1
  rw [usedR_len] at hq
  have e := List.getElem?_eq_getElem hq
  obtain ⟨r, h1, _⟩ := kept_mem.mp (List.getElem_mem hq)
  have := usedR_get e h1
  rw [h] at this
  cases this
  exact ⟨_, r, e, h1, rfl⟩
/-- those of the pile stay where they are -/
theorem kept_inn (hf : innFirst wide rows) : ∀ i, i < wide → (kept u rows)[i]? = some i := by
  intro i
  induction i using Nat.strongRecOn with
  | _ i ih =>
    intro hi
    have hl : i < rows.length := by have := hf.1; omega
    have hm : i ∈ kept u rows := by
      obtain ⟨k, hk⟩ := (hf.2 i _ (List.getElem?_eq_getElem hl)).mp hi
      exact kept_mem.mpr ⟨_, List.getElem?_eq_getElem hl, .inl (by rw [hk]; rfl)⟩
    obtain ⟨h1, h2⟩ := lead_at hm
    obtain ⟨_, e2⟩ := List.getElem?_eq_some_iff.mp h2
    have inc := List.pairwise_iff_getElem.mp (kept_inc (u := u) (rows := rows))
    rcases Nat.lt_trichotomy (lead (kept u rows) i) i with q | q | q
    · have := ih _ q (by omega)
      rw [h2] at this
      have := Option.some.inj this
      omega
    · rw [q] at h2
      exact h2
    · exfalso
      have hi2 : i < (kept u rows).length := by omega
      have lt := inc i _ hi2 h1 q
      rw [e2] at lt
      cases i with
      | zero => omega
      | succ j =>
        obtain ⟨hj, ej⟩ := List.getElem?_eq_some_iff.mp (ih j (Nat.lt_succ_self j) (by omega))
        have := inc j (j + 1) hj hi2 (Nat.lt_succ_self j)
        omega
theorem used_lows (g : Good u rows left) (hf : innFirst wide rows) : lows (usedR u rows) := by
  intro q r' h
  obtain ⟨i, r, h1, h2, rfl⟩ := usedR_of h
  have lo := g.lows i r h2
  have hi : i ∈ kept u rows := List.mem_of_getElem? h1
  have lq := lead_of kept_inc h1
  cases r with
  | inn k =>
    have : i < wide := (hf.2 i _ h2).mpr ⟨k, rfl⟩
    have := lead_of kept_inc (kept_inn (u := u) hf i this)
    show k = q
    have lo : k = i := lo
    omega
  | cst c => trivial
  | one w a =>
    have ha := g.args_kept hi h2 (a := a) (by simp [Row.args])
    have := lead_lt kept_inc ha hi lo.2
    exact ⟨lo.1, by show lead _ a < q; omega⟩
  | two w a b =>
    have ha := g.args_kept hi h2 (a := a) (by simp [Row.args])
    have hb := g.args_kept hi h2 (a := b) (by simp [Row.args])
    have := lead_lt kept_inc ha hi lo.2.1
    have := lead_lt kept_inc hb hi lo.2.2
    exact ⟨lo.1, by show lead _ a < q; omega, by show lead _ b < q; omega⟩
theorem used_inn (hf : innFirst wide rows) : innFirst wide (usedR u rows) := by
  refine ⟨?_, fun q r' h => ?_⟩
  · rw [usedR_len]
    cases wide with
    | zero => omega
    | succ n => exact (List.getElem?_eq_some_iff.mp (kept_inn hf n (Nat.lt_succ_self n))).1
  · obtain ⟨i, r, h1, h2, rfl⟩ := usedR_of h
    have lq := lead_of kept_inc h1
    constructor
    · intro hq
      have e := kept_inn (u := u) hf q hq
      rw [h1] at e
      cases e
      obtain ⟨k, hk⟩ := (hf.2 _ _ h2).mp hq
      exact ⟨k, by rw [hk]; rfl⟩
    · rintro ⟨k, hk⟩
      have : r = .inn k := by
        cases r with
        | inn j => exact hk
        | _ => cases hk
      have hi := (hf.2 i r h2).mpr ⟨k, this⟩
      have := lead_of kept_inc (kept_inn (u := u) hf i hi)
      omega
theorem used_low (g : Good u rows left) : ∀ a ∈ usedL u rows left, a < (usedR u rows).length := by
  intro a ha
  obtain ⟨b, hb, rfl⟩ := List.mem_map.mp ha
  rw [usedR_len]
  exact (lead_at (g.left_kept hb)).1
theorem used_ev (g : Good u rows left) (hf : innFirst wide rows) (pile : List Int) : ∀ i, i ∈ kept u rows → (ev pile (usedR u rows)).getD (lead (kept u rows) i) 0 = (ev pile rows).getD i 0 := by
  intro i
  induction i using Nat.strongRecOn with
  | _ i ih =>
    intro hi
    obtain ⟨r, hr, _⟩ := kept_mem.mp hi
    have lo := g.lows i r hr
    rw [ev_at pile (used_lows g hf) (usedR_get (lead_at hi).2 hr), ev_at pile g.lows hr]
    cases r with
    | inn k => rfl
    | cst c => rfl
    | one w a =>
      simp only [ren, Row.val]
      rw [ih a lo.2 (g.args_kept hi hr (by simp [Row.args]))]
    | two w a b =>
      simp only [ren, Row.val]
      rw [ih a lo.2.1 (g.args_kept hi hr (by simp [Row.args])), ih b lo.2.2 (g.args_kept hi hr (by simp [Row.args]))]
/-- the used ones tell the same -/
theorem used_run (g : Good u rows left) (hf : innFirst wide rows) (pile : List Int) : (usedL u rows left).map (fun a => (ev pile (usedR u rows)).getD a 0) = left.map fun a => (ev pile rows).getD a 0 := by
  unfold usedL
  rw [List.map_map]
  exact List.map_congr_left fun a ha => used_ev g hf pile a (g.left_kept ha)
theorem used_reach (g : Good u rows left) {i : Nat} (h : Reach rows left i) : Reach (usedR u rows) (usedL u rows left) (lead (kept u rows) i) := by
  induction h with
  | base hi => exact .base (List.mem_map.mpr ⟨_, hi, rfl⟩)
  | @arg i j r hj e ha ih =>
    have kj : j ∈ kept u rows := by
      have hl := hj.lt g.lows g.low
      exact kept_mem.mpr ⟨_, List.getElem?_eq_getElem hl, .inr ((g.is j).mpr hj)⟩
    refine .arg ih (usedR_get (lead_at kj).2 e) ?_
    cases r with
    | inn k => cases ha
    | cst k => cases ha
    | one w a => rw [List.mem_singleton.mp ha]; exact List.mem_cons_self
    | two w a b =>
      rcases List.mem_cons.mp ha with q | q
      · rw [q]; exact List.mem_cons_self
      · rw [List.mem_singleton.mp q]; exact List.mem_cons_of_mem _ List.mem_cons_self
theorem keptF_all : ∀ (rows : List Row) (k : Nat), (∀ (i : Nat) (r : Row), rows[i]? = some r → r.isIn = true ∨ u (k + i) = true) → keptF u rows k = List.range' k rows.length
  | [], _, _ => rfl
  | r :: rows, k, h => by
    unfold keptF
    rw [if_pos (by have := h 0 r rfl; simpa using this), keptF_all rows (k + 1) fun i r e => by
      have := h (i + 1) r (by simpa using e)
      rwa [show k + 1 + i = k + (i + 1) from by omega]]
    rw [List.length_cons, List.range'_succ]
/-- all are used: nothing changes -/
theorem used_all (hl : lows rows) (hlow : ∀ a ∈ left, a < rows.length) (h : ∀ (i : Nat) (r : Row), rows[i]? = some r → r.isIn = true ∨ u i = true) : usedR u rows = rows ∧ usedL u rows left = left := by
  have hk : kept u rows = List.range rows.length := by
    unfold kept
    rw [keptF_all rows 0 (by simpa using h), List.range_eq_range']
  have hle : ∀ i, i < rows.length → lead (kept u rows) i = i := fun i hi => lead_of kept_inc (by rw [hk, List.getElem?_range hi])
  constructor
  · refine List.ext_getElem? fun i => ?_
    by_cases hi : i < rows.length
    · have e := List.getElem?_eq_getElem hi
      rw [usedR_get (i := i) (by rw [hk, List.getElem?_range hi]) e, e]
      congr 1
      have lo := hl i _ e
      generalize rows[i] = r at lo
      cases r with
      | inn k => rfl
      | cst k => rfl
      | one w a => simp only [ren]; rw [hle a (Nat.lt_trans lo.2 hi)]
      | two w a b => simp only [ren]; rw [hle a (Nat.lt_trans lo.2.1 hi), hle b (Nat.lt_trans lo.2.2 hi)]
    · rw [List.getElem?_eq_none (by rw [usedR_len, hk, List.length_range]; omega), List.getElem?_eq_none (by omega)]
  · unfold usedL
    have : left.map (lead (kept u rows)) = left.map id := List.map_congr_left fun a ha => hle a (hlow a ha)
    rw [this, List.map_id]
/-- used twice is used once -/
theorem used_twice (g : Good u rows left) (hf : innFirst wide rows) {u' : Nat → Bool} (g' : Good u' (usedR u rows) (usedL u rows left)) : usedR u' (usedR u rows) = usedR u rows ∧ usedL u' (usedR u rows) (usedL u rows left) = usedL u rows left := by
  refine used_all g'.lows g'.low fun q r' h => ?_
  obtain ⟨i, r, h1, h2, rfl⟩ := usedR_of h
  have lq := lead_of kept_inc h1
  obtain ⟨r2, e2, h3⟩ := kept_mem.mp (List.mem_of_getElem? h1)
  rw [h2] at e2
  cases e2
  rcases h3 with h3 | h3
  · left
    cases r with
    | inn k => rfl
    | _ => cases h3
  · right
    rw [g'.is, ← lq]
    exact used_reach g ((g.is i).mp h3)
end
end K84
end

section
set_option Elab.async false
set_option linter.all false
set_option maxRecDepth 100000
set_option maxHeartbeats 1000000
set_option autoImplicit false
namespace K84
open PySem Ev
section
variable {k bz : Nat} {S : Store}
def Wd.nm : Wd → Str
  | .dup => "dup" | .drop => "drop" | .swap => "swap" | .over => "over" | .rot => "rot" | .nip => "nip" | .tuck => "tuck" | .add => "add" | .sub => "sub" | .neg => "neg" | .mul => "mul"
def It.d : It → D
  | .w x => .str x.nm
  | .n i => .int i
abbrev pr (p : List It) : D := .tup (p.map It.d)
def It.ok : It → Prop
  | .w _ => True
  | .n i => -1000000 ≤ i ∧ i ≤ 1000000
def muls (p : List It) : Nat := p.countP fun x => decide (x = .w .mul)
theorem It.bd (x : It) (n : Nat) : x.d.bd n = true := by cases x <;> rfl
theorem bds_map {α : Type} {f : α → D} {n : Nat} (h : ∀ x, (f x).bd n = true) : ∀ l : List α, bds n (l.map f) = true
  | [] => rfl
  | x :: l => by rw [List.map_cons, bds_cons, h x, bds_map h l]; rfl
theorem bds_its (p : List It) (n : Nat) : bds n (p.map It.d) = true := bds_map (fun x => It.bd x n) p
theorem bt_int : md.P.bty "int" = true := by rfl
theorem bt_bool : md.P.bty "bool" = true := by rfl
theorem bt_str : md.P.bty "str" = true := by rfl
theorem bt_tuple : md.P.bty "tuple" = true := by rfl
def shN : List Str := ["dup", "drop", "swap", "over", "rot", "nip", "tuck"]
def shD : List D := [.ktup [.int 0, .int 0], .ktup [], .ktup [.int 1, .int 0], .ktup [.int 0, .int 1, .int 0], .ktup [.int 1, .int 2, .int 0], .ktup [.int 1], .ktup [.int 1, .int 0, .int 1]]
def mnN : List Str := ["dup", "drop", "swap", "over", "rot", "nip", "tuck", "add", "sub", "mul", "div", "neg", "less", "same", "and", "or", "not", "nil", "cons", "call", "dip", "if", "case", "times", "each", "while", "hold", "join", "say"]
def mnD : List D := [.str "a", .str "a", .str "aa", .str "aa", .str "aaa", .str "aa", .str "aa", .str "ii", .str "ii", .str "ii", .str "ii", .str "i", .str "ii", .str "ii", .str "ff", .str "ff", .str "f", .str "", .str "al", .str "q", .str "aq", .str "fqq", .str "lqq", .str "iq", .str "lq", .str "qq", .str "aq", .str "qq", .str "a"]
theorem gl_SHUFFLES : md.P.glb "SHUFFLES" = some (.kd shN shD) := by rfl
theorem gl_MANY : md.P.glb "MANY" = some (.kd mnN mnD) := by rfl
def sumsD : List D := [.str "add", .str "sub", .str "mul", .str "neg"]
theorem gl_SUMS : md.P.glb "SUMS" = some (.ktup sumsD) := by rfl
theorem gl_SAME : md.P.glb "SAME" = some (.ktup [.str "add", .str "mul"]) := by rfl
theorem gl_MOST_INTEGER : md.P.glb "MOST_INTEGER" = some (.int 1000000000000000000) := by rfl
theorem gl_MOST_ITEMS : md.P.glb "MOST_ITEMS" = some (.int 60) := by rfl
theorem gl_MOST_PRODUCTS : md.P.glb "MOST_PRODUCTS" = some (.int 6) := by rfl
theorem gl_MOST_VALUES : md.P.glb "MOST_VALUES" = some (.int 200) := by rfl
theorem df_is_integer : md.P.defs "is_integer" = some ⟨1, 1, b_is_integer⟩ := by rfl
theorem df_is_within : md.P.defs "is_within" = some ⟨3, 3, b_is_within⟩ := by rfl
theorem df_is_straight_item : md.P.defs "is_straight_item" = some ⟨1, 1, b_is_straight_item⟩ := by rfl
theorem df_is_straight : md.P.defs "is_straight" = some ⟨1, 2, b_is_straight⟩ := by rfl
theorem df_check_straight : md.P.defs "check_straight" = some ⟨1, 1, b_check_straight⟩ := by rfl
theorem df_takes_of : md.P.defs "takes_of" = some ⟨1, 1, b_takes_of⟩ := by rfl
theorem df_raw_wants : md.P.defs "raw_wants" = some ⟨1, 6, b_raw_wants⟩ := by rfl
@[simp] theorem in_kd {ks : List Str} {ds : List D} {x : Str} : cmpD .isin (.str x) (.kd ks ds) S = .ok (.bl (kdGet ks ds x).isSome) S := rfl
@[simp] theorem sub_kd {ks : List Str} {ds : List D} {x : Str} : subD (.kd ks ds) (.str x) S = okR (kdGet ks ds x) S := rfl
theorem sh_get (x : Wd) : kdGet shN shD x.nm = x.shuf.map fun l => .ktup (l.map fun i => .int (i : Nat)) := by cases x <;> kernel_rfl
def Wd.kinds : Wd → Str
  | .dup => "a" | .drop => "a" | .swap => "aa" | .over => "aa" | .rot => "aaa" | .nip => "aa" | .tuck => "aa" | .neg => "i" | _ => "ii"
theorem mn_get (x : Wd) : kdGet mnN mnD x.nm = some (.str x.kinds) ∧ x.kinds.length = x.takes := by
  cases x <;> exact ⟨by kernel_rfl, by kernel_rfl⟩
theorem in_sums (x : Wd) : inDs (.str x.nm) sumsD = some x.shuf.isNone := by cases x <;> kernel_rfl
theorem is_integer_int (i : Int) (hS : wf S) : (cxK md.P (k + 1)).call "is_integer" [.int i] S = .ok (.bl true) S := by
  rw [call_eq df_is_integer]
  refine run_same rfl hS rfl ?_
  simp [b_is_integer, bt_int, bt_bool, startE, setR, parR, parE, asgT, asgTs, asgsR, bindT, bindTs, wipeE]
theorem is_straight_item_ok (x : It) (h : x.ok) (hS : wf S) : (cxK md.P (k + 2)).call "is_straight_item" [x.d] S = .ok (.bl true) S := by
  rw [call_eq df_is_straight_item]
  refine run_same rfl hS rfl ?_
  cases x with
  | w x =>
    have h1 := sh_get x
    have h2 := in_sums x
    cases hs : x.shuf with
    | some l =>
      rw [hs] at h1
      simp [b_is_straight_item, It.d, bt_str, gl_SHUFFLES, startE, setR, parR, parE, asgT, asgTs, asgsR, bindT, bindTs, wipeE, h1]
    | none =>
      rw [hs] at h1 h2
      simp [b_is_straight_item, It.d, bt_str, gl_SHUFFLES, gl_SUMS, startE, setR, parR, parE, asgT, asgTs, asgsR, bindT, bindTs, wipeE, h1, h2]
  | n i =>
    obtain ⟨h1, h2⟩ := h
    have h3 : (if i < 0 then -i else i) ≤ 1000000000000000000 := by split <;> omega
    simp [b_is_straight_item, It.d, bt_str, gl_MOST_INTEGER, startE, setR, parR, parE, asgT, asgTs, asgsR, bindT, bindTs, wipeE, df_is_integer, is_integer_int i hS, h3]
theorem bls_true : ∀ n : Nat, blsOf (List.replicate n (.bl true)) = some (List.replicate n true)
  | 0 => rfl
  | n + 1 => by rw [List.replicate_succ, blsOf, bls_true n]; rfl
theorem walkT_maps {α : Type} {f : D → List D → Store → Res (List D)} {g h : α → D} : ∀ (l : List α) (acc : List D), (∀ a ∈ l, ∀ acc, acc.length < LIM → f (h a) acc S = .ok (acc ++ [g a]) S) → acc.length + l.length ≤ LIM → walkT f (l.map h) acc S = .ok (acc ++ l.map g) S
  | [], acc, _, _ => by simp [walkT]
  | a :: l, acc, hf, hl => by
    rw [List.length_cons] at hl
    rw [List.map_cons]
    unfold walkT
    rw [hf a List.mem_cons_self acc (by omega)]
    show walkT _ _ _ _ = _
    rw [walkT_maps l (acc ++ [g a]) (fun b hb => hf b (List.mem_cons_of_mem _ hb)) (by rw [List.length_append, List.length_singleton]; omega)]
    simp
/-- all are told true -/
theorem walkT_all {α : Type} {f : D → List D → Store → Res (List D)} {h : α → D} (l : List α) (hf : ∀ a ∈ l, ∀ acc, acc.length < LIM → f (h a) acc S = .ok (acc ++ [.bl true]) S) (hl : l.length ≤ LIM) : walkT f (l.map h) [] S = .ok (List.replicate l.length (.bl true)) S := by
  rw [walkT_maps (g := fun _ => .bl true) l [] hf (by simpa using hl), List.nil_append]
  congr 1
  exact List.map_const'
theorem all_true (n : Nat) : bllD .all (List.replicate n (.bl true)) S = .ok (.bl true) S := by
  rw [bll_all (bls_true n)]
  simp
theorem nm_mul (x : Wd) : (x.nm == Str.ofString "mul") = decide (x = .mul) := by cases x <;> decide +kernel
theorem eq_str_int {x : Str} (i : Int) (hx : PyData.strOk x = true) : eqD S (.int i) (.str x) = some false := by
  show (match dataOf S (.int i), dataOf S (.str x) with
    | some p, some q => if p.depth ≤ 60 ∧ q.depth ≤ 60 then some (p.eqv q) else none
    | _, _ => none) = _
  have e1 : dataOf S (.str x) = some (.str x) := by
    show D.data (.str x) = _
    simp only [D.data, hx, if_true]
  rw [e1]
  rfl
theorem muls_walk (e : EnvD) (he : e.length = 2) : ∀ (p : List It) (acc : List D), acc.length + p.length ≤ LIM → ∃ acc' : List D, acc'.length = acc.length + muls p ∧
    walkT (turnC (cxK md.P k) [1] (.name 1) (fun env S => ((varR env[1]? S).bind fun x S => boolR (eqD S x (.str "mul")) S).bind truR) (.int 1) e) (p.map It.d) acc S = .ok acc' S
  | [], acc, _ => ⟨acc, by simp [muls], rfl⟩
  | x :: p, acc, hl => by
    simp only [List.length_cons] at hl
    have ha : acc.length < LIM := by omega
    obtain ⟨e0, e1, rfl⟩ : ∃ e0 e1, e = [e0, e1] := by
      match e, he with
      | [a, b], _ => exact ⟨a, b, rfl⟩
    have st : eqD S x.d (.str "mul") = some (decide (x = .w .mul)) := by
      cases x with
      | w x => simp [It.d, nm_mul]
      | n i => rw [It.d, eq_str_int i (by decide +kernel)]; simp
    rw [List.map_cons]
    unfold walkT
    by_cases hx : x = .w .mul
    · have t : turnC (cxK md.P k) [1] (.name 1) (fun env S => ((varR env[1]? S).bind fun x S => boolR (eqD S x (.str "mul")) S).bind truR) (.int 1) [e0, e1] x.d acc S = .ok (acc ++ [.int 1]) S := by
        rw [decide_eq_true hx] at st
        simp [turnC, startE, setR, parR, parE, asgT, asgTs, asgsR, bindT, bindTs, wipeE, st, ha]
      obtain ⟨acc', h1, h2⟩ := muls_walk [e0, e1] rfl p (acc ++ [.int 1]) (by simp; omega)
      refine ⟨acc', ?_, by rw [t]; exact h2⟩
      rw [h1]
      simp [muls, List.countP_cons, hx]
      omega
    · have t : turnC (cxK md.P k) [1] (.name 1) (fun env S => ((varR env[1]? S).bind fun x S => boolR (eqD S x (.str "mul")) S).bind truR) (.int 1) [e0, e1] x.d acc S = .ok acc S := by
        rw [decide_eq_false hx] at st
        simp [turnC, startE, setR, parR, parE, asgT, asgTs, asgsR, bindT, bindTs, wipeE, st]
      obtain ⟨acc', h1, h2⟩ := muls_walk [e0, e1] rfl p acc (by omega)
      refine ⟨acc', ?_, by rw [t]; exact h2⟩
      rw [h1]
      simp [muls, List.countP_cons, hx]
/-- a program as it is drawn -/
structure Fine (p : List It) : Prop where
  len : p.length ≤ 60
  ok : ∀ x ∈ p, x.ok
  mul : muls p ≤ 6
theorem is_straight_ok (p : List It) (h : Fine p) (hS : wf S) : (cxK md.P (k + 3)).call "is_straight" [pr p] S = .ok (.bl true) S := by
  rw [call_eq df_is_straight]
  refine run_same rfl hS rfl ?_
  have hlen := h.len
  have w := walkT_all (S := S) (f := turnC (cxK md.P (k + 2)) [1] (.name 1) (fun _ S => .ok true S) (.call "is_straight_item" (.cons (.var 1) .nil)) [some (pr p), none]) (h := It.d) p (fun x hx acc ha => by
    simp [turnC, startE, setR, parR, parE, asgT, asgTs, asgsR, bindT, bindTs, wipeE, df_is_straight_item, is_straight_item_ok (k := k) x (h.ok x hx) hS, ha]) (by simp only [LIM]; omega)
  obtain ⟨acc, h1, h2⟩ := muls_walk (k := k + 2) (S := S) [some (pr p), none] rfl p [] (by simp only [LIM, List.length_nil]; omega)
  rw [List.length_nil, Nat.zero_add] at h1
  have c1 : ¬ (60 : Int) < ((p.map It.d).length : Int) := by rw [List.length_map]; omega
  have c2 : (acc.length : Int) ≤ 6 := by have := h.mul; omega
  simp only [pr] at *
  generalize p.map It.d = q at *
  have c1' : ¬ 60 < q.length := by omega
  simp [b_is_straight, startE, setR, parR, parE, asgT, asgTs, asgsR, bindT, bindTs, wipeE, bt_tuple, gl_MOST_ITEMS, gl_MOST_PRODUCTS, w, all_true, h2, c1, c1', c2]
theorem check_straight_ok (p : List It) (h : Fine p) (hS : wf S) : (cxK md.P (k + 4)).call "check_straight" [pr p] S = .ok .non S := by
  rw [call_eq df_check_straight]
  refine run_nx (S' := S) (env := [some (pr p)]) rfl hS List.take_length ?_
  simp [b_check_straight, startE, setR, parR, parE, asgT, asgTs, asgsR, bindT, bindTs, wipeE, df_is_straight, is_straight_ok (k := k) p h hS]
/-! ### how deep -/
theorem takes_of_ok (x : It) (hS : wf S) : (cxK md.P (k + 1)).call "takes_of" [x.d] S = .ok (.tup [.int (x.takes : Nat), .int (x.gives : Nat)]) S := by
  rw [call_eq df_takes_of]
  refine run_same rfl hS rfl ?_
  cases x with
  | n i => simp [b_takes_of, It.d, It.takes, It.gives, bt_str, startE, setR, parR, parE, asgT, asgTs, asgsR, bindT, bindTs, wipeE]
  | w x =>
    obtain ⟨m1, m2⟩ := mn_get x
    have h1 := sh_get x
    have ls : bltD .len [.str x.kinds] S = .ok (.int x.takes) S := by rw [len_str (by rw [m2]; cases x <;> decide), m2]
    cases hs : x.shuf with
    | some l =>
      rw [hs] at h1
      simp [b_takes_of, It.d, It.takes, It.gives, Wd.gives, hs, bt_str, gl_MANY, gl_SHUFFLES, startE, setR, parR, parE, asgT, asgTs, asgsR, bindT, bindTs, wipeE, m1, ls, h1]
    | none =>
      rw [hs] at h1
      simp [b_takes_of, It.d, It.takes, It.gives, Wd.gives, hs, bt_str, gl_MANY, gl_SHUFFLES, startE, setR, parR, parE, asgT, asgTs, asgsR, bindT, bindTs, wipeE, m1, ls, h1]
theorem rw_turn (x : It) (hS : wf S) (z : D) (w s : Nat) (x3 x4 x5 : Option D) : turnF (cxK md.P (k + 1)) bz (.name 3) l_raw_wants_0 x.d [some z, some (.int (w : Nat)), some (.int (s : Nat)), x3, x4, x5] S =
    .nx [some z, some (.int ((w + (x.takes - s) : Nat) : Int)), some (.int ((max s x.takes - x.takes + x.gives : Nat) : Int)), some x.d, some (.int (x.takes : Nat)), some (.int (x.gives : Nat))] S := by
  have t := takes_of_ok (k := k) x hS
  by_cases h : s < x.takes
  · have e1 : ((w : Int) + (x.takes : Int) - (s : Int)) = ((w + (x.takes - s) : Nat) : Int) := by omega
    have e2 : ((x.takes : Int) - (x.takes : Int) + (x.gives : Int)) = ((max s x.takes - x.takes + x.gives : Nat) : Int) := by omega
    have c : (s : Int) < (x.takes : Int) := by omega
    simp only [turnF, bindT, l_raw_wants_0]
    simp [startE, setR, parR, parE, asgT, asgTs, asgsR, bindT, bindTs, wipeE, df_takes_of, t, h]
    omega
  · have e1 : (w : Int) = ((w + (x.takes - s) : Nat) : Int) := by omega
    have e2 : ((s : Int) - (x.takes : Int) + (x.gives : Int)) = ((max s x.takes - x.takes + x.gives : Nat) : Int) := by omega
    simp only [turnF, bindT, l_raw_wants_0]
    simp [startE, setR, parR, parE, asgT, asgTs, asgsR, bindT, bindTs, wipeE, df_takes_of, t, h]
    omega
theorem rw_walk (hS : wf S) (z : D) : ∀ (p : List It) (w s : Nat) (x3 x4 x5 : Option D), ∃ y3 y4 y5, forT (turnF (cxK md.P (k + 1)) bz (.name 3) l_raw_wants_0) (p.map It.d) [some z, some (.int (w : Nat)), some (.int (s : Nat)), x3, x4, x5] S =
    .nx [some z, some (.int ((wst p w s).1 : Nat)), some (.int ((wst p w s).2 : Nat)), y3, y4, y5] S
  | [], w, s, x3, x4, x5 => ⟨x3, x4, x5, rfl⟩
  | x :: p, w, s, x3, x4, x5 => by
    obtain ⟨y3, y4, y5, e⟩ := rw_walk hS z p (w + (x.takes - s)) (max s x.takes - x.takes + x.gives) (some x.d) (some (.int (x.takes : Nat))) (some (.int (x.gives : Nat)))
    refine ⟨y3, y4, y5, ?_⟩
    rw [List.map_cons]
    unfold forT
    rw [rw_turn x hS]
    exact e
theorem raw_wants_ok (p : List It) (hS : wf S) : (cxK md.P (k + 2)).call "raw_wants" [pr p] S = .ok (.tup [.int (wants p : Nat), .int (stands p : Nat)]) S := by
  rw [call_eq df_raw_wants]
  refine run_same rfl hS rfl ?_
  have hbq := fun n => bds_its p n
  obtain ⟨y3, y4, y5, e⟩ := rw_walk (bz := S.length) (k := k) hS (pr p) p 0 0 none none none
  simp only [pr] at *
  generalize p.map It.d = q at *
  rw [show ((0 : Nat) : Int) = 0 from rfl] at e
  simp [b_raw_wants, hbq, startE, setR, parR, parE, asgT, asgTs, asgsR, bindT, bindTs, wipeE, e, wants, stands]
end
end K84
end

section
set_option Elab.async false
set_option linter.all false
set_option maxRecDepth 100000
set_option maxHeartbeats 1000000
set_option autoImplicit false
namespace K84
open PySem Ev
section
variable {k bz : Nat} {S : Store}
theorem run_newW {c : Ev.Ctx} {f : Def} {ds : List D} {l : Nat} {o : Ob} {S' S2 : Store} (hl : ds.length = f.np) (hS : S2.all (Ob.bd S.length) = true) (ht : S'.take S.length = S2) (hll : S.length ≤ l) (ho : S'[l]? = some o) (hb : o.bd S.length = true) (h : evSs c S.length f.body (startE f.nn ds) S = .rt (.loc l) S') : runDef c f ds S = .ok (.loc S.length) (S2 ++ [o]) := by
  unfold runDef
  rw [if_pos hl, h]
  have hnb : D.bd S.length (.loc l) = false := by simp; omega
  have e : gc (.loc l) S.length S' = (.loc S.length, S2 ++ [o]) := by
    unfold gc
    rw [ht]
    simp only [hS, if_true, hnb, Bool.false_eq_true, if_false, ho, hb]
  show gcR S (.ok (.loc l) S') = _
  unfold gcR
  simp only [e]
theorem cutL_drop {α : Type} (ds : List α) {n : Nat} (h : n ≤ ds.length) : cutL ds (some (n : Int)) none = ds.drop n := by
  unfold cutL
  have e1 : HT.sIx ds.length 0 (some (n : Int)) = n := by rw [HT.sIx_nat]; omega
  have e2 : HT.sIx ds.length ds.length none = ds.length := rfl
  rw [e1, e2, List.take_of_length_le (by rw [List.length_drop]; exact Nat.le_refl _)]
theorem cutL_take {α : Type} (ds : List α) {n : Nat} (h : n ≤ ds.length) : cutL ds none (some (n : Int)) = ds.take n := by
  unfold cutL
  have e1 : HT.sIx ds.length ds.length (some (n : Int)) = n := by rw [HT.sIx_nat]; omega
  have e2 : HT.sIx ds.length 0 none = 0 := rfl
  rw [e1, e2]
  simp
theorem df_straight_pile : md.P.defs "straight_pile" = some ⟨4, 9, b_straight_pile⟩ := by rfl
/-- what the makers promise: Inv tells of the store below n0 -/
structure Maker (α σ : Type) (M : Mc α σ) (rep : α → D) (c : Ev.Ctx) (vm vt : D) (n0 : Nat) (Inv : σ → Store → Prop) (Q : Wd → List α → σ → Prop) (B : σ → Prop) : Prop where
  bd : ∀ a n, (rep a).bd n = true
  keep : ∀ (s : σ) (St St' : Store), (∀ l, l < n0 → St'[l]? = St[l]?) → Inv s St → Inv s St'
  made : ∀ (i : Int) (s : σ) (St : Store), wf St → n0 ≤ St.length → Inv s St → B s → ∃ St', cvalR c (some (some vm)) (.ok [.int i] St) = .ok (rep (M.made i s).1) St' ∧ Inv (M.made i s).2 St' ∧ wf St' ∧ St'.length = St.length ∧ ∀ l, n0 ≤ l → St'[l]? = St[l]?
  told : ∀ (w : Wd) (as : List α) (s : σ) (St : Store) (l : Nat), wf St → n0 ≤ St.length → n0 ≤ l → Inv s St → St[l]? = some (.lst (as.map rep)) → w.shuf = none → as.length = w.takes → Q w as s → B s →
    ∃ St', cvalR c (some (some vt)) (.ok [.str w.nm, .loc l] St) = .ok (rep (M.told w as s).1) St' ∧ Inv (M.told w as s).2 St' ∧ wf St' ∧ St'.length = St.length ∧ ∀ l, n0 ≤ l → St'[l]? = St[l]?
def okW {α σ : Type} (Q : Wd → List α → σ → Prop) (B : σ → Prop) (x : It) (st : List α) (s : σ) : Prop := B s ∧ match x with
  | .w w => w.shuf = none → Q w (st.drop (st.length - w.takes)) s
  | .n _ => True
/-- what is told may be asked, all along -/
def safe {α σ : Type} [Inhabited α] (M : Mc α σ) (Q : Wd → List α → σ → Prop) (B : σ → Prop) : List It → List α → σ → Prop
  | [], _, _ => True
  | x :: p, st, s => okW Q B x st s ∧ safe M Q B p (step M x st s).1 (step M x st s).2
theorem shuf_in (w : Wd) (x : Option (List Nat)) (h : w.shuf = x) : (kdGet shN shD w.nm).isSome = x.isSome := by rw [sh_get, h]; cases x <;> rfl
variable {α σ : Type} [Inhabited α] {M : Mc α σ} {rep : α → D} {j : Nat} {vm vt : D} {n0 : Nat} {Inv : σ → Store → Prop} {Q : Wd → List α → σ → Prop} {B : σ → Prop}
theorem sp_turn (mk : Maker α σ M rep (cxK md.P (j + 1)) vm vt n0 Inv Q B) (x : It) (st : List α) (s : σ) (St : Store) (f : Nat) (z1 z2 : D) (x5 x6 x7 : Option D) (hS : wf St) (hf0 : n0 ≤ f) (hn : n0 ≤ St.length) (hf : St[f]? = some (.lst (st.map rep))) (inv : Inv s St) (ht : x.takes ≤ st.length) (hl : st.length < 5000)
    (hq : okW Q B x st s) :
    ∃ f' y5 y6 y7 St', (turnF (cxK md.P (j + 1)) bz (.name 5) l_straight_pile_0 x.d [some z1, some z2, some vm, some vt, some (.loc f), x5, x6, x7, none] St = .nx [some z1, some z2, some vm, some vt, some (.loc f'), y5, y6, y7, none] St' ∨
      turnF (cxK md.P (j + 1)) bz (.name 5) l_straight_pile_0 x.d [some z1, some z2, some vm, some vt, some (.loc f), x5, x6, x7, none] St = .ct [some z1, some z2, some vm, some vt, some (.loc f'), y5, y6, y7, none] St') ∧
      wf St' ∧ n0 ≤ f' ∧ St.length ≤ St'.length ∧ St'[f']? = some (.lst ((step M x st s).1.map rep)) ∧ Inv (step M x st s).2 St' := by
  have fl : f < St.length := (List.getElem?_eq_some_iff.mp hf).1
  cases x with
  | n i =>
    obtain ⟨S1, e1, e2, e3, e4, e5⟩ := mk.made i s St hS hn inv hq.1
    have hf1 : S1[f]? = some (.lst (st.map rep)) := by rw [e5 f hf0]; exact hf
    have ka := kind_append hf
    have ap := m_append (d := rep (M.made i s).1) hf1 (by simp [LIM]; omega)
    refine ⟨f, some (.int i), x6, x7, S1.set f (.lst (st.map rep ++ [rep (M.made i s).1])), .inr ?_, wf_set e3 ?_, hf0, ?_, ?_, ?_⟩
    · simp [turnF, l_straight_pile_0, startE, setR, parR, parE, asgT, asgTs, asgsR, bindT, bindTs, wipeE, It.d, bt_str, ka, e1, ap]
    · rw [bd_lst]
      have := bds_map (f := rep) (n := S1.length) (fun a => mk.bd a _) (st ++ [(M.made i s).1])
      simpa using this
    · rw [List.length_set, e4]; exact Nat.le_refl _
    · rw [List.getElem?_set_self (by omega)]
      simp [step]
    · exact mk.keep _ S1 _ (fun l hl => by rw [List.getElem?_set_ne (by omega)]) e2
  | w w =>
    have ht : w.takes ≤ st.length := ht
    have tk := takes_of_ok (k := j) (.w w) hS
    have ld : (st.map rep).length = st.length := List.length_map _
    have e0 : ((st.length : Nat) : Int) - (w.takes : Nat) = ((st.length - w.takes : Nat) : Int) := by omega
    have ln : bltD .len [.loc f] St = .ok (.int ((st.length : Nat) : Int)) St := by rw [len_loc hf, ld]
    have c1 : slcD (.loc f) (some ((st.length - w.takes : Nat) : Int)) none St = .ok (.loc St.length) (St ++ [.lst ((st.drop (st.length - w.takes)).map rep)]) := by
      unfold slcD
      simp only [hf]
      rw [cutL_drop _ (by rw [ld]; omega), List.map_drop]
      rfl
    have hf1 : (St ++ [Ob.lst ((st.drop (st.length - w.takes)).map rep)])[f]? = some (.lst (st.map rep)) := by rw [List.getElem?_append_left fl]; exact hf
    have ln1 : bltD .len [.loc f] (St ++ [.lst ((st.drop (st.length - w.takes)).map rep)]) = .ok (.int ((st.length : Nat) : Int)) (St ++ [.lst ((st.drop (st.length - w.takes)).map rep)]) := by rw [len_loc hf1, ld]
    have c2 : slcD (.loc f) none (some ((st.length - w.takes : Nat) : Int)) (St ++ [.lst ((st.drop (st.length - w.takes)).map rep)]) = .ok (.loc (St.length + 1)) ((St ++ [.lst ((st.drop (st.length - w.takes)).map rep)]) ++ [.lst ((st.take (st.length - w.takes)).map rep)]) := by
      unfold slcD
      simp only [hf1]
      rw [cutL_take _ (by rw [ld]; omega), List.map_take]
      show Res.ok (D.loc (St ++ [Ob.lst ((st.drop (st.length - w.takes)).map rep)]).length) _ = _
      rw [List.length_append]
      rfl
    have w1 : wf (St ++ [.lst ((st.drop (st.length - w.takes)).map rep)]) := wf_add hS (bds_map (fun a => mk.bd a _) _)
    have w2 : wf ((St ++ [.lst ((st.drop (st.length - w.takes)).map rep)]) ++ [.lst ((st.take (st.length - w.takes)).map rep)]) := wf_add w1 (bds_map (fun a => mk.bd a _) _)
    have g1 : ((St ++ [Ob.lst ((st.drop (st.length - w.takes)).map rep)]) ++ [Ob.lst ((st.take (st.length - w.takes)).map rep)])[St.length]? = some (.lst ((st.drop (st.length - w.takes)).map rep)) := by
      rw [List.getElem?_append_left (by simp), List.getElem?_append_right (Nat.le_refl _)]; simp
    have g2 : ((St ++ [Ob.lst ((st.drop (st.length - w.takes)).map rep)]) ++ [Ob.lst ((st.take (st.length - w.takes)).map rep)])[St.length + 1]? = some (.lst ((st.take (st.length - w.takes)).map rep)) := by
      rw [List.getElem?_append_right (by simp)]; simp
    have low2 : ∀ l, l < n0 → ((St ++ [Ob.lst ((st.drop (st.length - w.takes)).map rep)]) ++ [Ob.lst ((st.take (st.length - w.takes)).map rep)])[l]? = St[l]? := fun l hl => by
      rw [List.getElem?_append_left (by simp; omega), List.getElem?_append_left (by omega)]
    have len2 : ((St ++ [Ob.lst ((st.drop (st.length - w.takes)).map rep)]) ++ [Ob.lst ((st.take (st.length - w.takes)).map rep)]).length = St.length + 2 := by simp
    have dl : (st.drop (st.length - w.takes)).length = w.takes := by rw [List.length_drop]; omega
    revert c1 hf1 ln1 c2 w1 w2 g1 g2 low2 len2
    generalize (St ++ [Ob.lst ((st.drop (st.length - w.takes)).map rep)]) ++ [Ob.lst ((st.take (st.length - w.takes)).map rep)] = S2
    generalize St ++ [Ob.lst ((st.drop (st.length - w.takes)).map rep)] = S1
    intro c1 hf1 ln1 c2 w1 w2 g1 g2 low2 len2
    have inv2 : Inv s S2 := mk.keep s St S2 low2 inv
    have ke := kind_extend g2
    have tl : (st.take (st.length - w.takes)).length = st.length - w.takes := by rw [List.length_take]; omega
    have dn : It.d (.w w) = .str w.nm := rfl
    rw [dn] at tk ⊢
    cases hs : w.shuf with
    | some l =>
      have sg := sh_get w
      rw [hs, Option.map_some] at sg
      have lt : ∀ a ∈ l, a < w.takes := by cases w <;> simp [Wd.shuf] at hs <;> subst hs <;> simp [Wd.takes]
      have ll : l.length ≤ 3 := by cases w <;> simp [Wd.shuf] at hs <;> subst hs <;> simp
      have wk := walkT_maps (S := S2) (f := turnC (cxK md.P (j + 1)) [8] (.name 8) (fun _ S => .ok true S) (.sub (.var 7) (.var 8)) [some z1, some z2, some vm, some vt, some (.loc (St.length + 1)), some (.str w.nm), some (.int (w.takes : Nat)), some (.loc St.length), none]) (h := fun i : Nat => D.int (i : Nat)) (g := fun a => rep ((st.drop (st.length - w.takes)).getD a default)) l [] (fun a ha acc hacc => by
        have la := lt a ha
        have sb : subD (.loc St.length) (.int (a : Nat)) S2 = .ok (rep ((st.drop (st.length - w.takes)).getD a default)) S2 := by
          rw [sub_loc g1, atI_nat (by rw [List.length_map, dl]; exact la), List.getElem?_map, List.getD_eq_getElem?_getD, List.getElem?_eq_getElem (by omega)]
          rfl
        simp [turnC, startE, setR, parR, parE, asgT, asgTs, asgsR, bindT, bindTs, wipeE, sb, hacc]) (by simp only [LIM, List.length_nil]; omega)
      rw [List.nil_append] at wk
      have gA : (S2 ++ [Ob.lst (l.map fun a => rep ((st.drop (st.length - w.takes)).getD a default))])[St.length + 1]? = some (.lst ((st.take (st.length - w.takes)).map rep)) := by rw [List.getElem?_append_left (by omega)]; exact g2
      have ext := m_extend (b := S2.length) gA (es := l.map fun a => rep ((st.drop (st.length - w.takes)).getD a default)) (by simp) (by rw [List.length_map, List.length_map, tl]; simp only [LIM]; omega)
      refine ⟨St.length + 1, some (.str w.nm), some (.int (w.takes : Nat)), some (.loc St.length), (S2 ++ [Ob.lst (l.map fun a => rep ((st.drop (st.length - w.takes)).getD a default))]).set (St.length + 1) (.lst ((st.take (st.length - w.takes)).map rep ++ l.map fun a => rep ((st.drop (st.length - w.takes)).getD a default))), .inl ?_, ?_, by omega, ?_, ?_, ?_⟩
      · generalize (l.map fun a => rep ((st.drop (st.length - w.takes)).getD a default)) = ex at wk ext ⊢
        generalize (l.map fun i : Nat => D.int (i : Nat)) = li at sg wk
        simp [turnF, l_straight_pile_0, startE, setR, parR, parE, asgT, asgTs, asgsR, bindT, bindTs, wipeE, bt_str, df_takes_of, tk, It.takes, ln, e0, c1, ln1, c2, ke, gl_SHUFFLES, sg, wk, ext, partR]
      · refine wf_set (wf_add w2 (bds_map (fun a => mk.bd _ _) _)) ?_
        rw [bd_lst]
        have := bds_map (f := rep) (n := (S2 ++ [Ob.lst (l.map fun a => rep ((st.drop (st.length - w.takes)).getD a default))]).length) (fun a => mk.bd a _) (st.take (st.length - w.takes) ++ l.map fun a => (st.drop (st.length - w.takes)).getD a default)
        simpa [List.map_map, Function.comp_def] using this
      · simp; omega
      · rw [List.getElem?_set_self (by simp; omega)]
        simp [step, hs, List.map_map]
      · have e1 : (step M (.w w) st s).2 = s := by simp only [step, hs]
        rw [e1]
        refine mk.keep s S2 _ (fun l hl => ?_) inv2
        rw [List.getElem?_set_ne (by omega), List.getElem?_append_left (by omega)]
    | none =>
      have sg := sh_get w
      rw [hs, Option.map_none] at sg
      obtain ⟨S3, t1, t2, t3, t4, t5⟩ := mk.told w (st.drop (st.length - w.takes)) s S2 St.length w2 (by omega) hn inv2 g1 hs dl (hq.2 hs) hq.1
      have g3 : S3[St.length + 1]? = some (.lst ((st.take (st.length - w.takes)).map rep)) := by rw [t5 _ (by omega)]; exact g2
      have gA : (S3 ++ [Ob.lst [rep (M.told w (st.drop (st.length - w.takes)) s).1]])[St.length + 1]? = some (.lst ((st.take (st.length - w.takes)).map rep)) := by rw [List.getElem?_append_left (by omega)]; exact g3
      have ext := m_extend (b := S3.length) gA (es := [rep (M.told w (st.drop (st.length - w.takes)) s).1]) (by simp) (by rw [List.length_map, tl]; simp only [LIM, List.length_singleton]; omega)
      refine ⟨St.length + 1, some (.str w.nm), some (.int (w.takes : Nat)), some (.loc St.length), (S3 ++ [Ob.lst [rep (M.told w (st.drop (st.length - w.takes)) s).1]]).set (St.length + 1) (.lst ((st.take (st.length - w.takes)).map rep ++ [rep (M.told w (st.drop (st.length - w.takes)) s).1])), .inl ?_, ?_, by omega, ?_, ?_, ?_⟩
      · simp [turnF, l_straight_pile_0, startE, setR, parR, parE, asgT, asgTs, asgsR, bindT, bindTs, wipeE, bt_str, df_takes_of, tk, It.takes, ln, e0, c1, ln1, c2, ke, gl_SHUFFLES, sg, t1, ext, partR]
      · refine wf_set (wf_add t3 ?_) ?_
        · rw [bd_lst, bds_cons, mk.bd]; rfl
        · rw [bd_lst]
          have := bds_map (f := rep) (n := (S3 ++ [Ob.lst [rep (M.told w (st.drop (st.length - w.takes)) s).1]]).length) (fun a => mk.bd a _) (st.take (st.length - w.takes) ++ [(M.told w (st.drop (st.length - w.takes)) s).1])
          simpa using this
      · simp; omega
      · rw [List.getElem?_set_self (by simp; omega)]
        simp [step, hs]
      · have e1 : (step M (.w w) st s).2 = (M.told w (st.drop (st.length - w.takes)) s).2 := by simp only [step, hs]
        rw [e1]
        refine mk.keep _ S3 _ (fun l hl => ?_) t2
        rw [List.getElem?_set_ne (by omega), List.getElem?_append_left (by omega)]
theorem sp_walk (mk : Maker α σ M rep (cxK md.P (j + 1)) vm vt n0 Inv Q B) (z1 z2 : D) : ∀ (p : List It) (st : List α) (s : σ) (St : Store) (f : Nat) (x5 x6 x7 : Option D), wf St → n0 ≤ f → n0 ≤ St.length → St[f]? = some (.lst (st.map rep)) → Inv s St → fits p st.length → st.length + 2 * p.length < 5000 → safe M Q B p st s →
    ∃ f' y5 y6 y7 St', forT (turnF (cxK md.P (j + 1)) bz (.name 5) l_straight_pile_0) (p.map It.d) [some z1, some z2, some vm, some vt, some (.loc f), x5, x6, x7, none] St = .nx [some z1, some z2, some vm, some vt, some (.loc f'), y5, y6, y7, none] St' ∧
      wf St' ∧ n0 ≤ f' ∧ n0 ≤ St'.length ∧ St'[f']? = some (.lst ((exec M p st s).1.map rep)) ∧ Inv (exec M p st s).2 St'
  | [], st, s, St, f, x5, x6, x7, hS, hf0, hn, hf, inv, _, _, _ => ⟨f, x5, x6, x7, St, rfl, hS, hf0, hn, hf, inv⟩
  | x :: p, st, s, St, f, x5, x6, x7, hS, hf0, hn, hf, inv, ht, hl, hq => by
    simp only [List.length_cons] at hl
    obtain ⟨f1, y5, y6, y7, S1, e1, w1, h1, h2, h3, h4⟩ := sp_turn mk x st s St f z1 z2 x5 x6 x7 hS hf0 hn hf inv ht.1 (by omega) hq.1
    have ln := step_len M x st s ht.1
    have gl : x.gives ≤ x.takes + 2 := by
      cases x with
      | n i => simp [It.gives]
      | w w => cases w <;> simp [It.gives, It.takes, Wd.gives, Wd.takes, Wd.shuf]
    have ft := ht.2
    rw [← ln] at ft
    obtain ⟨f2, u5, u6, u7, S2, r1, r2, r3, r4, r5, r6⟩ := sp_walk mk z1 z2 p (step M x st s).1 (step M x st s).2 S1 f1 y5 y6 y7 w1 h1 (by omega) h3 h4 ft (by have := ht.1; omega) hq.2
    refine ⟨f2, u5, u6, u7, S2, ?_, r2, r3, r4, r5, r6⟩
    rw [List.map_cons]
    unfold forT
    rcases e1 with e1 | e1 <;> (rw [e1]; exact r1)
/-- straight_pile(program, pile, made, told) leaves a fresh list -/
theorem straight_pile_ok (mk : Maker α σ M rep (cxK md.P (j + 1)) vm vt S.length Inv Q B) (p : List It) (st : List α) (s : σ) (pd : D) (hp : bltD .list [pd] S = .ok (.loc S.length) (S ++ [.lst (st.map rep)])) (hS : wf S) (inv : Inv s S) (ft : fits p st.length) (hl : st.length + 2 * p.length < 5000) (hq : safe M Q B p st s)
    (low : ∀ St', Inv (exec M p st s).2 St' → wf St' → S.length ≤ St'.length → (St'.take S.length).all (Ob.bd S.length) = true) :
    ∃ S2, (cxK md.P (j + 2)).call "straight_pile" [pr p, pd, vm, vt] S = .ok (.loc S.length) (S2 ++ [.lst ((exec M p st s).1.map rep)]) ∧ S2.length = S.length ∧ Inv (exec M p st s).2 S2 ∧ wf S2 := by
  rw [call_eq df_straight_pile]
  have w0 : wf (S ++ [.lst (st.map rep)]) := wf_add hS (bds_map (fun a => mk.bd a _) _)
  have i0 : Inv s (S ++ [.lst (st.map rep)]) := mk.keep s S _ (fun l hl => by rw [List.getElem?_append_left hl]) inv
  have hbq := fun n => bds_its p n
  obtain ⟨f', y5, y6, y7, St', e1, e2, e3, e4, e5, e6⟩ := sp_walk (bz := S.length) mk (pr p) pd p st s (S ++ [.lst (st.map rep)]) S.length none none none w0 (Nat.le_refl _) (by simp) (by simp) i0 ft hl hq
  have al := low St' e6 e2 e4
  have lt : (St'.take S.length).length = S.length := by rw [List.length_take]; omega
  refine ⟨St'.take S.length, ?_, lt, mk.keep _ St' _ (fun l hl => by rw [List.getElem?_take_of_lt hl]) e6, ?_⟩
  · refine run_newW (l := f') (S' := St') rfl al rfl e3 e5 (bds_map (fun a => mk.bd a _) _) ?_
    simp only [pr] at e1 ⊢
    generalize p.map It.d = q at *
    generalize hg : S ++ [Ob.lst (st.map rep)] = S1 at *
    simp [b_straight_pile, hbq, startE, setR, parR, parE, asgT, asgTs, asgsR, bindT, bindTs, wipeE, hp, e1]
  · unfold wf
    rw [lt]
    exact al
end
end K84
end

section
set_option Elab.async false
set_option linter.all false
set_option maxRecDepth 100000
set_option maxHeartbeats 1000000
set_option autoImplicit false
namespace K84
open PySem Ev
section
variable {k bz : Nat} {S : Store}
/-! ### integers -/
theorem df_sum_told : md.P.defs "sum_told" = some ⟨2, 4, b_sum_told⟩ := by rfl
/-- two of which the product can be made -/
def mulQ : List Int → Prop
  | [a, b] => mulOk a b = true
  | _ => True
theorem disp_get (a b : Int) (w : Wd) (hw : w = .add ∨ w = .sub ∨ w = .mul) : kget (putAll [] [((.inr "add" : Key), D.int (a + b)), (.inr "sub", .int (a - b)), (.inr "mul", .int (a * b))]) (.inr w.nm) = some (.int (arith w [a, b])) := by
  rcases hw with rfl | rfl | rfl <;> kernel_rfl
theorem nm_neg (x : Wd) : (x.nm == Str.ofString "neg") = decide (x = .neg) := by cases x <;> decide +kernel
theorem sum_told_ok (w : Wd) (as : List Int) (l : Nat) (hS : wf S) (h : S[l]? = some (.lst (as.map D.int))) (hw : w.shuf = none) (hl : as.length = w.takes) (hq : mulQ as) : (cxK md.P (k + 1)).call "sum_told" [.str w.nm, .loc l] S = .ok (.int (arith w as)) S := by
  rw [call_eq df_sum_told]
  by_cases hn : w = .neg
  · subst hn
    match as, hl with
    | [a], _ =>
      have s0 : subD (.loc l) (.int 0) S = .ok (.int a) S := by rw [sub_loc h]; rfl
      refine run_same rfl hS rfl ?_
      simp [b_sum_told, startE, setR, parR, parE, asgT, asgTs, asgsR, bindT, bindTs, wipeE, nm_neg, s0, arith]
  · have hw3 : w = .add ∨ w = .sub ∨ w = .mul := by
      rcases shuf_none hw with e | e | e | e
      · exact .inl e
      · exact .inr (.inl e)
      · exact .inr (.inr e)
      · exact absurd e hn
    have h2 : as.length = 2 := by rcases hw3 with e | e | e <;> (rw [hl, e]; rfl)
    match as, h2 with
    | [a, b], _ =>
      have hm : mulOk a b = true := hq
      have bm : ∀ S, binD .mul (.int a) (.int b) S = .ok (.int (a * b)) S := fun S => by simp only [binD, hm, if_true]
      have g := disp_get a b w hw3
      have ds : dspR ["add", "sub", "mul"] [.int (a + b), .int (a - b), .int (a * b)] S = .ok (.loc S.length) (S ++ [.dk (putAll [] [((.inr "add" : Key), D.int (a + b)), (.inr "sub", .int (a - b)), (.inr "mul", .int (a * b))])]) := rfl
      have sb : subD (.loc S.length) (.str w.nm) (S ++ [.dk (putAll [] [((.inr "add" : Key), D.int (a + b)), (.inr "sub", .int (a - b)), (.inr "mul", .int (a * b))])]) = .ok (.int (arith w [a, b])) (S ++ [.dk (putAll [] [((.inr "add" : Key), D.int (a + b)), (.inr "sub", .int (a - b)), (.inr "mul", .int (a * b))])]) := by
        have e : (S ++ [Ob.dk (putAll [] [((.inr "add" : Key), D.int (a + b)), (.inr "sub", .int (a - b)), (.inr "mul", .int (a * b))])])[S.length]? = some (Ob.dk (putAll [] [((.inr "add" : Key), D.int (a + b)), (.inr "sub", .int (a - b)), (.inr "mul", .int (a * b))])) := by simp
        simp only [subD, e, obGet, keyOf, Option.map_some, g]
      refine run_cut (S' := S ++ [.dk (putAll [] [((.inr "add" : Key), D.int (a + b)), (.inr "sub", .int (a - b)), (.inr "mul", .int (a * b))])]) rfl hS rfl (by simp) ?_
      generalize putAll [] [((.inr "add" : Key), D.int (a + b)), (.inr "sub", .int (a - b)), (.inr "mul", .int (a * b))] = kv at *
      simp [b_sum_told, startE, setR, parR, parE, asgT, asgTs, asgsR, bindT, bindTs, wipeE, nm_neg, hn, h, asgsR, bm, ds, sb]
abbrev invI (S : Store) : Unit → Store → Prop := fun _ St => St.take S.length = S
theorem take_eq {A B : Store} {n : Nat} (h : ∀ l, l < n → A[l]? = B[l]?) : A.take n = B.take n := by
  refine List.ext_getElem? fun i => ?_
  by_cases hi : i < n
  · rw [List.getElem?_take_of_lt hi, List.getElem?_take_of_lt hi, h i hi]
  · rw [List.getElem?_eq_none (by simp; omega), List.getElem?_eq_none (by simp; omega)]
theorem ints_walk (pile : List Int) (hS : wf S) (e : EnvD) (he : e.length = 3) (hl : pile.length ≤ 1000) : walkT (turnC (cxK md.P (k + 1)) [2] (.name 2) (fun _ S => .ok true S) (.call "is_integer" (.cons (.var 2) .nil)) e) (pile.map D.int) [] S = .ok (List.replicate pile.length (.bl true)) S := by
  obtain ⟨e0, e1, e2, rfl⟩ : ∃ e0 e1 e2, e = [e0, e1, e2] := by
    match e, he with
    | [a, b, c], _ => exact ⟨a, b, c, rfl⟩
  refine walkT_all pile (fun i _ acc ha => ?_) (by simp only [LIM]; omega)
  simp [turnC, startE, setR, parR, parE, asgT, asgTs, asgsR, bindT, bindTs, wipeE, df_is_integer, is_integer_int i hS, ha]
end
end K84
end

section
set_option Elab.async false
set_option linter.all false
set_option maxRecDepth 100000
set_option maxHeartbeats 1000000
set_option autoImplicit false
namespace K84
open PySem Ev
section
variable {k bz : Nat} {S : Store}
/-! ### values -/
def Row.d : Row → D
  | .inn k => .tup [.str "in", .int (k : Nat)]
  | .cst i => .tup [.str "int", .int i]
  | .one w a => .tup [.str w.nm, .int (a : Nat)]
  | .two w a b => .tup [.str w.nm, .int (a : Nat), .int (b : Nat)]
def Row.ds : Row → List D
  | .inn k => [.str "in", .int (k : Nat)]
  | .cst i => [.str "int", .int i]
  | .one w a => [.str w.nm, .int (a : Nat)]
  | .two w a b => [.str w.nm, .int (a : Nat), .int (b : Nat)]
theorem Row.d_ds (r : Row) : r.d = .tup r.ds := by cases r <;> rfl
def Row.key : Row → List Key
  | .inn k => [.inr "in", .inl (k : Nat)]
  | .cst i => [.inr "int", .inl i]
  | .one w a => [.inr w.nm, .inl (a : Nat)]
  | .two w a b => [.inr w.nm, .inl (a : Nat), .inl (b : Nat)]
theorem Row.keys (r : Row) : keysOf r.ds = some r.key := by cases r <;> rfl
theorem Row.bd (r : Row) (n : Nat) : r.d.bd n = true := by cases r <;> rfl
/-- rows that a straight program makes -/
def Row.fit : Row → Prop
  | .one w _ => w = .neg
  | .two w _ _ => w = .add ∨ w = .sub ∨ w = .mul
  | _ => True
theorem nm_inj {x y : Wd} (h : x.nm = y.nm) : x = y := by
  have : ∀ x y : Wd, decide (x.nm = y.nm) = decide (x = y) := by
    intro x y
    cases x <;> cases y <;> decide +kernel
  have := this x y
  rw [decide_eq_true h] at this
  exact of_decide_eq_true this.symm
theorem nm_in (x : Wd) : x.nm ≠ Str.ofString "in" ∧ x.nm ≠ Str.ofString "int" := by cases x <;> exact ⟨by decide +kernel, by decide +kernel⟩
theorem in_int : Str.ofString "in" ≠ Str.ofString "int" := by decide +kernel
theorem key_inj {r q : Row} (h : r.key = q.key) : r = q := by
  cases r with
  | inn k => cases q with
    | inn j => simp [Row.key] at h; exact congrArg Row.inn (by omega)
    | cst j => simp [Row.key] at h; exact absurd h.1 in_int
    | one w a => simp [Row.key] at h; exact absurd h.1.symm (nm_in w).1
    | two w a b => simp [Row.key] at h
  | cst k => cases q with
    | inn j => simp [Row.key] at h; exact absurd h.1.symm in_int
    | cst j => simp [Row.key] at h; rw [h]
    | one w a => simp [Row.key] at h; exact absurd h.1.symm (nm_in w).2
    | two w a b => simp [Row.key] at h
  | one v c => cases q with
    | inn j => simp [Row.key] at h; exact absurd h.1 (nm_in v).1
    | cst j => simp [Row.key] at h; exact absurd h.1 (nm_in v).2
    | one w a =>
      simp [Row.key] at h
      have e : c = a := by omega
      rw [nm_inj h.1, e]
    | two w a b => simp [Row.key] at h
  | two v c d => cases q with
    | inn j => simp [Row.key] at h
    | cst j => simp [Row.key] at h
    | one w a => simp [Row.key] at h
    | two w a b =>
      simp [Row.key] at h
      have e : c = a := by omega
      have e2 : d = b := by omega
      rw [nm_inj h.1, e, e2]
/-- the dict of the rows' numbers -/
def nums : List Row → Nat → List (List Key × D)
  | [], _ => []
  | r :: rows, k => (r.key, .int (k : Nat)) :: nums rows (k + 1)
theorem nums_len : ∀ (rows : List Row) (k : Nat), (nums rows k).length = rows.length
  | [], _ => rfl
  | r :: rows, k => by unfold nums; simp [nums_len rows]
theorem nums_get (q : Row) : ∀ (rows : List Row) (k : Nat), kget (nums rows k) q.key = (rows.findIdx? fun r => decide (r = q)).map fun i => .int ((k + i : Nat) : Int)
  | [], _ => rfl
  | r :: rows, k => by
    have ih := nums_get q rows (k + 1)
    unfold nums
    rw [List.findIdx?_cons]
    by_cases h : r = q
    · subst h
      simp [kget]
    · have hk : ¬ r.key = q.key := fun e => h (key_inj e)
      simp only [h, decide_false, Bool.false_eq_true, if_false]
      have e : kget ((r.key, D.int (k : Nat)) :: nums rows (k + 1)) q.key = kget (nums rows (k + 1)) q.key := by simp [kget, List.find?_cons, hk]
      rw [e, ih, Option.map_map]
      congr 1
      funext i
      simp only [Function.comp]
      congr 2
      omega
theorem nums_app (q : Row) : ∀ (rows : List Row) (k : Nat), nums (rows ++ [q]) k = nums rows k ++ [(q.key, .int ((k + rows.length : Nat) : Int))]
  | [], k => by simp [nums]
  | r :: rows, k => by
    rw [List.cons_append, nums, nums_app q rows (k + 1), nums, List.cons_append, List.length_cons, show k + 1 + rows.length = k + (rows.length + 1) from by omega]
theorem nums_put (q : Row) (rows : List Row) (h : rows.findIdx? (fun r => decide (r = q)) = none) : kput (nums rows 0) q.key (.int (rows.length : Nat)) = nums (rows ++ [q]) 0 := by
  rw [nums_app]
  unfold kput
  have g := nums_get q rows 0
  rw [h, Option.map_none] at g
  have na : (nums rows 0).any (fun kv => decide (kv.1 = q.key)) = false := by
    unfold kget at g
    rw [Option.map_eq_none_iff] at g
    rw [List.any_eq_false]
    intro x hx
    have := List.find?_eq_none.mp g x hx
    simpa using this
  rw [na]
  simp
/-- an instance of Values at v, its rows at r, their numbers at t -/
structure VS (v r t : Nat) (rows : List Row) (St : Store) : Prop where
  ins : St[v]? = some (.ins "Values" [("rows", .loc r), ("numbers", .loc t)])
  rw_ : St[r]? = some (.lst (rows.map Row.d))
  nm : St[t]? = some (.dt (nums rows 0))
  ne : v ≠ r ∧ v ≠ t ∧ r ≠ t
theorem at_rows : md.P.att "Values" "rows" = true := by rfl
theorem at_numbers : md.P.att "Values" "numbers" = true := by rfl
theorem mt_number : md.P.meths "Values" "value_number" = some ⟨2, 2, b_Values_value_number⟩ := by rfl
theorem mt_whole : md.P.meths "Values" "whole" = some ⟨2, 2, b_Values_whole⟩ := by rfl
theorem mt_told : md.P.meths "Values" "told" = some ⟨3, 4, b_Values_told⟩ := by rfl
theorem bm_whole : md.P.bm "Values" "whole" = true := by rfl
theorem bm_told : md.P.bm "Values" "told" = true := by rfl
variable {v r t : Nat} {rows : List Row}
theorem VS.fr {c : Ev.Ctx} (h : VS v r t rows S) (ha : c.att "Values" "rows" = true) : fldR c "rows" (.loc v) S = .ok (.loc r) S := by
  simp [fldR, h.ins, ha]
theorem VS.fn {c : Ev.Ctx} (h : VS v r t rows S) (ha : c.att "Values" "numbers" = true) : fldR c "numbers" (.loc v) S = .ok (.loc t) S := by
  simp [fldR, h.ins, ha, List.lookup]
/-- what value_number leaves -/
def numS (r t : Nat) (q : Row) (rows : List Row) (S : Store) : Store := match rows.findIdx? fun x => decide (x = q) with
  | some _ => S
  | none => (S.set t (.dt (nums (rows ++ [q]) 0))).set r (.lst ((rows ++ [q]).map Row.d))
theorem numS_len {q : Row} : (numS r t q rows S).length = S.length := by
  unfold numS
  split <;> simp
theorem numS_low {q : Row} {l : Nat} (h1 : l ≠ r) (h2 : l ≠ t) : (numS r t q rows S)[l]? = S[l]? := by
  unfold numS
  split
  · rfl
  · rw [List.getElem?_set_ne (Ne.symm h1), List.getElem?_set_ne (Ne.symm h2)]
theorem numS_VS {q : Row} (h : VS v r t rows S) : VS v r t (number q rows).2 (numS r t q rows S) := by
  have hr : r < S.length := (List.getElem?_eq_some_iff.mp h.rw_).1
  have ht : t < S.length := (List.getElem?_eq_some_iff.mp h.nm).1
  unfold numS number
  cases e : rows.findIdx? fun x => decide (x = q) with
  | some i => exact h
  | none =>
    refine ⟨?_, ?_, ?_, h.ne⟩
    · rw [List.getElem?_set_ne (Ne.symm h.ne.1), List.getElem?_set_ne (Ne.symm h.ne.2.1)]; exact h.ins
    · rw [List.getElem?_set_self (by simpa using hr)]
    · rw [List.getElem?_set_ne h.ne.2.2, List.getElem?_set_self ht]
theorem bds_rows (rows : List Row) (n : Nat) : bds n (rows.map Row.d) = true := bds_map (fun r => Row.bd r n) rows
theorem bd_nums : ∀ (rows : List Row) (k n : Nat), Ob.bd n (.dt (nums rows k)) = true := by
  intro rows
  induction rows with
  | nil => intro k n; rfl
  | cons r rows ih =>
    intro k n
    have := ih (k + 1) n
    simp only [Ob.bd] at this ⊢
    unfold nums
    rw [List.all_cons, this]
    rfl
theorem numS_wf {q : Row} (hS : wf S) : wf (numS r t q rows S) := by
  unfold numS
  split
  · exact hS
  · exact wf_set (wf_set hS (bd_nums _ _ _)) (bds_rows _ _)
theorem value_number_ok (q : Row) (h : VS v r t rows S) (hS : wf S) (hl : rows.length < 5000) : (cxK md.P (k + 1)).meth "Values" "value_number" [.loc v, q.d] S = .ok (.int ((number q rows).1 : Nat)) (numS r t q rows S) := by
  rw [meth_eq mt_number]
  refine run_rtW rfl numS_len (numS_wf hS) rfl ?_
  have f1 := h.fr (c := cxK md.P k) (by simp [at_rows])
  have f2 := h.fn (c := cxK md.P k) (by simp [at_numbers])
  have g := nums_get q rows 0
  have gk := Row.keys q
  have dd := Row.d_ds q
  have h2 := numS_VS (q := q) h
  have f3 := h2.fn (c := cxK md.P k) (by simp [at_numbers])
  have nn := number_spec q rows
  cases e : rows.findIdx? fun x => decide (x = q) with
  | some i =>
    rw [e, Option.map_some, Nat.zero_add] at g
    have e1 : number q rows = (i, rows) := by unfold number; rw [e]
    have e2 : numS r t q rows S = S := by unfold numS; rw [e]
    rw [e1, e2]
    have c1 : cmpD .nin q.d (.loc t) S = .ok (.bl false) S := by
      rw [dd]
      simp only [cmpD, h.nm, obGet, gk, Option.map_some, g, Option.isSome_some]
      rfl
    have c2 : subD (.loc t) q.d S = .ok (.int (i : Nat)) S := by
      rw [dd]
      simp only [subD, h.nm, obGet, gk, Option.map_some, g]
    simp [b_Values_value_number, startE, setR, parR, parE, asgT, asgTs, asgsR, bindT, bindTs, wipeE, f2, c1, c2]
  | none =>
    rw [e, Option.map_none] at g
    have e1 : number q rows = (rows.length, rows ++ [q]) := by unfold number; rw [e]
    rw [e1] at h2 nn ⊢
    have c1 : cmpD .nin q.d (.loc t) S = .ok (.bl true) S := by
      rw [dd]
      simp only [cmpD, h.nm, obGet, gk, Option.map_some, g, Option.isSome_none]
      rfl
    have ln : bltD .len [.loc r] S = .ok (.int (rows.length : Nat)) S := by rw [len_loc h.rw_, List.length_map]
    have st : stoD (.loc t) q.d (.int (rows.length : Nat)) S = .ok () (S.set t (.dt (nums (rows ++ [q]) 0))) := by
      rw [dd]
      have hz : (nums rows 0).length < LIM := by rw [nums_len]; simp only [LIM]; omega
      simp only [stoD, h.nm, obPut, gk, Option.bind_some, hz, if_true, nums_put q rows e]
    have hr : r < S.length := (List.getElem?_eq_some_iff.mp h.rw_).1
    have ht : t < S.length := (List.getElem?_eq_some_iff.mp h.nm).1
    have VS1 : VS v r t rows (S.set t (.dt (nums rows 0))) := by
      rw [show S.set t (.dt (nums rows 0)) = S from by
        obtain ⟨g1, g2⟩ := List.getElem?_eq_some_iff.mp h.nm
        rw [← g2, List.set_getElem_self]]
      exact h
    have fr1 : fldR (cxK md.P k) "rows" (.loc v) (S.set t (.dt (nums (rows ++ [q]) 0))) = .ok (.loc r) (S.set t (.dt (nums (rows ++ [q]) 0))) := by
      have : (S.set t (.dt (nums (rows ++ [q]) 0)))[v]? = some (.ins "Values" [("rows", .loc r), ("numbers", .loc t)]) := by rw [List.getElem?_set_ne (Ne.symm h.ne.2.1)]; exact h.ins
      simp [fldR, this, at_rows]
    have gr : (S.set t (.dt (nums (rows ++ [q]) 0)))[r]? = some (.lst (rows.map Row.d)) := by rw [List.getElem?_set_ne (Ne.symm h.ne.2.2)]; exact h.rw_
    have ka := kind_append gr
    have ap := m_append (d := q.d) gr (by rw [List.length_map]; simp only [LIM]; omega)
    have e2 : numS r t q rows S = (S.set t (.dt (nums (rows ++ [q]) 0))).set r (.lst (rows.map Row.d ++ [q.d])) := by unfold numS; rw [e, List.map_append]; rfl
    have c2 : subD (.loc t) q.d (numS r t q rows S) = .ok (.int (rows.length : Nat)) (numS r t q rows S) := by
      have g2 := nums_get q (rows ++ [q]) 0
      have e3 : (rows ++ [q]).findIdx? (fun x => decide (x = q)) = some rows.length := by
        rw [List.findIdx?_append, e]
        simp
      rw [e3, Option.map_some, Nat.zero_add] at g2
      rw [dd]
      simp only [subD, h2.nm, obGet, gk, Option.map_some, g2]
    rw [e2] at f3 c2 ⊢
    generalize (S.set t (.dt (nums (rows ++ [q]) 0))).set r (.lst (rows.map Row.d ++ [q.d])) = S2 at ap f3 c2 ⊢
    generalize S.set t (.dt (nums (rows ++ [q]) 0)) = S1 at *
    simp [b_Values_value_number, startE, setR, parR, parE, asgT, asgTs, asgsR, bindT, bindTs, wipeE, f1, f2, c1, ln, st, fr1, ka, ap, f3, c2, asgT]
end
end K84
end

section
set_option Elab.async false
set_option linter.all false
set_option maxRecDepth 100000
set_option maxHeartbeats 1000000
set_option autoImplicit false
namespace K84
open PySem Ev
section
variable {k bz : Nat} {S : Store} {v r t : Nat} {rows : List Row}
theorem ownR_VS (h : VS v r t rows S) (f : Store → Res (List D)) : ownR (cxK md.P (k + 1)) "value_number" (.loc v) S f = (f S).bind fun ds S => (cxK md.P (k + 1)).meth "Values" "value_number" (.loc v :: ds) S := by
  have e : (md.P.meths "Values" "value_number").isSome = true := by rfl
  have l : ([("rows", D.loc r), ("numbers", .loc t)].lookup "value_number").isNone = true := by rfl
  simp only [ownR, h.ins, cxK_methdS, e, l, Bool.and_self, if_true]
theorem whole_ok (i : Int) (h : VS v r t rows S) (hS : wf S) (hl : rows.length < 5000) : (cxK md.P (k + 2)).meth "Values" "whole" [.loc v, .int i] S = .ok (.int ((number (.cst i) rows).1 : Nat)) (numS r t (.cst i) rows S) := by
  rw [meth_eq mt_whole]
  refine run_rtW rfl numS_len (numS_wf hS) rfl ?_
  have o := ownR_VS (k := k) h
  have n := value_number_ok (k := k) (.cst i) h hS hl
  simp only [Row.d] at n
  simp [b_Values_whole, startE, setR, parR, parE, asgT, asgTs, asgsR, bindT, bindTs, wipeE, o, n]
theorem VS.app (h : VS v r t rows S) (o : List Ob) : VS v r t rows (S ++ o) := by
  have hv : v < S.length := (List.getElem?_eq_some_iff.mp h.ins).1
  have hr : r < S.length := (List.getElem?_eq_some_iff.mp h.rw_).1
  have ht : t < S.length := (List.getElem?_eq_some_iff.mp h.nm).1
  exact ⟨by rw [List.getElem?_append_left hv]; exact h.ins, by rw [List.getElem?_append_left hr]; exact h.rw_, by rw [List.getElem?_append_left ht]; exact h.nm, h.ne⟩
theorem numS_app {q : Row} (h : VS v r t rows S) (o : List Ob) : numS r t q rows (S ++ o) = numS r t q rows S ++ o := by
  have hr : r < S.length := (List.getElem?_eq_some_iff.mp h.rw_).1
  have ht : t < S.length := (List.getElem?_eq_some_iff.mp h.nm).1
  unfold numS
  split
  · rfl
  · rw [List.set_append_left _ _ ht, List.set_append_left _ _ (by simpa using hr)]
@[simp] theorem okBf_sorted {b : Bool} : okBf .sorted b = true := rfl
theorem in_same (w : Wd) : inDs (.str w.nm) [.str "add", .str "mul"] = some (decide (w = .add ∨ w = .mul)) := by cases w <;> kernel_rfl
theorem intsD_nat : ∀ as : List Nat, intsD (as.map fun a => .int (a : Nat)) = some (as.map fun a => ((a : Nat) : Int))
  | [] => rfl
  | a :: as => by rw [List.map_cons, intsD, intsD_nat as]; rfl
theorem sort_two (a b : Nat) : (sortI [(a : Int), (b : Int)]).map D.int = [.int ((min a b : Nat) : Int), .int ((max a b : Nat) : Int)] := by
  show (if (a : Int) ≤ (b : Int) then [(a : Int), (b : Int)] else [(b : Int), (a : Int)]).map D.int = _
  rcases Nat.le_total a b with h | h
  · rw [if_pos (by omega), Nat.min_eq_left h, Nat.max_eq_right h]; rfl
  · by_cases e : a = b
    · subst e
      rw [if_pos (Int.le_refl _), Nat.min_self, Nat.max_self]; rfl
    · rw [if_neg (by omega), Nat.min_eq_right h, Nat.max_eq_left h]; rfl
theorem told_ok (w : Wd) (as : List Nat) (l : Nat) (h : VS v r t rows S) (hS : wf S) (hl : rows.length < 5000) (hw : w.shuf = none) (hlen : as.length = w.takes) (ha : S[l]? = some (.lst (as.map fun a => .int (a : Nat)))) : (cxK md.P (k + 2)).meth "Values" "told" [.loc v, .str w.nm, .loc l] S = .ok (.int ((number (rowOf w as) rows).1 : Nat)) (numS r t (rowOf w as) rows S) := by
  rw [meth_eq mt_told]
  have is := in_same w
  by_cases hs : w = .add ∨ w = .mul
  · have h2 : as.length = 2 := by rcases hs with e | e <;> (rw [hlen, e]; rfl)
    match as, h2 with
    | [a, b], _ =>
      have so : bltD .sorted [.loc l] S = .ok (.loc S.length) (S ++ [.lst [.int ((min a b : Nat) : Int), .int ((max a b : Nat) : Int)]]) := by
        have e := intsD_nat [a, b]
        simp only [bltD, ha, e]
        rw [show ([a, b] : List Nat).map (fun a => ((a : Nat) : Int)) = [(a : Int), (b : Int)] from rfl, sort_two]
        rfl
      have tl := tuple_loc (S := S ++ [.lst [.int ((min a b : Nat) : Int), .int ((max a b : Nat) : Int)]]) (l := S.length) (ds := [.int ((min a b : Nat) : Int), .int ((max a b : Nat) : Int)]) (by simp)
      have h' := h.app [.lst [.int ((min a b : Nat) : Int), .int ((max a b : Nat) : Int)]]
      have w' : wf (S ++ [.lst [.int ((min a b : Nat) : Int), .int ((max a b : Nat) : Int)]]) := wf_add hS rfl
      have o := ownR_VS (k := k) h'
      have er : (rowOf w [a, b]).d = .tup [.str w.nm, .int ((min a b : Nat) : Int), .int ((max a b : Nat) : Int)] := by rcases hs with e | e <;> (rw [e]; rfl)
      have n := value_number_ok (k := k) (rowOf w [a, b]) h' w' hl
      rw [er, numS_app h] at n
      have wS := numS_wf (r := r) (t := t) (q := rowOf w [a, b]) (rows := rows) hS
      unfold wf at wS
      rw [numS_len] at wS
      refine run_low (S' := numS r t (rowOf w [a, b]) rows S ++ [.lst [.int ((min a b : Nat) : Int), .int ((max a b : Nat) : Int)]]) rfl wS rfl (by rw [List.take_append_of_le_length (by rw [numS_len]; exact Nat.le_refl _), ← numS_len (r := r) (t := t) (q := rowOf w [a, b]) (rows := rows) (S := S), List.take_length]) ?_
      have bt := fun St => bin_tup (S := St) (xs := [D.str w.nm]) (ys := [.int ((min a b : Nat) : Int), .int ((max a b : Nat) : Int)]) (by simp [LIM])
      generalize numS r t (rowOf w [a, b]) rows S ++ [Ob.lst [.int ((min a b : Nat) : Int), .int ((max a b : Nat) : Int)]] = S3 at *
      generalize S ++ [Ob.lst [.int ((min a b : Nat) : Int), .int ((max a b : Nat) : Int)]] = S2 at *
      generalize ((min a b : Nat) : Int) = mi at *
      generalize ((max a b : Nat) : Int) = ma at *
      simp [b_Values_told, startE, setR, parR, parE, asgT, asgTs, asgsR, bindT, bindTs, wipeE, gl_SAME, is, hs, so, tl, bt, o, n]
  · have tl := tuple_loc ha
    have o := ownR_VS (k := k) h
    have er : (rowOf w as).d = .tup (.str w.nm :: as.map fun a => .int (a : Nat)) := by
      rcases shuf_none hw with e | e | e | e
      · exact absurd (.inl e) hs
      · subst e
        match as, hlen with
        | [a, b], _ => rfl
      · exact absurd (.inr e) hs
      · subst e
        match as, hlen with
        | [a], _ => rfl
    have n := value_number_ok (k := k) (rowOf w as) h hS hl
    rw [er] at n
    refine run_rtW rfl numS_len (numS_wf hS) rfl ?_
    have bt := fun St => bin_tup (S := St) (xs := [D.str w.nm]) (ys := as.map fun a => D.int (a : Nat)) (by rw [List.length_map, hlen]; cases w <;> simp [Wd.takes, LIM])
    generalize as.map (fun a => D.int (a : Nat)) = u at *
    simp [b_Values_told, startE, setR, parR, parE, asgT, asgTs, asgsR, bindT, bindTs, wipeE, gl_SAME, is, hs, tl, bt, o, n]
structure InvV (v r t n0 : Nat) (S0 : Store) (rows : List Row) (St : Store) : Prop where
  vs : VS v r t rows St
  lo : v < n0 ∧ r < n0 ∧ t < n0
  rest : ∀ l, l < n0 → l ≠ r → l ≠ t → St[l]? = S0[l]?
theorem makerV {j n0 : Nat} {S0 : Store} : Maker Nat (List Row) VM (fun a => .int (a : Nat)) (cxK md.P (j + 2)) (.bm "Values" "whole" v) (.bm "Values" "told" v) n0 (InvV v r t n0 S0) (fun _ _ _ => True) (fun rows => rows.length < 5000) where
  bd := fun _ _ => rfl
  keep := fun rows St St' h i => by
    have lo := i.lo
    exact ⟨⟨by rw [h _ lo.1]; exact i.vs.ins, by rw [h _ lo.2.1]; exact i.vs.rw_, by rw [h _ lo.2.2]; exact i.vs.nm, i.vs.ne⟩, lo, fun l hl h1 h2 => by rw [h l hl]; exact i.rest l hl h1 h2⟩
  made := fun i rows St hS hn inv hb => by
    have lo := inv.lo
    have e := whole_ok (k := j) i inv.vs hS hb
    refine ⟨numS r t (.cst i) rows St, ?_, ⟨numS_VS inv.vs, lo, fun l hl h1 h2 => by rw [numS_low h1 h2]; exact inv.rest l hl h1 h2⟩, numS_wf hS, numS_len, fun l hl => numS_low (by omega) (by omega)⟩
    simp [mt_whole, bm_whole, e, VM]
  told := fun w as rows St l hS hn hl inv ha hw hlen _ hb => by
    have lo := inv.lo
    have e := told_ok (k := j) w as l inv.vs hS hb hw hlen ha
    refine ⟨numS r t (rowOf w as) rows St, ?_, ⟨numS_VS inv.vs, lo, fun l hl h1 h2 => by rw [numS_low h1 h2]; exact inv.rest l hl h1 h2⟩, numS_wf hS, numS_len, fun l hl => numS_low (by omega) (by omega)⟩
    simp [mt_told, bm_told, e, VM]
end
end K84
end

section
set_option Elab.async false
set_option linter.all false
set_option maxRecDepth 100000
set_option maxHeartbeats 1000000
set_option autoImplicit false
namespace K84
open PySem Ev
section
variable {k bz : Nat} {S : Store}
theorem rng_nat {n : Nat} {St : Store} (h : n ≤ 1000) : rng1R (.int (n : Nat)) St = .ok (.ds (rngL 0 1 n)) St := by
  rw [rng1R_int (by unfold small62; simp; omega)]
  rfl
theorem rngL_nat : ∀ (m p : Nat), rngL (p : Int) 1 m = (List.range' p m).map fun i => D.int (i : Nat)
  | 0, p => rfl
  | m + 1, p => by
    have e : (p : Int) + 1 = ((p + 1 : Nat) : Int) := by omega
    rw [rngL, e, rngL_nat m (p + 1), List.range'_succ, List.map_cons]
theorem rngL_range (m : Nat) : rngL 0 1 m = (List.range m).map fun i => D.int (i : Nat) := by
  rw [List.range_eq_range']
  exact rngL_nat m 0
theorem ins_at {n i : Nat} (h : i < n) : (ins n)[i]? = some (.inn i) := by
  unfold ins
  rw [List.getElem?_map, List.getElem?_range h]
  rfl
theorem ins_find {n i : Nat} (h : i ≤ n) : ((ins n).take i).findIdx? (fun r => decide (r = Row.inn i)) = none := by
  rw [List.findIdx?_eq_none_iff]
  intro r hr
  obtain ⟨j, hj, e⟩ := List.getElem_of_mem hr
  rw [List.length_take] at hj
  rw [List.getElem_take] at e
  have a := ins_at (n := n) (i := j) (by rw [ins_len] at hj; omega)
  rw [List.getElem?_eq_getElem (by omega)] at a
  have e2 := (Option.some.inj a).symm.trans e
  rw [← e2]
  simp
  omega
/-- the numbers of the first rows -/
theorem dict_walk {c : Ev.Ctx} {env : EnvD} {l n : Nat} (hn : n ≤ 900) (hS : S[l]? = some (.lst ((ins n).map Row.d))) (he : env.length = 4) :
    ∀ (m i : Nat), i ≤ n → n < m + i → walkE (turnK c [2, 3] (.tup (.cons (.name 2) (.cons (.name 3) .nil))) (.var 3) (.var 2) env) l m i (.dt (nums ((ins n).take i) 0)) S = .ok (.dt (nums (ins n) 0)) S
  | 0, i, h1, h2 => by omega
  | m + 1, i, h1, h2 => by
    unfold walkE
    rw [hS]
    dsimp only
    by_cases hi : i < n
    · rw [List.getElem?_map, ins_at hi]
      show ((turnK c [2, 3] _ (.var 3) (.var 2) env (.tup [.int (i : Nat), (Row.inn i).d]) (.dt (nums ((ins n).take i) 0)) S).bind _) = _
      match env, he with
      | [e0, e1, e2, e3], _ =>
        have s : turnK c [2, 3] (.tup (.cons (.name 2) (.cons (.name 3) .nil))) (.var 3) (.var 2) [e0, e1, e2, e3] (.tup [.int (i : Nat), (Row.inn i).d]) (.dt (nums ((ins n).take i) 0)) S = .ok (.dt (nums ((ins n).take (i + 1)) 0)) S := by
          have t : (ins n).take (i + 1) = (ins n).take i ++ [Row.inn i] := by
            have hl : i < (ins n).length := by rw [ins_len]; exact hi
            rw [List.take_succ, ins_at hi]
            rfl
          have p := nums_put (Row.inn i) ((ins n).take i) (ins_find h1)
          have ll : ((ins n).take i).length = i := by rw [List.length_take, ins_len]; omega
          rw [ll] at p
          have q : putR (.dt (nums ((ins n).take i) 0)) (Row.inn i).d (.int (i : Nat)) S = .ok (.dt (nums ((ins n).take (i + 1)) 0)) S := by
            have ky := Row.keys (Row.inn i)
            have ob : obPut (.dt (nums ((ins n).take i) 0)) (Row.inn i).d (.int (i : Nat)) = some (.dt (nums ((ins n).take (i + 1)) 0)) := by
              rw [Row.d_ds]
              unfold obPut
              simp only [ky, Option.bind_some]
              rw [if_pos (by rw [nums_len, ll]; simp [LIM]; omega), p, t]
            unfold putR
            rw [ob]
          simp [turnK, startE, setR, parR, parE, asgT, asgTs, asgsR, bindT, bindTs, wipeE, q]
        rw [s]
        exact dict_walk hn hS rfl m (i + 1) hi (by omega)
    · have e : i = n := by omega
      subst e
      rw [List.getElem?_eq_none (by rw [List.length_map, ins_len]; exact Nat.le_refl _)]
      rw [List.take_of_length_le (by rw [ins_len]; exact Nat.le_refl _)]
theorem mt_init : md.P.meths "Values" "__init__" = some ⟨2, 4, b_Values___init__⟩ := by rfl
/-- the store with a new instance -/
def newS (n : Nat) (S : Store) : Store := S ++ [.ins "Values" [("rows", .loc (S.length + 1)), ("numbers", .loc (S.length + 2))], .lst ((ins n).map Row.d), .dt (nums (ins n) 0)]
theorem init_ok (n : Nat) (hn : n ≤ 900) : (cxK md.P (k + 2)).init "Values" [.loc S.length, .int (n : Nat)] (S ++ [.ins "Values" []]) = .ok .non (newS n S) := by
  rw [init_eq mt_init]
  unfold runDef
  have rg := fun St => rng_nat (St := St) (n := n) (by omega)
  have w : ∀ St : Store, walkT (turnC (cxK md.P k) [2] (.name 2) (fun _ S => .ok true S) (.tup (.cons (.str "in") (.cons (.var 2) .nil))) [some (.loc S.length), some (.int (n : Nat)), none, none]) (rngL 0 1 n) [] St = .ok ((ins n).map Row.d) St := fun St => by
    have q := walkT_map (f := turnC (cxK md.P k) [2] (.name 2) (fun _ S => .ok true S) (.tup (.cons (.str "in") (.cons (.var 2) .nil))) [some (.loc S.length), some (.int (n : Nat)), none, none]) (g := fun d => .tup [.str "in", d]) (S := St) (ds := rngL 0 1 n) (acc := []) (fun d _ acc ha => by simp [turnC, startE, setR, parR, parE, asgT, asgTs, asgsR, bindT, bindTs, wipeE, ha]) (by rw [rngL_range]; simp [LIM]; omega)
    rw [q, rngL_range, List.nil_append]
    unfold ins
    simp only [List.map_map]
    rfl
  have d := dict_walk (c := cxK md.P k) (n := n) (l := S.length + 1) (S := S ++ [.ins "Values" [("rows", .loc (S.length + 1))], .lst ((ins n).map Row.d)]) (env := [some (.loc S.length), some (.int (n : Nat)), none, none]) hn (by rw [List.getElem?_append_right (by omega)]; simp) rfl LIM 0 (by omega) (by simp [LIM]; omega)
  rw [List.take_zero] at d
  have d : walkE (turnK (cxK md.P k) [2, 3] (.tup (.cons (.name 2) (.cons (.name 3) .nil))) (.var 3) (.var 2) [some (.loc S.length), some (.int (n : Nat)), none, none]) (S.length + 1) LIM 0 (.dt []) (S ++ [.ins "Values" [("rows", .loc (S.length + 1))], .lst ((ins n).map Row.d)]) = .ok (.dt (nums (ins n) 0)) (S ++ [.ins "Values" [("rows", .loc (S.length + 1))], .lst ((ins n).map Row.d)]) := d
  have f1 : fldD (cxK md.P k) (.loc S.length) "rows" (.loc (S.length + 1)) (S ++ [.ins "Values" [], .lst ((ins n).map Row.d)]) = .ok () (S ++ [.ins "Values" [("rows", .loc (S.length + 1))], .lst ((ins n).map Row.d)]) := by
    simp [fldD, at_rows, putF]
  have f2 : fldD (cxK md.P k) (.loc S.length) "numbers" (.loc (S.length + 2)) (S ++ [.ins "Values" [("rows", .loc (S.length + 1))], .lst ((ins n).map Row.d), .dt (nums (ins n) 0)]) = .ok () (newS n S) := by
    simp [fldD, at_numbers, putF, newS]
  have fr : fldR (cxK md.P k) "rows" (.loc S.length) (S ++ [.ins "Values" [("rows", .loc (S.length + 1))], .lst ((ins n).map Row.d)]) = .ok (.loc (S.length + 1)) (S ++ [.ins "Values" [("rows", .loc (S.length + 1))], .lst ((ins n).map Row.d)]) := by
    simp [fldR, at_rows]
  have en : enmD (.loc (S.length + 1)) (S ++ [.ins "Values" [("rows", .loc (S.length + 1))], .lst ((ins n).map Row.d)]) = .ok (.enl (S.length + 1)) (S ++ [.ins "Values" [("rows", .loc (S.length + 1))], .lst ((ins n).map Row.d)]) := by
    simp [enmD]
  have b : evSs (cxK md.P k) (S ++ [Ob.ins "Values" []]).length b_Values___init__ (startE 4 [.loc S.length, .int (n : Nat)]) (S ++ [.ins "Values" []]) = .nx [some (.loc S.length), some (.int (n : Nat)), none, none] (newS n S) := by
    simp [b_Values___init__, startE, setR, parR, parE, asgT, asgTs, asgsR, bindT, bindTs, wipeE, rg, walkI, w, d, f1, f2, fr, en, emptyD, noExc]
  refine (if_pos rfl).trans ?_
  show gcR _ (endO (evSs (cxK md.P k) (S ++ [Ob.ins "Values" []]).length b_Values___init__ (startE 4 [.loc S.length, .int (n : Nat)]) (S ++ [.ins "Values" []]))) = _
  rw [b]
  show gcR (S ++ [.ins "Values" []]) (.ok .non (newS n S)) = _
  have g : gc .non (S ++ [Ob.ins "Values" []]).length (newS n S) = (.non, newS n S) := by
    unfold gc
    rw [if_neg]
    intro h
    rw [List.all_eq_true] at h
    have := h (.ins "Values" [("rows", .loc (S.length + 1)), ("numbers", .loc (S.length + 2))]) (by
      unfold newS
      rw [List.length_append, List.take_append]
      simp)
    simp [Ob.bd, D.bd] at this
  unfold gcR
  simp only [g]
theorem newS_VS {n : Nat} : VS S.length (S.length + 1) (S.length + 2) (ins n) (newS n S) := by
  unfold newS
  refine ⟨by simp, by rw [List.getElem?_append_right (by omega)]; simp, by rw [List.getElem?_append_right (by omega)]; simp, by omega⟩
theorem newR_ok (n : Nat) (hn : n ≤ 900) : newR' (cxK md.P (k + 2)) "Values" [.int (n : Nat)] S = .ok (.loc S.length) (newS n S) := by
  unfold newR'
  rw [init_ok n hn]
  rfl
theorem newS_wf {n : Nat} (hS : wf S) : wf (newS n S) := by
  have b1 := bds_rows (ins n) (S.length + 3)
  have b2 := bd_nums (ins n) 0 (S.length + 3)
  have h : S.all (Ob.bd S.length) = true := hS
  unfold wf newS
  simp only [List.length_append, List.length_cons, List.length_nil, List.all_append, Bool.and_eq_true]
  refine ⟨?_, ?_⟩
  · rw [List.all_eq_true] at h ⊢
    intro o ho
    exact Ob.bd_mono (by omega) (h o ho)
  · simp [Ob.bd, D.bd, b1, bd_lst]
    simpa [Ob.bd] using b2
end
end K84
end

section
set_option Elab.async false
set_option linter.all false
set_option maxRecDepth 100000
set_option maxHeartbeats 1000000
set_option autoImplicit false
namespace K84
open PySem Ev
section
variable {k bz : Nat} {S : Store}
theorem df_raw_values : md.P.defs "raw_values" = some ⟨1, 4, b_raw_values⟩ := by rfl
theorem df_values_of : md.P.defs "values_of" = some ⟨1, 1, b_values_of⟩ := by rfl
theorem takes_le (x : It) : x.takes ≤ 3 ∧ x.gives ≤ 3 := by
  cases x with
  | n i => exact ⟨by simp [It.takes], by simp [It.gives]⟩
  | w w => cases w <;> exact ⟨by decide, by decide⟩
theorem wst_le : ∀ (p : List It) (w s : Nat), (wst p w s).1 ≤ w + 3 * p.length ∧ (wst p w s).2 ≤ s + 3 * p.length
  | [], w, s => by simp [wst]
  | x :: p, w, s => by
    have a := takes_le x
    have b := wst_le p (w + (x.takes - s)) (max s x.takes - x.takes + x.gives)
    unfold wst
    rw [List.length_cons]
    omega
theorem wants_le (p : List It) : wants p ≤ 3 * p.length := by
  have := (wst_le p 0 0).1
  unfold wants
  omega
theorem number_len (q : Row) (rows : List Row) : (number q rows).2.length ≤ rows.length + 1 := by
  unfold number
  split <;> simp
theorem step_rows (x : It) (st : List Nat) (rows : List Row) : (step VM x st rows).2.length ≤ rows.length + 1 := by
  unfold step
  split
  · exact number_len _ _
  · split
    · simp
    · exact number_len _ _
theorem safeV : ∀ (p : List It) (st : List Nat) (rows : List Row), rows.length + p.length < 5000 → safe VM (fun _ _ _ => True) (fun rows => rows.length < 5000) p st rows
  | [], _, _, _ => trivial
  | x :: p, st, rows, h => by
    rw [List.length_cons] at h
    refine ⟨⟨by show rows.length < 5000; omega, ?_⟩, safeV p _ _ ?_⟩
    · cases x with
      | w w => exact fun _ => trivial
      | n i => trivial
    · have := step_rows x st rows
      omega
theorem exec_rows : ∀ (p : List It) (st : List Nat) (rows : List Row), (exec VM p st rows).2.length ≤ rows.length + p.length
  | [], _, rows => by simp [exec]
  | x :: p, st, rows => by
    have a := step_rows x st rows
    have b := exec_rows p (step VM x st rows).1 (step VM x st rows).2
    show (exec VM p (step VM x st rows).1 (step VM x st rows).2).2.length ≤ _
    rw [List.length_cons]
    omega
/-- rows and left as data -/
def vD (rows : List Row) (left : List Nat) : D := .tup [.tup (rows.map Row.d), .tup (left.map fun a => .int (a : Nat))]
theorem vD_bd (rows : List Row) (left : List Nat) (n : Nat) : (vD rows left).bd n = true := by
  have b1 := bds_rows rows n
  have b2 : bds n (left.map fun a => D.int (a : Nat)) = true := bds_map (fun _ => rfl) left
  simp [vD, b1, b2]
theorem bltD_list_loc {St : Store} {l : Nat} {ds : List D} (h : St[l]? = some (.lst ds)) : bltD .list [.loc l] St = .ok (.loc St.length) (St ++ [.lst ds]) := by
  simp only [bltD, h]
  rfl
theorem raw_values_ok (p : List It) (hS : wf S) (hw : wants p ≤ 900) (hl : wants p + 2 * p.length < 5000) : (cxK md.P (k + 4)).call "raw_values" [pr p] S = .ok (vD (vals p).2 (vals p).1) S := by
  rw [call_eq df_raw_values]
  have r := raw_wants_ok (k := k + 1) p hS
  have nw := newR_ok (k := k + 1) (S := S) (wants p) hw
  have wn := newS_wf (n := wants p) hS
  have vs := newS_VS (S := S) (n := wants p)
  have nl : (newS (wants p) S).length = S.length + 3 := by unfold newS; simp
  generalize hS1 : newS (wants p) S = S1 at *
  have lr := lrgR_int (S := S1) (n := ((wants p : Nat) : Int)) (by simp [LIM]; omega)
  rw [Int.toNat_natCast, rngL_range] at lr
  have w2 : wf (S1 ++ [.lst ((List.range (wants p)).map fun i => D.int (i : Nat))]) := wf_add wn (by rw [bd_lst]; exact bds_map (fun _ => rfl) _)
  have v2 := vs.app [.lst ((List.range (wants p)).map fun i => D.int (i : Nat))]
  have l2 : (S1 ++ [Ob.lst ((List.range (wants p)).map fun i => D.int (i : Nat))])[S1.length]? = some (.lst ((List.range (wants p)).map fun i => D.int (i : Nat))) := by simp
  have t2 : (S1 ++ [Ob.lst ((List.range (wants p)).map fun i => D.int (i : Nat))]).take S.length = S := by
    rw [List.take_append_of_le_length (by omega), ← hS1]
    unfold newS
    simp
  have n2 : (S1 ++ [Ob.lst ((List.range (wants p)).map fun i => D.int (i : Nat))]).length = S.length + 4 := by simp [nl]
  generalize S1 ++ [Ob.lst ((List.range (wants p)).map fun i => D.int (i : Nat))] = S2 at *
  have inv : InvV S.length (S.length + 1) (S.length + 2) S2.length S2 (ins (wants p)) S2 := ⟨v2, by omega, fun _ _ _ _ => rfl⟩
  obtain ⟨S3, e1, e2, e3, e4⟩ := straight_pile_ok (j := k + 1) (S := S2) (makerV (j := k) (n0 := S2.length) (S0 := S2)) p (List.range (wants p)) (ins (wants p)) (.loc S1.length) (bltD_list_loc l2) w2 inv (by rw [List.length_range]; exact fits_wants p) (by rw [List.length_range]; exact hl) (safeV p _ _ (by rw [ins_len]; omega)) (fun St' i _ hle => by
    rw [List.all_eq_true]
    intro o ho
    obtain ⟨l, hl', e⟩ := List.getElem_of_mem ho
    rw [List.length_take] at hl'
    have e : St'[l]? = some o := by
      rw [← e, List.getElem_take, List.getElem?_eq_getElem]
    by_cases h1 : l = S.length + 1
    · subst h1
      rw [i.vs.rw_] at e
      cases e
      exact bds_rows _ _
    · by_cases h2 : l = S.length + 2
      · subst h2
        rw [i.vs.nm] at e
        cases e
        exact bd_nums _ _ _
      · rw [i.rest l (by omega) h1 h2] at e
        have w : S2.all (Ob.bd S2.length) = true := w2
        rw [List.all_eq_true] at w
        exact w o (List.mem_of_getElem? e))
  have hv : exec VM p (List.range (wants p)) (ins (wants p)) = vals p := rfl
  rw [hv] at e1 e3
  have v3 := e3.vs.app [.lst ((vals p).1.map fun a => D.int (a : Nat))]
  have t3 : (S3 ++ [Ob.lst ((vals p).1.map fun a => D.int (a : Nat))]).take S.length = S := by
    rw [List.take_append_of_le_length (by omega)]
    refine Eq.trans (take_eq fun l hl' => ?_) t2
    rw [e3.rest l (by omega) (by omega) (by omega)]
  have tl := tuple_loc (S := S3 ++ [.lst ((vals p).1.map fun a => D.int (a : Nat))]) (l := S2.length) (ds := (vals p).1.map fun a => D.int (a : Nat)) (by rw [← e2]; simp)
  have fr := v3.fr (c := cxK md.P (k + 3)) (by rw [cxK_att']; exact at_rows)
  have tr := tuple_loc v3.rw_
  have b1 : bmvR (cxK md.P (k + 3)) "whole" (.loc S.length) S2 = .ok (.bm "Values" "whole" S.length) S2 := by simp [bmvR, v2.ins, bm_whole]
  have b2 : bmvR (cxK md.P (k + 3)) "told" (.loc S.length) S2 = .ok (.bm "Values" "told" S.length) S2 := by simp [bmvR, v2.ins, bm_told]
  have gd : md.P.gd = false := by rfl
  refine run_cut (S' := S3 ++ [.lst ((vals p).1.map fun a => D.int (a : Nat))]) rfl hS (vD_bd _ _ _) t3 ?_
  simp only [pr] at *
  unfold vD
  generalize S3 ++ [Ob.lst ((vals p).1.map fun a => D.int (a : Nat))] = S4 at *
  generalize p.map It.d = q at *
  generalize (vals p).1.map (fun a => D.int (a : Nat)) = u at *
  generalize (vals p).2.map Row.d = w at *
  simp [b_raw_values, startE, setR, parR, parE, asgT, asgTs, asgsR, bindT, bindTs, wipeE, df_raw_wants, df_straight_pile, mt_init, gd, r, nw, lr, b1, b2, e1, fr, tr, tl]
theorem values_of_ok (p : List It) (h : Fine p) (hS : wf S) : (cxK md.P (k + 5)).call "values_of" [pr p] S = .ok (vD (vals p).2 (vals p).1) S := by
  rw [call_eq df_values_of]
  have c := check_straight_ok (k := k) p h hS
  have r := raw_values_ok (k := k) p hS (by have := h.len; have := wants_le p; omega) (by have := h.len; have := wants_le p; omega)
  refine run_same rfl hS (vD_bd _ _ _) ?_
  simp only [pr] at *
  generalize p.map It.d = q at *
  generalize vD (vals p).2 (vals p).1 = u at *
  simp [b_values_of, startE, setR, parR, parE, asgT, asgTs, asgsR, bindT, bindTs, wipeE, df_check_straight, df_raw_values, c, r]
end
end K84
end

section
set_option Elab.async false
set_option linter.all false
set_option maxRecDepth 100000
set_option maxHeartbeats 1000000
set_option autoImplicit false
namespace K84
open PySem Ev
section
variable {k bz : Nat} {S : Store}
theorem df_is_value_row : md.P.defs "is_value_row" = some ⟨2, 3, b_is_value_row⟩ := by rfl
theorem df_are_values : md.P.defs "are_values" = some ⟨1, 7, b_are_values⟩ := by rfl
theorem df_check_values : md.P.defs "check_values" = some ⟨1, 1, b_check_values⟩ := by rfl
theorem df_check_integers : md.P.defs "check_integers" = some ⟨2, 3, b_check_integers⟩ := by rfl
@[simp] theorem cmp_nin_tup {d : D} {ds : List D} {S : Store} : cmpD .nin d (.tup ds) S = boolR ((inDs d ds).map not) S := by cases d <;> rfl
@[simp] theorem cmp_nin_ktup {d : D} {ds : List D} {S : Store} : cmpD .nin d (.ktup ds) S = boolR ((inDs d ds).map not) S := by cases d <;> rfl
@[simp] theorem partR_int' {i : Int} {S : Store} : partR (.int i) S = .ok i S := rfl
@[simp] theorem slcD_tup' {ds : List D} {lo hi : Option Int} {S : Store} : slcD (.tup ds) lo hi S = .ok (.tup (cutL ds lo hi)) S := rfl
def Row.tag : Row → Str
  | .inn _ => "in"
  | .cst _ => "int"
  | .one w _ => w.nm
  | .two w _ _ => w.nm
theorem nmB_in (x : Wd) : (x.nm == Str.ofString "in") = false := by cases x <;> decide +kernel
theorem nmB_int (x : Wd) : (x.nm == Str.ofString "int") = false := by cases x <;> decide +kernel
theorem in_in : (Str.ofString "in" == Str.ofString "in") = true := by decide +kernel
theorem int_in : (Str.ofString "int" == Str.ofString "in") = false := by decide +kernel
theorem int_int : (Str.ofString "int" == Str.ofString "int") = true := by decide +kernel
theorem Row.tag_in (r : Row) : (r.tag == Str.ofString "in") = r.isIn := by
  cases r with
  | inn _ => exact in_in
  | cst _ => exact int_in
  | one w _ => exact nmB_in w
  | two w _ _ => exact nmB_in w
@[simp] theorem Row.sub0 (r : Row) {S : Store} : subD r.d (.int 0) S = .ok (.str r.tag) S := by cases r <;> rfl
theorem is_within_ok (i lo hi : Int) (h : lo ≤ i ∧ i ≤ hi) (hS : wf S) : (cxK md.P (k + 2)).call "is_within" [.int i, .int lo, .int hi] S = .ok (.bl true) S := by
  rw [call_eq df_is_within]
  refine run_same rfl hS rfl ?_
  simp [b_is_within, startE, setR, parR, parE, asgT, asgTs, asgsR, bindT, bindTs, wipeE, df_is_integer, is_integer_int i hS, h.1, h.2]
theorem in_23 : inDs (.int 2) [.int 2, .int 3] = some true ∧ inDs (.int 3) [.int 2, .int 3] = some true := ⟨by kernel_rfl, by kernel_rfl⟩
theorem sums3 (w : Wd) (h : w = .add ∨ w = .sub ∨ w = .mul) : w ≠ .neg ∧ w.shuf.isNone = true := by rcases h with rfl | rfl | rfl <;> exact ⟨by decide, by decide⟩
theorem Row.low_sums {r : Row} {n : Nat} (h : r.low n) : (match r with | .one w _ => w.shuf.isNone = true | .two w _ _ => w.shuf.isNone = true ∧ w ≠ .neg | _ => True) := by
  cases r with
  | inn _ => trivial
  | cst _ => trivial
  | one w a => obtain ⟨rfl, _⟩ := h; rfl
  | two w a b => exact ⟨(sums3 w h.1).2, (sums3 w h.1).1⟩
theorem is_value_row_ok (r : Row) (n : Nat) (h : r.low n) (hS : wf S) : (cxK md.P (k + 3)).call "is_value_row" [r.d, .int (n : Nat)] S = .ok (.bl true) S := by
  rw [call_eq df_is_value_row]
  refine run_same rfl hS rfl ?_
  have i23 := in_23
  cases r with
  | inn j =>
    have h : j = n := h
    subst h
    simp [b_is_value_row, startE, setR, parR, parE, asgT, asgTs, asgsR, bindT, bindTs, wipeE, Row.d, bt_tuple, bt_str, i23.1, df_is_integer, is_integer_int _ hS, in_in]
  | cst i => simp [b_is_value_row, startE, setR, parR, parE, asgT, asgTs, asgsR, bindT, bindTs, wipeE, Row.d, bt_tuple, bt_str, i23.1, df_is_integer, is_integer_int _ hS, int_in, int_int]
  | one w a =>
    obtain ⟨rfl, ha⟩ := h
    have w1 : ∀ (e0 e2 : Option D), walkT (turnC (cxK md.P (k + 2)) [2] (.name 2) (fun _ S => .ok true S) (.call "is_within" (.cons (.var 2) (.cons (.int 0) (.cons (.bin .sub (.var 1) (.int 1)) .nil)))) [e0, some (.int (n : Nat)), e2]) [.int (a : Nat)] [] S = .ok [.bl true] S := fun e0 e2 => by
      simp [walkT, turnC, startE, setR, parR, parE, asgT, asgTs, asgsR, bindT, bindTs, wipeE, df_is_within, is_within_ok (k := k) (a : Nat) 0 ((n : Nat) - 1) (by omega) hS, LIM]
    have al : bllD .all [.bl true] S = .ok (.bl true) S := all_true 1
    have is := in_sums .neg
    have ns := nm_neg .neg
    have cl : cutL [D.str Wd.neg.nm, .int (a : Nat)] (some 1) none = [.int (a : Nat)] := cutL_drop _ (n := 1) (by simp)
    rw [show Wd.neg.shuf.isNone = true from rfl] at is
    rw [decide_eq_true rfl] at ns
    simp [b_is_value_row, startE, setR, parR, parE, asgT, asgTs, asgsR, bindT, bindTs, wipeE, Row.d, bt_tuple, bt_str, i23.1, nmB_in, nmB_int, gl_SUMS, is, ns, cl, w1, al]
  | two w a b =>
    obtain ⟨hw, ha, hb⟩ := h
    have w1 : ∀ (e0 e2 : Option D), walkT (turnC (cxK md.P (k + 2)) [2] (.name 2) (fun _ S => .ok true S) (.call "is_within" (.cons (.var 2) (.cons (.int 0) (.cons (.bin .sub (.var 1) (.int 1)) .nil)))) [e0, some (.int (n : Nat)), e2]) [.int (a : Nat), .int (b : Nat)] [] S = .ok [.bl true, .bl true] S := fun e0 e2 => by
      simp [walkT, turnC, startE, setR, parR, parE, asgT, asgTs, asgsR, bindT, bindTs, wipeE, df_is_within, is_within_ok (k := k) (a : Nat) 0 ((n : Nat) - 1) (by omega) hS, is_within_ok (k := k) (b : Nat) 0 ((n : Nat) - 1) (by omega) hS, LIM]
    have al : bllD .all [.bl true, .bl true] S = .ok (.bl true) S := all_true 2
    have is := in_sums w
    have ns := nm_neg w
    have cl : cutL [D.str w.nm, .int (a : Nat), .int (b : Nat)] (some 1) none = [.int (a : Nat), .int (b : Nat)] := cutL_drop _ (n := 1) (by simp)
    rw [(sums3 w hw).2] at is
    rw [decide_eq_false (sums3 w hw).1] at ns
    simp [b_is_value_row, startE, setR, parR, parE, asgT, asgTs, asgsR, bindT, bindTs, wipeE, Row.d, bt_tuple, bt_str, i23.2, nmB_in, nmB_int, gl_SUMS, is, ns, cl, w1, al]
/-- rows and those left, as values_of and used_values tell them -/
structure Told (wide : Nat) (rows : List Row) (left : List Nat) : Prop where
  low : lows rows
  inn : innFirst wide rows
  lt : ∀ a ∈ left, a < rows.length
  len : rows.length ≤ 200
  few : left.length ≤ 1000
theorem in_count {wide : Nat} {rows : List Row} (h : innFirst wide rows) : rows.countP Row.isIn = wide := by
  have e : rows = rows.take wide ++ rows.drop wide := (List.take_append_drop wide rows).symm
  rw [e, List.countP_append]
  have a : (rows.take wide).countP Row.isIn = wide := by
    have : (rows.take wide).countP Row.isIn = (rows.take wide).length := by
      rw [List.countP_eq_length]
      intro r hr
      obtain ⟨i, hi, er⟩ := List.getElem_of_mem hr
      rw [List.length_take] at hi
      rw [List.getElem_take] at er
      obtain ⟨q, rfl⟩ := (h.2 i r (by rw [← er, List.getElem?_eq_getElem])).mp (by omega)
      rfl
    rw [this, List.length_take]
    have := h.1
    omega
  have b : (rows.drop wide).countP Row.isIn = 0 := by
    rw [List.countP_eq_zero]
    intro r hr hi
    obtain ⟨i, hi', er⟩ := List.getElem_of_mem hr
    rw [List.getElem_drop] at er
    have := (h.2 (wide + i) r (by rw [← er, List.getElem?_eq_getElem])).mpr (by
      cases r with
      | inn q => exact ⟨q, rfl⟩
      | cst _ => cases hi
      | one _ _ => cases hi
      | two _ _ _ => cases hi)
    omega
  omega
/-- the rows of the pile, picked out -/
theorem ins_walk {c : Ev.Ctx} {i : Nat} {ev : EnvD} {env : EnvD} (hi : ∀ r : Row, bindT (.name i) r.d (wipeE env [i]) = some (ev.set i (some r.d))) (he : i < ev.length) : ∀ (rows : List Row) (acc : List D), acc.length + rows.length ≤ LIM → ∃ acc' : List D, acc'.length = acc.length + rows.countP Row.isIn ∧
    walkT (turnC c [i] (.name i) (fun env S => ((((varR env[i]? S).bind fun x S => subD x (.int 0) S).bind fun x S => boolR (eqD S x (.str "in")) S).bind truR)) (.var i) env) (rows.map Row.d) acc S = .ok acc' S
  | [], acc, _ => ⟨acc, by simp, rfl⟩
  | r :: rows, acc, hl => by
    rw [List.length_cons] at hl
    have st := r.tag_in
    have eg : (ev.set i (some r.d))[i]? = some (some r.d) := by rw [List.getElem?_set_self he]
    rw [List.map_cons]
    unfold walkT
    cases hr : r.isIn with
    | true =>
      rw [hr] at st
      obtain ⟨acc', h1, h2⟩ := ins_walk hi he rows (acc ++ [r.d]) (by simp; omega)
      refine ⟨acc', by rw [h1]; simp [List.countP_cons, hr]; omega, ?_⟩
      have t : turnC c [i] (.name i) (fun env S => ((((varR env[i]? S).bind fun x S => subD x (.int 0) S).bind fun x S => boolR (eqD S x (.str "in")) S).bind truR)) (.var i) env r.d acc S = .ok (acc ++ [r.d]) S := by
        have ha : acc.length < LIM := by omega
        simp [turnC, hi, eg, st, ha]
      rw [t]
      exact h2
    | false =>
      rw [hr] at st
      obtain ⟨acc', h1, h2⟩ := ins_walk hi he rows acc (by omega)
      refine ⟨acc', by rw [h1]; simp [List.countP_cons, hr], ?_⟩
      have t : turnC c [i] (.name i) (fun env S => ((((varR env[i]? S).bind fun x S => subD x (.int 0) S).bind fun x S => boolR (eqD S x (.str "in")) S).bind truR)) (.var i) env r.d acc S = .ok acc S := by
        simp [turnC, hi, eg, st]
      rw [t]
      exact h2
theorem enum_rows {f : D → List D → Store → Res (List D)} : ∀ (rows : List Row) (i : Nat) (acc : List D), (∀ (j : Nat) (r : Row), rows[j]? = some r → ∀ acc, acc.length < LIM → f (.tup [.int ((i + j : Nat) : Int), r.d]) acc S = .ok (acc ++ [.bl true]) S) → acc.length + rows.length ≤ LIM → walkT f (enumL i (rows.map Row.d)) acc S = .ok (acc ++ List.replicate rows.length (.bl true)) S
  | [], i, acc, _, _ => by simp [enumL, walkT]
  | r :: rows, i, acc, hf, hl => by
    rw [List.length_cons] at hl
    rw [List.map_cons]
    unfold enumL walkT
    rw [show ((i : Nat) : Int) = ((i + 0 : Nat) : Int) from rfl, hf 0 r rfl acc (by omega)]
    show walkT f _ _ S = _
    rw [enum_rows (f := f) rows (i + 1) (acc ++ [D.bl true]) (fun j r' h acc ha => by
      have := hf (j + 1) r' (by simpa using h) acc ha
      rw [show i + (j + 1) = i + 1 + j from by omega] at this
      exact this) (by simp; omega)]
    simp [List.replicate_succ]
theorem check_integers_ok (pile : List Int) (wide : Nat) (h : wide ≤ pile.length) (hl : pile.length ≤ 1000) (hS : wf S) : (cxK md.P (k + 2)).call "check_integers" [.tup (pile.map D.int), .int (wide : Nat)] S = .ok .non S := by
  rw [call_eq df_check_integers]
  refine run_nx (S' := S) (env := [some (.tup (pile.map D.int)), some (.int (wide : Nat)), none]) rfl hS List.take_length ?_
  have iw := ints_walk (k := k) pile hS [some (.tup (pile.map D.int)), some (.int (wide : Nat)), none] rfl hl
  have ln : (pile.map D.int).length = pile.length := List.length_map ..
  have nl : ¬ (pile.length : Int) < (wide : Nat) := by omega
  have nl2 : ¬ pile.length < wide := by omega
  generalize pile.map D.int = u at *
  simp [b_check_integers, startE, setR, parR, parE, asgT, asgTs, asgsR, bindT, bindTs, wipeE, bt_tuple, iw, all_true, ln, nl, nl2]
end
end K84
end

section
set_option Elab.async false
set_option linter.all false
set_option maxRecDepth 100000
set_option maxHeartbeats 1000000
set_option autoImplicit false
namespace K84
open PySem Ev
section
variable {k bz : Nat} {S : Store}
theorem are_values_ok {wide : Nat} {rows : List Row} {left : List Nat} (h : Told wide rows left) (hS : wf S) : (cxK md.P (k + 4)).call "are_values" [vD rows left] S = .ok (.bl true) S := by
  rw [call_eq df_are_values]
  refine run_same rfl hS rfl ?_
  unfold vD
  have hlen := h.len
  have hfew := h.few
  have w1 : ∀ (q u : List D) (e : Option D), walkT (turnC (cxK md.P (k + 3)) [1] (.name 1) (fun _ S => .ok true S) (.blt .isi (.cons (.var 1) (.cons (.bty "tuple") .nil))) [e, none, none, none, none, none, none]) [.tup q, .tup u] [] S = .ok [.bl true, .bl true] S := fun q u e => by
    simp [walkT, turnC, startE, setR, parR, parE, asgT, asgTs, asgsR, bindT, bindTs, wipeE, bt_tuple, LIM]
  have al2 : bllD .all [.bl true, .bl true] S = .ok (.bl true) S := all_true 2
  have w2 := enum_rows (S := S) (f := turnC (cxK md.P (k + 3)) [4, 5] (.tup (.cons (.name 4) (.cons (.name 5) .nil))) (fun _ S => .ok true S) (.call "is_value_row" (.cons (.var 5) (.cons (.var 4) .nil))) [some (.tup [.tup (rows.map Row.d), .tup (left.map fun a => .int (a : Nat))]), none, some (.tup (rows.map Row.d)), some (.tup (left.map fun a => .int (a : Nat))), none, none, none]) rows 0 [] (fun j r hr acc ha => by
    have o := is_value_row_ok (k := k) r j (h.low j r hr) hS
    rw [Nat.zero_add]
    generalize rows.map Row.d = q at *
    generalize left.map (fun a => D.int (a : Nat)) = u at *
    generalize r.d = rd at *
    simp [turnC, startE, setR, parR, parE, asgT, asgTs, asgsR, bindT, bindTs, wipeE, df_is_value_row, o, ha]) (by simp [LIM]; omega)
  rw [List.nil_append] at w2
  obtain ⟨acc, a1, a2⟩ := ins_walk (S := S) (c := cxK md.P (k + 3)) (i := 5) (env := [some (.tup [.tup (rows.map Row.d), .tup (left.map fun a => .int (a : Nat))]), none, some (.tup (rows.map Row.d)), some (.tup (left.map fun a => .int (a : Nat))), none, none, none]) (ev := [some (.tup [.tup (rows.map Row.d), .tup (left.map fun a => .int (a : Nat))]), none, some (.tup (rows.map Row.d)), some (.tup (left.map fun a => .int (a : Nat))), none, none, none]) (fun r => rfl) (by simp) rows [] (by simp [LIM]; omega)
  rw [in_count h.inn, List.length_nil, Nat.zero_add] at a1
  have ct : cutL (rows.map Row.d) none (some ((acc.length : Nat) : Int)) = (rows.take wide).map Row.d := by
    rw [a1, cutL_take _ (by rw [List.length_map]; exact h.inn.1), List.map_take]
  have w3 := walkT_all (S := S) (f := turnC (cxK md.P (k + 3)) [5] (.name 5) (fun _ S => .ok true S) (.cmp .eq (.sub (.var 5) (.int 0)) (.str "in")) [some (.tup [.tup (rows.map Row.d), .tup (left.map fun a => .int (a : Nat))]), none, some (.tup (rows.map Row.d)), some (.tup (left.map fun a => .int (a : Nat))), none, none, some (.int (acc.length : Nat))]) (h := Row.d) (rows.take wide) (fun r hr acc' ha => by
    have ti := r.tag_in
    obtain ⟨i, hi, er⟩ := List.getElem_of_mem hr
    rw [List.length_take] at hi
    rw [List.getElem_take] at er
    obtain ⟨q, rfl⟩ := (h.inn.2 i r (by rw [← er, List.getElem?_eq_getElem])).mp (by omega)
    rw [show (Row.inn q).isIn = true from rfl] at ti
    have s0 := Row.sub0 (Row.inn q) (S := S)
    generalize rows.map Row.d = qq at *
    generalize left.map (fun a => D.int (a : Nat)) = u at *
    generalize (Row.inn q).d = rd at *
    simp [turnC, startE, setR, parR, parE, asgT, asgTs, asgsR, bindT, bindTs, wipeE, s0, ti, ha]) (by rw [List.length_take]; simp [LIM]; omega)
  have w4 := walkT_all (S := S) (f := turnC (cxK md.P (k + 3)) [1] (.name 1) (fun _ S => .ok true S) (.call "is_within" (.cons (.var 1) (.cons (.int 0) (.cons (.bin .sub (.blt .len (.cons (.var 2) .nil)) (.int 1)) .nil)))) [some (.tup [.tup (rows.map Row.d), .tup (left.map fun a => .int (a : Nat))]), none, some (.tup (rows.map Row.d)), some (.tup (left.map fun a => .int (a : Nat))), none, none, some (.int (acc.length : Nat))]) (h := fun a : Nat => D.int (a : Nat)) left (fun a ha acc' hacc => by
    have lt := h.lt a ha
    have o := is_within_ok (k := k + 1) (a : Nat) 0 (((rows.map Row.d).length : Int) - 1) (by rw [List.length_map]; omega) hS
    generalize rows.map Row.d = qq at *
    generalize left.map (fun a => D.int (a : Nat)) = u at *
    simp [turnC, startE, setR, parR, parE, asgT, asgTs, asgsR, bindT, bindTs, wipeE, df_is_within, o, hacc]) (by simp [LIM]; omega)
  have c1 : ¬ (200 : Int) < ((rows.map Row.d).length : Int) := by rw [List.length_map]; omega
  have c2 : ¬ 200 < (rows.map Row.d).length := by rw [List.length_map]; omega
  generalize (rows.take wide).map Row.d = q2 at *
  generalize (rows.take wide).length = n2 at *
  generalize rows.map Row.d = q at *
  generalize left.map (fun a => D.int (a : Nat)) = u at *
  simp [b_are_values, startE, setR, parR, parE, asgT, asgTs, asgsR, bindT, bindTs, wipeE, bt_tuple, gl_MOST_VALUES, w1, al2, w2, all_true, a2, ct, w3, w4, c1, c2]
theorem check_values_ok {wide : Nat} {rows : List Row} {left : List Nat} (h : Told wide rows left) (hS : wf S) : (cxK md.P (k + 5)).call "check_values" [vD rows left] S = .ok .non S := by
  rw [call_eq df_check_values]
  refine run_nx (S' := S) (env := [some (vD rows left)]) rfl hS List.take_length ?_
  have o := are_values_ok (k := k) h hS
  generalize vD rows left = u at *
  simp [b_check_values, startE, setR, parR, parE, asgT, asgTs, asgsR, bindT, bindTs, wipeE, df_are_values, o]
end
end K84
end

section
set_option Elab.async false
set_option linter.all false
set_option maxRecDepth 100000
set_option maxHeartbeats 1000000
set_option autoImplicit false
namespace K84
open PySem Ev
section
variable {k bz : Nat} {S : Store}
theorem at_getD {xs : List Int} {i : Nat} (h : i < xs.length) : L2.atI (xs.map D.int) ((i : Nat) : Int) = some (.int (xs.getD i 0)) := by
  rw [atI_nat (by rw [List.length_map]; exact h), List.getElem?_map, List.getD_eq_getElem?_getD, List.getElem?_eq_getElem h]
  rfl
/-- what a row is made of, where it is told -/
def Row.sum : Row → Option (Wd × List Nat)
  | .one w a => some (w, [a])
  | .two w a b => some (w, [a, b])
  | _ => none
theorem Row.sum_spec {r : Row} {w : Wd} {as : List Nat} (h : r.sum = some (w, as)) : r.d = .tup (.str w.nm :: as.map fun a => .int (a : Nat)) ∧ r.tag = w.nm ∧ r.args = as ∧ (∀ pile acc, r.val pile acc = arith w (as.map fun a => acc.getD a 0)) := by
  cases r with
  | inn _ => cases h
  | cst _ => cases h
  | one w a => cases h; exact ⟨rfl, rfl, rfl, fun _ _ => rfl⟩
  | two w a b => cases h; exact ⟨rfl, rfl, rfl, fun _ _ => rfl⟩
theorem Row.sum_low {r : Row} {w : Wd} {as : List Nat} {n : Nat} (h : r.sum = some (w, as)) (hl : r.low n) : w.shuf = none ∧ as.length = w.takes ∧ ∀ a ∈ as, a < n := by
  cases r with
  | inn _ => cases h
  | cst _ => cases h
  | one w a =>
    cases h
    obtain ⟨rfl, ha⟩ := hl
    exact ⟨rfl, rfl, by simpa using ha⟩
  | two w a b =>
    cases h
    obtain ⟨hw, ha, hb⟩ := hl
    rcases hw with rfl | rfl | rfl <;> exact ⟨rfl, rfl, by simp; exact ⟨ha, hb⟩⟩
/-- what is told may be multiplied -/
def Row.mulR (acc : List Int) (r : Row) : Prop := match r.sum with
  | some (_, as) => mulQ (as.map fun a => acc.getD a 0)
  | none => True
def safeR (pile : List Int) : List Row → List Int → Prop
  | [], _ => True
  | r :: rows, acc => r.mulR acc ∧ safeR pile rows (acc ++ [r.val pile acc])
theorem inn_lt {wide : Nat} {rows : List Row} (hl : lows rows) (h : innFirst wide rows) {j : Nat} (hj : Row.inn j ∈ rows) : j < wide := by
  obtain ⟨i, hi, e⟩ := List.getElem_of_mem hj
  have e' : rows[i]? = some (.inn j) := by rw [← e, List.getElem?_eq_getElem]
  have a : j = i := hl i _ e'
  have b := (h.2 i _ e').mpr ⟨j, rfl⟩
  omega
end
end K84
end

section
set_option Elab.async false
set_option linter.all false
set_option maxRecDepth 100000
set_option maxHeartbeats 1000000
set_option autoImplicit false
namespace K84
open PySem Ev
section
variable {k bz : Nat} {S : Store}
theorem df_used_rows : md.P.defs "used_rows" = some ⟨2, 5, b_used_rows⟩ := by rfl
/-! ### a walk back -/
theorem countP_lt {α : Type} {p q : α → Bool} (hpq : ∀ x, q x = true → p x = true) : ∀ {l : List α} {a : α}, a ∈ l → p a = true → q a = false → l.countP q < l.countP p
  | [], a, h, _, _ => by cases h
  | b :: l, a, h, hp, hq => by
    have le : l.countP q ≤ l.countP p := List.countP_mono_left fun x _ e => hpq x e
    rw [List.countP_cons, List.countP_cons]
    rcases List.mem_cons.mp h with e | e
    · subst e
      rw [hp, hq]
      simp
      omega
    · have := countP_lt hpq e hp hq
      by_cases hb : q b = true
      · rw [hb, hpq b hb]
        simp
        omega
      · have hb : q b = false := by simpa using hb
        rw [hb]
        simp
        split <;> omega
/-- how many rows are not found -/
def away (n : Nat) (g : List Nat) : Nat := (List.range n).countP fun i => !decide (i ∈ g)
theorem away_le (n : Nat) (g : List Nat) : away n g ≤ n := by
  have := List.countP_le_length (p := fun i => !decide (i ∈ g)) (l := List.range n)
  rw [List.length_range] at this
  exact this
theorem away_add {n h : Nat} {g : List Nat} (hn : h < n) (hg : h ∉ g) : away n (g ++ [h]) < away n g := by
  unfold away
  refine countP_lt (a := h) (fun x e => ?_) (List.mem_range.mpr hn) (by simp [hg]) (by simp)
  simp at e ⊢
  exact e.1
structure Dfs (rows : List Row) (left g w : List Nat) : Prop where
  rg : ∀ a ∈ g, Reach rows left a
  rw_ : ∀ a ∈ w, Reach rows left a
  base : ∀ a ∈ left, a ∈ g ∨ a ∈ w
  arg : ∀ j ∈ g, ∀ r, rows[j]? = some r → ∀ i ∈ r.args, i ∈ g ∨ i ∈ w
  few : g.length + away rows.length g ≤ rows.length
theorem Dfs.start (rows : List Row) (left : List Nat) : Dfs rows left [] left where
  rg := fun a h => nomatch h
  rw_ := fun a h => .base h
  base := fun a h => .inr h
  arg := fun j h => nomatch h
  few := by have := away_le rows.length []; simpa using this
theorem Dfs.old {rows : List Row} {left g w : List Nat} {h : Nat} (d : Dfs rows left g (w ++ [h])) (hg : h ∈ g) : Dfs rows left g w where
  rg := d.rg
  rw_ := fun a ha => d.rw_ a (List.mem_append_left _ ha)
  base := fun a ha => by
    rcases d.base a ha with e | e
    · exact .inl e
    · rcases List.mem_append.mp e with e | e
      · exact .inr e
      · rw [List.mem_singleton.mp e]; exact .inl hg
  arg := fun j hj r hr i hi => by
    rcases d.arg j hj r hr i hi with e | e
    · exact .inl e
    · rcases List.mem_append.mp e with e | e
      · exact .inr e
      · rw [List.mem_singleton.mp e]; exact .inl hg
  few := d.few
theorem Dfs.new {rows : List Row} {left g w : List Nat} {h : Nat} {r : Row} (d : Dfs rows left g (w ++ [h])) (hg : h ∉ g) (hr : rows[h]? = some r) : Dfs rows left (g ++ [h]) (w ++ r.args) where
  rg := fun a ha => by
    rcases List.mem_append.mp ha with e | e
    · exact d.rg a e
    · rw [List.mem_singleton.mp e]; exact d.rw_ h (by simp)
  rw_ := fun a ha => by
    rcases List.mem_append.mp ha with e | e
    · exact d.rw_ a (List.mem_append_left _ e)
    · exact .arg (d.rw_ h (by simp)) hr e
  base := fun a ha => by
    rcases d.base a ha with e | e
    · exact .inl (List.mem_append_left _ e)
    · rcases List.mem_append.mp e with e | e
      · exact .inr (List.mem_append_left _ e)
      · exact .inl (List.mem_append_right _ e)
  arg := fun j hj q hq i hi => by
    rcases List.mem_append.mp hj with e | e
    · rcases d.arg j e q hq i hi with e | e
      · exact .inl (List.mem_append_left _ e)
      · rcases List.mem_append.mp e with e | e
        · exact .inr (List.mem_append_left _ e)
        · exact .inl (List.mem_append_right _ e)
    · rw [List.mem_singleton.mp e] at hq
      rw [hr] at hq
      cases hq
      exact .inr (List.mem_append_right _ hi)
  few := by
    have h1 := (List.getElem?_eq_some_iff.mp hr).1
    have h2 := away_add h1 hg
    have := d.few
    rw [List.length_append, List.length_singleton]
    omega
theorem Dfs.good {rows : List Row} {left g : List Nat} (d : Dfs rows left g []) (hl : lows rows) (h : ∀ a ∈ left, a < rows.length) : Good (fun i => decide (i ∈ g)) rows left where
  lows := hl
  low := h
  is := fun i => by
    rw [decide_eq_true_iff]
    refine ⟨d.rg i, fun r => ?_⟩
    induction r with
    | base hi => exact (d.base _ hi).resolve_right (fun e => nomatch e)
    | arg _ e ha ih => exact (d.arg _ ih _ e _ ha).resolve_right (fun e => nomatch e)
/-! ### in the store -/
def gK (g : List Nat) : List (Key × D) := g.map fun h => (.inl ((h : Nat) : Int), .bl true)
theorem gK_get : ∀ (g : List Nat) (h : Nat), (kget (gK g) (.inl ((h : Nat) : Int))).isSome = decide (h ∈ g)
  | [], h => rfl
  | a :: g, h => by
    have ih := gK_get g h
    unfold kget gK at ih ⊢
    rw [List.map_cons, List.find?_cons]
    by_cases e : a = h
    · subst e
      simp
    · have e1 : ¬ (Sum.inl ((a : Nat) : Int) : Key) = Sum.inl ((h : Nat) : Int) := fun z => e (by have := Sum.inl.inj z; omega)
      simp only [e1, decide_false, Bool.false_eq_true, if_false]
      rw [ih]
      simp [Ne.symm e]
theorem gK_put {g : List Nat} {h : Nat} (hg : h ∉ g) : kput (gK g) (.inl ((h : Nat) : Int)) (.bl true) = gK (g ++ [h]) := by
  have na : (gK g).any (fun kv => decide (kv.1 = Sum.inl ((h : Nat) : Int))) = false := by
    rw [List.any_eq_false]
    intro x hx
    unfold gK at hx
    obtain ⟨a, ha, rfl⟩ := List.mem_map.mp hx
    simp
    intro z
    have e : a = h := by omega
    exact hg (e ▸ ha)
  unfold kput
  rw [na]
  simp [gK]
structure US (n0 : Nat) (S0 : Store) (fl wl : Nat) (g w : List Nat) (St : Store) : Prop where
  wf : wf St
  fd : St[fl]? = some (.dk (gK g))
  wt : St[wl]? = some (.lst (w.map fun a => .int (a : Nat)))
  low : ∀ l, l < n0 → St[l]? = S0[l]?
  n : n0 ≤ fl ∧ n0 ≤ wl ∧ fl ≠ wl
theorem bd_gK (g : List Nat) (n : Nat) : Ob.bd n (.dk (gK g)) = true := by
  unfold gK
  simp only [Ob.bd]
  rw [List.all_eq_true]
  intro x hx
  obtain ⟨a, _, rfl⟩ := List.mem_map.mp hx
  rfl
theorem bd_nats (w : List Nat) (n : Nat) : Ob.bd n (.lst (w.map fun a => .int (a : Nat))) = true := by
  rw [bd_lst]; exact bds_map (fun _ => rfl) _
theorem dfs_loop {t : EnvD → Store → Res Bool} {f : EnvD → Store → Out} {n0 : Nat} {S0 : Store} {fl wl : Nat} {rows : List Row} {left : List Nat} (envf : Option D → EnvD)
    (hl : lows rows) (hlow : ∀ a ∈ left, a < rows.length)
    (ht : ∀ g w x St, US n0 S0 fl wl g w St → w.length ≤ 4000 → t (envf x) St = .ok (decide (0 < w.length)) St)
    (hf : ∀ g w h r x St, US n0 S0 fl wl g (w ++ [h]) St → rows[h]? = some r → g.length ≤ 900 → w.length ≤ 4000 →
      ∃ St', f (envf x) St = .nx (envf (some (.int (h : Nat)))) St' ∧ US n0 S0 fl wl (if h ∈ g then g else g ++ [h]) (if h ∈ g then w else w ++ r.args) St') (hr : rows.length ≤ 900) :
    ∀ (n m : Nat) (g w : List Nat) (x : Option D) (St : Store), Dfs rows left g w → US n0 S0 fl wl g w St → w.length + 3 * away rows.length g ≤ m → m ≤ 4000 → m < n → ∃ g' y St', whlT t f n (envf x) St = .nx (envf y) St' ∧ US n0 S0 fl wl g' [] St' ∧ Dfs rows left g' []
  | 0, m, g, w, x, St, _, _, _, _, hn => by omega
  | n + 1, m, g, w, x, St, d, u, hm, hm2, hn => by
    unfold whlT
    rw [ht g w x St u (by omega)]
    rcases List.eq_nil_or_concat w with e | ⟨w', h, e⟩
    · subst e
      exact ⟨g, x, St, rfl, u, d⟩
    · rw [List.concat_eq_append] at e
      subst e
      rw [List.length_append, List.length_singleton] at hm
      have hh := (d.rw_ h (by simp)).lt hl hlow
      have hr' : rows[h]? = some rows[h] := List.getElem?_eq_getElem hh
      have gf := d.few
      obtain ⟨S1, e1, u1⟩ := hf g w' h rows[h] x St u hr' (by omega) (by omega)
      have p : 0 < (w' ++ [h]).length := by simp
      rw [decide_eq_true p]
      show ∃ g' y St', (match f (envf x) St with | .nx env S => whlT t f n env S | .ct env S => whlT t f n env S | .bk env S => .nx env S | o => o) = _ ∧ _
      rw [e1]
      by_cases hg : h ∈ g
      · rw [if_pos hg, if_pos hg] at u1
        exact dfs_loop envf hl hlow ht hf hr n (m - 1) g w' _ S1 (d.old hg) u1 (by omega) (by omega) (by omega)
      · rw [if_neg hg, if_neg hg] at u1
        have a1 := away_add hh hg
        have a2 : rows[h].args.length ≤ 2 := by cases rows[h] <;> simp [Row.args]
        exact dfs_loop envf hl hlow ht hf hr n (m - 1) (g ++ [h]) (w' ++ rows[h].args) _ S1 (d.new hg hr') u1 (by rw [List.length_append]; omega) (by omega) (by omega)
/-- one turn, told by the store alone -/
structure Turn (fl wl h : Nat) (g w : List Nat) (r : Row) (St St1 St2 St3 : Store) : Prop where
  pop : methD (.loc wl) .pop [] St = .ok (.int (h : Nat)) St1
  nin : cmpD .nin (.int (h : Nat)) (.loc fl) St1 = .ok (.bl (!decide (h ∈ g))) St1
  kp : kindOk .pop (.loc wl) St = true
  ke : kindOk .extend (.loc wl) St2 = true
  put : h ∉ g → stoD (.loc fl) (.int (h : Nat)) (.bl true) St1 = .ok () St2
  ext : h ∉ g → methD (.loc wl) .extend [.loc St2.length] (St2 ++ [.lst (r.args.map fun a => .int (a : Nat))]) = .ok .non St3
theorem turn_of {n0 : Nat} {S0 : Store} {fl wl h : Nat} {g w : List Nat} {r : Row} {St : Store} (u : US n0 S0 fl wl g (w ++ [h]) St) (hg : g.length ≤ 900) (hw : w.length ≤ 4000) :
    ∃ St1 St2 St3, Turn fl wl h g w r St St1 St2 St3 ∧ (h ∈ g → US n0 S0 fl wl g w St1) ∧ (h ∉ g → US n0 S0 fl wl (g ++ [h]) (w ++ r.args) St3) := by
  have hfl : fl < St.length := (List.getElem?_eq_some_iff.mp u.fd).1
  have hwl : wl < St.length := (List.getElem?_eq_some_iff.mp u.wt).1
  have n := u.n
  have wt : St[wl]? = some (.lst ((w.map fun a => D.int (a : Nat)) ++ [.int (h : Nat)])) := by rw [u.wt]; simp
  have w1 : Ev.wf (St.set wl (.lst (w.map fun a => .int (a : Nat)))) := wf_set u.wf (bd_nats _ _)
  have f1 : (St.set wl (.lst (w.map fun a => .int (a : Nat))))[fl]? = some (.dk (gK g)) := by rw [List.getElem?_set_ne (Ne.symm n.2.2)]; exact u.fd
  have t1 : (St.set wl (.lst (w.map fun a => .int (a : Nat))))[wl]? = some (.lst (w.map fun a => .int (a : Nat))) := List.getElem?_set_self hwl
  have l1 : ∀ l, l < n0 → (St.set wl (.lst (w.map fun a => .int (a : Nat))))[l]? = S0[l]? := fun l hl => by rw [List.getElem?_set_ne (by omega)]; exact u.low l hl
  have len1 : (St.set wl (.lst (w.map fun a => .int (a : Nat)))).length = St.length := List.length_set
  have p := m_pop wt
  have kp := kind_pop wt
  generalize St.set wl (.lst (w.map fun a => .int (a : Nat))) = St1 at *
  have w2 : Ev.wf (St1.set fl (.dk (gK (g ++ [h])))) := wf_set w1 (bd_gK _ _)
  have f2 : (St1.set fl (.dk (gK (g ++ [h]))))[fl]? = some (.dk (gK (g ++ [h]))) := List.getElem?_set_self (by omega)
  have t2 : (St1.set fl (.dk (gK (g ++ [h]))))[wl]? = some (.lst (w.map fun a => .int (a : Nat))) := by rw [List.getElem?_set_ne n.2.2]; exact t1
  have l2 : ∀ l, l < n0 → (St1.set fl (.dk (gK (g ++ [h]))))[l]? = S0[l]? := fun l hl => by rw [List.getElem?_set_ne (by omega)]; exact l1 l hl
  have len2 : (St1.set fl (.dk (gK (g ++ [h])))).length = St.length := by rw [List.length_set, len1]
  have put : h ∉ g → stoD (.loc fl) (.int (h : Nat)) (.bl true) St1 = .ok () (St1.set fl (.dk (gK (g ++ [h])))) := fun hg' => by
    have ob : obPut (.dk (gK g)) (.int (h : Nat)) (.bl true) = some (.dk (gK (g ++ [h]))) := by
      have q : (gK g).length < LIM := by unfold gK; rw [List.length_map]; simp [LIM]; omega
      simp only [obPut, keyOf, Option.bind_some, q, if_true, gK_put hg']
    simp only [stoD, f1, ob]
  generalize St1.set fl (.dk (gK (g ++ [h]))) = St2 at *
  have t3 : (St2 ++ [Ob.lst (r.args.map fun a => .int (a : Nat))])[wl]? = some (.lst (w.map fun a => .int (a : Nat))) := by rw [List.getElem?_append_left (by omega)]; exact t2
  have al : r.args.length ≤ 2 := by cases r <;> simp [Row.args]
  have ex := m_extend t3 (b := St2.length) (es := r.args.map fun a => .int (a : Nat)) (by simp) (by simp [LIM]; omega)
  refine ⟨St1, St2, _, ⟨p, ?_, kp, kind_extend t2, put, fun _ => ex⟩, fun _ => ⟨w1, f1, t1, l1, n⟩, fun _ => ⟨wf_set (wf_add w2 (bd_nats _ _)) ?_, ?_, ?_, fun l hl => ?_, n⟩⟩
  · have g1 := gK_get g h
    simp only [cmpD, f1, obGet, keyOf, Option.map_some, g1]
    rfl
  · rw [← List.map_append]; exact bd_nats _ _
  · rw [List.getElem?_set_ne (Ne.symm n.2.2), List.getElem?_append_left (by omega)]; exact f2
  · rw [List.getElem?_set_self (by simp; omega)]; simp
  · rw [List.getElem?_set_ne (by omega), List.getElem?_append_left (by omega)]; exact l2 l hl
end
end K84
end

section
set_option Elab.async false
set_option linter.all false
set_option maxRecDepth 100000
set_option maxHeartbeats 1000000
set_option autoImplicit false
namespace K84
open PySem Ev
section
variable {k bz : Nat} {S : Store}
theorem df_used_values : md.P.defs "used_values" = some ⟨1, 9, b_used_values⟩ := by rfl
theorem in_sumsD : inDs (.str (Str.ofString "in")) sumsD = some false ∧ inDs (.str (Str.ofString "int")) sumsD = some false := ⟨by kernel_rfl, by kernel_rfl⟩
theorem Row.tag_sums {r : Row} {n : Nat} (h : r.low n) : inDs (.str r.tag) sumsD = some r.sum.isSome := by
  cases hs : r.sum with
  | some wa =>
    obtain ⟨w, as⟩ := wa
    rw [(Row.sum_spec hs).2.1, in_sums, (Row.sum_low hs h).1]
    rfl
  | none => cases r with
    | inn _ => exact in_sumsD.1
    | cst _ => exact in_sumsD.2
    | one _ _ => cases hs
    | two _ _ _ => cases hs
theorem row_at {rows : List Row} {h : Nat} {r : Row} (hr : rows[h]? = some r) {St : Store} : subD (.tup (rows.map Row.d)) (.int ((h : Nat) : Int)) St = .ok r.d St := by
  have hh := (List.getElem?_eq_some_iff.mp hr).1
  rw [sub_tup, atI_nat (by rw [List.length_map]; exact hh), List.getElem?_map, hr]
  rfl
theorem Row.cut1 {r : Row} {w : Wd} {as : List Nat} (hs : r.sum = some (w, as)) {St : Store} : slcD r.d (some 1) none St = .ok (.tup (as.map fun a => .int (a : Nat))) St := by
  rw [(Row.sum_spec hs).1, slcD_tup', show (1 : Int) = ((1 : Nat) : Int) from rfl, cutL_drop _ (by simp)]
  rfl
theorem Row.sum_args {r : Row} (hs : r.sum = none) : r.args = [] := by
  cases r with
  | inn _ => rfl
  | cst _ => rfl
  | one _ _ => cases hs
  | two _ _ _ => cases hs
theorem ur_turn {n0 : Nat} {S0 : Store} {fl wl : Nat} {rows : List Row} (x1 : Option D) (g w : List Nat) (h : Nat) (r : Row) (x : Option D) (St : Store) (hl : lows rows) (u : US n0 S0 fl wl g (w ++ [h]) St) (hr : rows[h]? = some r) (hg : g.length ≤ 900) (hw : w.length ≤ 4000) :
    ∃ St', evSs (cxK md.P k) bz l_used_rows_0 [some (.tup (rows.map Row.d)), x1, some (.loc fl), some (.loc wl), x] St = .nx [some (.tup (rows.map Row.d)), x1, some (.loc fl), some (.loc wl), some (.int (h : Nat))] St' ∧ US n0 S0 fl wl (if h ∈ g then g else g ++ [h]) (if h ∈ g then w else w ++ r.args) St' := by
  obtain ⟨St1, St2, St3, t, u1, u2⟩ := turn_of (r := r) u hg hw
  have ra := row_at hr (St := St2)
  have s0 := Row.sub0 r (S := St2)
  have ts := Row.tag_sums (hl h r hr)
  have tp := t.pop
  have tn := t.nin
  have kp := t.kp
  have ke := t.ke
  by_cases hg : h ∈ g
  · rw [decide_eq_true hg] at tn
    refine ⟨St1, ?_, by rw [if_pos hg, if_pos hg]; exact u1 hg⟩
    generalize rows.map Row.d = q at *
    simp [l_used_rows_0, startE, setR, parR, parE, asgT, asgTs, asgsR, bindT, bindTs, wipeE, kp, tp, tn]
  · rw [decide_eq_false hg] at tn
    have tu := t.put hg
    have te := t.ext hg
    refine ⟨St3, ?_, by rw [if_neg hg, if_neg hg]; exact u2 hg⟩
    cases hs : r.sum with
    | none =>
      rw [Row.sum_args hs] at te
      rw [hs] at ts
      rw [List.map_nil] at te
      generalize rows.map Row.d = q at *
      generalize r.d = rd at *
      simp [l_used_rows_0, startE, setR, parR, parE, asgT, asgTs, asgsR, bindT, bindTs, wipeE, kp, tp, tn, tu, ke, ra, s0, gl_SUMS, ts, te, -sub_tup]
    | some wa =>
      obtain ⟨w', as⟩ := wa
      rw [(Row.sum_spec hs).2.2.1] at te
      rw [hs] at ts
      have c := Row.cut1 hs (St := St2)
      generalize rows.map Row.d = q at *
      generalize as.map (fun a => D.int (a : Nat)) = ua at *
      generalize r.d = rd at *
      simp [l_used_rows_0, startE, setR, parR, parE, asgT, asgTs, asgsR, bindT, bindTs, wipeE, kp, tp, tn, tu, ke, ra, s0, gl_SUMS, ts, c, te, -sub_tup]
theorem used_rows_ok {wide : Nat} {rows : List Row} {left : List Nat} (h : Told wide rows left) (hS : wf S) : ∃ g : List Nat, Good (fun i => decide (i ∈ g)) rows left ∧ (cxK md.P (k + 1)).call "used_rows" [.tup (rows.map Row.d), .tup (left.map fun a => .int (a : Nat))] S = .ok (.loc S.length) (S ++ [.dk (gK g)]) := by
  rw [call_eq df_used_rows]
  have hlen := h.len
  have hfew := h.few
  have w0 : wf (S ++ [.dk []] ++ [.lst (left.map fun a => .int (a : Nat))]) := wf_add (wf_add hS rfl) (bd_nats _ _)
  have u0 : US S.length S S.length (S.length + 1) [] left (S ++ [.dk []] ++ [.lst (left.map fun a => .int (a : Nat))]) := ⟨w0, by simp [gK], by simp, fun l hl => by rw [List.append_assoc, List.getElem?_append_left hl], by omega⟩
  obtain ⟨g, y, S', e1, e2, e3⟩ := dfs_loop (t := evTest (cxK md.P k) (.cmp .gt (.blt .len (.cons (.var 3) .nil)) (.int 0))) (f := fun env St => evSs (cxK md.P k) S.length l_used_rows_0 env St) (fun x => [some (.tup (rows.map Row.d)), some (.tup (left.map fun a => .int (a : Nat))), some (.loc S.length), some (.loc (S.length + 1)), x]) h.low h.lt
    (fun g w x St u hw => by
      have ln := len_loc u.wt
      rw [List.length_map] at ln
      generalize rows.map Row.d = q at *
      generalize left.map (fun a => D.int (a : Nat)) = ld at *
      generalize w.map (fun a => D.int (a : Nat)) = wd at *
      simp [evTest, ln])
    (fun g w hh r x St u hr hg hw => ur_turn (bz := S.length) (k := k) (some (.tup (left.map fun a => .int (a : Nat)))) g w hh r x St h.low u hr hg hw) (by omega) LIM (left.length + 3 * rows.length) [] left none _ (Dfs.start rows left) u0 (by have := away_le rows.length []; omega) (by omega) (by simp [LIM]; omega)
  refine ⟨g, e3.good h.low h.lt, ?_⟩
  have ft : S'.take S.length = S := by rw [take_eq fun l hl => e2.low l hl, List.take_length]
  refine run_new (l := S.length) (S' := S') rfl hS ft (Nat.le_refl _) e2.fd (bd_gK _ _) ?_
  generalize rows.map Row.d = q at *
  generalize left.map (fun a => D.int (a : Nat)) = ld at *
  simp at e1
  simp [b_used_rows, startE, setR, parR, parE, asgT, asgTs, asgsR, bindT, bindTs, wipeE, e1]
end
end K84
end

section
set_option Elab.async false
set_option linter.all false
set_option maxRecDepth 100000
set_option maxHeartbeats 1000000
set_option autoImplicit false
namespace K84
open PySem Ev
section
variable {k bz : Nat} {S : Store}
/-! ### numbers anew -/
def nK : List Nat → Nat → List (Key × D)
  | [], _ => []
  | a :: ks, j => (.inl ((a : Nat) : Int), .int (j : Nat)) :: nK ks (j + 1)
theorem nK_len : ∀ (ks : List Nat) (j : Nat), (nK ks j).length = ks.length
  | [], _ => rfl
  | a :: ks, j => by unfold nK; simp [nK_len ks]
theorem nK_key {a b : Nat} : ((Sum.inl ((a : Nat) : Int) : Key) = Sum.inl ((b : Nat) : Int)) ↔ a = b := ⟨fun z => by have := Sum.inl.inj z; omega, fun e => by rw [e]⟩
theorem nK_get {a : Nat} : ∀ (ks : List Nat) (j : Nat), a ∈ ks → kget (nK ks j) (.inl ((a : Nat) : Int)) = some (.int ((j + lead ks a : Nat) : Int))
  | [], _, h => nomatch h
  | b :: ks, j, h => by
    unfold nK kget lead
    rw [List.find?_cons, List.findIdx_cons]
    by_cases e : b = a
    · subst e
      simp
    · have e1 : decide ((Sum.inl ((b : Nat) : Int) : Key) = Sum.inl ((a : Nat) : Int)) = false := decide_eq_false fun z => e (nK_key.mp z)
      have ih := nK_get ks (j + 1) ((List.mem_cons.mp h).resolve_left fun z => e z.symm)
      unfold kget lead at ih
      simp only [e1, decide_eq_false e, cond_false]
      rw [ih]
      congr 2
      omega
theorem nK_app (a : Nat) : ∀ (ks : List Nat) (j : Nat), nK (ks ++ [a]) j = nK ks j ++ [(.inl ((a : Nat) : Int), .int ((j + ks.length : Nat) : Int))]
  | [], j => by simp [nK]
  | b :: ks, j => by
    rw [List.cons_append, nK, nK_app a ks (j + 1), nK, List.cons_append, List.length_cons, show j + 1 + ks.length = j + (ks.length + 1) from by omega]
theorem nK_mem {kv : Key × D} : ∀ (ks : List Nat) (j : Nat), kv ∈ nK ks j → ∃ a ∈ ks, kv.1 = .inl ((a : Nat) : Int) ∧ ∃ i : Nat, kv.2 = .int (i : Nat)
  | [], _, h => nomatch h
  | b :: ks, j, h => by
    unfold nK at h
    rcases List.mem_cons.mp h with e | e
    · subst e
      exact ⟨b, List.mem_cons_self, rfl, j, rfl⟩
    · obtain ⟨a, ha, e⟩ := nK_mem ks (j + 1) e
      exact ⟨a, List.mem_cons_of_mem _ ha, e⟩
theorem nK_put {ks : List Nat} {a : Nat} (h : a ∉ ks) : kput (nK ks 0) (.inl ((a : Nat) : Int)) (.int (ks.length : Nat)) = nK (ks ++ [a]) 0 := by
  have na : (nK ks 0).any (fun kv => decide (kv.1 = Sum.inl ((a : Nat) : Int))) = false := by
    rw [List.any_eq_false]
    intro x hx
    obtain ⟨b, hb, e, _⟩ := nK_mem ks 0 hx
    rw [e, decide_eq_true_iff, nK_key]
    intro z
    exact h (z ▸ hb)
  unfold kput
  rw [na, nK_app]
  simp
theorem bd_nK (ks : List Nat) (j n : Nat) : Ob.bd n (.dk (nK ks j)) = true := by
  simp only [Ob.bd]
  rw [List.all_eq_true]
  intro x hx
  obtain ⟨a, _, _, i, e⟩ := nK_mem ks j hx
  rw [e]
  rfl
theorem sub_dk {l : Nat} {kvs : List (Key × D)} {a : Nat} {d : D} {St : Store} (h : St[l]? = some (.dk kvs)) (e : kget kvs (.inl ((a : Nat) : Int)) = some d) : subD (.loc l) (.int ((a : Nat) : Int)) St = .ok d St := by
  simp only [subD, h, obGet, keyOf, Option.map_some, e]
theorem lead_pre {ks rest : List Nat} {a : Nat} (h : a ∈ ks) : lead (ks ++ rest) a = lead ks a := by
  unfold lead
  rw [List.findIdx_append]
  have : ks.findIdx (fun q => decide (q = a)) < ks.length := List.findIdx_lt_length_of_exists ⟨a, h, by simp⟩
  rw [if_pos this]
structure VU (n0 : Nat) (S0 : Store) (ul nl fl : Nat) (g ks : List Nat) (fs : List Row) (St : Store) : Prop where
  wf : wf St
  ud : St[ul]? = some (.dk (gK g))
  nd : St[nl]? = some (.dk (nK ks 0))
  fd : St[fl]? = some (.lst (fs.map Row.d))
  low : ∀ l, l < n0 → St[l]? = S0[l]?
  n : n0 ≤ ul ∧ n0 ≤ nl ∧ n0 ≤ fl ∧ ul ≠ nl ∧ ul ≠ fl ∧ nl ≠ fl
  len : ks.length = fs.length
/-- a row told anew -/
theorem Row.ren_sum {r : Row} {w : Wd} {as : List Nat} (hs : r.sum = some (w, as)) (f : Nat → Nat) : (ren f r).d = .tup (.str w.nm :: as.map fun a => .int (f a : Nat)) := by
  cases r with
  | inn _ => cases hs
  | cst _ => cases hs
  | one _ _ => cases hs; rfl
  | two _ _ _ => cases hs; rfl
theorem Row.ren_none {r : Row} (hs : r.sum = none) (f : Nat → Nat) : ren f r = r := by
  cases r with
  | inn _ => rfl
  | cst _ => rfl
  | one _ _ => cases hs
  | two _ _ _ => cases hs
theorem uv_turn {n0 : Nat} {S0 : Store} {ul nl fl : Nat} {g ks : List Nat} {fs : List Row} {r : Row} {i : Nat} {f : Nat → Nat} {St : Store} (x0 x1 x2 x6 x7 x8 : Option D) (u : VU n0 S0 ul nl fl g ks fs St) (hl : r.low i) (hk : ks.length ≤ 900)
    (hi : i ∉ ks) (hf : (r.isIn || decide (i ∈ g)) = true → ∀ a ∈ r.args, a ∈ ks ++ [i] ∧ f a = lead (ks ++ [i]) a) :
    ∃ St', turnF (cxK md.P k) bz (.tup (.cons (.name 6) (.cons (.name 7) .nil))) l_used_values_0 (.tup [.int (i : Nat), r.d]) [x0, x1, x2, some (.loc ul), some (.loc nl), some (.loc fl), x6, x7, x8] St = .nx [x0, x1, x2, some (.loc ul), some (.loc nl), some (.loc fl), some (.int (i : Nat)), some r.d, x8] St' ∧
      VU n0 S0 ul nl fl g (if (r.isIn || decide (i ∈ g)) = true then ks ++ [i] else ks) (if (r.isIn || decide (i ∈ g)) = true then fs ++ [ren f r] else fs) St' := by
  have n := u.n
  have hnl : nl < St.length := (List.getElem?_eq_some_iff.mp u.nd).1
  have hfl : fl < St.length := (List.getElem?_eq_some_iff.mp u.fd).1
  have s0 := Row.sub0 r (S := St)
  have ti := r.tag_in
  have mem : cmpD .isin (.int (i : Nat)) (.loc ul) St = .ok (.bl (decide (i ∈ g))) St := by
    have g1 := gK_get g i
    simp only [cmpD, u.ud, obGet, keyOf, Option.map_some, g1]
    rfl
  by_cases hc : (r.isIn || decide (i ∈ g)) = true
  · rw [if_pos hc, if_pos hc]
    have hf := hf hc
    have ln : bltD .len [.loc fl] St = .ok (.int (ks.length : Nat)) St := by rw [len_loc u.fd, List.length_map, u.len]
    have put : stoD (.loc nl) (.int (i : Nat)) (.int (ks.length : Nat)) St = .ok () (St.set nl (.dk (nK (ks ++ [i]) 0))) := by
      have ob : obPut (.dk (nK ks 0)) (.int (i : Nat)) (.int (ks.length : Nat)) = some (.dk (nK (ks ++ [i]) 0)) := by
        have q : (nK ks 0).length < LIM := by rw [nK_len]; simp [LIM]; omega
        simp only [obPut, keyOf, Option.bind_some, q, if_true, nK_put hi]
      simp only [stoD, u.nd, ob]
    have w1 : Ev.wf (St.set nl (.dk (nK (ks ++ [i]) 0))) := wf_set u.wf (bd_nK _ _ _)
    have n1 : (St.set nl (.dk (nK (ks ++ [i]) 0)))[nl]? = some (.dk (nK (ks ++ [i]) 0)) := List.getElem?_set_self hnl
    have f1 : (St.set nl (.dk (nK (ks ++ [i]) 0)))[fl]? = some (.lst (fs.map Row.d)) := by rw [List.getElem?_set_ne n.2.2.2.2.2]; exact u.fd
    have u1 : (St.set nl (.dk (nK (ks ++ [i]) 0)))[ul]? = some (.dk (gK g)) := by rw [List.getElem?_set_ne (Ne.symm n.2.2.2.1)]; exact u.ud
    have l1 : ∀ l, l < n0 → (St.set nl (.dk (nK (ks ++ [i]) 0)))[l]? = S0[l]? := fun l hl => by rw [List.getElem?_set_ne (by omega)]; exact u.low l hl
    have len1 : (St.set nl (.dk (nK (ks ++ [i]) 0))).length = St.length := List.length_set
    generalize St.set nl (.dk (nK (ks ++ [i]) 0)) = St1 at *
    have sl : (fs.map Row.d).length < LIM := by rw [List.length_map, ← u.len]; simp [LIM]; omega
    have ka := kind_append f1
    have ap := m_append (d := (ren f r).d) f1 sl
    have s1 := Row.sub0 r (S := St1)
    have ts := Row.tag_sums hl
    refine ⟨St1.set fl (.lst (fs.map Row.d ++ [(ren f r).d])), ?_, ⟨wf_set w1 (by rw [show fs.map Row.d ++ [(ren f r).d] = (fs ++ [ren f r]).map Row.d from by simp]; exact bds_rows _ _), ?_, ?_, ?_, fun l hl => ?_, n, by rw [List.length_append, List.length_append, u.len]; rfl⟩⟩
    · cases hs : r.sum with
      | none =>
        rw [hs] at ts
        rw [Row.ren_none hs] at ap ⊢
        generalize St1.set fl (.lst (fs.map Row.d ++ [r.d])) = St2 at *
        generalize r.d = rd at *
        cases hin : r.isIn with
        | true =>
          rw [hin] at ti
          simp [turnF, l_used_values_0, startE, setR, parR, parE, asgT, asgTs, asgsR, bindT, bindTs, wipeE, s0, ti, ln, put, ka, s1, gl_SUMS, ts, ap]
        | false =>
          rw [hin] at ti hc
          have hm : decide (i ∈ g) = true := by simpa using hc
          rw [hm] at mem
          simp [turnF, l_used_values_0, startE, setR, parR, parE, asgT, asgTs, asgsR, bindT, bindTs, wipeE, s0, ti, mem, ln, put, ka, s1, gl_SUMS, ts, ap]
      | some wa =>
        obtain ⟨w, as⟩ := wa
        rw [hs] at ts
        rw [(Row.sum_spec hs).2.2.1] at hf
        have et := (Row.sum_spec hs).2.1
        have er := Row.ren_sum hs f
        have c := Row.cut1 hs (St := St1)
        have few : as.length ≤ 2 := by rw [(Row.sum_low hs hl).2.1]; rcases shuf_none (Row.sum_low hs hl).1 with e | e | e | e <;> (rw [e]; decide)
        have wk := walkT_maps (S := St1) (f := turnC (cxK md.P k) [8] (.name 8) (fun _ S => .ok true S) (.sub (.var 4) (.var 8)) [x0, x1, x2, some (.loc ul), some (.loc nl), some (.loc fl), some (.int (i : Nat)), some r.d, x8]) (h := fun a : Nat => D.int (a : Nat)) (g := fun a : Nat => D.int (f a : Nat)) as [] (fun a ha acc' hacc => by
          have sb := sub_dk n1 (nK_get (ks ++ [i]) 0 (hf a ha).1)
          rw [Nat.zero_add, ← (hf a ha).2] at sb
          generalize r.d = rd at *
          simp [turnC, startE, setR, parR, parE, asgT, asgTs, asgsR, bindT, bindTs, wipeE, sb, hacc]) (by simp [LIM]; omega)
        rw [List.nil_append] at wk
        have bt := bin_tup (S := St1) (xs := [D.str w.nm]) (ys := as.map fun a => D.int (f a : Nat)) (by simp [LIM]; omega)
        rw [er] at ap ⊢
        rw [et] at s0 s1 ts
        have ti := nmB_in w
        have hin : r.isIn = false := by
          cases r with
          | inn _ => cases hs
          | cst _ => cases hs
          | one _ _ => rfl
          | two _ _ _ => rfl
        rw [hin] at hc
        have hm : decide (i ∈ g) = true := by simpa using hc
        rw [hm] at mem
        generalize as.map (fun a => D.int (f a : Nat)) = fa at *
        generalize as.map (fun a => D.int (a : Nat)) = ua at *
        generalize St1.set fl (.lst (fs.map Row.d ++ [D.tup (D.str w.nm :: fa)])) = St2 at *
        generalize r.d = rd at *
        simp [turnF, l_used_values_0, startE, setR, parR, parE, asgT, asgTs, asgsR, bindT, bindTs, wipeE, s0, ti, mem, ln, put, ka, s1, gl_SUMS, ts, c, wk, bt, ap]
    · rw [List.getElem?_set_ne (Ne.symm n.2.2.2.2.1)]; exact u1
    · rw [List.getElem?_set_ne (Ne.symm n.2.2.2.2.2)]; exact n1
    · rw [List.getElem?_set_self (by omega)]; simp
    · rw [List.getElem?_set_ne (by omega)]; exact l1 l hl
  · rw [if_neg hc, if_neg hc]
    have hc : r.isIn = false ∧ decide (i ∈ g) = false := by simpa using hc
    rw [hc.1] at ti
    rw [hc.2] at mem
    refine ⟨St, ?_, u⟩
    generalize r.d = rd at *
    simp [turnF, l_used_values_0, startE, setR, parR, parE, asgT, asgTs, asgsR, bindT, bindTs, wipeE, s0, ti, mem]
end
end K84
end

section
set_option Elab.async false
set_option linter.all false
set_option maxRecDepth 100000
set_option maxHeartbeats 1000000
set_option autoImplicit false
namespace K84
open PySem Ev
section
variable {k bz : Nat} {S : Store}
abbrev uG (g : List Nat) : Nat → Bool := fun i => decide (i ∈ g)
abbrev uF (g : List Nat) (rows : List Row) : Nat → Row := fun q => ren (lead (kept (uG g) rows)) (rows.getD q (.cst 0))
theorem uv_walk {n0 : Nat} {S0 : Store} {ul nl fl : Nat} {g : List Nat} {rows : List Row} {left : List Nat} (x0 x1 x2 x8 : Option D) (gd : Good (uG g) rows left) (hlen : rows.length ≤ 200) :
    ∀ (rs pre : List Row) (ks : List Nat) (St : Store) (x6 x7 : Option D), pre ++ rs = rows → kept (uG g) rows = ks ++ keptF (uG g) rs pre.length → (∀ a ∈ ks, a < pre.length) → ks.length ≤ pre.length → VU n0 S0 ul nl fl g ks (ks.map (uF g rows)) St →
    ∃ y6 y7 St', forT (turnF (cxK md.P k) bz (.tup (.cons (.name 6) (.cons (.name 7) .nil))) l_used_values_0) (enumL pre.length (rs.map Row.d)) [x0, x1, x2, some (.loc ul), some (.loc nl), some (.loc fl), x6, x7, x8] St = .nx [x0, x1, x2, some (.loc ul), some (.loc nl), some (.loc fl), y6, y7, x8] St' ∧ VU n0 S0 ul nl fl g (kept (uG g) rows) (usedR (uG g) rows) St'
  | [], pre, ks, St, x6, x7, _, hK, _, _, u => by
    unfold keptF at hK
    rw [List.append_nil] at hK
    refine ⟨x6, x7, St, rfl, ?_⟩
    unfold usedR
    rw [← hK] at u
    exact u
  | r :: rs, pre, ks, St, x6, x7, hr, hK, hlt, hle, u => by
    have ir : rows[pre.length]? = some r := by rw [← hr, List.getElem?_append_right (Nat.le_refl _)]; simp
    have hl := gd.lows _ _ ir
    have hp : pre.length < rows.length := (List.getElem?_eq_some_iff.mp ir).1
    have gD : rows.getD pre.length (.cst 0) = r := by rw [List.getD_eq_getElem?_getD, ir]; rfl
    have nm : pre.length ∉ ks := fun h => by have := hlt _ h; omega
    obtain ⟨S1, e1, u1⟩ := uv_turn (bz := bz) (k := k) (f := lead (kept (uG g) rows)) x0 x1 x2 x6 x7 x8 u hl (by omega) nm (fun hc a ha => by
      have kf : kept (uG g) rows = ks ++ (pre.length :: keptF (uG g) rs (pre.length + 1)) := by
        rw [hK]
        show ks ++ (if (r.isIn || uG g pre.length) = true then _ else _) = _
        rw [if_pos hc]
      have ik : pre.length ∈ kept (uG g) rows := by rw [kf]; simp
      have ak := gd.args_kept ik ir ha
      have lt : a < pre.length := by
        cases r with
        | inn _ => cases ha
        | cst _ => cases ha
        | one w b =>
          have := hl.2
          rw [List.mem_singleton.mp ha]
          exact this
        | two w b c =>
          rcases List.mem_cons.mp ha with e | e
          · rw [e]; exact hl.2.1
          · rw [List.mem_singleton.mp e]; exact hl.2.2
      have am : a ∈ ks ++ [pre.length] := by
        rw [kf] at ak
        rcases List.mem_append.mp ak with e | e
        · exact List.mem_append_left _ e
        · rcases List.mem_cons.mp e with e | e
          · omega
          · have := ((keptF_mem rs (pre.length + 1) a).mp e).1
            omega
      refine ⟨am, ?_⟩
      rw [kf, show ks ++ (pre.length :: keptF (uG g) rs (pre.length + 1)) = (ks ++ [pre.length]) ++ keptF (uG g) rs (pre.length + 1) from by simp]
      exact lead_pre am)
    rw [List.map_cons]
    unfold enumL forT
    rw [e1]
    have pl : (pre ++ [r]).length = pre.length + 1 := by simp
    by_cases hc : (r.isIn || decide (pre.length ∈ g)) = true
    · rw [if_pos hc, if_pos hc] at u1
      have uf : ks.map (uF g rows) ++ [ren (lead (kept (uG g) rows)) r] = (ks ++ [pre.length]).map (uF g rows) := by
        rw [List.map_append, List.map_singleton]
        show _ = _ ++ [ren (lead (kept (uG g) rows)) (rows.getD pre.length (.cst 0))]
        rw [gD]
      rw [uf] at u1
      have r := uv_walk x0 x1 x2 x8 gd hlen rs (pre ++ [r]) (ks ++ [pre.length]) S1 (some (.int (pre.length : Nat))) (some r.d) (by rw [← hr]; simp) (by
        rw [hK, pl]
        conv => lhs; unfold keptF
        rw [if_pos hc]
        simp) (fun a ha => by
          rw [pl]
          rcases List.mem_append.mp ha with e | e
          · have := hlt a e
            omega
          · rw [List.mem_singleton.mp e]; omega) (by rw [pl, List.length_append, List.length_singleton]; omega) u1
      rw [pl] at r
      exact r
    · rw [if_neg hc, if_neg hc] at u1
      have r := uv_walk x0 x1 x2 x8 gd hlen rs (pre ++ [r]) ks S1 (some (.int (pre.length : Nat))) (some r.d) (by rw [← hr]; simp) (by
        rw [hK, pl]
        conv => lhs; unfold keptF
        rw [if_neg hc]) (fun a ha => by
          rw [pl]
          have := hlt a ha
          omega) (by rw [pl]; omega) u1
      rw [pl] at r
      exact r
theorem used_values_ok {wide : Nat} {rows : List Row} {left : List Nat} (h : Told wide rows left) (hS : wf S) : ∃ g : List Nat, Good (uG g) rows left ∧ (cxK md.P (k + 6)).call "used_values" [vD rows left] S = .ok (vD (usedR (uG g) rows) (usedL (uG g) rows left)) S := by
  rw [call_eq df_used_values]
  have hlen := h.len
  have hfew := h.few
  have cv := check_values_ok (k := k) h hS
  obtain ⟨g, gd, ur⟩ := used_rows_ok (k := k + 4) h hS
  refine ⟨g, gd, ?_⟩
  have w1 : wf (S ++ [.dk (gK g)]) := wf_add hS (bd_gK _ _)
  have w2 : wf (S ++ [.dk (gK g)] ++ [.dk []]) := wf_add w1 rfl
  have w3 : wf (S ++ [.dk (gK g)] ++ [.dk []] ++ [.lst []]) := wf_add w2 rfl
  have u0 : VU S.length S S.length (S.length + 1) (S.length + 1 + 1) g [] ([].map (uF g rows)) (S ++ [.dk (gK g)] ++ [.dk []] ++ [.lst []]) := ⟨w3, by simp, by simp [nK], by rw [show S.length + 1 + 1 = (S ++ [Ob.dk (gK g)] ++ [Ob.dk []]).length from by simp, List.getElem?_append_right (Nat.le_refl _)]; simp, fun l hl => by rw [List.append_assoc, List.append_assoc, List.getElem?_append_left hl], by omega, rfl⟩
  obtain ⟨y6, y7, S', e1, u1⟩ := uv_walk (bz := S.length) (k := k + 5) (some (vD rows left)) (some (.tup (rows.map Row.d))) (some (.tup (left.map fun a => .int (a : Nat)))) none gd h.len rows [] [] _ none none rfl rfl (fun a ha => nomatch ha) (Nat.le_refl _) u0
  rw [List.length_nil] at e1
  have ft : S'.take S.length = S := by rw [take_eq fun l hl => u1.low l hl, List.take_length]
  have wk := walkT_maps (S := S') (f := turnC (cxK md.P (k + 5)) [8] (.name 8) (fun _ S => .ok true S) (.sub (.var 4) (.var 8)) [some (vD rows left), some (.tup (rows.map Row.d)), some (.tup (left.map fun a => .int (a : Nat))), some (.loc S.length), some (.loc (S.length + 1)), some (.loc (S.length + 1 + 1)), y6, y7, none]) (h := fun a : Nat => D.int (a : Nat)) (g := fun a : Nat => D.int (lead (kept (uG g) rows) a : Nat)) left [] (fun a ha acc' hacc => by
    have sb := sub_dk u1.nd (nK_get (kept (uG g) rows) 0 (gd.left_kept ha))
    rw [Nat.zero_add] at sb
    generalize rows.map Row.d = rd at *
    generalize left.map (fun a => D.int (a : Nat)) = ld at *
    generalize vD rows left = vd at *
    simp [turnC, startE, setR, parR, parE, asgT, asgTs, asgsR, bindT, bindTs, wipeE, sb, hacc]) (by simp [LIM]; omega)
  rw [List.nil_append] at wk
  have em : left.map (fun a => D.int (lead (kept (uG g) rows) a : Nat)) = (usedL (uG g) rows left).map fun a => D.int (a : Nat) := by unfold usedL; rw [List.map_map]; rfl
  rw [em] at wk
  have tl := tuple_loc u1.fd
  refine run_cut (S' := S') rfl hS (vD_bd _ _ _) ft ?_
  have as2 : ∀ c env St, asgsR c [.name 1, .name 2] env (vD rows left) St = asgTs c [.name 1, .name 2] [.tup (rows.map Row.d), .tup (left.map fun a => .int (a : Nat))] env St := fun _ _ _ => rfl
  have as3 : ∀ (c : Ev.Ctx) (env : EnvD) (St : Store) (a b d : D), asgsR c [.name 3, .name 4, .name 5] env (.tup [a, b, d]) St = asgTs c [.name 3, .name 4, .name 5] [a, b, d] env St := fun _ _ _ _ _ _ => rfl
  have evd : vD (usedR (uG g) rows) (usedL (uG g) rows left) = .tup [.tup ((usedR (uG g) rows).map Row.d), .tup ((usedL (uG g) rows left).map fun a => .int (a : Nat))] := rfl
  rw [evd]
  have hbr := fun n => bds_rows rows n
  generalize (usedL (uG g) rows left).map (fun a => D.int (a : Nat)) = ul at *
  generalize (usedR (uG g) rows).map Row.d = ud at *
  generalize left.map (fun a => D.int (a : Nat)) = ld at *
  generalize rows.map Row.d = rd at *
  generalize vD rows left = vd at *
  simp at e1
  simp [b_used_values, hbr, startE, setR, parR, parE, asgT, asgTs, bindT, bindTs, wipeE, df_check_values, df_used_rows, cv, as2, as3, ur, e1, tl, wk]
end
end K84
end

section
set_option Elab.async false
set_option linter.all false
set_option maxRecDepth 100000
set_option maxHeartbeats 1000000
set_option autoImplicit false
namespace K84
open PySem Ev
section
variable {k bz : Nat} {S : Store}
/-! ### the bag -/
def bagL (c : Nat) (i : Nat) (x s n : Int) : List D := [.loc c, .int (i : Nat), .int x, .int s, .int n]
structure Bag (b c : Nat) (S : Store) : Prop where
  w : wf S
  cells : ∃ ns : List Int, S[c]? = some (.lst (ns.map D.int))
  bag : ∃ (i : Nat) (x s n : Int), S[b]? = some (.lst (bagL c i x s n))
theorem Bag.ne {b c : Nat} (h : Bag b c S) : b ≠ c := by
  intro e
  obtain ⟨ns, h1⟩ := h.cells
  obtain ⟨i, x, s, n, h2⟩ := h.bag
  rw [e, h1] at h2
  cases ns <;> simp [bagL] at h2
theorem Bag.cl {b c : Nat} (h : Bag b c S) : c < S.length := by
  obtain ⟨ns, h1⟩ := h.cells
  exact (List.getElem?_eq_some_iff.mp h1).1
theorem Bag.bl {b c : Nat} (h : Bag b c S) : b < S.length := by
  obtain ⟨i, x, s, n, h1⟩ := h.bag
  exact (List.getElem?_eq_some_iff.mp h1).1
theorem bagL_bd {c i m : Nat} {x s n : Int} (h : c < m) : bds m (bagL c i x s n) = true := by simp [bagL, h]
theorem Bag.set {b c i : Nat} {x s n : Int} (h : Bag b c S) : Bag b c (S.set b (.lst (bagL c i x s n))) where
  w := wf_set h.w (bagL_bd h.cl)
  cells := by
    obtain ⟨ns, h1⟩ := h.cells
    exact ⟨ns, by rw [List.getElem?_set_ne h.ne]; exact h1⟩
  bag := ⟨i, x, s, n, by rw [List.getElem?_set_self h.bl]⟩
theorem df__law_pick : md.P.defs "_law_pick" = some ⟨2, 5, b__law_pick⟩ := by rfl
theorem mod_ok {i j : Int} (h : 0 < j) : binD .mod (.int i) (.int j) S = .ok (.int (i % j)) S := by simp only [binD, h, if_true]
theorem fdiv_ok {i j : Int} (h : 0 < j) (h2 : j < 1073741824) : binD .fdiv (.int i) (.int j) S = .ok (.int (i / j)) S := by simp only [binD, h, h2, and_self, if_true]
theorem mul_ok {i j : Int} (h1 : -(2 ^ 64) < j) (h2 : j < 2 ^ 64) : binD .mul (.int i) (.int j) S = .ok (.int (i * j)) S := by
  have : mulOk i j = true := by
    unfold mulOk
    simp only [Bool.or_eq_true, decide_eq_true_eq]
    exact .inl (.inr ⟨h1, h2⟩)
  simp only [binD, this, if_true]
theorem mul_ok' {i j : Int} (h1 : -(2 ^ 64) < i) (h2 : i < 2 ^ 64) : binD .mul (.int i) (.int j) S = .ok (.int (i * j)) S := by
  have : mulOk i j = true := by
    unfold mulOk
    simp only [Bool.or_eq_true, decide_eq_true_eq]
    exact .inl (.inl ⟨h1, h2⟩)
  simp only [binD, this, if_true]
section
variable {b c i : Nat} {x s n : Int} {d : D}
theorem bg0 (h : S[b]? = some (.lst (bagL c i x s n))) : subD (.loc b) (.int 0) S = .ok (.loc c) S := by rw [sub_loc h]; rfl
theorem bg1 (h : S[b]? = some (.lst (bagL c i x s n))) : subD (.loc b) (.int 1) S = .ok (.int i) S := by rw [sub_loc h]; rfl
theorem bg2 (h : S[b]? = some (.lst (bagL c i x s n))) : subD (.loc b) (.int 2) S = .ok (.int x) S := by rw [sub_loc h]; rfl
theorem bg3 (h : S[b]? = some (.lst (bagL c i x s n))) : subD (.loc b) (.int 3) S = .ok (.int s) S := by rw [sub_loc h]; rfl
theorem bg4 (h : S[b]? = some (.lst (bagL c i x s n))) : subD (.loc b) (.int 4) S = .ok (.int n) S := by rw [sub_loc h]; rfl
theorem bp1 (h : S[b]? = some (.lst (bagL c i x s n))) : stoD (.loc b) (.int 1) (.int (i + 1)) S = .ok () (S.set b (.lst (bagL c (i + 1) x s n))) := by
  rw [show (1 : Int) = ((1 : Nat) : Int) from rfl, sto_loc h (by simp [bagL])]; rfl
theorem bp2 {y : Int} (h : S[b]? = some (.lst (bagL c i x s n))) : stoD (.loc b) (.int 2) (.int y) S = .ok () (S.set b (.lst (bagL c i y s n))) := by
  rw [show (2 : Int) = ((2 : Nat) : Int) from rfl, sto_loc h (by simp [bagL])]; rfl
theorem bp3 {y : Int} (h : S[b]? = some (.lst (bagL c i x s n))) : stoD (.loc b) (.int 3) (.int y) S = .ok () (S.set b (.lst (bagL c i x y n))) := by
  rw [show (3 : Int) = ((3 : Nat) : Int) from rfl, sto_loc h (by simp [bagL])]; rfl
theorem bp4 {y : Int} (h : S[b]? = some (.lst (bagL c i x s n))) : stoD (.loc b) (.int 4) (.int y) S = .ok () (S.set b (.lst (bagL c i x s y))) := by
  rw [show (4 : Int) = ((4 : Nat) : Int) from rfl, sto_loc h (by simp [bagL])]; rfl
theorem bs (hb : b < S.length) (l : List D) : (S.set b (.lst l))[b]? = some (.lst l) := List.getElem?_set_self hb
end
/-- the first statement of _law_pick: the next cell is taken up -/
def pickA : ST := match b__law_pick with
  | .cons a _ => a
  | .nil => .pass
def pickB : SS := match b__law_pick with
  | .cons _ r => r
  | .nil => .nil
theorem pick_eq : b__law_pick = .cons pickA pickB := rfl
theorem pickA_ok {b c : Nat} (h : Bag b c S) (w : Int) : ∃ cl i x s n, evS (cxK md.P k) bz pickA [some (.loc b), some (.int w), none, none, none] S = .nx [some (.loc b), some (.int w), cl, none, none] (S.set b (.lst (bagL c i x s n))) := by
  obtain ⟨ns, hc⟩ := h.cells
  obtain ⟨i, x, s, n, hb⟩ := h.bag
  have hl := h.bl
  have lc : bltD .len [.loc c] S = .ok (.int ns.length) S := by rw [len_loc hc]; simp
  have same : S.set b (.lst (bagL c i x s n)) = S := by
    obtain ⟨h1, h2⟩ := List.getElem?_eq_some_iff.mp hb
    rw [← h2, List.set_getElem_self]
  by_cases hx : x = 0
  · by_cases hi : i < ns.length
    · have sc : subD (.loc c) (.int i) S = .ok (.int ns[i]) S := by
        rw [sub_loc hc, atI_nat (by simpa using hi)]
        simp [hi]
      subst hx
      have m1 : ∀ S, binD .mul (.int s) (.int 69621) S = .ok (.int (s * 69621)) S := fun S => mul_ok (by decide) (by decide)
      have m2 : ∀ S, binD .mul (.int ns[i]) (.int 40692) S = .ok (.int (ns[i] * 40692)) S := fun S => mul_ok (by decide) (by decide)
      have mo : ∀ y S, binD .mod (.int y) (.int 2147483629) S = .ok (.int (y % 2147483629)) S := fun y S => mod_ok (by decide)
      have pw : ∀ S, binD .pow (.int 10) (.int 18) S = .ok (.int 1000000000000000000) S := fun S => by kernel_rfl
      by_cases h18 : (1000000000000000000 : Int) ≤ ns[i]
      · refine ⟨some (.int ns[i]), i + 1, ns[i], (s * 69621 + ns[i] * 40692 + 37) % 2147483629, n, ?_⟩
        simp [pickA, b__law_pick, startE, setR, parR, parE, asgT, asgTs, asgsR, bindT, bindTs, wipeE, bg2 hb, bg0 hb, bg1 hb, lc, hi, sc, h18, bp1 hb, bg3 (bs hl _), bg1 (bs hl _), bp3 (bs hl _), bp2 (bs hl _), m1, m2, mo, pw]
      · refine ⟨some (.int ns[i]), i + 1, 0, (s * 69621 + ns[i] * 40692 + 37) % 2147483629, n, ?_⟩
        simp [pickA, b__law_pick, startE, setR, parR, parE, asgT, asgTs, asgsR, bindT, bindTs, wipeE, bg2 hb, bg0 hb, bg1 hb, lc, hi, sc, h18, bp1 hb, bg3 (bs hl _), bg1 (bs hl _), bp3 (bs hl _), bp2 (bs hl _), m1, m2, mo, pw]
    · refine ⟨none, i, x, s, n, ?_⟩
      rw [same]
      simp [pickA, b__law_pick, startE, setR, parR, parE, asgT, asgTs, asgsR, bindT, bindTs, wipeE, bg2 hb, bg0 hb, bg1 hb, hx, lc, hi]
  · refine ⟨none, i, x, s, n, ?_⟩
    rw [same]
    simp [pickA, b__law_pick, startE, setR, parR, parE, asgT, asgTs, asgsR, bindT, bindTs, wipeE, bg2 hb, hx]
def pickC (s n : Int) : Int := (s + 7919 * (n + 1)) * 48271 % 2147483647
def pickE (c : Int) : Int := c * (c / 1009 + 69621) % 2147483647
def pickG (c : Int) : Int := c * (c / 2003 + 40014) % 2147483563
def pickY (s n : Int) : Int := pickG (pickE (pickC s n)) / 16
theorem pickB_ok {b c : Nat} (h : Bag b c S) {w : Int} (hw : 0 < w) (hw2 : w < 1000) (cl : Option D) : ∃ d, 0 ≤ d ∧ d < w ∧ ∃ i x s n, evSs (cxK md.P k) bz pickB [some (.loc b), some (.int w), cl, none, none] S = .rt (.int d) (S.set b (.lst (bagL c i x s n))) := by
  obtain ⟨i, x, s, n, hb⟩ := h.bag
  have hl := h.bl
  have mw : ∀ y S, binD .mod (.int y) (.int w) S = .ok (.int (y % w)) S := fun y S => mod_ok hw
  by_cases hx : 0 < x
  · have fw : ∀ S, binD .fdiv (.int x) (.int w) S = .ok (.int (x / w)) S := fun S => fdiv_ok hw (by omega)
    refine ⟨x % w, Int.emod_nonneg _ (by omega), Int.emod_lt_of_pos _ hw, i, x / w, s, n, ?_⟩
    simp [pickB, b__law_pick, startE, setR, parR, parE, asgT, asgTs, asgsR, bindT, bindTs, wipeE, bg2 hb, hx, mw, fw, bp2 hb]
  · have ma : ∀ S, binD .mul (.int 7919) (.int (n + 1)) S = .ok (.int (7919 * (n + 1))) S := fun S => mul_ok' (by decide) (by decide)
    have mb : ∀ y S, binD .mul (.int y) (.int 48271) S = .ok (.int (y * 48271)) S := fun y S => mul_ok (by decide) (by decide)
    have m7 : ∀ y S, binD .mod (.int y) (.int 2147483647) S = .ok (.int (y % 2147483647)) S := fun y S => mod_ok (by decide)
    have m3 : ∀ y S, binD .mod (.int y) (.int 2147483563) S = .ok (.int (y % 2147483563)) S := fun y S => mod_ok (by decide)
    have f1 : ∀ y S, binD .fdiv (.int y) (.int 1009) S = .ok (.int (y / 1009)) S := fun y S => fdiv_ok (by decide) (by decide)
    have f2 : ∀ y S, binD .fdiv (.int y) (.int 2003) S = .ok (.int (y / 2003)) S := fun y S => fdiv_ok (by decide) (by decide)
    have f3 : ∀ y S, binD .fdiv (.int y) (.int 16) S = .ok (.int (y / 16)) S := fun y S => fdiv_ok (by decide) (by decide)
    have mc : ∀ y z S, binD .mul (.int (y % 2147483647)) (.int z) S = .ok (.int (y % 2147483647 * z)) S := fun y z S => mul_ok' (by omega) (by omega)
    refine ⟨pickY s n % w, Int.emod_nonneg _ (by omega), Int.emod_lt_of_pos _ hw, i, x, s, n + 1, ?_⟩
    simp [pickB, b__law_pick, startE, setR, parR, parE, asgT, asgTs, asgsR, bindT, bindTs, wipeE, bg2 hb, hx, mw, bg4 hb, bp4 hb, bg3 (bs hl _), bg4 (bs hl _), ma, mb, m7, m3, f1, f2, f3, mc, pickY, pickG, pickE, pickC]
theorem pick_ok {b c : Nat} (h : Bag b c S) {w : Int} (hw : 0 < w) (hw2 : w < 1000) : ∃ d, 0 ≤ d ∧ d < w ∧ ∃ i x s n, (cxK md.P (k + 1)).call "_law_pick" [.loc b, .int w] S = .ok (.int d) (S.set b (.lst (bagL c i x s n))) := by
  obtain ⟨cl, i, x, s, n, h1⟩ := pickA_ok (bz := S.length) (k := k) h w
  obtain ⟨d, d0, d1, i2, x2, s2, n2, h2⟩ := pickB_ok (bz := S.length) (k := k) (h.set (i := i) (x := x) (s := s) (n := n)) hw hw2 cl
  refine ⟨d, d0, d1, i2, x2, s2, n2, ?_⟩
  rw [call_eq df__law_pick]
  refine run_rtW rfl List.length_set (wf_set h.w (bagL_bd h.cl)) rfl ?_
  simp only [pick_eq, evSs, startE, List.map_cons, List.map_nil, List.length_cons, List.length_nil, List.replicate, List.append, List.cons_append, List.nil_append] at h1 h2 ⊢
  simp only [h1, Out.then_nx, h2, List.set_set]
/-! ### what the law itself does -/
theorem df__law_bag : md.P.defs "_law_bag" = some ⟨1, 3, b__law_bag⟩ := by rfl
def cellI (i : Int) : Int := (if i < 0 then -i else i) % 1000000000000000000000000000000000000
theorem bag_ok (ns : List Int) : ∃ S', (cxK md.P (k + 1)).call "_law_bag" [.scr ns] [] = .ok (.loc 2) S' ∧ Bag 2 1 S' := by
  let ms := cutL ns none (some 63)
  have sl : ms.length ≤ 63 := by
    simp only [ms, cutL, List.length_take]
    have : HT.sIx ns.length ns.length (some 63) ≤ 63 := by
      unfold HT.sIx
      simp
      omega
    omega
  have pw : ∀ S, binD .pow (.int 10) (.int 36) S = .ok (.int 1000000000000000000000000000000000000) S := fun S => by kernel_rfl
  have mo : ∀ y S, binD .mod (.int y) (.int 1000000000000000000000000000000000000) S = .ok (.int (y % 1000000000000000000000000000000000000)) S := fun y S => mod_ok (by decide)
  have w := walkL_map (f := turnC (cxK md.P k) [2] (.name 2) (fun _ S => .ok true S) (.bin .mod (.blt .int (.cons (.blt .abs (.cons (.blt .int (.cons (.var 2) .nil)) .nil)) .nil)) (.bin .pow (.int 10) (.int 36))) [some (.scr ns), none, none]) (g := fun d => match d with
    | .int i => .int (cellI i)
    | d => d) (S := [Ob.lst (ms.map D.int)]) (l := 0) (ds := ms.map D.int) rfl (fun d hd acc ha => by
      obtain ⟨i, _, rfl⟩ := List.mem_map.mp hd
      simp [turnC, startE, setR, parR, parE, asgT, asgTs, asgsR, bindT, bindTs, wipeE, ha, pw, mo, cellI]) LIM 0 [] rfl (Nat.zero_le _) (by simp only [List.length_map, LIM]; omega) (by simp only [List.length_map, LIM]; omega)
  have em : ((ms.map D.int).drop 0).map (fun d => match d with
    | .int i => .int (cellI i)
    | d => d) = (ms.map cellI).map D.int := by simp
  rw [em, List.nil_append] at w
  have m5 : ∀ y S, binD .mul (.int 5) (.int y) S = .ok (.int (5 * y)) S := fun y S => mul_ok' (by decide) (by decide)
  refine ⟨[Ob.lst (ms.map D.int), .lst ((ms.map cellI).map D.int), .lst (bagL 1 0 0 (7507 + 5 * (ms.length : Int)) 0)], ?_, ⟨?_, ⟨ms.map cellI, rfl⟩, ⟨0, 0, _, 0, rfl⟩⟩⟩
  · rw [call_eq df__law_bag]
    refine run_keep rfl (Nat.zero_le _) (o := .lst (bagL 1 0 0 (7507 + 5 * (ms.length : Int)) 0)) rfl (by simp [bagL]) ?_
    have sc : ∀ S, slcD (.scr ns) none (some 63) S = .ok (.loc S.length) (S ++ [Ob.lst (ms.map D.int)]) := fun S => rfl
    have lc : bltD .len [.loc 1] [Ob.lst (ms.map D.int), .lst ((ms.map cellI).map D.int)] = .ok (.int ms.length) [Ob.lst (ms.map D.int), .lst ((ms.map cellI).map D.int)] := by
      rw [len_loc (ds := (ms.map cellI).map D.int) rfl]; simp
    have it0 : itD (.loc 0) [Ob.lst (ms.map D.int)] = .ok (.lst 0) [Ob.lst (ms.map D.int)] := rfl
    generalize hms : ms = L at *
    simp only [List.map_map] at w lc ⊢
    simp [b__law_bag, startE, setR, parR, parE, asgT, asgTs, asgsR, bindT, bindTs, wipeE, sc, it0, w, lc, m5, partR, bagL]
  · have hb : ∀ (l : List Int) (n : Nat), bds n (l.map D.int) = true := fun l n => bds_map (fun _ => rfl) l
    have hb2 : ∀ n : Nat, bds n (ms.map (D.int ∘ cellI)) = true := fun n => bds_map (f := D.int ∘ cellI) (fun _ => rfl) ms
    simp [wf, hb, hb2, bagL]
theorem Bag.add {b c : Nat} {o : Ob} (h : Bag b c S) (ho : o.bd (S.length + 1) = true) : Bag b c (S ++ [o]) := by
  refine ⟨wf_add h.w ho, ?_, ?_⟩
  · obtain ⟨ns, e⟩ := h.cells
    exact ⟨ns, by rw [List.getElem?_append_left h.cl]; exact e⟩
  · obtain ⟨i, x, s, n, e⟩ := h.bag
    exact ⟨i, x, s, n, by rw [List.getElem?_append_left h.bl]; exact e⟩
theorem bds_mem {n : Nat} : ∀ {ds : List D}, bds n ds = true → ∀ d ∈ ds, d.bd n = true
  | [], _, d, hd => nomatch hd
  | e :: ds, h, d, hd => by
    rw [bds_cons, Bool.and_eq_true] at h
    rcases List.mem_cons.mp hd with rfl | hd
    · exact h.1
    · exact bds_mem h.2 d hd
theorem df__law_some : md.P.defs "_law_some" = some ⟨2, 2, b__law_some⟩ := by rfl
theorem some_any {b c t : Nat} {ds : List D} (h : Bag b c S) (ht : S[t]? = some (.lst ds)) (hbt : b ≠ t) (h0 : 0 < ds.length) (h1 : ds.length < 1000) : ∃ d ∈ ds, ∃ i x s n, (cxK md.P (k + 2)).call "_law_some" [.loc b, .loc t] S = .ok d (S.set b (.lst (bagL c i x s n))) := by
  have lt : bltD .len [.loc t] S = .ok (.int ds.length) S := len_loc ht
  obtain ⟨d, d0, d1, i, x, s, n, hp⟩ := pick_ok (k := k) h (w := (ds.length : Int)) (by omega) (by omega)
  obtain ⟨m, rfl⟩ : ∃ m : Nat, d = m := ⟨d.toNat, by omega⟩
  have hm : m < ds.length := by omega
  have ht' : (S.set b (.lst (bagL c i x s n)))[t]? = some (.lst ds) := by rw [List.getElem?_set_ne hbt]; exact ht
  have sb : subD (.loc t) (.int m) (S.set b (.lst (bagL c i x s n))) = .ok ds[m] (S.set b (.lst (bagL c i x s n))) := by
    rw [sub_loc ht', atI_nat hm, List.getElem?_eq_getElem hm]
    rfl
  have hbd : ds[m].bd S.length = true := by
    have := List.all_eq_true.mp h.w _ (List.mem_of_getElem? ht)
    exact bds_mem this _ (List.getElem_mem hm)
  refine ⟨ds[m], List.getElem_mem hm, i, x, s, n, ?_⟩
  rw [call_eq df__law_some]
  refine run_rtW rfl List.length_set (wf_set h.w (bagL_bd h.cl)) hbd ?_
  simp [b__law_some, startE, setR, parR, parE, asgT, asgTs, asgsR, bindT, bindTs, wipeE, lt, hp, sb, df__law_pick]
end
end K84
end

section
set_option Elab.async false
set_option linter.all false
set_option maxRecDepth 100000
set_option maxHeartbeats 1000000
set_option autoImplicit false
namespace K84
open PySem Ev
section
variable {k bz : Nat} {S : Store}
theorem df__law_needs : md.P.defs "_law_needs" = some ⟨0, 1, b__law_needs⟩ := by rfl
theorem df__law_orders : md.P.defs "_law_orders" = some ⟨0, 1, b__law_orders⟩ := by rfl
def twoD (a b : Int) : D := .tup [.int a, .int b]
def needs1 : List (Key × D) := putAll [] [(.inr "dup", twoD 1 2), (.inr "drop", twoD 1 0), (.inr "swap", twoD 2 2), (.inr "over", twoD 2 3), (.inr "rot", twoD 3 3), (.inr "nip", twoD 2 1)]
def needs2 : List (Key × D) := putAll [] [(.inr "tuck", twoD 2 3), (.inr "add", twoD 2 1), (.inr "sub", twoD 2 1), (.inr "neg", twoD 1 1), (.inr "mul", twoD 2 1)]
def needsK : List (Key × D) := putAll needs1 needs2
theorem needs_get (w : Wd) : kget needsK (.inr w.nm) = some (.tup [.int (w.takes : Nat), .int (w.gives : Nat)]) := by cases w <;> kernel_rfl
def wordsX : List Str := ["add", "drop", "dup", "mul", "neg", "nip", "over", "rot", "sub", "swap", "tuck"]
theorem needs_sorted : (keysS needsK).map sortX = some wordsX := by kernel_rfl
theorem needs_ok (hS : wf S) : (cxK md.P (k + 1)).call "_law_needs" [] S = .ok (.loc S.length) (S ++ [.dk needsK]) := by
  rw [call_eq df__law_needs]
  have d1 : ∀ St : Store, dspR ["dup", "drop", "swap", "over", "rot", "nip"] [.tup [.int 1, .int 2], .tup [.int 1, .int 0], .tup [.int 2, .int 2], .tup [.int 2, .int 3], .tup [.int 3, .int 3], .tup [.int 2, .int 1]] St = .ok (.loc St.length) (St ++ [.dk needs1]) := fun _ => rfl
  have d2 : ∀ St : Store, dspR ["tuck", "add", "sub", "neg", "mul"] [.tup [.int 2, .int 3], .tup [.int 2, .int 1], .tup [.int 2, .int 1], .tup [.int 1, .int 1], .tup [.int 2, .int 1]] St = .ok (.loc St.length) (St ++ [Ob.dk needs2]) := fun _ => rfl
  have h1 : (S ++ [Ob.dk needs1])[S.length]? = some (.dk needs1) := by simp
  have g1 : (S ++ [Ob.dk needs1] ++ [Ob.dk needs2])[S.length]? = some (.dk needs1) := by simp
  have g2 : (S ++ [Ob.dk needs1] ++ [Ob.dk needs2])[(S ++ [Ob.dk needs1]).length]? = some (.dk needs2) := by simp
  have ku : kindOk .update (.loc S.length) (S ++ [Ob.dk needs1]) = true := by simp only [kindOk, h1]
  have up : methD (.loc S.length) .update [.loc (S ++ [Ob.dk needs1]).length] (S ++ [Ob.dk needs1] ++ [Ob.dk needs2]) = .ok .non ((S ++ [Ob.dk needs1] ++ [Ob.dk needs2]).set S.length (.dk needsK)) := by
    simp only [methD, g1, g2]
    rw [if_pos ⟨by simp, by decide⟩]
    rfl
  have bn : ∀ n, Ob.bd n (.dk needsK) = true := fun n => rfl
  refine run_new (l := S.length) (S' := (S ++ [Ob.dk needs1] ++ [Ob.dk needs2]).set S.length (.dk needsK)) rfl hS (by simp) (Nat.le_refl _) (by simp) (bn _) ?_
  simp at up
  simp [b__law_needs, startE, setR, parR, parE, asgT, asgTs, asgsR, bindT, bindTs, wipeE, d1, d2, ku, up]
theorem orders1 : True := trivial
def ord1 : List (Key × D) := putAll [] [(.inr "dup", .tup [.int 0, .int 0]), (.inr "drop", .tup []), (.inr "swap", .tup [.int 1, .int 0]), (.inr "over", .tup [.int 0, .int 1, .int 0]), (.inr "rot", .tup [.int 1, .int 2, .int 0]), (.inr "nip", .tup [.int 1])]
def ordK : List (Key × D) := kput ord1 (.inr "tuck") (.tup [.int 1, .int 0, .int 1])
theorem ord_get (w : Wd) : kget ordK (.inr w.nm) = w.shuf.map fun l => .tup (l.map fun a => .int (a : Nat)) := by cases w <;> kernel_rfl
theorem orders_ok (hS : wf S) : (cxK md.P (k + 1)).call "_law_orders" [] S = .ok (.loc S.length) (S ++ [.dk ordK]) := by
  rw [call_eq df__law_orders]
  have d1 : ∀ St : Store, dspR ["dup", "drop", "swap", "over", "rot", "nip"] [.tup [.int 0, .int 0], .tup [], .tup [.int 1, .int 0], .tup [.int 0, .int 1, .int 0], .tup [.int 1, .int 2, .int 0], .tup [.int 1]] St = .ok (.loc St.length) (St ++ [.dk ord1]) := fun _ => rfl
  have h1 : (S ++ [Ob.dk ord1])[S.length]? = some (.dk ord1) := by simp
  have st : stoD (.loc S.length) (.str "tuck") (.tup [.int 1, .int 0, .int 1]) (S ++ [Ob.dk ord1]) = .ok () ((S ++ [Ob.dk ord1]).set S.length (.dk ordK)) := by
    have ob : obPut (.dk ord1) (.str "tuck") (.tup [.int 1, .int 0, .int 1]) = some (.dk ordK) := by rfl
    simp only [stoD, h1, ob]
  refine run_new (l := S.length) (S' := (S ++ [Ob.dk ord1]).set S.length (.dk ordK)) rfl hS (by simp) (Nat.le_refl _) (by simp) rfl ?_
  simp at st
  simp [b__law_orders, startE, setR, parR, parE, asgT, asgTs, asgsR, bindT, bindTs, wipeE, d1, st]
end
end K84
end

section
set_option Elab.async false
set_option linter.all false
set_option maxRecDepth 100000
set_option maxHeartbeats 1000000
set_option autoImplicit false
namespace K84
open PySem Ev
section
variable {k bz : Nat} {S : Store}
/-! ### what a def that draws leaves -/
structure BS (S St : Store) : Prop where
  wf : wf St
  len : S.length ≤ St.length
  bag : ∃ (i : Nat) (x s n : Int), ∀ l, l < S.length → St[l]? = (S.set 2 (.lst (bagL 1 i x s n)))[l]?
theorem BS.refl (h : Bag 2 1 S) : BS S S where
  wf := h.w
  len := Nat.le_refl _
  bag := by
    obtain ⟨i, x, s, n, e⟩ := h.bag
    refine ⟨i, x, s, n, fun l hl => ?_⟩
    by_cases e2 : l = 2
    · subst e2
      rw [e, List.getElem?_set_self hl]
    · rw [List.getElem?_set_ne (Ne.symm e2)]
theorem BS.toBag {St : Store} (h : Bag 2 1 S) (b : BS S St) : Bag 2 1 St where
  w := b.wf
  cells := by
    obtain ⟨i, x, s, n, e⟩ := b.bag
    obtain ⟨ns, c⟩ := h.cells
    exact ⟨ns, by rw [e 1 h.cl, List.getElem?_set_ne (by omega)]; exact c⟩
  bag := by
    obtain ⟨i, x, s, n, e⟩ := b.bag
    exact ⟨i, x, s, n, by rw [e 2 h.bl, List.getElem?_set_self h.bl]⟩
theorem BS.set {St : Store} {i : Nat} {x s n : Int} (h : Bag 2 1 S) (b : BS S St) : BS S (St.set 2 (.lst (bagL 1 i x s n))) where
  wf := (b.toBag h).set.w
  len := by rw [List.length_set]; exact b.len
  bag := by
    obtain ⟨i2, x2, s2, n2, e⟩ := b.bag
    refine ⟨i, x, s, n, fun l hl => ?_⟩
    by_cases e2 : l = 2
    · subst e2
      rw [List.getElem?_set_self (b.toBag h).bl, List.getElem?_set_self hl]
    · rw [List.getElem?_set_ne (Ne.symm e2), List.getElem?_set_ne (Ne.symm e2), e l hl, List.getElem?_set_ne (Ne.symm e2)]
theorem BS.add {St : Store} {o : Ob} (b : BS S St) (ho : o.bd (St.length + 1) = true) : BS S (St ++ [o]) where
  wf := wf_add b.wf ho
  len := by rw [List.length_append]; have := b.len; omega
  bag := by
    obtain ⟨i, x, s, n, e⟩ := b.bag
    exact ⟨i, x, s, n, fun l hl => by rw [List.getElem?_append_left (by have := b.len; omega)]; exact e l hl⟩
theorem BS.hi {St : Store} {o : Ob} {m : Nat} (b : BS S St) (hm : S.length ≤ m) (ho : o.bd St.length = true) : BS S (St.set m o) where
  wf := wf_set b.wf ho
  len := by rw [List.length_set]; exact b.len
  bag := by
    obtain ⟨i, x, s, n, e⟩ := b.bag
    exact ⟨i, x, s, n, fun l hl => by rw [List.getElem?_set_ne (by omega)]; exact e l hl⟩
theorem BS.fin {St : Store} (h : Bag 2 1 S) (b : BS S St) : (St.take S.length).all (Ob.bd S.length) = true ∧ Bag 2 1 (St.take S.length) ∧ (St.take S.length).length = S.length := by
  obtain ⟨i, x, s, n, e⟩ := b.bag
  have t : St.take S.length = S.set 2 (.lst (bagL 1 i x s n)) := by
    rw [take_eq (B := S.set 2 (.lst (bagL 1 i x s n))) e]
    exact List.take_of_length_le (by rw [List.length_set]; exact Nat.le_refl _)
  have hb : Bag 2 1 (S.set 2 (.lst (bagL 1 i x s n))) := h.set
  rw [t]
  have w := hb.w
  unfold Ev.wf at w
  rw [List.length_set] at w
  exact ⟨w, hb, List.length_set⟩
theorem BS.trans {S1 S2 : Store} (h : Bag 2 1 S) (a : BS S S1) (b : BS S1 S2) : BS S S2 where
  wf := b.wf
  len := Nat.le_trans a.len b.len
  bag := by
    obtain ⟨i, x, s, n, e⟩ := a.bag
    obtain ⟨i2, x2, s2, n2, e2⟩ := b.bag
    refine ⟨i2, x2, s2, n2, fun l hl => ?_⟩
    have := a.len
    rw [e2 l (by omega)]
    by_cases q : l = 2
    · subst q
      rw [List.getElem?_set_self (by omega), List.getElem?_set_self hl]
    · rw [List.getElem?_set_ne (Ne.symm q), List.getElem?_set_ne (Ne.symm q), e l hl, List.getElem?_set_ne (Ne.symm q)]
/-! ### a drawn program -/
theorem df__law_straight : md.P.defs "_law_straight" = some ⟨2, 7, b__law_straight⟩ := by rfl
theorem It.eq_mul (x : It) {S : Store} : eqD S x.d (.str "mul") = some (decide (x = .w .mul)) := by
  cases x with
  | w x => simp [It.d, nm_mul]
  | n i => rw [It.d, eq_str_int i (by decide +kernel)]; simp
def keysN : List Str := ["dup", "drop", "swap", "over", "rot", "nip", "tuck", "add", "sub", "neg", "mul"]
theorem needs_keys : keysS needsK = some keysN := by kernel_rfl
theorem keys_sorted : sortX keysN = wordsX := by kernel_rfl
theorem sorted_needs {l : Nat} {St : Store} (h : St[l]? = some (.dk needsK)) : bltD .sorted [.loc l] St = .ok (.loc St.length) (St ++ [.lst (wordsX.map D.str)]) := by
  simp only [bltD, h, needs_keys]
  rw [if_pos (by decide), keys_sorted]
  rfl
def wordsW : List Wd := [.add, .drop, .dup, .mul, .neg, .nip, .over, .rot, .sub, .swap, .tuck]
theorem words_eq : wordsX = wordsW.map Wd.nm := by kernel_rfl
def drawn (i : Int) : List D := wordsX.map D.str ++ [.str "add", .str "sub", .int i, .int 2]
theorem drawn_it {i : Int} {d : D} (h : d ∈ drawn i) (h1 : -3 ≤ i) (h2 : i ≤ 3) : ∃ x : It, d = x.d ∧ x.ok := by
  unfold drawn at h
  rw [words_eq, List.map_map] at h
  rcases List.mem_append.mp h with h | h
  · obtain ⟨w, _, rfl⟩ := List.mem_map.mp h
    exact ⟨.w w, rfl, trivial⟩
  · simp at h
    rcases h with rfl | rfl | rfl | rfl
    · exact ⟨.w .add, rfl, trivial⟩
    · exact ⟨.w .sub, rfl, trivial⟩
    · exact ⟨.n i, rfl, by unfold It.ok; omega⟩
    · exact ⟨.n 2, rfl, by unfold It.ok; omega⟩
theorem bd_words (n : Nat) : Ob.bd n (.lst (wordsX.map D.str)) = true := by rw [bd_lst]; exact bds_map (fun _ => rfl) _
structure SI (S : Store) (a w : Nat) (p : List It) (m : Int) (St : Store) : Prop where
  bs : BS S St
  items : St[a]? = some (.lst (p.map It.d))
  words : St[w]? = some (.lst (wordsX.map D.str))
  ne : S.length ≤ a ∧ S.length ≤ w ∧ a ≠ w
  ok : ∀ x ∈ p, x.ok
  mul : muls p ≤ 5 ∧ (muls p : Int) ≤ m
theorem pick_BS {St : Store} (h : Bag 2 1 S) (b : BS S St) {w : Int} (hw : 0 < w) (hw2 : w < 1000) : ∃ d, 0 ≤ d ∧ d < w ∧ ∃ St', (cxK md.P (k + 1)).call "_law_pick" [.loc 2, .int w] St = .ok (.int d) St' ∧ BS S St' ∧ St'.length = St.length ∧ ∀ l, l ≠ 2 → St'[l]? = St[l]? := by
  obtain ⟨d, h1, h2, i, x, s, n, e⟩ := pick_ok (k := k) (b.toBag h) hw hw2
  exact ⟨d, h1, h2, _, e, b.set h, List.length_set, fun l hl => List.getElem?_set_ne (Ne.symm hl)⟩
theorem some_BS {St : Store} {t : Nat} {ds : List D} (h : Bag 2 1 S) (b : BS S St) (ht : St[t]? = some (.lst ds)) (hbt : 2 ≠ t) (h0 : 0 < ds.length) (h1 : ds.length < 1000) : ∃ d ∈ ds, ∃ St', (cxK md.P (k + 2)).call "_law_some" [.loc 2, .loc t] St = .ok d St' ∧ BS S St' ∧ St'.length = St.length ∧ ∀ l, l ≠ 2 → St'[l]? = St[l]? := by
  obtain ⟨d, hd, i, x, s, n, e⟩ := some_any (k := k) (b.toBag h) ht hbt h0 h1
  exact ⟨d, hd, _, e, b.set h, List.length_set, fun l hl => List.getElem?_set_ne (Ne.symm hl)⟩
theorem bin_lst {l m : Nat} {xs ys : List D} {St : Store} (h1 : St[l]? = some (.lst xs)) (h2 : St[m]? = some (.lst ys)) (h : xs.length + ys.length ≤ LIM) : binD .add (.loc l) (.loc m) St = .ok (.loc St.length) (St ++ [.lst (xs ++ ys)]) := by
  simp only [binD, h1, h2, h, if_true]
  rfl
theorem straight_turn {a w : Nat} {p : List It} {m : Int} {St : Store} (h : Bag 2 1 S) (u : SI S a w p m St) (hp : p.length ≤ 100) (z : D) (x1 x5 x6 : Option D) :
    ∃ x p' m' St', turnF (cxK md.P (k + 2)) bz (.name 5) l__law_straight_0 z [some (.loc 2), x1, some (.loc a), some (.loc w), some (.int m), x5, x6] St = .nx [some (.loc 2), x1, some (.loc a), some (.loc w), some (.int m'), some z, some x] St' ∧ SI S a w p' m' St' ∧ p'.length ≤ p.length + 1 := by
  have n := u.ne
  have h2 := h.bl
  obtain ⟨d7, d0, d1, S1, e1, b1, l1, k1⟩ := pick_BS (k := k + 1) h u.bs (w := 7) (by decide) (by decide)
  have b2 : BS S (S1 ++ [.lst [.str "add", .str "sub", .int (d7 - 3), .int 2]]) := b1.add rfl
  have wl : w < S1.length := by rw [l1]; exact (List.getElem?_eq_some_iff.mp u.words).1
  have al : a < S1.length := by rw [l1]; exact (List.getElem?_eq_some_iff.mp u.items).1
  have w2 : (S1 ++ [Ob.lst [.str "add", .str "sub", .int (d7 - 3), .int 2]])[w]? = some (.lst (wordsX.map D.str)) := by rw [List.getElem?_append_left wl, k1 w (by omega)]; exact u.words
  have a2 : (S1 ++ [Ob.lst [.str "add", .str "sub", .int (d7 - 3), .int 2]])[a]? = some (.lst (p.map It.d)) := by rw [List.getElem?_append_left al, k1 a (by omega)]; exact u.items
  have bl := bin_lst w2 (m := S1.length) (ys := [.str "add", .str "sub", .int (d7 - 3), .int 2]) (by simp) (by show 15 ≤ LIM; simp [LIM])
  have len2 : (S1 ++ [Ob.lst [.str "add", .str "sub", .int (d7 - 3), .int 2]]).length = S1.length + 1 := by simp
  generalize hS2 : S1 ++ [Ob.lst [.str "add", .str "sub", .int (d7 - 3), .int 2]] = S2 at *
  have dr : wordsX.map D.str ++ [.str "add", .str "sub", .int (d7 - 3), .int 2] = drawn (d7 - 3) := rfl
  rw [dr] at bl
  have b3 : BS S (S2 ++ [.lst (drawn (d7 - 3))]) := b2.add (by rw [bd_lst]; rfl)
  have w3 : (S2 ++ [Ob.lst (drawn (d7 - 3))])[w]? = some (.lst (wordsX.map D.str)) := by rw [List.getElem?_append_left (by omega)]; exact w2
  have a3 : (S2 ++ [Ob.lst (drawn (d7 - 3))])[a]? = some (.lst (p.map It.d)) := by rw [List.getElem?_append_left (by omega)]; exact a2
  have n3 : (S2 ++ [Ob.lst (drawn (d7 - 3))])[S2.length]? = some (.lst (drawn (d7 - 3))) := by simp
  have hb := u.bs.len
  obtain ⟨d, hd, S4, e4, b4, l4, k4⟩ := some_BS (k := k) h b3 n3 (by omega) (by show 0 < 15; omega) (by show 15 < 1000; omega)
  have w4 := (k4 w (by omega)).trans w3
  have a4 := (k4 a (by omega)).trans a3
  obtain ⟨x, rfl, hx⟩ := drawn_it hd (by omega) (by omega)
  have em := fun St => It.eq_mul x (S := St)
  have dis : ∀ St : Store, disR [.str "add", .str "sub", .int (d7 - 3), .int 2] St = .ok [.str "add", .str "sub", .int (d7 - 3), .int 2] St := fun _ => rfl
  have ka := kind_append a4
  have ap := m_append (d := x.d) a4 (by rw [List.length_map]; simp [LIM]; omega)
  have a4l : a < S4.length := (List.getElem?_eq_some_iff.mp a4).1
  have bd5 : Ob.bd S4.length (.lst (p.map It.d ++ [x.d])) = true := by
    rw [show p.map It.d ++ [x.d] = (p ++ [x]).map It.d from by simp, bd_lst]
    exact bds_its _ _
  have sa : ∀ (hm : muls (p ++ [x]) ≤ 5) (m' : Int) (hm2 : (muls (p ++ [x]) : Int) ≤ m'), SI S a w (p ++ [x]) m' (S4.set a (.lst (p.map It.d ++ [x.d]))) := fun hm m' hm2 => ⟨b4.hi n.1 bd5, by rw [List.getElem?_set_self a4l]; simp, by rw [List.getElem?_set_ne n.2.2]; exact w4, n, fun y hy => by
    rcases List.mem_append.mp hy with e | e
    · exact u.ok y e
    · rw [List.mem_singleton.mp e]; exact hx, hm, hm2⟩
  have mc : muls (p ++ [x]) = muls p + if x = .w .mul then 1 else 0 := by
    unfold muls
    rw [List.countP_append, List.countP_singleton]
    simp
  have um := u.mul
  by_cases hx : x = .w .mul
  · rw [if_pos hx] at mc
    rw [decide_eq_true hx] at em
    by_cases h5 : m < 5
    · refine ⟨x.d, p ++ [x], m + 1, _, ?_, sa (by omega) (m + 1) (by omega), by simp⟩
      generalize x.d = xd at *
      generalize S4.set a (.lst (p.map It.d ++ [xd])) = S5 at *
      simp [turnF, l__law_straight_0, startE, setR, parR, parE, asgT, asgTs, asgsR, bindT, bindTs, wipeE, df__law_pick, df__law_some, e1, dis, hS2, bl, e4, em, h5, ka, ap]
    · refine ⟨x.d, p, m + 1, S4, ?_, ⟨b4, a4, w4, n, u.ok, um.1, by omega⟩, by omega⟩
      generalize x.d = xd at *
      simp [turnF, l__law_straight_0, startE, setR, parR, parE, asgT, asgTs, asgsR, bindT, bindTs, wipeE, df__law_pick, df__law_some, e1, dis, hS2, bl, e4, em, h5]
  · rw [if_neg hx] at mc
    rw [decide_eq_false hx] at em
    refine ⟨x.d, p ++ [x], m + 0, _, ?_, sa (by omega) (m + 0) (by omega), by simp⟩
    generalize x.d = xd at *
    generalize S4.set a (.lst (p.map It.d ++ [xd])) = S5 at *
    simp [turnF, l__law_straight_0, startE, setR, parR, parE, asgT, asgTs, asgsR, bindT, bindTs, wipeE, df__law_pick, df__law_some, e1, dis, hS2, bl, e4, em, ka, ap]
end
end K84
end

section
set_option Elab.async false
set_option linter.all false
set_option maxRecDepth 100000
set_option maxHeartbeats 1000000
set_option autoImplicit false
namespace K84
open PySem Ev
section
variable {k bz : Nat} {S : Store}
theorem straight_walk {a w : Nat} (h : Bag 2 1 S) (x1 : Option D) : ∀ (zs : List D) (p : List It) (m : Int) (St : Store) (x5 x6 : Option D), SI S a w p m St → p.length + zs.length ≤ 100 → ∃ p' m' y5 y6 St', forT (turnF (cxK md.P (k + 2)) bz (.name 5) l__law_straight_0) zs [some (.loc 2), x1, some (.loc a), some (.loc w), some (.int m), x5, x6] St = .nx [some (.loc 2), x1, some (.loc a), some (.loc w), some (.int m'), y5, y6] St' ∧ SI S a w p' m' St' ∧ p'.length ≤ p.length + zs.length
  | [], p, m, St, x5, x6, u, _ => ⟨p, m, x5, x6, St, rfl, u, by simp⟩
  | z :: zs, p, m, St, x5, x6, u, hl => by
    rw [List.length_cons] at hl
    obtain ⟨x, p1, m1, S1, e1, u1, l1⟩ := straight_turn (bz := bz) (k := k) h u (by omega) z x1 x5 x6
    obtain ⟨p2, m2, y5, y6, S2, e2, u2, l2⟩ := straight_walk h x1 zs p1 m1 S1 (some z) (some x) u1 (by omega)
    refine ⟨p2, m2, y5, y6, S2, ?_, u2, by rw [List.length_cons]; omega⟩
    unfold forT
    rw [e1]
    exact e2
theorem rngL_len (a c : Int) : ∀ m : Nat, (rngL a c m).length = m
  | 0 => rfl
  | m + 1 => by rw [rngL, List.length_cons, rngL_len (a + c) c m]
structure Drawn (p : List It) : Prop where
  len : p.length ≤ 25
  ok : ∀ x ∈ p, x.ok
  mul : muls p ≤ 5
theorem Drawn.fine {p : List It} (h : Drawn p) : Fine p := ⟨by have := h.len; omega, h.ok, by have := h.mul; omega⟩
theorem straight_ok (h : Bag 2 1 S) : ∃ p S', (cxK md.P (k + 3)).call "_law_straight" [.loc 2, .int 15] S = .ok (pr p) S' ∧ Bag 2 1 S' ∧ S'.length = S.length ∧ Drawn p ∧ p.length ≤ 15 := by
  rw [call_eq df__law_straight]
  have b0 := BS.refl h
  have b1 : BS S (S ++ [.lst []]) := b0.add rfl
  have nd := needs_ok (k := k + 1) b1.wf
  have b2 : BS S (S ++ [.lst []] ++ [.dk needsK]) := b1.add rfl
  have so := sorted_needs (St := S ++ [.lst []] ++ [.dk needsK]) (l := (S ++ [Ob.lst []]).length) (by simp)
  have b3 : BS S (S ++ [.lst []] ++ [.dk needsK] ++ [.lst (wordsX.map D.str)]) := b2.add (bd_words _)
  have n1 : (S ++ [Ob.lst []]).length = S.length + 1 := by simp
  have n2 : (S ++ [Ob.lst []] ++ [Ob.dk needsK]).length = S.length + 2 := by simp
  have i3 : (S ++ [Ob.lst []] ++ [Ob.dk needsK] ++ [Ob.lst (wordsX.map D.str)])[S.length]? = some (.lst []) := by simp
  have w3 : (S ++ [Ob.lst []] ++ [Ob.dk needsK] ++ [Ob.lst (wordsX.map D.str)])[S.length + 2]? = some (.lst (wordsX.map D.str)) := by rw [← n2, List.getElem?_append_right (Nat.le_refl _)]; simp
  rw [n1] at nd so
  rw [n2] at so
  have l3 : (S ++ [Ob.lst []] ++ [Ob.dk needsK] ++ [Ob.lst (wordsX.map D.str)]).length = S.length + 3 := by simp
  generalize hA : S ++ [Ob.lst []] = SA at *
  generalize hB : SA ++ [Ob.dk needsK] = SB at *
  generalize hC : SB ++ [Ob.lst (wordsX.map D.str)] = SC at *
  have h2 := h.bl
  obtain ⟨d, d0, d1, S4, e4, b4, l4, k4⟩ := pick_BS (k := k + 1) h b3 (w := 16) (by decide) (by decide)
  obtain ⟨m, rfl⟩ : ∃ m : Nat, d = m := ⟨d.toNat, by omega⟩
  have rg := rng_nat (n := m) (St := S4) (by omega)
  obtain ⟨p, m', y5, y6, S', e5, u, l5⟩ := straight_walk (bz := S.length) (k := k) (a := S.length) (w := S.length + 2) h (some (.int 15)) (rngL 0 1 m) [] 0 S4 none none ⟨b4, by rw [k4 _ (by omega)]; exact i3, by rw [k4 _ (by omega)]; exact w3, by omega, (fun x hx => nomatch hx), by simp [muls]⟩ (by rw [rngL_len]; simp; omega)
  rw [rngL_len, List.length_nil] at l5
  obtain ⟨f1, f2, f3⟩ := u.bs.fin h
  refine ⟨p, S'.take S.length, ?_, f2, f3, ⟨by omega, u.ok, u.mul.1⟩, by omega⟩
  have tl := tuple_loc u.items
  refine run_low (S' := S') rfl f1 (by rw [bd_tup]; exact bds_its _ _) rfl ?_
  simp only [pr]
  generalize p.map It.d = q at *
  simp [b__law_straight, startE, setR, parR, parE, asgT, asgTs, asgsR, bindT, bindTs, wipeE, hA, df__law_needs, nd, so, df__law_pick, e4, rg, e5, tl]
/-! ### own numbering -/
structure LS (S St : Store) : Prop where
  wf : wf St
  len : S.length ≤ St.length
  low : ∀ l, l < S.length → St[l]? = S[l]?
theorem LS.refl (hS : Ev.wf S) : LS S S := ⟨hS, Nat.le_refl _, fun _ _ => rfl⟩
theorem LS.add {St : Store} {o : Ob} (b : LS S St) (ho : o.bd (St.length + 1) = true) : LS S (St ++ [o]) := ⟨wf_add b.wf ho, by rw [List.length_append]; have := b.len; omega, fun l hl => by rw [List.getElem?_append_left (by have := b.len; omega)]; exact b.low l hl⟩
theorem LS.hi {St : Store} {o : Ob} {m : Nat} (b : LS S St) (hm : S.length ≤ m) (ho : o.bd St.length = true) : LS S (St.set m o) := ⟨wf_set b.wf ho, by rw [List.length_set]; exact b.len, fun l hl => by rw [List.getElem?_set_ne (by omega)]; exact b.low l hl⟩
theorem LS.take {St : Store} (b : LS S St) : St.take S.length = S := by rw [take_eq b.low, List.take_length]
theorem df__law_wants : md.P.defs "_law_wants" = some ⟨1, 6, b__law_wants⟩ := by rfl
theorem max_ok {i j : Int} {St : Store} : bltD .max [.int i, .int j] St = .ok (.int (if j > i then j else i)) St := rfl
theorem sub_needs {l : Nat} {St : Store} (w : Wd) (h : St[l]? = some (.dk needsK)) : subD (.loc l) (.str w.nm) St = .ok (.tup [.int (w.takes : Nat), .int (w.gives : Nat)]) St := by
  simp only [subD, h, obGet, keyOf, Option.map_some, needs_get]
theorem lw_walk (x0 : Option D) : ∀ (p : List It) (w s : Nat) (St : Store) (x3 x4 x5 : Option D), LS S St → ∃ y3 y4 y5 St', forT (turnF (cxK md.P (k + 1)) bz (.name 3) l__law_wants_0) (p.map It.d) [x0, some (.int (s : Nat)), some (.int (w : Nat)), x3, x4, x5] St = .nx [x0, some (.int ((wst p w s).2 : Nat)), some (.int ((wst p w s).1 : Nat)), y3, y4, y5] St' ∧ LS S St'
  | [], w, s, St, x3, x4, x5, u => ⟨x3, x4, x5, St, rfl, u⟩
  | x :: p, w, s, St, x3, x4, x5, u => by
    rw [List.map_cons]
    unfold forT wst
    cases x with
    | n i =>
      have t : turnF (cxK md.P (k + 1)) bz (.name 3) l__law_wants_0 (It.n i).d [x0, some (.int (s : Nat)), some (.int (w : Nat)), x3, x4, x5] St = .nx [x0, some (.int ((s + 1 : Nat) : Int)), some (.int (w : Nat)), some (It.n i).d, x4, x5] St := by
        simp [turnF, l__law_wants_0, startE, setR, parR, parE, asgT, asgTs, asgsR, bindT, bindTs, wipeE, It.d, bt_str]
      rw [t]
      have e1 : w + ((It.n i).takes - s) = w := by simp [It.takes]
      have e2 : max s (It.n i).takes - (It.n i).takes + (It.n i).gives = s + 1 := by simp [It.takes, It.gives]
      rw [e1, e2]
      exact lw_walk x0 p w (s + 1) St _ _ _ u
    | w x =>
      have nd := needs_ok (k := k) u.wf
      have sn := sub_needs (l := St.length) (St := St ++ [.dk needsK]) x (by simp)
      have u1 : LS S (St ++ [.dk needsK]) := u.add rfl
      generalize St ++ [Ob.dk needsK] = S1 at *
      have a1 : (w : Int) + (if ((x.takes : Nat) : Int) - (s : Nat) > 0 then ((x.takes : Nat) : Int) - (s : Nat) else 0) = ((w + ((It.w x).takes - s) : Nat) : Int) := by
        show _ = ((w + (x.takes - s) : Nat) : Int)
        split <;> omega
      have a2 : (if ((x.takes : Nat) : Int) > (s : Nat) then ((x.takes : Nat) : Int) else (s : Nat)) - ((x.takes : Nat) : Int) + ((x.gives : Nat) : Int) = ((max s (It.w x).takes - (It.w x).takes + (It.w x).gives : Nat) : Int) := by
        show _ = ((max s x.takes - x.takes + x.gives : Nat) : Int)
        split <;> omega
      have t : turnF (cxK md.P (k + 1)) bz (.name 3) l__law_wants_0 (It.w x).d [x0, some (.int (s : Nat)), some (.int (w : Nat)), x3, x4, x5] St = .nx [x0, some (.int ((max s (It.w x).takes - (It.w x).takes + (It.w x).gives : Nat) : Int)), some (.int ((w + ((It.w x).takes - s) : Nat) : Int)), some (It.w x).d, some (.int (x.takes : Nat)), some (.int (x.gives : Nat))] S1 := by
        rw [← a1, ← a2]
        simp [turnF, l__law_wants_0, startE, setR, parR, parE, asgT, asgTs, asgsR, bindT, bindTs, wipeE, It.d, bt_str, df__law_needs, nd, sn, asgsR, parR, max_ok]
      rw [t]
      exact lw_walk x0 p _ _ S1 _ _ _ u1
theorem law_wants_ok (p : List It) (hS : wf S) : (cxK md.P (k + 2)).call "_law_wants" [pr p] S = .ok (.int (wants p : Nat)) S := by
  rw [call_eq df__law_wants]
  obtain ⟨y3, y4, y5, S', e, u⟩ := lw_walk (bz := S.length) (k := k) (S := S) (some (pr p)) p 0 0 S none none none (LS.refl hS)
  refine run_cut (S' := S') rfl hS rfl u.take ?_
  simp only [pr] at *
  unfold wants
  have hbq := fun n => bds_its p n
  generalize p.map It.d = q at *
  rw [show ((0 : Nat) : Int) = 0 from rfl] at e
  simp [b__law_wants, hbq, startE, setR, parR, parE, asgT, asgTs, asgsR, bindT, bindTs, wipeE, asgsR, e]
end
end K84
end

section
set_option Elab.async false
set_option linter.all false
set_option maxRecDepth 100000
set_option maxHeartbeats 1000000
set_option autoImplicit false
namespace K84
open PySem Ev
section
variable {k bz : Nat} {S : Store}
/-! ### rows told apart -/
def Row.p : Row → PyData
  | .inn k => .tuple [.str "in", .int (k : Nat)]
  | .cst i => .tuple [.str "int", .int i]
  | .one w a => .tuple [.str w.nm, .int (a : Nat)]
  | .two w a b => .tuple [.str w.nm, .int (a : Nat), .int (b : Nat)]
theorem nm_ok (w : Wd) : PyData.strOk w.nm = true := by cases w <;> decide +kernel
theorem data_str (w : Wd) : D.data (.str w.nm) = some (.str w.nm) := by simp only [D.data, nm_ok, if_true]
theorem Row.data (r : Row) : r.d.data = some r.p := by
  cases r with
  | inn k => simp [Row.d, D.data, datas, show PyData.strOk (Str.ofString "in") = true from by decide +kernel, Row.p]
  | cst i => simp [Row.d, D.data, datas, show PyData.strOk (Str.ofString "int") = true from by decide +kernel, Row.p]
  | one w a => simp [Row.d, D.data, datas, nm_ok, Row.p]
  | two w a b => simp [Row.d, D.data, datas, nm_ok, Row.p]
theorem datas_rows : ∀ rows : List Row, datas (rows.map Row.d) = some (rows.map Row.p)
  | [] => rfl
  | r :: rows => by rw [List.map_cons, datas, Row.data, datas_rows rows]; rfl
theorem nm_eq (w v : Wd) : (w.nm == v.nm) = decide (w = v) := by cases w <;> cases v <;> decide +kernel
theorem int_nm (w : Wd) : (Str.ofString "int" == w.nm) = false := by cases w <;> decide +kernel
theorem in_nm (w : Wd) : (Str.ofString "in" == w.nm) = false := by cases w <;> decide +kernel
theorem inB_int : (Str.ofString "in" == Str.ofString "int") = false := by decide +kernel
theorem nat_eq (a b : Nat) : (((a : Nat) : Int) == ((b : Nat) : Int)) = decide (a = b) := by
  by_cases h : a = b
  · subst h; simp
  · rw [decide_eq_false h, beq_eq_false_iff_ne]
    omega
theorem int_eq (a b : Int) : (a == b) = decide (a = b) := rfl
theorem eqv_str (a b : Str) : (PyData.str a).eqv (PyData.str b) = (a == b) := by simp only [PyData.eqv]
theorem eqv_int (a b : Int) : (PyData.int a).eqv (PyData.int b) = (a == b) := by simp only [PyData.eqv]
theorem eqv_row (x q : Row) : x.p.eqv q.p = decide (x = q) := by
  cases x with
  | inn a => cases q with
    | inn b => simp only [Row.p, PyData.eqv, PyData.eqvAll, in_in, nat_eq]; simp
    | cst i => simp only [Row.p, PyData.eqv, PyData.eqvAll, inB_int]; simp
    | one w a => simp only [Row.p, PyData.eqv, PyData.eqvAll, in_nm]; simp
    | two w a b => simp only [Row.p, PyData.eqv, PyData.eqvAll, in_nm]; simp
  | cst i => cases q with
    | inn b => simp only [Row.p, PyData.eqv, PyData.eqvAll, int_in]; simp
    | cst j => simp only [Row.p, PyData.eqv, PyData.eqvAll, int_int, int_eq]; simp
    | one w a => simp only [Row.p, PyData.eqv, PyData.eqvAll, int_nm]; simp
    | two w a b => simp only [Row.p, PyData.eqv, PyData.eqvAll, int_nm]; simp
  | one w a => cases q with
    | inn b => simp only [Row.p, PyData.eqv, PyData.eqvAll, nmB_in]; simp
    | cst j => simp only [Row.p, PyData.eqv, PyData.eqvAll, nmB_int]; simp
    | one v b => simp only [Row.p, PyData.eqv, PyData.eqvAll, nm_eq, nat_eq]; simp
    | two v b c => simp only [Row.p, PyData.eqv, PyData.eqvAll, nm_eq, nat_eq]; simp
  | two w a c => cases q with
    | inn b => simp only [Row.p, PyData.eqv, PyData.eqvAll, nmB_in]; simp
    | cst j => simp only [Row.p, PyData.eqv, PyData.eqvAll, nmB_int]; simp
    | one v b => simp only [Row.p, PyData.eqv, PyData.eqvAll, nm_eq, nat_eq]; simp
    | two v b d => simp only [Row.p, PyData.eqv, PyData.eqvAll, nm_eq, nat_eq]; simp
theorem Row.depth (r : Row) : r.p.depth ≤ 3 := by cases r <;> simp [Row.p, PyData.depth, PyData.depthAll]
theorem depth_rows : ∀ rows : List Row, PyData.depthAll (rows.map Row.p) ≤ 3
  | [] => by simp [PyData.depthAll]
  | r :: rows => by
    rw [List.map_cons, PyData.depthAll]
    exact Nat.max_le.mpr ⟨r.depth, depth_rows rows⟩
theorem Row.notS (r : Row) : isScal r.d = false := by cases r <;> rfl
theorem in_rows (q : Row) (rows : List Row) : inDs q.d (rows.map Row.d) = some (decide (q ∈ rows)) := by
  unfold inDs
  rw [Row.notS, Row.data, datas_rows]
  have h := q.depth
  simp only [Bool.false_and, Bool.false_eq_true, if_false]
  rw [if_pos (by omega)]
  congr 1
  rw [List.any_map]
  have e : ((fun p : PyData => p.eqv q.p) ∘ Row.p) = fun x => decide (x = q) := by funext x; exact eqv_row x q
  rw [e, Bool.eq_iff_iff, List.any_eq_true, decide_eq_true_iff]
  constructor
  · rintro ⟨x, h1, h2⟩
    rw [← of_decide_eq_true h2]
    exact h1
  · exact fun h => ⟨q, h, by simp⟩
theorem ix_rows {l : Nat} {q : Row} {rows : List Row} {i : Nat} {St : Store} (h : St[l]? = some (.lst (rows.map Row.d))) (hi : (rows.findIdx? fun x => decide (x = q)) = some i) : methD (.loc l) .index [q.d] St = .ok (.int (i : Nat)) St := by
  have hd := q.depth
  have hr := depth_rows rows
  have c : q.p.depth ≤ 60 ∧ (PyData.list (rows.map Row.p)).depth ≤ 60 := by
    simp only [PyData.depth]
    omega
  have e : ((fun p : PyData => p.eqv q.p) ∘ Row.p) = fun x => decide (x = q) := by funext x; exact eqv_row x q
  simp only [methD, h, Row.notS, Row.data, datas_rows, Bool.false_and, Bool.false_eq_true, if_false]
  rw [if_pos c, List.findIdx?_map, e, hi]
theorem eqD_vD (rows : List Row) (left : List Nat) : eqD S (vD rows left) (vD rows left) = some true := by
  have dl : ∀ l : List Nat, datas (l.map fun a => D.int (a : Nat)) = some (l.map fun a => PyData.int (a : Nat)) := by
    intro l
    induction l with
    | nil => rfl
    | cons a l ih => rw [List.map_cons, datas, ih]; rfl
  have d1 : dataOf S (vD rows left) = some (.tuple [.tuple (rows.map Row.p), .tuple (left.map fun a => PyData.int (a : Nat))]) := by
    show (datas [.tup (rows.map Row.d), .tup (left.map fun a => D.int (a : Nat))]).map PyData.tuple = _
    simp only [datas, D.data, datas_rows, dl, Option.map_some]
  have rr : ∀ rows : List Row, PyData.eqvAll (rows.map Row.p) (rows.map Row.p) = true := by
    intro rows
    induction rows with
    | nil => rfl
    | cons r rows ih => rw [List.map_cons, PyData.eqvAll, eqv_row, ih]; simp
  have ll : ∀ l : List Nat, PyData.eqvAll (l.map fun a => PyData.int (a : Nat)) (l.map fun a => PyData.int (a : Nat)) = true := by
    intro l
    induction l with
    | nil => rfl
    | cons a l ih => rw [List.map_cons, PyData.eqvAll, eqv_int, ih]; simp
  have ld : ∀ l : List Nat, PyData.depthAll (l.map fun a => PyData.int (a : Nat)) ≤ 1 := by
    intro l
    induction l with
    | nil => simp [PyData.depthAll]
    | cons a l ih =>
      rw [List.map_cons, PyData.depthAll, PyData.depth]
      omega
  have hr := depth_rows rows
  have hl := ld left
  show (match dataOf S (vD rows left), dataOf S (vD rows left) with
    | some p, some q => if p.depth ≤ 60 ∧ q.depth ≤ 60 then some (p.eqv q) else none
    | _, _ => none) = _
  rw [d1]
  dsimp only
  have c : (PyData.tuple [.tuple (rows.map Row.p), .tuple (left.map fun a => PyData.int (a : Nat))]).depth ≤ 60 := by
    simp only [PyData.depth, PyData.depthAll]
    omega
  rw [if_pos ⟨c, c⟩]
  simp only [PyData.eqv, PyData.eqvAll, rr, ll, Bool.and_self]
theorem eqD_ints (is : List Int) : eqD S (.tup (is.map D.int)) (.tup (is.map D.int)) = some true := by
  have dl : ∀ l : List Int, datas (l.map D.int) = some (l.map PyData.int) := by
    intro l
    induction l with
    | nil => rfl
    | cons a l ih => rw [List.map_cons, datas, ih]; rfl
  have d1 : dataOf S (.tup (is.map D.int)) = some (.tuple (is.map PyData.int)) := by
    show (datas (is.map D.int)).map PyData.tuple = _
    rw [dl]; rfl
  have ll : ∀ l : List Int, PyData.eqvAll (l.map PyData.int) (l.map PyData.int) = true := by
    intro l
    induction l with
    | nil => rfl
    | cons a l ih => rw [List.map_cons, PyData.eqvAll, eqv_int, ih]; simp
  have ld : ∀ l : List Int, PyData.depthAll (l.map PyData.int) ≤ 1 := by
    intro l
    induction l with
    | nil => simp [PyData.depthAll]
    | cons a l ih =>
      rw [List.map_cons, PyData.depthAll, PyData.depth]
      omega
  have hl := ld is
  show (match dataOf S (.tup (is.map D.int)), dataOf S (.tup (is.map D.int)) with
    | some p, some q => if p.depth ≤ 60 ∧ q.depth ≤ 60 then some (p.eqv q) else none
    | _, _ => none) = _
  rw [d1]
  dsimp only
  have c : (PyData.tuple (is.map PyData.int)).depth ≤ 60 := by
    simp only [PyData.depth]
    omega
  rw [if_pos ⟨c, c⟩]
  simp only [PyData.eqv, ll]
end
end K84
end

section
set_option Elab.async false
set_option linter.all false
set_option maxRecDepth 100000
set_option maxHeartbeats 1000000
set_option autoImplicit false
namespace K84
open PySem Ev
section
variable {k bz : Nat} {S : Store}
abbrev nOd (l : List Nat) : List D := l.map fun a => .int (a : Nat)
structure V2 (S : Store) (f r : Nat) (st : List Nat) (rows : List Row) (St : Store) : Prop where
  ls : LS S St
  pile : St[f]? = some (.lst (nOd st))
  rw_ : St[r]? = some (.lst (rows.map Row.d))
  ne : S.length ≤ f ∧ S.length ≤ r ∧ f ≠ r
theorem V2.add {f r : Nat} {st : List Nat} {rows : List Row} {St : Store} {o : Ob} (u : V2 S f r st rows St) (ho : o.bd (St.length + 1) = true) : V2 S f r st rows (St ++ [o]) where
  ls := u.ls.add ho
  pile := by rw [List.getElem?_append_left (List.getElem?_eq_some_iff.mp u.pile).1]; exact u.pile
  rw_ := by rw [List.getElem?_append_left (List.getElem?_eq_some_iff.mp u.rw_).1]; exact u.rw_
  ne := u.ne
theorem V2.fresh {f r : Nat} {st : List Nat} {rows : List Row} {St : Store} (st' : List Nat) (u : V2 S f r st rows St) : V2 S St.length r st' rows (St ++ [.lst (nOd st')]) where
  ls := u.ls.add (bd_nats _ _)
  pile := by simp
  rw_ := (u.add (bd_nats st' _)).rw_
  ne := ⟨u.ls.len, u.ne.2.1, by have := (List.getElem?_eq_some_iff.mp u.rw_).1; omega⟩
def tailV : SS := match l__law_values_0 with
  | .cons _ (.cons _ t) => t
  | _ => .nil
def headV1 : ST := match l__law_values_0 with
  | .cons a _ => a
  | _ => .pass
def headV2 : ST := match l__law_values_0 with
  | .cons _ (.cons b _) => b
  | _ => .pass
theorem lv_eq : l__law_values_0 = .cons headV1 (.cons headV2 tailV) := rfl
theorem tail_ok {f r : Nat} {st : List Nat} {rows : List Row} {q : Row} {St : Store} (x0 x1 x4 x5 x7 x8 x9 : Option D) (u : V2 S f r st rows St) (h1 : st.length < 5000) (h2 : rows.length < 5000) :
    ∃ St', evSs (cxK md.P k) bz tailV [x0, x1, some (.loc r), some (.loc f), x4, x5, some q.d, x7, x8, x9] St = .nx [x0, x1, some (.loc r), some (.loc f), x4, x5, some q.d, x7, x8, x9] St' ∧ V2 S f r (st ++ [(number q rows).1]) (number q rows).2 St' := by
  have n := u.ne
  have hf : f < St.length := (List.getElem?_eq_some_iff.mp u.pile).1
  have hr : r < St.length := (List.getElem?_eq_some_iff.mp u.rw_).1
  have ni : cmpD .nin q.d (.loc r) St = .ok (.bl (!decide (q ∈ rows))) St := by
    have e := in_rows q rows
    unfold cmpD
    simp only [u.rw_, e]
    rfl
  have kf := kind_append u.pile
  have kr := kind_append u.rw_
  cases e : rows.findIdx? fun x => decide (x = q) with
  | some i =>
    have hm : q ∈ rows := by
      obtain ⟨h, hq, _⟩ := List.findIdx?_eq_some_iff_getElem.mp e
      rw [← of_decide_eq_true hq]
      exact List.getElem_mem h
    have ix := ix_rows u.rw_ e
    have ki := kind_index u.rw_
    have ap := m_append (d := .int (i : Nat)) u.pile (by rw [List.length_map]; simp [LIM]; omega)
    have nb : number q rows = (i, rows) := by unfold number; rw [e]
    rw [nb]
    rw [decide_eq_true hm] at ni
    refine ⟨St.set f (.lst (nOd st ++ [.int (i : Nat)])), ?_, ⟨u.ls.hi n.1 (by rw [show nOd st ++ [D.int (i : Nat)] = nOd (st ++ [i]) from by simp]; exact bd_nats _ _), by rw [List.getElem?_set_self hf]; simp, by rw [List.getElem?_set_ne n.2.2]; exact u.rw_, n⟩⟩
    generalize St.set f (.lst (nOd st ++ [.int (i : Nat)])) = St2 at *
    generalize q.d = qd at *
    simp [tailV, l__law_values_0, startE, setR, parR, parE, asgT, asgTs, asgsR, bindT, bindTs, wipeE, ni, kf, ki, ix, ap]
  | none =>
    have hm : q ∉ rows := fun h => by
      rw [List.findIdx?_eq_none_iff] at e
      have := e q h
      simp at this
    have nb : number q rows = (rows.length, rows ++ [q]) := by unfold number; rw [e]
    rw [nb]
    rw [decide_eq_false hm] at ni
    have ap1 := m_append (d := q.d) u.rw_ (by rw [List.length_map]; simp [LIM]; omega)
    have em : rows.map Row.d ++ [q.d] = (rows ++ [q]).map Row.d := by simp
    rw [em] at ap1
    have l1 : LS S (St.set r (.lst ((rows ++ [q]).map Row.d))) := u.ls.hi n.2.1 (bds_rows _ _)
    have r1 : (St.set r (.lst ((rows ++ [q]).map Row.d)))[r]? = some (.lst ((rows ++ [q]).map Row.d)) := List.getElem?_set_self hr
    have f1 : (St.set r (.lst ((rows ++ [q]).map Row.d)))[f]? = some (.lst (nOd st)) := by rw [List.getElem?_set_ne (Ne.symm n.2.2)]; exact u.pile
    have hf1 : f < (St.set r (.lst ((rows ++ [q]).map Row.d))).length := by rw [List.length_set]; exact hf
    generalize St.set r (.lst ((rows ++ [q]).map Row.d)) = St1 at *
    have e2 : ((rows ++ [q]).findIdx? fun x => decide (x = q)) = some rows.length := by
      rw [List.findIdx?_append, e]
      simp [List.findIdx?_cons]
    have ix := ix_rows r1 e2
    have ki := kind_index r1
    have kf1 := kind_append f1
    have ap := m_append (d := .int (rows.length : Nat)) f1 (by rw [List.length_map]; simp [LIM]; omega)
    refine ⟨St1.set f (.lst (nOd st ++ [.int (rows.length : Nat)])), ?_, ⟨l1.hi n.1 (by rw [show nOd st ++ [D.int (rows.length : Nat)] = nOd (st ++ [rows.length]) from by simp]; exact bd_nats _ _), by rw [List.getElem?_set_self hf1]; simp, by rw [List.getElem?_set_ne n.2.2]; exact r1, n⟩⟩
    generalize St1.set f (.lst (nOd st ++ [.int (rows.length : Nat)])) = St2 at *
    generalize q.d = qd at *
    simp [tailV, l__law_values_0, startE, setR, parR, parE, asgT, asgTs, asgsR, bindT, bindTs, wipeE, ni, kr, ap1, kf1, ki, ix, ap]
theorem sorted_tup (as : List Nat) {St : Store} (a b : Nat) : bltD .sorted [.tup (nOd [a, b])] St = .ok (.loc St.length) (St ++ [.lst [.int ((min a b : Nat) : Int), .int ((max a b : Nat) : Int)]]) := by
  have e := intsD_nat [a, b]
  simp only [bltD]
  rw [show intsD (nOd [a, b]) = some [((a : Nat) : Int), ((b : Nat) : Int)] from e]
  dsimp only
  rw [sort_two]
  rfl
theorem mem_ord {l : Nat} {St : Store} (w : Wd) (h : St[l]? = some (.dk ordK)) : cmpD .isin (.str w.nm) (.loc l) St = .ok (.bl w.shuf.isSome) St := by
  have e := ord_get w
  unfold cmpD
  simp only [h, obGet, keyOf, Option.map_some, e]
  cases w.shuf <;> rfl
theorem sub_ord {l : Nat} {St : Store} {w : Wd} {x : List Nat} (h : St[l]? = some (.dk ordK)) (hw : w.shuf = some x) : subD (.loc l) (.str w.nm) St = .ok (.tup (nOd x)) St := by
  have e := ord_get w
  rw [hw, Option.map_some] at e
  simp only [subD, h, obGet, keyOf, Option.map_some, e]
/-- rows and pile taken apart -/
theorem lv_turn {f r : Nat} {st : List Nat} {rows : List Row} {St : Store} (x : It) (x0 x1 x4 x5 x6 x7 x8 x9 : Option D) (u : V2 S f r st rows St) (h1 : st.length < 4000) (h2 : rows.length < 4000) (ht : x.takes ≤ st.length) :
    ∃ f' y6 y7 y8 St', (turnF (cxK md.P (k + 1)) bz (.name 5) l__law_values_0 x.d [x0, x1, some (.loc r), some (.loc f), x4, x5, x6, x7, x8, x9] St = .nx [x0, x1, some (.loc r), some (.loc f'), x4, some x.d, y6, y7, y8, x9] St' ∨ turnF (cxK md.P (k + 1)) bz (.name 5) l__law_values_0 x.d [x0, x1, some (.loc r), some (.loc f), x4, x5, x6, x7, x8, x9] St = .ct [x0, x1, some (.loc r), some (.loc f'), x4, some x.d, y6, y7, y8, x9] St') ∧
      V2 S f' r (step VM x st rows).1 (step VM x st rows).2 St' := by
  cases x with
  | n i =>
    obtain ⟨St', e, u'⟩ := tail_ok (bz := bz) (k := k + 1) (q := .cst i) x0 x1 x4 (some (.int i)) x7 x8 x9 u (by omega) (by omega)
    refine ⟨f, some (Row.cst i).d, x7, x8, St', .inl ?_, u'⟩
    rw [show (Row.cst i).d = .tup [.str "int", .int i] from rfl] at e ⊢
    rw [lv_eq]
    simp [turnF, headV1, headV2, l__law_values_0, startE, setR, parR, parE, asgT, asgTs, asgsR, bindT, bindTs, wipeE, It.d, bt_str, e]
  | w w =>
    have ht : w.takes ≤ st.length := ht
    have nd := needs_ok (k := k) u.ls.wf
    have u1 : V2 S f r st rows (St ++ [.dk needsK]) := u.add rfl
    have sn := sub_needs (l := St.length) (St := St ++ [.dk needsK]) w (by simp)
    generalize St ++ [Ob.dk needsK] = St1 at *
    have e0 : ((st.length : Nat) : Int) - (w.takes : Nat) = ((st.length - w.takes : Nat) : Int) := by omega
    have ln1 : bltD .len [.loc f] St1 = .ok (.int ((st.length : Nat) : Int)) St1 := by rw [len_loc u1.pile, List.length_map]
    have c1 : slcD (.loc f) (some ((st.length - w.takes : Nat) : Int)) none St1 = .ok (.loc St1.length) (St1 ++ [.lst (nOd (st.drop (st.length - w.takes)))]) := by
      unfold slcD
      simp only [u1.pile]
      rw [cutL_drop _ (by rw [List.length_map]; omega), ← List.map_drop]
      rfl
    have u2 : V2 S f r st rows (St1 ++ [.lst (nOd (st.drop (st.length - w.takes)))]) := u1.add (bd_nats _ _)
    have t2 := tuple_loc (S := St1 ++ [.lst (nOd (st.drop (st.length - w.takes)))]) (l := St1.length) (ds := nOd (st.drop (st.length - w.takes))) (by simp)
    generalize St1 ++ [Ob.lst (nOd (st.drop (st.length - w.takes)))] = St2 at *
    have ln2 : bltD .len [.loc f] St2 = .ok (.int ((st.length : Nat) : Int)) St2 := by rw [len_loc u2.pile, List.length_map]
    have c2 : slcD (.loc f) none (some ((st.length - w.takes : Nat) : Int)) St2 = .ok (.loc St2.length) (St2 ++ [.lst (nOd (st.take (st.length - w.takes)))]) := by
      unfold slcD
      simp only [u2.pile]
      rw [cutL_take _ (by rw [List.length_map]; omega), ← List.map_take]
      rfl
    have u3 := u2.fresh (st.take (st.length - w.takes))
    generalize St2 ++ [Ob.lst (nOd (st.take (st.length - w.takes)))] = St3 at *
    have od := orders_ok (k := k) u3.ls.wf
    have u4 : V2 S St2.length r (st.take (st.length - w.takes)) rows (St3 ++ [.dk ordK]) := u3.add rfl
    have mo := mem_ord (l := St3.length) (St := St3 ++ [.dk ordK]) w (by simp)
    generalize St3 ++ [Ob.dk ordK] = St4 at *
    have dl : (st.drop (st.length - w.takes)).length = w.takes := by rw [List.length_drop]; omega
    have tl : (st.take (st.length - w.takes)).length = st.length - w.takes := by rw [List.length_take]; omega
    have dn : It.d (.w w) = .str w.nm := rfl
    rw [dn]
    cases hs : w.shuf with
    | some l =>
      rw [hs] at mo
      have lt : ∀ a ∈ l, a < w.takes := by cases w <;> simp [Wd.shuf] at hs <;> subst hs <;> simp [Wd.takes]
      have ll : l.length ≤ 3 := by cases w <;> simp [Wd.shuf] at hs <;> subst hs <;> simp
      have ke := kind_extend u4.pile
      have od2 := orders_ok (k := k) u4.ls.wf
      have u5 : V2 S St2.length r (st.take (st.length - w.takes)) rows (St4 ++ [.dk ordK]) := u4.add rfl
      have so := sub_ord (l := St4.length) (St := St4 ++ [.dk ordK]) (by simp) hs
      generalize St4 ++ [Ob.dk ordK] = St5 at *
      have wk := walkT_maps (S := St5) (f := turnC (cxK md.P (k + 1)) [9] (.name 9) (fun _ S => .ok true S) (.sub (.var 8) (.var 9)) [x0, x1, some (.loc r), some (.loc St2.length), x4, some (.str w.nm), some (.tup [.str "int", .str w.nm]), some (.int (w.takes : Nat)), some (.tup (nOd (st.drop (st.length - w.takes)))), x9]) (h := fun a : Nat => D.int (a : Nat)) (g := fun a : Nat => D.int ((st.drop (st.length - w.takes)).getD a default : Nat)) l [] (fun a ha acc hacc => by
        have la := lt a ha
        have sb : subD (.tup (nOd (st.drop (st.length - w.takes)))) (.int ((a : Nat) : Int)) St5 = .ok (.int ((st.drop (st.length - w.takes)).getD a default : Nat)) St5 := by
          rw [sub_tup, atI_nat (by rw [List.length_map, dl]; exact la), List.getElem?_map, List.getD_eq_getElem?_getD, List.getElem?_eq_getElem (by omega)]
          rfl
        generalize nOd (st.drop (st.length - w.takes)) = T at *
        generalize (st.drop (st.length - w.takes)).getD a default = v at *
        simp [turnC, startE, setR, parR, parE, asgT, asgTs, asgsR, bindT, bindTs, wipeE, sb, hacc, -sub_tup]) (by simp only [LIM, List.length_nil]; omega)
      rw [List.nil_append, show l.map (fun a : Nat => D.int ((st.drop (st.length - w.takes)).getD a default : Nat)) = nOd (l.map fun a => (st.drop (st.length - w.takes)).getD a default) from by simp [nOd, List.map_map]] at wk
      have u6 : V2 S St2.length r (st.take (st.length - w.takes)) rows (St5 ++ [.lst (nOd (l.map fun a => (st.drop (st.length - w.takes)).getD a default))]) := u5.add (bd_nats _ _)
      have g6 : (St5 ++ [Ob.lst (nOd (l.map fun a => (st.drop (st.length - w.takes)).getD a default))])[St5.length]? = some (.lst (nOd (l.map fun a => (st.drop (st.length - w.takes)).getD a default))) := by simp
      have ext := m_extend u6.pile g6 (by rw [List.length_map, List.length_map, List.length_map, tl]; simp only [LIM]; omega)
      have em : nOd (st.take (st.length - w.takes)) ++ nOd (l.map fun a => (st.drop (st.length - w.takes)).getD a default) = nOd (st.take (st.length - w.takes) ++ l.map fun a => (st.drop (st.length - w.takes)).getD a default) := by simp [nOd]
      rw [em] at ext
      have sv : step VM (.w w) st rows = (st.take (st.length - w.takes) ++ l.map fun a => (st.drop (st.length - w.takes)).getD a default, rows) := by
        unfold step
        dsimp only
        rw [hs]
        try rfl
      rw [sv]
      dsimp only
      have hp6 : St2.length < (St5 ++ [Ob.lst (nOd (l.map fun a => (st.drop (st.length - w.takes)).getD a default))]).length := (List.getElem?_eq_some_iff.mp u6.pile).1
      refine ⟨St2.length, some (.tup [.str "int", .str w.nm]), some (.int (w.takes : Nat)), some (.tup (nOd (st.drop (st.length - w.takes)))), (St5 ++ [Ob.lst (nOd (l.map fun a => (st.drop (st.length - w.takes)).getD a default))]).set St2.length (.lst (nOd (st.take (st.length - w.takes) ++ l.map fun a => (st.drop (st.length - w.takes)).getD a default))), .inr ?_, ⟨u6.ls.hi u6.ne.1 (bd_nats _ _), List.getElem?_set_self hp6, by rw [List.getElem?_set_ne u6.ne.2.2]; exact u6.rw_, u6.ne⟩⟩
      generalize nOd (st.take (st.length - w.takes) ++ l.map fun a => (st.drop (st.length - w.takes)).getD a default) = P at *
      generalize nOd (l.map fun a => (st.drop (st.length - w.takes)).getD a default) = ex at *
      generalize nOd (st.drop (st.length - w.takes)) = T at *
      unfold nOd at so
      generalize (l.map fun a : Nat => D.int (a : Nat)) = li at *
      rw [lv_eq]
      simp [turnF, headV1, headV2, l__law_values_0, startE, setR, parR, parE, asgT, asgTs, asgsR, bindT, bindTs, wipeE, bt_str, df__law_needs, df__law_orders, nd, sn, ln1, e0, c1, t2, ln2, c2, od, mo, ke, od2, so, wk, ext]
    | none =>
      rw [hs] at mo
      have sv : step VM (.w w) st rows = (st.take (st.length - w.takes) ++ [(number (rowOf w (st.drop (st.length - w.takes))) rows).1], (number (rowOf w (st.drop (st.length - w.takes))) rows).2) := by
        unfold step
        dsimp only
        rw [hs]
        try rfl
      rw [sv]
      have is := in_same w
      by_cases hsm : w = .add ∨ w = .mul
      · have h2 : (st.drop (st.length - w.takes)).length = 2 := by rw [dl]; rcases hsm with e | e <;> (rw [e]; rfl)
        obtain ⟨a, b, hab⟩ : ∃ a b, st.drop (st.length - w.takes) = [a, b] := by
          match st.drop (st.length - w.takes), h2 with
          | [a, b], _ => exact ⟨a, b, rfl⟩
        rw [hab] at t2 ⊢
        have so := sorted_tup [] (St := St4) a b
        have u5 : V2 S St2.length r (st.take (st.length - w.takes)) rows (St4 ++ [.lst [.int ((min a b : Nat) : Int), .int ((max a b : Nat) : Int)]]) := u4.add rfl
        have t5 := tuple_loc (S := St4 ++ [.lst [.int ((min a b : Nat) : Int), .int ((max a b : Nat) : Int)]]) (l := St4.length) (ds := [.int ((min a b : Nat) : Int), .int ((max a b : Nat) : Int)]) (by simp)
        generalize St4 ++ [Ob.lst [.int ((min a b : Nat) : Int), .int ((max a b : Nat) : Int)]] = St5 at *
        have bt := bin_tup (S := St5) (xs := [D.str w.nm]) (ys := [.int ((min a b : Nat) : Int), .int ((max a b : Nat) : Int)]) (by simp [LIM])
        have er : (rowOf w [a, b]).d = .tup [.str w.nm, .int ((min a b : Nat) : Int), .int ((max a b : Nat) : Int)] := by rcases hsm with e | e <;> (rw [e]; rfl)
        obtain ⟨St', e, u'⟩ := tail_ok (bz := bz) (k := k + 1) (q := rowOf w [a, b]) x0 x1 x4 (some (.str w.nm)) (some (.int (w.takes : Nat))) (some (.tup (nOd [a, b]))) x9 u5 (by rw [tl]; omega) (by omega)
        refine ⟨St2.length, some (rowOf w [a, b]).d, some (.int (w.takes : Nat)), some (.tup (nOd [a, b])), St', .inl ?_, u'⟩
        rw [er] at e ⊢
        rw [decide_eq_true hsm] at is
        generalize nOd [a, b] = T at *
        generalize ((min a b : Nat) : Int) = mi at *
        generalize ((max a b : Nat) : Int) = ma at *
        generalize nOd (st.drop (st.length - w.takes)) = T2 at *
        rw [lv_eq]
        simp [turnF, headV1, headV2, l__law_values_0, startE, setR, parR, parE, asgT, asgTs, asgsR, bindT, bindTs, wipeE, bt_str, df__law_needs, df__law_orders, nd, sn, ln1, e0, c1, t2, ln2, c2, od, mo, is, so, t5, bt, e]
      · have er : (rowOf w (st.drop (st.length - w.takes))).d = .tup (.str w.nm :: nOd (st.drop (st.length - w.takes))) := by
          rcases shuf_none hs with e | e | e | e
          · exact absurd (.inl e) hsm
          · subst e
            match st.drop (st.length - Wd.sub.takes), dl with
            | [a, b], _ => rfl
          · exact absurd (.inr e) hsm
          · subst e
            match st.drop (st.length - Wd.neg.takes), dl with
            | [a], _ => rfl
        have tk : w.takes ≤ 3 := (takes_le (.w w)).1
        have bt := bin_tup (S := St4) (xs := [D.str w.nm]) (ys := nOd (st.drop (st.length - w.takes))) (by rw [List.length_map, dl]; simp [LIM]; omega)
        obtain ⟨St', e, u'⟩ := tail_ok (bz := bz) (k := k + 1) (q := rowOf w (st.drop (st.length - w.takes))) x0 x1 x4 (some (.str w.nm)) (some (.int (w.takes : Nat))) (some (.tup (nOd (st.drop (st.length - w.takes))))) x9 u4 (by rw [tl]; omega) (by omega)
        refine ⟨St2.length, some (rowOf w (st.drop (st.length - w.takes))).d, some (.int (w.takes : Nat)), some (.tup (nOd (st.drop (st.length - w.takes)))), St', .inl ?_, u'⟩
        rw [er] at e ⊢
        rw [decide_eq_false hsm] at is
        generalize nOd (st.drop (st.length - w.takes)) = T at *
        rw [lv_eq]
        simp [turnF, headV1, headV2, l__law_values_0, startE, setR, parR, parE, asgT, asgTs, asgsR, bindT, bindTs, wipeE, bt_str, df__law_needs, df__law_orders, nd, sn, ln1, e0, c1, t2, ln2, c2, od, mo, is, bt, e]
end
end K84
end

section
set_option Elab.async false
set_option linter.all false
set_option maxRecDepth 100000
set_option maxHeartbeats 1000000
set_option autoImplicit false
namespace K84
open PySem Ev
section
variable {k bz : Nat} {S : Store}
theorem df__law_values : md.P.defs "_law_values" = some ⟨1, 10, b__law_values⟩ := by rfl
theorem df__law_done : md.P.defs "_law_done" = some ⟨2, 9, b__law_done⟩ := by rfl
theorem gives_le (x : It) : x.gives ≤ x.takes + 2 := by
  cases x with
  | n i => simp [It.gives]
  | w w => cases w <;> simp [It.gives, It.takes, Wd.gives, Wd.takes, Wd.shuf]
theorem lv_walk {r : Nat} (x0 x1 x4 x9 : Option D) : ∀ (p : List It) (st : List Nat) (rows : List Row) (f : Nat) (St : Store) (x5 x6 x7 x8 : Option D), V2 S f r st rows St → fits p st.length → st.length + 2 * p.length < 4000 → rows.length + p.length < 4000 →
    ∃ f' y5 y6 y7 y8 St', forT (turnF (cxK md.P (k + 1)) bz (.name 5) l__law_values_0) (p.map It.d) [x0, x1, some (.loc r), some (.loc f), x4, x5, x6, x7, x8, x9] St = .nx [x0, x1, some (.loc r), some (.loc f'), x4, y5, y6, y7, y8, x9] St' ∧ V2 S f' r (exec VM p st rows).1 (exec VM p st rows).2 St'
  | [], st, rows, f, St, x5, x6, x7, x8, u, _, _, _ => ⟨f, x5, x6, x7, x8, St, rfl, u⟩
  | x :: p, st, rows, f, St, x5, x6, x7, x8, u, ft, h1, h2 => by
    rw [List.length_cons] at h1 h2
    obtain ⟨f1, y6, y7, y8, S1, e1, u1⟩ := lv_turn (bz := bz) (k := k) x x0 x1 x4 x5 x6 x7 x8 x9 u (by omega) (by omega) ft.1
    have ln := step_len VM x st rows ft.1
    have gl := gives_le x
    have sr := step_rows x st rows
    have f2 := ft.2
    rw [← ln] at f2
    obtain ⟨f3, z5, z6, z7, z8, S2, e2, u2⟩ := lv_walk x0 x1 x4 x9 p _ _ f1 S1 (some x.d) y6 y7 y8 u1 f2 (by have := ft.1; omega) (by omega)
    refine ⟨f3, z5, z6, z7, z8, S2, ?_, u2⟩
    rw [List.map_cons]
    unfold forT
    rcases e1 with e1 | e1 <;> (rw [e1]; exact e2)
theorem law_values_ok (p : List It) (h : Fine p) (hS : wf S) : (cxK md.P (k + 3)).call "_law_values" [pr p] S = .ok (vD (vals p).2 (vals p).1) S := by
  rw [call_eq df__law_values]
  have hlen := h.len
  have hw := wants_le p
  have lw := law_wants_ok (k := k) p hS
  have rg := fun St => rng_nat (St := St) (n := wants p) (by omega)
  have w : ∀ St : Store, walkT (turnC (cxK md.P (k + 2)) [4] (.name 4) (fun _ S => .ok true S) (.tup (.cons (.str "in") (.cons (.var 4) .nil))) [some (pr p), some (.int (wants p : Nat)), none, none, none, none, none, none, none, none]) (rngL 0 1 (wants p)) [] St = .ok ((ins (wants p)).map Row.d) St := fun St => by
    have q := walkT_map (f := turnC (cxK md.P (k + 2)) [4] (.name 4) (fun _ S => .ok true S) (.tup (.cons (.str "in") (.cons (.var 4) .nil))) [some (pr p), some (.int (wants p : Nat)), none, none, none, none, none, none, none, none]) (g := fun d => .tup [.str "in", d]) (S := St) (ds := rngL 0 1 (wants p)) (acc := []) (fun d _ acc ha => by simp [turnC, startE, setR, parR, parE, asgT, asgTs, asgsR, bindT, bindTs, wipeE, ha]) (by rw [rngL_len]; simp [LIM]; omega)
    rw [q, rngL_range, List.nil_append]
    unfold ins
    simp only [List.map_map]
    rfl
  have lr := lrgR_int (S := S ++ [.lst ((ins (wants p)).map Row.d)]) (n := ((wants p : Nat) : Int)) (by simp [LIM]; omega)
  rw [Int.toNat_natCast, rngL_range] at lr
  have l0 : LS S (S ++ [.lst ((ins (wants p)).map Row.d)]) := (LS.refl hS).add (bds_rows _ _)
  have n1 : (S ++ [Ob.lst ((ins (wants p)).map Row.d)]).length = S.length + 1 := by simp
  have r0 : (S ++ [Ob.lst ((ins (wants p)).map Row.d)])[S.length]? = some (.lst ((ins (wants p)).map Row.d)) := by simp
  rw [n1] at lr
  have u : V2 S (S.length + 1) S.length (List.range (wants p)) (ins (wants p)) (S ++ [.lst ((ins (wants p)).map Row.d)] ++ [.lst (nOd (List.range (wants p)))]) := ⟨l0.add (bd_nats _ _), by rw [← n1, List.getElem?_append_right (Nat.le_refl _)]; simp, by rw [List.getElem?_append_left (by omega)]; exact r0, by omega⟩
  obtain ⟨f, y5, y6, y7, y8, S', e, u'⟩ := lv_walk (bz := S.length) (k := k + 1) (S := S) (some (pr p)) (some (.int (wants p : Nat))) none none p (List.range (wants p)) (ins (wants p)) (S.length + 1) _ none none none none u (by rw [List.length_range]; exact fits_wants p) (by rw [List.length_range]; omega) (by rw [ins_len]; omega)
  have hv : exec VM p (List.range (wants p)) (ins (wants p)) = vals p := rfl
  rw [hv] at u'
  have tr := tuple_loc u'.rw_
  have tp := tuple_loc u'.pile
  refine run_cut (S' := S') rfl hS (vD_bd _ _ _) u'.ls.take ?_
  simp only [pr] at *
  unfold vD
  generalize hA : S ++ [Ob.lst ((ins (wants p)).map Row.d)] = SA at *
  have hbq := fun n => bds_its p n
  generalize p.map It.d = q at *
  generalize (ins (wants p)).map Row.d = ri at *
  unfold nOd at e tp
  generalize (vals p).1.map (fun a : Nat => D.int (a : Nat)) = vl at *
  generalize (vals p).2.map Row.d = vr at *
  generalize (List.range (wants p)).map (fun a : Nat => D.int (a : Nat)) = rl at *
  simp [b__law_values, hbq, startE, setR, parR, parE, asgT, asgTs, asgsR, bindT, bindTs, wipeE, df__law_wants, lw, rg, w, hA, lr, e, tr, tp]
/-! ### own doing -/
structure V1 (S : Store) (f : Nat) (st : List Int) (St : Store) : Prop where
  ls : LS S St
  pile : St[f]? = some (.lst (st.map D.int))
  ne : S.length ≤ f
theorem bd_ints (l : List Int) (n : Nat) : Ob.bd n (.lst (l.map D.int)) = true := by rw [bd_lst]; exact bds_map (fun _ => rfl) _
theorem V1.add {f : Nat} {st : List Int} {St : Store} {o : Ob} (u : V1 S f st St) (ho : o.bd (St.length + 1) = true) : V1 S f st (St ++ [o]) where
  ls := u.ls.add ho
  pile := by rw [List.getElem?_append_left (List.getElem?_eq_some_iff.mp u.pile).1]; exact u.pile
  ne := u.ne
theorem V1.fresh {f : Nat} {st : List Int} {St : Store} (st' : List Int) (u : V1 S f st St) : V1 S St.length st' (St ++ [.lst (st'.map D.int)]) where
  ls := u.ls.add (bd_ints _ _)
  pile := by simp
  ne := u.ls.len
theorem V1.put {f : Nat} {st st' : List Int} {St : Store} (u : V1 S f st St) : V1 S f st' (St.set f (.lst (st'.map D.int))) where
  ls := u.ls.hi u.ne (bd_ints _ _)
  pile := List.getElem?_set_self (List.getElem?_eq_some_iff.mp u.pile).1
  ne := u.ne
theorem ld_turn {f : Nat} {st : List Int} {St : Store} (x : It) (x0 x1 x3 x4 x5 x6 x7 x8 : Option D) (u : V1 S f st St) (h1 : st.length < 4000) (ht : x.takes ≤ st.length) (hq : okW (fun _ as _ => mulQ as) (fun _ : Unit => True) x st ()) :
    ∃ f' y4 y5 y7 y8 St', (turnF (cxK md.P (k + 1)) bz (.name 3) l__law_done_0 x.d [x0, x1, some (.loc f), x3, x4, x5, x6, x7, x8] St = .nx [x0, x1, some (.loc f'), some x.d, y4, y5, x6, y7, y8] St' ∨ turnF (cxK md.P (k + 1)) bz (.name 3) l__law_done_0 x.d [x0, x1, some (.loc f), x3, x4, x5, x6, x7, x8] St = .ct [x0, x1, some (.loc f'), some x.d, y4, y5, x6, y7, y8] St') ∧
      V1 S f' (step IM x st ()).1 St' := by
  cases x with
  | n i =>
    have ka := kind_append u.pile
    have ap := m_append (d := .int i) u.pile (by rw [List.length_map]; simp [LIM]; omega)
    rw [show st.map D.int ++ [D.int i] = (st ++ [i]).map D.int from by simp] at ap
    refine ⟨f, x4, x5, x7, x8, _, .inr ?_, u.put⟩
    show turnF _ _ _ _ (D.int i) _ _ = .ct [x0, x1, some (.loc f), some (D.int i), x4, x5, x6, x7, x8] (St.set f (.lst ((st ++ [i]).map D.int)))
    generalize (st ++ [i]).map D.int = P at *
    simp [turnF, l__law_done_0, startE, setR, parR, parE, asgT, asgTs, asgsR, bindT, bindTs, wipeE, bt_str, ka, ap]
  | w w =>
    have ht : w.takes ≤ st.length := ht
    have nd := needs_ok (k := k) u.ls.wf
    have u1 : V1 S f st (St ++ [.dk needsK]) := u.add rfl
    have sn := sub_needs (l := St.length) (St := St ++ [.dk needsK]) w (by simp)
    generalize St ++ [Ob.dk needsK] = St1 at *
    have e0 : ((st.length : Nat) : Int) - (w.takes : Nat) = ((st.length - w.takes : Nat) : Int) := by omega
    have ln1 : bltD .len [.loc f] St1 = .ok (.int ((st.length : Nat) : Int)) St1 := by rw [len_loc u1.pile, List.length_map]
    have c1 : slcD (.loc f) (some ((st.length - w.takes : Nat) : Int)) none St1 = .ok (.loc St1.length) (St1 ++ [.lst ((st.drop (st.length - w.takes)).map D.int)]) := by
      unfold slcD
      simp only [u1.pile]
      rw [cutL_drop _ (by rw [List.length_map]; omega), ← List.map_drop]
      rfl
    have u2 : V1 S f st (St1 ++ [.lst ((st.drop (st.length - w.takes)).map D.int)]) := u1.add (bd_ints _ _)
    have v2 := u1.fresh (st.drop (st.length - w.takes))
    have hl2 : (St1 ++ [Ob.lst ((st.drop (st.length - w.takes)).map D.int)]).length = St1.length + 1 := by simp
    generalize St1 ++ [Ob.lst ((st.drop (st.length - w.takes)).map D.int)] = St2 at *
    have ln2 : bltD .len [.loc f] St2 = .ok (.int ((st.length : Nat) : Int)) St2 := by rw [len_loc u2.pile, List.length_map]
    have c2 : slcD (.loc f) none (some ((st.length - w.takes : Nat) : Int)) St2 = .ok (.loc St2.length) (St2 ++ [.lst ((st.take (st.length - w.takes)).map D.int)]) := by
      unfold slcD
      simp only [u2.pile]
      rw [cutL_take _ (by rw [List.length_map]; omega), ← List.map_take]
      rfl
    have u3 := u2.fresh (st.take (st.length - w.takes))
    have v3 : V1 S St1.length (st.drop (st.length - w.takes)) (St2 ++ [.lst ((st.take (st.length - w.takes)).map D.int)]) := v2.add (bd_ints _ _)
    generalize St2 ++ [Ob.lst ((st.take (st.length - w.takes)).map D.int)] = St3 at *
    have od := orders_ok (k := k) u3.ls.wf
    have u4 : V1 S St2.length (st.take (st.length - w.takes)) (St3 ++ [.dk ordK]) := u3.add rfl
    have v4 : V1 S St1.length (st.drop (st.length - w.takes)) (St3 ++ [.dk ordK]) := v3.add rfl
    have mo := mem_ord (l := St3.length) (St := St3 ++ [.dk ordK]) w (by simp)
    generalize St3 ++ [Ob.dk ordK] = St4 at *
    have dl : (st.drop (st.length - w.takes)).length = w.takes := by rw [List.length_drop]; omega
    have tl : (st.take (st.length - w.takes)).length = st.length - w.takes := by rw [List.length_take]; omega
    have dn : It.d (.w w) = .str w.nm := rfl
    rw [dn]
    cases hs : w.shuf with
    | some l =>
      rw [hs] at mo
      have lt : ∀ a ∈ l, a < w.takes := by cases w <;> simp [Wd.shuf] at hs <;> subst hs <;> simp [Wd.takes]
      have ll : l.length ≤ 3 := by cases w <;> simp [Wd.shuf] at hs <;> subst hs <;> simp
      have ke := kind_extend u4.pile
      have od2 := orders_ok (k := k) u4.ls.wf
      have u5 : V1 S St2.length (st.take (st.length - w.takes)) (St4 ++ [.dk ordK]) := u4.add rfl
      have v5 : V1 S St1.length (st.drop (st.length - w.takes)) (St4 ++ [.dk ordK]) := v4.add rfl
      have so := sub_ord (l := St4.length) (St := St4 ++ [.dk ordK]) (by simp) hs
      generalize St4 ++ [Ob.dk ordK] = St5 at *
      have wk := walkT_maps (S := St5) (f := turnC (cxK md.P (k + 1)) [6] (.name 6) (fun _ S => .ok true S) (.sub (.var 5) (.var 6)) [x0, x1, some (.loc St2.length), some (.str w.nm), some (.int (w.takes : Nat)), some (.loc St1.length), x6, x7, x8]) (h := fun a : Nat => D.int (a : Nat)) (g := fun a : Nat => D.int ((st.drop (st.length - w.takes)).getD a default)) l [] (fun a ha acc hacc => by
        have la := lt a ha
        have sb : subD (.loc St1.length) (.int ((a : Nat) : Int)) St5 = .ok (.int ((st.drop (st.length - w.takes)).getD a default)) St5 := by
          rw [sub_loc v5.pile, at_getD (by rw [dl]; exact la)]
          rfl
        generalize (st.drop (st.length - w.takes)).getD a default = v at *
        simp [turnC, startE, setR, parR, parE, asgT, asgTs, asgsR, bindT, bindTs, wipeE, sb, hacc]) (by simp only [LIM, List.length_nil]; omega)
      rw [List.nil_append, show l.map (fun a : Nat => D.int ((st.drop (st.length - w.takes)).getD a default)) = (l.map fun a => (st.drop (st.length - w.takes)).getD a default).map D.int from by simp [List.map_map]] at wk
      have u6 : V1 S St2.length (st.take (st.length - w.takes)) (St5 ++ [.lst ((l.map fun a => (st.drop (st.length - w.takes)).getD a default).map D.int)]) := u5.add (bd_ints _ _)
      have g6 : (St5 ++ [Ob.lst ((l.map fun a => (st.drop (st.length - w.takes)).getD a default).map D.int)])[St5.length]? = some (.lst ((l.map fun a => (st.drop (st.length - w.takes)).getD a default).map D.int)) := by simp
      have ext := m_extend u6.pile g6 (by rw [List.length_map, List.length_map, List.length_map, tl]; simp only [LIM]; omega)
      rw [← List.map_append] at ext
      have sv : (step IM (.w w) st ()).1 = st.take (st.length - w.takes) ++ l.map fun a => (st.drop (st.length - w.takes)).getD a default := by
        unfold step
        dsimp only
        rw [hs]
        try rfl
      rw [sv]
      refine ⟨St2.length, some (.int (w.takes : Nat)), some (.loc St1.length), x7, x8, _, .inl ?_, u6.put⟩
      generalize (st.take (st.length - w.takes) ++ l.map fun a => (st.drop (st.length - w.takes)).getD a default).map D.int = P at *
      generalize (l.map fun a => (st.drop (st.length - w.takes)).getD a default).map D.int = ex at *
      unfold nOd at so
      generalize (l.map fun a : Nat => D.int (a : Nat)) = li at *
      simp [turnF, l__law_done_0, startE, setR, parR, parE, asgT, asgTs, asgsR, bindT, bindTs, wipeE, bt_str, df__law_needs, df__law_orders, nd, sn, ln1, e0, c1, ln2, c2, od, mo, ke, od2, so, wk, ext]
    | none =>
      rw [hs] at mo
      have sv : (step IM (.w w) st ()).1 = st.take (st.length - w.takes) ++ [arith w (st.drop (st.length - w.takes))] := by
        unfold step
        dsimp only
        rw [hs]
        try rfl
      rw [sv]
      have hq : mulQ (st.drop (st.length - w.takes)) := hq.2 hs
      have ka := kind_append u4.pile
      have app : ∀ {i : Int} {Sx : Store}, V1 S St2.length (st.take (st.length - w.takes)) Sx → methD (.loc St2.length) .append [.int i] Sx = .ok .non (Sx.set St2.length (.lst ((st.take (st.length - w.takes) ++ [i]).map D.int))) := fun {i Sx} ux => by
        rw [m_append ux.pile (by rw [List.length_map, tl]; simp [LIM]; omega)]
        simp
      by_cases hn : w = .neg
      · subst hn
        obtain ⟨a, hab⟩ : ∃ a, st.drop (st.length - Wd.neg.takes) = [a] := by
          match st.drop (st.length - Wd.neg.takes), dl with
          | [a], _ => exact ⟨a, rfl⟩
        rw [hab] at v4 ⊢
        have s0 : subD (.loc St1.length) (.int 0) St4 = .ok (.int a) St4 := by rw [sub_loc v4.pile]; rfl
        have ap := app (i := -a) u4
        refine ⟨St2.length, some (.int (Wd.neg.takes : Nat)), some (.loc St1.length), x7, x8, _, .inl ?_, u4.put⟩
        show _ = Out.nx _ (St4.set St2.length (.lst ((st.take (st.length - Wd.neg.takes) ++ [-a]).map D.int)))
        generalize (st.take (st.length - Wd.neg.takes) ++ [-a]).map D.int = P at *
        have ng := nm_neg .neg
        rw [decide_eq_true rfl] at ng
        simp [turnF, l__law_done_0, startE, setR, parR, parE, asgT, asgTs, asgsR, bindT, bindTs, wipeE, bt_str, df__law_needs, df__law_orders, nd, sn, ln1, e0, c1, ln2, c2, od, mo, ng, ka, s0, ap]
      · have hw3 : w = .add ∨ w = .sub ∨ w = .mul := by
          rcases shuf_none hs with e | e | e | e
          · exact .inl e
          · exact .inr (.inl e)
          · exact .inr (.inr e)
          · exact absurd e hn
        have h2 : (st.drop (st.length - w.takes)).length = 2 := by rw [dl]; rcases hw3 with e | e | e <;> (rw [e]; rfl)
        obtain ⟨a, b, hab⟩ : ∃ a b, st.drop (st.length - w.takes) = [a, b] := by
          match st.drop (st.length - w.takes), h2 with
          | [a, b], _ => exact ⟨a, b, rfl⟩
        rw [hab] at v4 hq ⊢
        have hm : mulOk a b = true := hq
        have bm : ∀ S, binD .mul (.int a) (.int b) S = .ok (.int (a * b)) S := fun S => by simp only [binD, hm, if_true]
        have g := disp_get a b w hw3
        have ds : dspR ["add", "sub", "mul"] [.int (a + b), .int (a - b), .int (a * b)] St4 = .ok (.loc St4.length) (St4 ++ [.dk (putAll [] [((.inr "add" : Key), D.int (a + b)), (.inr "sub", .int (a - b)), (.inr "mul", .int (a * b))])]) := rfl
        have sb : subD (.loc St4.length) (.str w.nm) (St4 ++ [.dk (putAll [] [((.inr "add" : Key), D.int (a + b)), (.inr "sub", .int (a - b)), (.inr "mul", .int (a * b))])]) = .ok (.int (arith w [a, b])) (St4 ++ [.dk (putAll [] [((.inr "add" : Key), D.int (a + b)), (.inr "sub", .int (a - b)), (.inr "mul", .int (a * b))])]) := by
          have e : (St4 ++ [Ob.dk (putAll [] [((.inr "add" : Key), D.int (a + b)), (.inr "sub", .int (a - b)), (.inr "mul", .int (a * b))])])[St4.length]? = some (Ob.dk (putAll [] [((.inr "add" : Key), D.int (a + b)), (.inr "sub", .int (a - b)), (.inr "mul", .int (a * b))])) := by simp
          simp only [subD, e, obGet, keyOf, Option.map_some, g]
        have u5 : V1 S St2.length (st.take (st.length - w.takes)) (St4 ++ [.dk (putAll [] [((.inr "add" : Key), D.int (a + b)), (.inr "sub", .int (a - b)), (.inr "mul", .int (a * b))])]) := u4.add rfl
        have pl := v4.pile
        generalize putAll [] [((.inr "add" : Key), D.int (a + b)), (.inr "sub", .int (a - b)), (.inr "mul", .int (a * b))] = kv at *
        have ap := app (i := arith w [a, b]) u5
        refine ⟨St2.length, some (.int (w.takes : Nat)), some (.loc St1.length), some (.int a), some (.int b), _, .inl ?_, u5.put⟩
        generalize (st.take (st.length - w.takes) ++ [arith w [a, b]]).map D.int = P at *
        generalize arith w [a, b] = v at *
        have ng := nm_neg w
        rw [decide_eq_false hn] at ng
        simp [turnF, l__law_done_0, startE, setR, parR, parE, asgT, asgTs, asgsR, bindT, bindTs, wipeE, bt_str, df__law_needs, df__law_orders, nd, sn, ln1, e0, c1, ln2, c2, od, mo, ng, ka, pl, asgsR, bm, ds, sb, ap]
theorem ld_walk (x0 x1 x6 : Option D) : ∀ (p : List It) (st : List Int) (f : Nat) (St : Store) (x3 x4 x5 x7 x8 : Option D), V1 S f st St → fits p st.length → st.length + 2 * p.length < 4000 → safe IM (fun _ as _ => mulQ as) (fun _ => True) p st () →
    ∃ f' y3 y4 y5 y7 y8 St', forT (turnF (cxK md.P (k + 1)) bz (.name 3) l__law_done_0) (p.map It.d) [x0, x1, some (.loc f), x3, x4, x5, x6, x7, x8] St = .nx [x0, x1, some (.loc f'), y3, y4, y5, x6, y7, y8] St' ∧ V1 S f' (exec IM p st ()).1 St'
  | [], st, f, St, x3, x4, x5, x7, x8, u, _, _, _ => ⟨f, x3, x4, x5, x7, x8, St, rfl, u⟩
  | x :: p, st, f, St, x3, x4, x5, x7, x8, u, ft, h1, hq => by
    rw [List.length_cons] at h1
    obtain ⟨f1, y4, y5, y7, y8, S1, e1, u1⟩ := ld_turn (bz := bz) (k := k) x x0 x1 x3 x4 x5 x6 x7 x8 u (by omega) ft.1 hq.1
    have ln := step_len IM x st () ft.1
    have gl := gives_le x
    have f2 := ft.2
    rw [← ln] at f2
    obtain ⟨f3, z3, z4, z5, z7, z8, S2, e2, u2⟩ := ld_walk x0 x1 x6 p _ f1 S1 (some x.d) y4 y5 y7 y8 u1 f2 (by have := ft.1; omega) hq.2
    refine ⟨f3, z3, z4, z5, z7, z8, S2, ?_, u2⟩
    rw [List.map_cons]
    unfold forT
    rcases e1 with e1 | e1 <;> (rw [e1]; exact e2)
theorem law_done_ok (p : List It) (pile : List Int) (hS : wf S) (ft : fits p pile.length) (hl : pile.length + 2 * p.length < 4000) (hq : safe IM (fun _ as _ => mulQ as) (fun _ => True) p pile ()) : (cxK md.P (k + 2)).call "_law_done" [pr p, .tup (pile.map D.int)] S = .ok (.tup ((exec IM p pile ()).1.map D.int)) S := by
  rw [call_eq df__law_done]
  have u0 : V1 S S.length pile (S ++ [.lst (pile.map D.int)]) := ⟨(LS.refl hS).add (bd_ints _ _), by simp, Nat.le_refl _⟩
  obtain ⟨f', y3, y4, y5, y7, y8, S', e, u⟩ := ld_walk (bz := S.length) (k := k) (S := S) (some (pr p)) (some (.tup (pile.map D.int))) none p pile S.length _ none none none none none u0 ft hl hq
  have tl := tuple_loc u.pile
  refine run_cut (S' := S') rfl hS (by rw [bd_tup]; exact bds_map (fun _ => rfl) _) u.ls.take ?_
  simp only [pr] at *
  generalize (exec IM p pile ()).1.map D.int = res at *
  generalize pile.map D.int = pd at *
  have hbq := fun n => bds_its p n
  generalize p.map It.d = q at *
  simp [b__law_done, hbq, startE, setR, parR, parE, asgT, asgTs, asgsR, bindT, bindTs, wipeE, e, tl]
end
end K84
end

section
set_option Elab.async false
set_option linter.all false
set_option maxRecDepth 100000
set_option maxHeartbeats 1000000
set_option autoImplicit false
namespace K84
open PySem Ev
section
/-! ### how large it grows -/
def Big (L : Nat) (v : Int) : Prop := v.natAbs < 2 ^ L
theorem Big.mono {L M : Nat} {v : Int} (h : Big L v) (hl : L ≤ M) : Big M v := Nat.lt_of_lt_of_le h (Nat.pow_le_pow_right (by decide) hl)
theorem Big.zero (L : Nat) : Big L 0 := Nat.pow_pos (by decide)
theorem big_add {L : Nat} {a b : Int} (ha : Big L a) (hb : Big L b) : Big (L + 1) (a + b) := by
  unfold Big at *
  have := Int.natAbs_add_le a b
  rw [Nat.pow_succ]
  omega
theorem big_neg {L : Nat} {a : Int} (ha : Big L a) : Big (L + 1) (-a) := by
  unfold Big at *
  rw [Int.natAbs_neg, Nat.pow_succ]
  omega
theorem big_sub {L : Nat} {a b : Int} (ha : Big L a) (hb : Big L b) : Big (L + 1) (a - b) := by
  rw [Int.sub_eq_add_neg]
  refine big_add ha ?_
  unfold Big at *
  rw [Int.natAbs_neg]
  exact hb
theorem big_mul {L : Nat} {a b : Int} (ha : Big L a) (hb : Big L b) : Big (L + L) (a * b) := by
  unfold Big at *
  rw [Int.natAbs_mul, Nat.pow_add]
  exact Nat.mul_lt_mul'' ha hb
theorem big_log {L : Nat} {a : Int} (ha : Big L a) : a.natAbs.log2 ≤ L := by
  by_cases h : a.natAbs = 0
  · rw [h]; exact Nat.zero_le _
  · exact Nat.le_of_lt ((Nat.log2_lt h).mpr ha)
theorem mulOk_big {L : Nat} {a b : Int} (ha : Big L a) (hb : Big L b) (hl : L < 100000) : mulOk a b = true := by
  have h1 := big_log ha
  have h2 := big_log hb
  unfold mulOk
  simp only [Bool.or_eq_true, decide_eq_true_eq]
  exact .inr (by omega)
theorem mulQ_big {L : Nat} {as : List Int} (h : ∀ v ∈ as, Big L v) (hl : L < 100000) : mulQ as := by
  unfold mulQ
  split
  · rename_i a b
    exact mulOk_big (h a (by simp)) (h b (by simp)) hl
  · trivial
def grow (L : Nat) (b : Bool) : Nat := if b then L + L else L + 1
theorem arith_big {w : Wd} {as : List Int} {L : Nat} (hw : w.shuf = none) (hl : as.length = w.takes) (h : ∀ v ∈ as, Big L v) : Big (grow L (decide (w = .mul))) (arith w as) := by
  rcases shuf_none hw with e | e | e | e
  · subst e
    match as, hl with
    | [a, b], _ => exact big_add (h a (by simp)) (h b (by simp))
  · subst e
    match as, hl with
    | [a, b], _ => exact big_sub (h a (by simp)) (h b (by simp))
  · subst e
    match as, hl with
    | [a, b], _ => exact big_mul (h a (by simp)) (h b (by simp))
  · subst e
    match as, hl with
    | [a], _ => exact big_neg (h a (by simp))
theorem grow_le (L : Nat) (b : Bool) (hL : 1 ≤ L) : L ≤ grow L b := by unfold grow; split <;> omega
theorem big_1m {i : Int} {L : Nat} (h : -1000000 ≤ i ∧ i ≤ 1000000) (hL : 20 ≤ L) : Big L i := by
  refine Big.mono (L := 20) ?_ hL
  unfold Big
  show i.natAbs < 1048576
  omega
theorem grow_pot {L n m : Nat} {b : Bool} (hL : 1 ≤ L) (h : (L + (n + 1)) * 2 ^ (m + if b then 1 else 0) < 100000) : (grow L b + n) * 2 ^ m < 100000 := by
  cases b with
  | true =>
    refine Nat.lt_of_le_of_lt ?_ h
    show (L + L + n) * 2 ^ m ≤ (L + (n + 1)) * 2 ^ (m + 1)
    rw [Nat.pow_succ, Nat.mul_comm (2 ^ m) 2, ← Nat.mul_assoc]
    exact Nat.mul_le_mul_right _ (by omega)
  | false =>
    refine Nat.lt_of_le_of_lt ?_ h
    show (L + 1 + n) * 2 ^ m ≤ (L + (n + 1)) * 2 ^ m
    exact Nat.mul_le_mul_right _ (by omega)
theorem pot_lt {L n m : Nat} (h : (L + n) * 2 ^ m < 100000) : L < 100000 := by
  have : (L + n) * 1 ≤ (L + n) * 2 ^ m := Nat.mul_le_mul_left _ (Nat.pow_pos (by decide))
  omega
theorem safeI : ∀ (p : List It) (st : List Int) (L : Nat), (∀ v ∈ st, Big L v) → 20 ≤ L → (∀ x ∈ p, x.ok) → fits p st.length → (L + p.length) * 2 ^ muls p < 100000 → safe IM (fun _ as _ => mulQ as) (fun _ => True) p st ()
  | [], _, _, _, _, _, _, _ => trivial
  | x :: p, st, L, hb, hL, hx, ft, hp => by
    have hlt := pot_lt hp
    have mc : muls (x :: p) = muls p + if decide (x = .w .mul) = true then 1 else 0 := by
      unfold muls
      rw [List.countP_cons]
    rw [List.length_cons, mc] at hp
    have hp' := grow_pot (by omega) hp
    have gl := grow_le L (decide (x = .w .mul)) (by omega)
    have ln := step_len IM x st () ft.1
    have f2 := ft.2
    rw [← ln] at f2
    refine ⟨⟨trivial, ?_⟩, safeI p _ (grow L (decide (x = .w .mul))) (fun v hv => ?_) (by omega) (fun y hy => hx y (List.mem_cons_of_mem _ hy)) f2 hp'⟩
    · cases x with
      | n i => trivial
      | w w => exact fun _ => mulQ_big (fun v hv => hb v (List.mem_of_mem_drop hv)) hlt
    · cases x with
      | n i =>
        rcases List.mem_append.mp (show v ∈ st ++ [i] from hv) with e | e
        · exact (hb v e).mono gl
        · rw [List.mem_singleton.mp e]
          exact big_1m (hx _ List.mem_cons_self) (by omega)
      | w w =>
        have hv : v ∈ (step IM (.w w) st ()).1 := hv
        unfold step at hv
        dsimp only at hv
        cases hs : w.shuf with
        | some l =>
          rw [hs] at hv
          rcases List.mem_append.mp hv with e | e
          · exact (hb v (List.mem_of_mem_take e)).mono gl
          · obtain ⟨a, _, rfl⟩ := List.mem_map.mp e
            show Big _ ((st.drop (st.length - w.takes)).getD a 0)
            rw [List.getD_eq_getElem?_getD]
            cases hg : (st.drop (st.length - w.takes))[a]? with
            | none => exact Big.zero _
            | some z => exact (hb z (List.mem_of_mem_drop (List.mem_of_getElem? hg))).mono gl
        | none =>
          rw [hs] at hv
          rcases List.mem_append.mp hv with e | e
          · exact (hb v (List.mem_of_mem_take e)).mono gl
          · rw [List.mem_singleton.mp e]
            have ht : w.takes ≤ st.length := ft.1
            have q := arith_big (L := L) hs (as := st.drop (st.length - w.takes)) (by rw [List.length_drop]; omega) (fun z hz => hb z (List.mem_of_mem_drop hz))
            have ed : decide (It.w w = .w .mul) = decide (w = .mul) := by
              by_cases h : w = .mul
              · subst h; rfl
              · rw [decide_eq_false h, decide_eq_false]
                intro z
                exact h (by cases z; rfl)
            rw [ed]
            exact q
def Row.isMul : Row → Bool
  | .two .mul _ _ => true
  | _ => false
def Small (rows : List Row) : Prop := ∀ i, Row.cst i ∈ rows → -1000000 ≤ i ∧ i ≤ 1000000
theorem getD_big {acc : List Int} {L : Nat} (h : ∀ v ∈ acc, Big L v) (a : Nat) : Big L (acc.getD a 0) := by
  rw [List.getD_eq_getElem?_getD]
  cases hg : acc[a]? with
  | none => exact Big.zero _
  | some z => exact h z (List.mem_of_getElem? hg)
theorem safeR_ok (pile : List Int) : ∀ (rows : List Row) (acc : List Int) (L : Nat), (∀ v ∈ acc, Big L v) → (∀ v ∈ pile, Big L v) → 20 ≤ L → Small rows → (∀ (i : Nat) (r : Row), rows[i]? = some r → r.low (acc.length + i)) → (L + rows.length) * 2 ^ (rows.countP Row.isMul) < 100000 → safeR pile rows acc
  | [], _, _, _, _, _, _, _, _ => trivial
  | r :: rows, acc, L, hb, hpl, hL, hs, hlow, hp => by
    have hlt := pot_lt hp
    rw [List.length_cons, List.countP_cons] at hp
    have hp' := grow_pot (by omega) hp
    have gl := grow_le L r.isMul (by omega)
    have hr := hlow 0 r rfl
    refine ⟨?_, safeR_ok pile rows _ (grow L r.isMul) (fun v hv => ?_) (fun v hv => (hpl v hv).mono gl) (by omega) (fun i hi => hs i (List.mem_cons_of_mem _ hi)) (fun i q h => by
      have := hlow (i + 1) q (by simpa using h)
      rw [List.length_append, List.length_singleton, show acc.length + 1 + i = acc.length + (i + 1) from by omega]
      exact this) hp'⟩
    · unfold Row.mulR
      split
      · exact mulQ_big (fun v hv => by
          obtain ⟨a, _, rfl⟩ := List.mem_map.mp hv
          exact getD_big hb a) hlt
      · trivial
    · rcases List.mem_append.mp hv with e | e
      · exact (hb v e).mono gl
      · rw [List.mem_singleton.mp e]
        cases hsum : r.sum with
        | none => cases r with
          | inn j => exact (getD_big hpl j).mono gl
          | cst i => exact big_1m (hs i List.mem_cons_self) (by omega)
          | one _ _ => cases hsum
          | two _ _ _ => cases hsum
        | some wa =>
          obtain ⟨w, as⟩ := wa
          rw [(Row.sum_spec hsum).2.2.2]
          obtain ⟨hw, hlen, _⟩ := Row.sum_low hsum hr
          have q := arith_big (L := L) hw (as := as.map fun a => acc.getD a 0) (by rw [List.length_map]; exact hlen) (fun z hz => by
            obtain ⟨a, _, rfl⟩ := List.mem_map.mp hz
            exact getD_big hb a)
          have ed : r.isMul = decide (w = .mul) := by
            cases r with
            | inn _ => cases hsum
            | cst _ => cases hsum
            | one v a =>
              cases hsum
              obtain ⟨rfl, _⟩ := hr
              rfl
            | two v a b =>
              cases hsum
              rcases hr.1 with rfl | rfl | rfl <;> rfl
          rw [ed]
          exact q
/-! ### of drawn programs -/
theorem number_mul (q : Row) (rows : List Row) : (number q rows).2.countP Row.isMul ≤ rows.countP Row.isMul + if q.isMul = true then 1 else 0 := by
  unfold number
  split
  · exact Nat.le_add_right _ _
  · rw [List.countP_append, List.countP_singleton]
    exact Nat.le_refl _
theorem rowOf_mul (w : Wd) (as : List Nat) : (rowOf w as).isMul = true → w = .mul := by
  intro h
  unfold rowOf at h
  split at h
  · cases h
  · cases h
  · rfl
  · cases w <;> first | rfl | cases h
  · cases h
theorem exec_mul : ∀ (p : List It) (st : List Nat) (rows : List Row), (exec VM p st rows).2.countP Row.isMul ≤ rows.countP Row.isMul + muls p
  | [], _, rows => by simp [exec, muls]
  | x :: p, st, rows => by
    have ih := exec_mul p (step VM x st rows).1 (step VM x st rows).2
    have mc : muls (x :: p) = muls p + if decide (x = .w .mul) = true then 1 else 0 := by
      unfold muls
      rw [List.countP_cons]
    have s : (step VM x st rows).2.countP Row.isMul ≤ rows.countP Row.isMul + if decide (x = .w .mul) = true then 1 else 0 := by
      cases x with
      | n i =>
        exact Nat.le_trans (number_mul (.cst i) rows) (Nat.add_le_add_left (Nat.zero_le _) _)
      | w w =>
        unfold step
        dsimp only
        cases hs : w.shuf with
        | some l => exact Nat.le_add_right _ _
        | none =>
          have := number_mul (rowOf w (st.drop (st.length - w.takes))) rows
          refine Nat.le_trans this ?_
          by_cases hm : (rowOf w (st.drop (st.length - w.takes))).isMul = true
          · have e := rowOf_mul _ _ hm
            subst e
            rw [if_pos hm, if_pos (by decide)]
            exact Nat.le_refl _
          · rw [if_neg hm]
            exact Nat.le_add_right _ _
    show (exec VM p (step VM x st rows).1 (step VM x st rows).2).2.countP Row.isMul ≤ _
    rw [mc]
    omega
theorem number_small {q : Row} {rows : List Row} (h : Small rows) (hq : ∀ i, q = .cst i → -1000000 ≤ i ∧ i ≤ 1000000) : Small (number q rows).2 := by
  unfold number
  split
  · exact h
  · intro i hi
    rcases List.mem_append.mp hi with e | e
    · exact h i e
    · exact hq i (List.mem_singleton.mp e).symm
theorem rowOf_cst (w : Wd) (as : List Nat) (i : Int) : rowOf w as ≠ .cst i := by
  unfold rowOf
  split <;> simp
theorem exec_small : ∀ (p : List It) (st : List Nat) (rows : List Row), (∀ x ∈ p, x.ok) → Small rows → Small (exec VM p st rows).2
  | [], _, _, _, h => h
  | x :: p, st, rows, hx, h => by
    refine exec_small p _ _ (fun y hy => hx y (List.mem_cons_of_mem _ hy)) ?_
    cases x with
    | n i => exact number_small h fun j e => by cases e; exact hx _ List.mem_cons_self
    | w w =>
      unfold step
      dsimp only
      cases w.shuf with
      | some l => exact h
      | none => exact number_small h fun j e => absurd e (rowOf_cst w _ j)
theorem ins_small (n : Nat) : Small (ins n) := fun i h => by
  unfold ins at h
  obtain ⟨j, _, e⟩ := List.mem_map.mp h
  cases e
theorem ins_mul (n : Nat) : (ins n).countP Row.isMul = 0 := by
  rw [List.countP_eq_zero]
  intro r h
  unfold ins at h
  obtain ⟨j, _, e⟩ := List.mem_map.mp h
  subst e
  exact fun h => nomatch h
end
end K84
end

section
set_option Elab.async false
set_option linter.all false
set_option maxRecDepth 100000
set_option maxHeartbeats 1000000
set_option autoImplicit false
/-! Ev19: rows that look into the store by themselves (for simp, over stores that are told object by object). -/
namespace Ev
open PySem
section
variable {S : Store} {l m : Nat} {d e : D} {i : Int} {xs ys : List D}
def isL : Option Ob → Bool
  | some (.lst _) => true
  | _ => false
@[simp] theorem isL_lst : isL (some (.lst xs)) = true := rfl
@[simp] theorem ak_append : kindOk .append (.loc l) S = isL S[l]? := by
  simp only [kindOk]
  cases S[l]? with
  | none => rfl
  | some o => cases o <;> rfl
@[simp] theorem ak_extend : kindOk .extend (.loc l) S = isL S[l]? := by
  simp only [kindOk]
  cases S[l]? with
  | none => rfl
  | some o => cases o <;> rfl
@[simp] theorem ak_pop : kindOk .pop (.loc l) S = isL S[l]? := by
  simp only [kindOk]
  cases S[l]? with
  | none => rfl
  | some o => cases o <;> rfl
@[simp] theorem ak_index : kindOk .index (.loc l) S = isL S[l]? := by
  simp only [kindOk]
  cases S[l]? with
  | none => rfl
  | some o => cases o <;> rfl
def apL (o : Option Ob) (l : Nat) (d : D) (S : Store) : Res D := match o with
  | some (.lst xs) => if xs.length < LIM then .ok .non (S.set l (.lst (xs ++ [d]))) else .bad
  | _ => .bad
@[simp] theorem apL_lst : apL (some (.lst xs)) l d S = if xs.length < LIM then .ok .non (S.set l (.lst (xs ++ [d]))) else .bad := rfl
@[simp] theorem am_append : methD (.loc l) .append [d] S = apL S[l]? l d S := by
  simp only [methD]
  cases S[l]? with
  | none => rfl
  | some o => cases o <;> rfl
def exL (o p : Option Ob) (l : Nat) (S : Store) : Res D := match o, p with
  | some (.lst xs), some (.lst zs) => if xs.length + zs.length ≤ LIM then .ok .non (S.set l (.lst (xs ++ zs))) else .bad
  | _, _ => .bad
@[simp] theorem exL_lst : exL (some (.lst xs)) (some (.lst ys)) l S = if xs.length + ys.length ≤ LIM then .ok .non (S.set l (.lst (xs ++ ys))) else .bad := rfl
@[simp] theorem am_extend : methD (.loc l) .extend [.loc m] S = exL S[l]? S[m]? l S := by
  cases h : S[l]? with
  | none => simp only [methD, h, exL]
  | some o => cases o with
    | lst ds => cases h2 : S[m]? with
      | none => simp only [methD, h, h2, exL]
      | some p => cases p <;> simp only [methD, h, h2, exL]
    | _ => simp only [methD, h, exL]
def addL (a b : Option Ob) (S : Store) : Res D := match a, b with
  | some (.lst xs), some (.lst ys) => if xs.length + ys.length ≤ LIM then Ev.alloc (.lst (xs ++ ys)) S else .bad
  | _, _ => .bad
@[simp] theorem addL_lst : addL (some (.lst xs)) (some (.lst ys)) S = if xs.length + ys.length ≤ LIM then Ev.alloc (.lst (xs ++ ys)) S else .bad := rfl
@[simp] theorem bin_locs : binD .add (.loc l) (.loc m) S = addL S[l]? S[m]? S := by
  simp only [binD, addL] <;> rfl
def lenL (o : Option Ob) (S : Store) : Res D := match o with
  | some (.lst ds) => .ok (.int ds.length) S
  | _ => .bad
@[simp] theorem lenL_lst : lenL (some (.lst xs)) S = .ok (.int xs.length) S := rfl
@[simp] theorem al_len : bltD .len [.loc l] S = lenL S[l]? S := by
  simp only [bltD]
  cases S[l]? with
  | none => rfl
  | some o => cases o <;> rfl
def tupL (o : Option Ob) (S : Store) : Res D := match o with
  | some (.lst ds) => .ok (.tup ds) S
  | _ => .bad
@[simp] theorem tupL_lst : tupL (some (.lst xs)) S = .ok (.tup xs) S := rfl
@[simp] theorem al_tuple : bltD .tuple [.loc l] S = tupL S[l]? S := by
  simp only [bltD]
  cases S[l]? with
  | none => rfl
  | some o => cases o <;> rfl
def lstL (o : Option Ob) (S : Store) : Res D := match o with
  | some (.lst ds) => Ev.alloc (.lst ds) S
  | _ => .bad
@[simp] theorem lstL_lst : lstL (some (.lst xs)) S = .ok (.loc S.length) (S ++ [.lst xs]) := rfl
@[simp] theorem al_list : bltD .list [.loc l] S = lstL S[l]? S := by
  simp only [bltD]
  cases S[l]? with
  | none => rfl
  | some o => cases o <;> rfl
def itL (o : Option Ob) (l : Nat) (S : Store) : Res ItV := match o with
  | some (.lst _) => .ok (.lst l) S
  | _ => .bad
@[simp] theorem itL_lst : itL (some (.lst xs)) l S = .ok (.lst l) S := rfl
@[simp] theorem al_it : itD (.loc l) S = itL S[l]? l S := by
  simp only [itD]
  cases S[l]? with
  | none => rfl
  | some o => cases o <;> rfl
def sbL (o : Option Ob) (i : Int) (S : Store) : Res D := match o with
  | some (.lst ds) => okR (L2.atI ds i) S
  | some o => match obGet o (.int i) with
    | some (some v) => .ok v S
    | _ => .bad
  | none => .bad
@[simp] theorem sbL_lst : sbL (some (.lst xs)) i S = okR (L2.atI xs i) S := rfl
@[simp] theorem al_sub : subD (.loc l) (.int i) S = sbL S[l]? i S := by
  simp only [subD, sbL]
  cases S[l]? with
  | none => rfl
  | some o => cases o <;> rfl
def slL (o : Option Ob) (lo hi : Option Int) (S : Store) : Res D := match o with
  | some (.lst ds) => Ev.alloc (.lst (cutL ds lo hi)) S
  | _ => .bad
@[simp] theorem slL_lst {lo hi : Option Int} : slL (some (.lst xs)) lo hi S = .ok (.loc S.length) (S ++ [.lst (cutL xs lo hi)]) := rfl
@[simp] theorem al_slc {lo hi : Option Int} : slcD (.loc l) lo hi S = slL S[l]? lo hi S := by
  simp only [slcD]
  cases S[l]? with
  | none => rfl
  | some o => cases o <;> rfl
def enL (o : Option Ob) (l : Nat) (S : Store) : Res ItV := match o with
  | some (.lst _) => .ok (.enl l) S
  | _ => .bad
@[simp] theorem enL_lst : enL (some (.lst xs)) l S = .ok (.enl l) S := rfl
@[simp] theorem al_en : enmD (.loc l) S = enL S[l]? l S := by
  simp only [enmD]
  cases S[l]? with
  | none => rfl
  | some o => cases o <;> rfl
def rvL (o : Option Ob) (S : Store) : Res D := match o with
  | some (.lst ds) => Ev.alloc (.lst ds.reverse) S
  | _ => .bad
@[simp] theorem rvL_lst : rvL (some (.lst xs)) S = .ok (.loc S.length) (S ++ [.lst xs.reverse]) := rfl
@[simp] theorem al_rev : revR (.loc l) S = rvL S[l]? S := by
  simp only [revR]
  cases S[l]? with
  | none => rfl
  | some o => cases o <;> rfl
/-- over a list of the store that stays -/
theorem walkL_own {f : D → List D → Store → Res (List D)} {g : D → D} (hS : S[l]? = some (.lst xs)) (h : ∀ d ∈ xs, ∀ acc, acc.length < LIM → f d acc S = .ok (acc ++ [g d]) S) (hl : xs.length < LIM) : walkL f l LIM 0 [] S = .ok (xs.map g) S := by
  have := walkL_map hS h LIM 0 [] rfl (Nat.zero_le _) (by omega) (by omega)
  simpa using this
end
end Ev
namespace Ev
theorem bds_append {n : Nat} : ∀ {xs ys : List D}, bds n (xs ++ ys) = (bds n xs && bds n ys)
  | [], _ => rfl
  | x :: xs, ys => by
    rw [List.cons_append, bds_cons, bds_cons, bds_append, Bool.and_assoc]
end Ev
end

section
set_option Elab.async false
set_option linter.all false
set_option maxRecDepth 100000
set_option maxHeartbeats 400000
set_option autoImplicit false
namespace K84
open PySem Ev
section
variable {k bz : Nat} {S : Store}
/-! ### what are no integers -/
inductive NoInt : D → Prop
  | non : NoInt .non
  | bl (b : Bool) : NoInt (.bl b)
  | str (x : Str) : NoInt (.str x)
  | tup (ds : List D) : NoInt (.tup ds)
theorem isiB_ni : isiB "NoneType" "int" = some false := by decide
theorem isiB_nt : isiB "NoneType" "tuple" = some false := by decide
theorem isiB_lt : isiB "list" "tuple" = some false := by decide
theorem is_integer_no {d : D} (h : NoInt d) (hS : wf S) : (cxK md.P (k + 1)).call "is_integer" [d] S = .ok (.bl false) S := by
  rw [call_eq df_is_integer]
  refine run_same rfl hS rfl ?_
  cases h <;> simp [b_is_integer, bt_int, bt_bool, startE, setR, parR, parE, asgT, asgTs, asgsR, bindT, bindTs, wipeE, isiB_ni]
theorem is_within_no {d : D} (h : NoInt d) (lo hi : Int) (hS : wf S) : (cxK md.P (k + 2)).call "is_within" [d, .int lo, .int hi] S = .ok (.bl false) S := by
  rw [call_eq df_is_within]
  refine run_same rfl hS rfl ?_
  simp [b_is_within, startE, setR, parR, parE, asgT, asgTs, asgsR, bindT, bindTs, wipeE, df_is_integer, is_integer_no h hS]
theorem is_within_int (i lo hi : Int) (hS : wf S) : (cxK md.P (k + 2)).call "is_within" [.int i, .int lo, .int hi] S = .ok (.bl (decide (lo ≤ i) && decide (i ≤ hi))) S := by
  rw [call_eq df_is_within]
  refine run_same rfl hS rfl ?_
  by_cases h1 : lo ≤ i
  · simp [b_is_within, startE, setR, parR, parE, asgT, asgTs, asgsR, bindT, bindTs, wipeE, df_is_integer, is_integer_int i hS, h1]
  · simp [b_is_within, startE, setR, parR, parE, asgT, asgTs, asgsR, bindT, bindTs, wipeE, df_is_integer, is_integer_int i hS, h1]
theorem isi_loc {l : Nat} {ds : List D} {u : String} {St : Store} (h : St[l]? = some (.lst ds)) : bltD .isi [.loc l, .ty u] St = boolR (isiB "list" u) St := by simp only [bltD, tyD, h]
theorem df_wide_of : md.P.defs "wide_of" = some ⟨1, 2, b_wide_of⟩ := by rfl
theorem wide_of_ok {wide : Nat} {rows : List Row} (h : innFirst wide rows) (hl : rows.length ≤ 200) (hS : wf S) : (cxK md.P (k + 1)).call "wide_of" [.tup (rows.map Row.d)] S = .ok (.int (wide : Nat)) S := by
  rw [call_eq df_wide_of]
  refine run_same rfl hS rfl ?_
  obtain ⟨acc, h1, h2⟩ := ins_walk (S := S) (c := cxK md.P k) (i := 1) (env := [some (.tup (rows.map Row.d)), none]) (ev := [some (.tup (rows.map Row.d)), none]) (fun r => rfl) (by simp) rows [] (by simp [LIM]; omega)
  rw [in_count h] at h1
  generalize rows.map Row.d = q at *
  simp at h1
  simp [b_wide_of, startE, setR, parR, parE, asgT, asgTs, asgsR, bindT, bindTs, wipeE, h2, h1]
theorem ren_mul (f : Nat → Nat) (r : Row) : (ren f r).isMul = r.isMul := by
  cases r with
  | inn _ => rfl
  | cst _ => rfl
  | one _ _ => rfl
  | two w _ _ => cases w <;> rfl
theorem keptF_mul (F : Nat → Row) (u : Nat → Bool) : ∀ (rs : List Row) (i : Nat), (∀ (j : Nat) (r : Row), rs[j]? = some r → (F (i + j)).isMul = r.isMul) → ((keptF u rs i).map F).countP Row.isMul ≤ rs.countP Row.isMul
  | [], _, _ => by simp [keptF]
  | r :: rs, i, h => by
    have ih := keptF_mul F u rs (i + 1) (fun j q e => by
      have := h (j + 1) q (by simpa using e)
      rw [show i + (j + 1) = i + 1 + j from by omega] at this
      exact this)
    have h0 := h 0 r rfl
    rw [Nat.add_zero] at h0
    unfold keptF
    split
    · rw [List.map_cons, List.countP_cons, List.countP_cons, h0]
      omega
    · rw [List.countP_cons]
      omega
theorem used_mul (g : List Nat) (rows : List Row) : (usedR (uG g) rows).countP Row.isMul ≤ rows.countP Row.isMul :=
  keptF_mul (uF g rows) (uG g) rows 0 fun j r e => by
    show (ren _ (rows.getD (0 + j) (.cst 0))).isMul = _
    rw [ren_mul, Nat.zero_add, List.getD_eq_getElem?_getD, e]
    rfl
theorem used_small {g : List Nat} {rows : List Row} (h : Small rows) : Small (usedR (uG g) rows) := fun i hi => by
  obtain ⟨q, hq, e⟩ := List.getElem_of_mem hi
  obtain ⟨j, r, _, hr, er⟩ := usedR_of (u := uG g) (rows := rows) (q := q) (r' := .cst i) (by rw [← e, List.getElem?_eq_getElem])
  refine h i ?_
  have : r = .cst i := by
    cases r with
    | inn _ => cases er
    | cst j => exact er.symm
    | one _ _ => cases er
    | two _ _ _ => cases er
  rw [← this]
  exact List.mem_of_getElem? hr
theorem keptF_le (u : Nat → Bool) : ∀ (rs : List Row) (i : Nat), (keptF u rs i).length ≤ rs.length
  | [], _ => Nat.le_refl _
  | r :: rs, i => by
    have := keptF_le u rs (i + 1)
    unfold keptF
    split <;> simp <;> omega
theorem told_vals {p : List It} (h : Drawn p) : Told (wants p) (vals p).2 (vals p).1 ∧ (vals p).2.length ≤ 100 := by
  have hl := h.len
  have hw := wants_le p
  have r := vals_run p
  have er := exec_rows p (List.range (wants p)) (ins (wants p))
  rw [ins_len] at er
  have er : (vals p).2.length ≤ wants p + p.length := er
  have s2 := (wst_le p 0 0).2
  have sl : (vals p).1.length = (wst p 0 0).2 := r.2.2.2.1
  exact ⟨⟨r.1, vals_inn p, r.2.2.1, by omega, by omega⟩, by omega⟩
theorem told_used {g : List Nat} {wide : Nat} {rows : List Row} {left : List Nat} (t : Told wide rows left) (gd : Good (uG g) rows left) : Told wide (usedR (uG g) rows) (usedL (uG g) rows left) where
  low := used_lows gd t.inn
  inn := used_inn t.inn
  lt := used_low gd
  len := by
    rw [usedR_len]
    have := keptF_le (uG g) rows 0
    have := t.len
    unfold kept
    omega
  few := by
    unfold usedL
    rw [List.length_map]
    exact t.few
theorem uG_eq {g1 g2 : List Nat} {rows : List Row} {left : List Nat} (a : Good (uG g1) rows left) (b : Good (uG g2) rows left) : uG g1 = uG g2 := by
  funext i
  rw [Bool.eq_iff_iff, a.is, b.is]
theorem cmp_isn_bl {a b : Bool} : cmpD .isn (.bl a) (.bl b) S = .ok (.bl (!decide (a = b))) S := rfl
theorem pow_le {n m : Nat} (h : m ≤ 5) (hn : n ≤ 300) : n * 2 ^ m < 100000 := by
  have a : 2 ^ m ≤ 2 ^ 5 := Nat.pow_le_pow_right (by decide) h
  have : n * 2 ^ m ≤ 300 * 2 ^ 5 := Nat.mul_le_mul hn a
  have e : (300 * 2 ^ 5 : Nat) = 9600 := by decide
  omega

theorem xc_NoValues : md.P.xc "NoValues" = true := by rfl
theorem xc_NoPile : md.P.xc "NoPile" = true := by rfl
theorem xc_NoStraight : md.P.xc "NoStraight" = true := by rfl
/-! ### piles that are none -/
inductive OddPile (wide : Nat) (S : Store) : D → Prop
  | non : OddPile wide S .non
  | lst {l : Nat} {ds : List D} : S[l]? = some (.lst ds) → OddPile wide S (.loc l)
  | odd {d : D} {n : Nat} : NoInt d → 0 < n → n ≤ 1000 → OddPile wide S (.tup (List.replicate n d))
  | few {pile : List Int} : pile.length < wide → pile.length ≤ 1000 → OddPile wide S (.tup (pile.map D.int))
theorem all_ff (n : Nat) (h : 0 < n) : bllD .all (List.replicate n (.bl false)) S = .ok (.bl false) S := by
  have : ∀ n : Nat, blsOf (List.replicate n (D.bl false)) = some (List.replicate n false) := by
    intro n
    induction n with
    | zero => rfl
    | succ n ih => rw [List.replicate_succ, blsOf, ih]; rfl
  rw [bll_all (this n)]
  obtain ⟨m, rfl⟩ : ∃ m, n = m + 1 := ⟨n - 1, by omega⟩
  simp [List.replicate_succ]
theorem no_pile {wide : Nat} {d : D} (h : OddPile wide S d) (hS : wf S) : (cxK md.P (k + 2)).call "check_integers" [d, .int ((wide : Nat) : Int)] S = .exc ⟨"NoPile", []⟩ S := by
  rw [call_eq df_check_integers]
  cases h with
  | non =>
    refine run_exc (env := [some .non, some (.int (wide : Nat)), none]) rfl ?_
    simp [b_check_integers, startE, setR, parR, parE, asgT, asgTs, asgsR, bindT, bindTs, wipeE, bt_tuple, isiB_nt, xc_NoPile]
  | @lst l ds hl =>
    refine run_exc (env := [some (.loc l), some (.int (wide : Nat)), none]) rfl ?_
    have il := isi_loc (u := "tuple") hl
    simp [b_check_integers, startE, setR, parR, parE, asgT, asgTs, asgsR, bindT, bindTs, wipeE, bt_tuple, il, isiB_lt, xc_NoPile]
  | @odd d n hd h0 hn =>
    refine run_exc (env := [some (.tup (List.replicate n d)), some (.int (wide : Nat)), none]) rfl ?_
    have wk := walkT_mapS (S := S) (f := turnC (cxK md.P (k + 1)) [2] (.name 2) (fun _ S => .ok true S) (.call "is_integer" (.cons (.var 2) .nil)) [some (.tup (List.replicate n d)), some (.int (wide : Nat)), none]) (h := fun _ : Nat => d) (g := fun _ => .bl false) (List.range n) (fun a ha acc hacc => by
      have o := is_integer_no (k := k) hd hS
      generalize List.replicate n d = q at *
      simp [turnC, startE, setR, parR, parE, asgT, asgTs, asgsR, bindT, bindTs, wipeE, df_is_integer, o, hacc]) [] (by simp [LIM]; omega)
    rw [List.nil_append, List.map_const', List.map_const', List.length_range] at wk
    have al := all_ff (S := S) n h0
    generalize List.replicate n (D.bl false) = b1 at *
    generalize List.replicate n d = q at *
    simp [b_check_integers, startE, setR, parR, parE, asgT, asgTs, asgsR, bindT, bindTs, wipeE, bt_tuple, wk, al, xc_NoPile]
  | @few pile h1 h2 =>
    refine run_exc (env := [some (.tup (pile.map D.int)), some (.int (wide : Nat)), none]) rfl ?_
    have wk := ints_walk (k := k) pile hS [some (.tup (pile.map D.int)), some (.int (wide : Nat)), none] rfl h2
    have al := all_true (S := S) pile.length
    have c1 : ((pile.map D.int).length : Int) < (wide : Int) := by rw [List.length_map]; omega
    have c2 : (pile.map D.int).length < wide := by rw [List.length_map]; omega
    generalize List.replicate pile.length (D.bl true) = b1 at *
    generalize pile.map D.int = q at *
    simp [b_check_integers, startE, setR, parR, parE, asgT, asgTs, asgsR, bindT, bindTs, wipeE, bt_tuple, wk, al, c1, c2, xc_NoPile]

/-! ### rows that are no values -/
inductive OddVRow : Nat → D → Prop
  | str {n : Nat} : OddVRow n (.str "neg")
  | out {n : Nat} : OddVRow n (.tup [.str "out", .int 0])
  | ahead {n m : Nat} : n ≤ m → OddVRow n (.tup [.str "neg", .int ((m : Nat) : Int)])
  | few {n : Nat} : OddVRow n (.tup [.str "add", .int 0])
  | deep {n : Nat} : OddVRow n (.tup [.str "neg", .tup [.int 0]])
  | bl {n : Nat} : OddVRow n (.tup [.str "neg", .bl true])
  | ibl {n : Nat} : OddVRow n (.tup [.str "int", .bl true])
  | itx {n : Nat} : OddVRow n (.tup [.str "int", .str "1"])
  | inn {n : Nat} : 0 < n → OddVRow n (.tup [.str "in", .int 0])
theorem out_two : (Str.ofString "out" == Str.ofString "in") = false ∧ (Str.ofString "out" == Str.ofString "int") = false ∧ inDs (.str (Str.ofString "out")) sumsD = some false := ⟨by decide +kernel, by decide +kernel, by kernel_rfl⟩
theorem odd_vrow {n : Nat} {d : D} (h : OddVRow n d) (hS : wf S) : (cxK md.P (k + 3)).call "is_value_row" [d, .int ((n : Nat) : Int)] S = .ok (.bl false) S := by
  rw [call_eq df_is_value_row]
  refine run_same rfl hS rfl ?_
  have i23 := in_23
  have o2 := out_two
  have an := in_sums .neg
  have aa := in_sums .add
  have nsa := nm_neg .add
  have nsn := nm_neg .neg
  have nin := nmB_in .neg
  have nit := nmB_int .neg
  have ain := nmB_in .add
  have ait := nmB_int .add
  rw [show Wd.neg.shuf.isNone = true from rfl] at an
  rw [show Wd.add.shuf.isNone = true from rfl] at aa
  rw [show Wd.neg.nm = Str.ofString "neg" from rfl] at an nsn nin nit
  rw [show Wd.add.nm = Str.ofString "add" from rfl] at aa nsa ain ait
  rw [decide_eq_true rfl] at nsn
  rw [decide_eq_false (by decide)] at nsa
  have al : bllD .all [.bl false] S = .ok (.bl false) S := rfl
  have wk : ∀ (d : D) (e0 e2 : Option D), (cxK md.P (k + 2)).call "is_within" [d, .int 0, .int ((n : Int) - 1)] S = .ok (.bl false) S → walkT (turnC (cxK md.P (k + 2)) [2] (.name 2) (fun _ S => .ok true S) (.call "is_within" (.cons (.var 2) (.cons (.int 0) (.cons (.bin .sub (.var 1) (.int 1)) .nil)))) [e0, some (.int (n : Nat)), e2]) [d] [] S = .ok [.bl false] S := fun d e0 e2 h => by
    simp [walkT, turnC, startE, setR, parR, parE, asgT, asgTs, asgsR, bindT, bindTs, wipeE, df_is_within, h, LIM]
  cases h with
  | str => simp [b_is_value_row, startE, setR, parR, parE, asgT, asgTs, asgsR, bindT, bindTs, wipeE, bt_tuple]
  | out => simp [b_is_value_row, startE, setR, parR, parE, asgT, asgTs, asgsR, bindT, bindTs, wipeE, bt_tuple, bt_str, i23.1, o2.1, o2.2.1, gl_SUMS, o2.2.2]
  | @ahead m hm =>
    have w0 := is_within_int (k := k) ((m : Nat) : Int) 0 ((n : Nat) - 1) hS
    rw [show (decide ((0 : Int) ≤ (m : Int)) && decide ((m : Int) ≤ (n : Int) - 1)) = false from by rw [decide_eq_false (p := (m : Int) ≤ (n : Int) - 1) (by omega), Bool.and_false]] at w0
    have wk := fun e0 e2 => wk _ e0 e2 w0
    have cl : cutL [D.str (Str.ofString "neg"), .int (m : Nat)] (some 1) none = [.int (m : Nat)] := cutL_drop _ (n := 1) (by simp)
    simp [b_is_value_row, startE, setR, parR, parE, asgT, asgTs, asgsR, bindT, bindTs, wipeE, bt_tuple, bt_str, i23.1, nin, nit, gl_SUMS, an, nsn, cl, wk, al]
  | few => simp [b_is_value_row, startE, setR, parR, parE, asgT, asgTs, asgsR, bindT, bindTs, wipeE, bt_tuple, bt_str, i23.1, ain, ait, gl_SUMS, aa, nsa]
  | deep =>
    have wk := fun e0 e2 => wk _ e0 e2 (is_within_no (NoInt.tup [.int 0]) 0 ((n : Nat) - 1) hS)
    have cl : cutL [D.str (Str.ofString "neg"), .tup [.int 0]] (some 1) none = [.tup [.int 0]] := cutL_drop _ (n := 1) (by simp)
    simp [b_is_value_row, startE, setR, parR, parE, asgT, asgTs, asgsR, bindT, bindTs, wipeE, bt_tuple, bt_str, i23.1, nin, nit, gl_SUMS, an, nsn, cl, wk, al]
  | bl =>
    have wk := fun e0 e2 => wk _ e0 e2 (is_within_no (NoInt.bl true) 0 ((n : Nat) - 1) hS)
    have cl : cutL [D.str (Str.ofString "neg"), .bl true] (some 1) none = [.bl true] := cutL_drop _ (n := 1) (by simp)
    simp [b_is_value_row, startE, setR, parR, parE, asgT, asgTs, asgsR, bindT, bindTs, wipeE, bt_tuple, bt_str, i23.1, nin, nit, gl_SUMS, an, nsn, cl, wk, al]
  | ibl =>
    have ni := is_integer_no (k := k + 1) (NoInt.bl true) hS
    simp [b_is_value_row, startE, setR, parR, parE, asgT, asgTs, asgsR, bindT, bindTs, wipeE, bt_tuple, bt_str, i23.1, int_in, int_int, df_is_integer, ni]
  | itx =>
    have ni := is_integer_no (k := k + 1) (NoInt.str "1") hS
    simp [b_is_value_row, startE, setR, parR, parE, asgT, asgTs, asgsR, bindT, bindTs, wipeE, bt_tuple, bt_str, i23.1, int_in, int_int, df_is_integer, ni]
  | inn hn =>
    have hn' : ¬ (0 : Int) = ((n : Nat) : Int) := by omega
    simp [b_is_value_row, startE, setR, parR, parE, asgT, asgTs, asgsR, bindT, bindTs, wipeE, bt_tuple, bt_str, i23.1, in_in, df_is_integer, is_integer_int 0 hS, hn']
theorem all_bl {α : Type} (l : List α) (f : α → Bool) : bllD .all (l.map fun a => D.bl (f a)) S = .ok (.bl (l.all f)) S := by
  have : ∀ l : List α, blsOf (l.map fun a => D.bl (f a)) = some (l.map f) := by
    intro l
    induction l with
    | nil => rfl
    | cons a l ih => rw [List.map_cons, blsOf, ih]; rfl
  rw [bll_all (this l), List.all_map]
  rfl
/-- the rows are right; what is left, one by one -/
theorem av_left {wide : Nat} {rows : List Row} (hlow : lows rows) (hinn : innFirst wide rows) (hlen : rows.length ≤ 200) (ls : List D) (f : D → Bool) (hl : ls.length ≤ 2000) (hf : ∀ d ∈ ls, (cxK md.P (k + 3)).call "is_within" [d, .int 0, .int (((rows.map Row.d).length : Int) - 1)] S = .ok (.bl (f d)) S) (hS : wf S) : (cxK md.P (k + 4)).call "are_values" [.tup [.tup (rows.map Row.d), .tup ls]] S = .ok (.bl (ls.all f)) S := by
  rw [call_eq df_are_values]
  refine run_same rfl hS rfl ?_
  have w1 : ∀ (q u : List D) (e : Option D), walkT (turnC (cxK md.P (k + 3)) [1] (.name 1) (fun _ S => .ok true S) (.blt .isi (.cons (.var 1) (.cons (.bty "tuple") .nil))) [e, none, none, none, none, none, none]) [.tup q, .tup u] [] S = .ok [.bl true, .bl true] S := fun q u e => by
    simp [walkT, turnC, startE, setR, parR, parE, asgT, asgTs, asgsR, bindT, bindTs, wipeE, bt_tuple, LIM]
  have al2 : bllD .all [.bl true, .bl true] S = .ok (.bl true) S := all_true 2
  have w2 := enum_rows (S := S) (f := turnC (cxK md.P (k + 3)) [4, 5] (.tup (.cons (.name 4) (.cons (.name 5) .nil))) (fun _ S => .ok true S) (.call "is_value_row" (.cons (.var 5) (.cons (.var 4) .nil))) [some (.tup [.tup (rows.map Row.d), .tup ls]), none, some (.tup (rows.map Row.d)), some (.tup ls), none, none, none]) rows 0 [] (fun j r hr acc ha => by
    have o := is_value_row_ok (k := k) r j (hlow j r hr) hS
    rw [Nat.zero_add]
    generalize rows.map Row.d = q at *
    generalize r.d = rd at *
    simp [turnC, startE, setR, parR, parE, asgT, asgTs, asgsR, bindT, bindTs, wipeE, df_is_value_row, o, ha]) (by simp [LIM]; omega)
  rw [List.nil_append] at w2
  obtain ⟨acc, a1, a2⟩ := ins_walk (S := S) (c := cxK md.P (k + 3)) (i := 5) (env := [some (.tup [.tup (rows.map Row.d), .tup ls]), none, some (.tup (rows.map Row.d)), some (.tup ls), none, none, none]) (ev := [some (.tup [.tup (rows.map Row.d), .tup ls]), none, some (.tup (rows.map Row.d)), some (.tup ls), none, none, none]) (fun r => rfl) (by simp) rows [] (by simp [LIM]; omega)
  rw [in_count hinn, List.length_nil, Nat.zero_add] at a1
  have ct : cutL (rows.map Row.d) none (some ((acc.length : Nat) : Int)) = (rows.take wide).map Row.d := by
    rw [a1, cutL_take _ (by rw [List.length_map]; exact hinn.1), List.map_take]
  have w3 := walkT_all (S := S) (f := turnC (cxK md.P (k + 3)) [5] (.name 5) (fun _ S => .ok true S) (.cmp .eq (.sub (.var 5) (.int 0)) (.str "in")) [some (.tup [.tup (rows.map Row.d), .tup ls]), none, some (.tup (rows.map Row.d)), some (.tup ls), none, none, some (.int (acc.length : Nat))]) (h := Row.d) (rows.take wide) (fun r hr acc' ha => by
    have ti := r.tag_in
    obtain ⟨i, hi, er⟩ := List.getElem_of_mem hr
    rw [List.length_take] at hi
    rw [List.getElem_take] at er
    obtain ⟨q, rfl⟩ := (hinn.2 i r (by rw [← er, List.getElem?_eq_getElem])).mp (by omega)
    rw [show (Row.inn q).isIn = true from rfl] at ti
    have s0 := Row.sub0 (Row.inn q) (S := S)
    generalize rows.map Row.d = qq at *
    generalize (Row.inn q).d = rd at *
    simp [turnC, startE, setR, parR, parE, asgT, asgTs, asgsR, bindT, bindTs, wipeE, s0, ti, ha]) (by rw [List.length_take]; simp [LIM]; omega)
  have w4 := walkT_mapS (S := S) (f := turnC (cxK md.P (k + 3)) [1] (.name 1) (fun _ S => .ok true S) (.call "is_within" (.cons (.var 1) (.cons (.int 0) (.cons (.bin .sub (.blt .len (.cons (.var 2) .nil)) (.int 1)) .nil)))) [some (.tup [.tup (rows.map Row.d), .tup ls]), none, some (.tup (rows.map Row.d)), some (.tup ls), none, none, some (.int (acc.length : Nat))]) (h := fun d : D => d) (g := fun d => D.bl (f d)) ls (fun d hd acc' hacc => by
    have o := hf d hd
    generalize rows.map Row.d = qq at *
    simp [turnC, startE, setR, parR, parE, asgT, asgTs, asgsR, bindT, bindTs, wipeE, df_is_within, o, hacc]) [] (by simp [LIM]; omega)
  rw [List.nil_append, List.map_id'] at w4
  have ab := all_bl (S := S) ls f
  have c1 : ¬ (200 : Int) < ((rows.map Row.d).length : Int) := by rw [List.length_map]; omega
  have c2 : ¬ 200 < (rows.map Row.d).length := by rw [List.length_map]; omega
  generalize (rows.take wide).map Row.d = q2 at *
  generalize (rows.take wide).length = n2 at *
  generalize rows.map Row.d = q at *
  generalize ls.map (fun d => D.bl (f d)) = bs at *
  simp [b_are_values, startE, setR, parR, parE, asgT, asgTs, asgsR, bindT, bindTs, wipeE, bt_tuple, gl_MOST_VALUES, w1, al2, w2, all_true, a2, ct, w3, w4, ab, c1, c2]
/-- rows that are none behind right ones -/
theorem av_rows {wide : Nat} {rows : List Row} (hlow : lows rows) (hlen : rows.length ≤ 190) (xs : List D) (hx : ∀ (i : Nat) (x : D), xs[i]? = some x → OddVRow (rows.length + i) x) (h0 : xs ≠ []) (h2 : xs.length ≤ 2) (ls : List D) (hS : wf S) : (cxK md.P (k + 4)).call "are_values" [.tup [.tup (rows.map Row.d ++ xs), .tup ls]] S = .ok (.bl false) S := by
  rw [call_eq df_are_values]
  refine run_same rfl hS rfl ?_
  have w1 : ∀ (q u : List D) (e : Option D), walkT (turnC (cxK md.P (k + 3)) [1] (.name 1) (fun _ S => .ok true S) (.blt .isi (.cons (.var 1) (.cons (.bty "tuple") .nil))) [e, none, none, none, none, none, none]) [.tup q, .tup u] [] S = .ok [.bl true, .bl true] S := fun q u e => by
    simp [walkT, turnC, startE, setR, parR, parE, asgT, asgTs, asgsR, bindT, bindTs, wipeE, bt_tuple, LIM]
  have al2 : bllD .all [.bl true, .bl true] S = .ok (.bl true) S := all_true 2
  have en := enumL_map (fun d : D => d) (rows.map Row.d ++ xs) 0
  rw [List.map_id'] at en
  have w2 := walkT_mapS (S := S) (f := turnC (cxK md.P (k + 3)) [4, 5] (.tup (.cons (.name 4) (.cons (.name 5) .nil))) (fun _ S => .ok true S) (.call "is_value_row" (.cons (.var 5) (.cons (.var 4) .nil))) [some (.tup [.tup (rows.map Row.d ++ xs), .tup ls]), none, some (.tup (rows.map Row.d ++ xs)), some (.tup ls), none, none, none]) (h := fun p : D × Nat => .tup [.int ((p.2 : Nat) : Int), p.1]) (g := fun p => D.bl (decide (p.2 < rows.length))) ((rows.map Row.d ++ xs).zipIdx 0) (fun p hp acc ha => by
    obtain ⟨x, j⟩ := p
    have hj := List.mem_zipIdx_iff_getElem?.mp hp
    dsimp only at hj
    have o : (cxK md.P (k + 3)).call "is_value_row" [x, .int ((j : Nat) : Int)] S = .ok (.bl (decide (j < rows.length))) S := by
      by_cases h : j < rows.length
      · rw [List.getElem?_append_left (by simpa using h), List.getElem?_map, List.getElem?_eq_getElem h] at hj
        cases hj
        rw [decide_eq_true h]
        exact is_value_row_ok (k := k) _ j (hlow j _ (List.getElem?_eq_getElem h)) hS
      · rw [List.getElem?_append_right (by simpa using h), List.length_map] at hj
        have := hx _ x hj
        rw [show rows.length + (j - rows.length) = j from by omega] at this
        rw [decide_eq_false h]
        exact odd_vrow this hS
    generalize rows.map Row.d ++ xs = q at *
    simp [turnC, startE, setR, parR, parE, asgT, asgTs, asgsR, bindT, bindTs, wipeE, df_is_value_row, o, ha]) [] (by simp [LIM]; omega)
  rw [List.nil_append, ← en] at w2
  have ab := all_bl (S := S) ((rows.map Row.d ++ xs).zipIdx 0) (fun p => decide (p.2 < rows.length))
  have fl : ((rows.map Row.d ++ xs).zipIdx 0).all (fun p => decide (p.2 < rows.length)) = false := by
    rw [List.all_eq_false]
    obtain ⟨x, xs', rfl⟩ : ∃ x xs', xs = x :: xs' := by
      cases xs with
      | nil => exact absurd rfl h0
      | cons x xs' => exact ⟨x, xs', rfl⟩
    exact ⟨(x, rows.length), List.mem_zipIdx_iff_getElem?.mpr (by simp), by simp⟩
  rw [fl] at ab
  have c1 : ¬ (200 : Int) < ((rows.map Row.d ++ xs).length : Int) := by rw [List.length_append, List.length_map]; omega
  have c2 : ¬ 200 < (rows.map Row.d ++ xs).length := by rw [List.length_append, List.length_map]; omega
  generalize ((rows.map Row.d ++ xs).zipIdx 0).map (fun p => D.bl (decide (p.2 < rows.length))) = bs at *
  generalize rows.map Row.d ++ xs = q at *
  simp [b_are_values, startE, setR, parR, parE, asgT, asgTs, asgsR, bindT, bindTs, wipeE, bt_tuple, gl_MOST_VALUES, w1, al2, w2, ab, c1, c2]
end
end K84
end

section
set_option Elab.async false
set_option linter.all false
set_option maxRecDepth 100000
set_option maxHeartbeats 2000000
set_option autoImplicit false
namespace K84
open PySem Ev
section
variable {k bz : Nat} {S : Store}
theorem df__law_spoiled : md.P.defs "_law_spoiled" = some ⟨2, 7, b__law_spoiled⟩ := by rfl
theorem BS.own (h : Bag 2 1 S) : ∀ {L : List Ob}, (∀ o ∈ L, o.bd S.length = true) → ∀ {St : Store}, BS S St → BS S (St ++ L)
  | [], _, St, b => by rw [List.append_nil]; exact b
  | o :: L, hl, St, b => by
    have b1 := b.add (o := o) (Ob.bd_mono (by have := b.len; omega) (hl o List.mem_cons_self))
    have := BS.own h (L := L) (fun x hx => hl x (List.mem_cons_of_mem _ hx)) b1
    rw [List.append_assoc] at this
    exact this
theorem run_keepT {c : Ev.Ctx} {f : Def} {ds es : List D} {S' : Store} (hl : ds.length = f.np) (hb : bds S.length es = false) (h : evSs c S.length f.body (startE f.nn ds) S = .rt (.tup es) S') : runDef c f ds S = .ok (.tup es) S' := by
  unfold runDef
  rw [if_pos hl, h]
  have hnb : D.bd S.length (.tup es) = false := by simpa using hb
  have e : gc (.tup es) S.length S' = (.tup es, S') := by
    unfold gc
    simp only [hnb, Bool.false_eq_true, if_false]
    split <;> rfl
  show gcR S (.ok (.tup es) S') = _
  unfold gcR
  simp only [e]
theorem BS.cut {St : Store} (h : Bag 2 1 S) (b : BS S St) : BS S (St.take S.length) := by
  have f := b.fin h
  refine ⟨f.2.1.w, by rw [f.2.2]; exact Nat.le_refl _, ?_⟩
  obtain ⟨i, x, s, n, e⟩ := b.bag
  exact ⟨i, x, s, n, fun l hl => by rw [List.getElem?_take_of_lt hl]; exact e l hl⟩


/-- what are no values, made of values -/
inductive OddV (rows : List Row) (left : List Nat) (S : Store) : D → Prop
  | non : OddV rows left S .non
  | nil : OddV rows left S (.tup [])
  | lst {l : Nat} {ds : List D} : S[l]? = some (.lst ds) → OddV rows left S (.loc l)
  | lrow {l : Nat} {ds : List D} : S[l]? = some (.lst ds) → OddV rows left S (.tup [.loc l, .tup (nD left)])
  | lleft {l : Nat} {ds : List D} : S[l]? = some (.lst ds) → OddV rows left S (.tup [.tup (rows.map Row.d), .loc l])
  | rows : OddV rows left S (.tup (rows.map Row.d))
  | three : OddV rows left S (.tup [.tup (rows.map Row.d), .tup (nD left), .int 0])
  | left {d : D} : (d = .int ((rows.length : Nat) : Int) ∨ d = .int (-1)) → OddV rows left S (.tup [.tup (rows.map Row.d), .tup (nD left ++ [d])])
  | flag : OddV rows left S (.tup [.tup (rows.map Row.d), .tup [.bl true]])
  | row {xs : List D} : (∀ (i : Nat) (x : D), xs[i]? = some x → OddVRow (rows.length + i) x) → xs ≠ [] → xs.length ≤ 2 → OddV rows left S (.tup [.tup (rows.map Row.d ++ xs), .tup (nD left)])
inductive Flat : D → Prop
  | int (i : Int) : Flat (.int i)
  | str (x : Str) : Flat (.str x)
theorem Row.ds_flat (r : Row) : ∀ d ∈ r.ds, Flat d := fun d hd => by
  cases r <;> simp [Row.ds] at hd <;> rcases hd with rfl | rfl | rfl <;> first | exact .str _ | exact .int _
theorem flat_vrow {d : D} (h : Flat d) (n : Nat) (hS : wf S) : (cxK md.P (k + 3)).call "is_value_row" [d, .int ((n : Nat) : Int)] S = .ok (.bl false) S := by
  rw [call_eq df_is_value_row]
  refine run_same rfl hS rfl ?_
  cases h <;> simp [b_is_value_row, startE, setR, parR, parE, asgT, asgTs, asgsR, bindT, bindTs, wipeE, bt_tuple]
theorem oddv_ok {wide : Nat} {rows : List Row} {left : List Nat} {d : D} (hlow : lows rows) (hinn : innFirst wide rows) (hlt : ∀ a ∈ left, a < rows.length) (hlen : rows.length ≤ 190) (hfew : left.length ≤ 1000) (h : OddV rows left S d) (hS : wf S) : (cxK md.P (k + 4)).call "are_values" [d] S = .ok (.bl false) S := by
  have w1 : ∀ (q u : List D) (e : Option D), walkT (turnC (cxK md.P (k + 3)) [1] (.name 1) (fun _ S => .ok true S) (.blt .isi (.cons (.var 1) (.cons (.bty "tuple") .nil))) [e, none, none, none, none, none, none]) [.tup q, .tup u] [] S = .ok [.bl true, .bl true] S := fun q u e => by
    simp [walkT, turnC, startE, setR, parR, parE, asgT, asgTs, asgsR, bindT, bindTs, wipeE, bt_tuple, LIM]
  have al2 : bllD .all [.bl true, .bl true] S = .ok (.bl true) S := all_true 2
  cases h with
  | non =>
    rw [call_eq df_are_values]
    refine run_same rfl hS rfl ?_
    simp [b_are_values, startE, setR, parR, parE, asgT, asgTs, asgsR, bindT, bindTs, wipeE, bt_tuple, isiB_nt]
  | nil =>
    rw [call_eq df_are_values]
    refine run_same rfl hS rfl ?_
    simp [b_are_values, startE, setR, parR, parE, asgT, asgTs, asgsR, bindT, bindTs, wipeE, bt_tuple]
  | lst hl =>
    rw [call_eq df_are_values]
    refine run_same rfl hS rfl ?_
    have il := isi_loc (u := "tuple") hl
    simp [b_are_values, startE, setR, parR, parE, asgT, asgTs, asgsR, bindT, bindTs, wipeE, bt_tuple, il, isiB_lt]
  | @lrow l ds hl =>
    rw [call_eq df_are_values]
    refine run_same rfl hS rfl ?_
    have il := isi_loc (u := "tuple") hl
    have w : ∀ (u : List D) (e : Option D), walkT (turnC (cxK md.P (k + 3)) [1] (.name 1) (fun _ S => .ok true S) (.blt .isi (.cons (.var 1) (.cons (.bty "tuple") .nil))) [e, none, none, none, none, none, none]) [.loc l, .tup u] [] S = .ok [.bl false, .bl true] S := fun u e => by
      simp [walkT, turnC, startE, setR, parR, parE, asgT, asgTs, asgsR, bindT, bindTs, wipeE, bt_tuple, il, isiB_lt, LIM]
    have al : bllD .all [.bl false, .bl true] S = .ok (.bl false) S := rfl
    generalize nD left = q at *
    simp [b_are_values, startE, setR, parR, parE, asgT, asgTs, asgsR, bindT, bindTs, wipeE, bt_tuple, w, al]
  | @lleft l ds hl =>
    rw [call_eq df_are_values]
    refine run_same rfl hS rfl ?_
    have il := isi_loc (u := "tuple") hl
    have w : ∀ (u : List D) (e : Option D), walkT (turnC (cxK md.P (k + 3)) [1] (.name 1) (fun _ S => .ok true S) (.blt .isi (.cons (.var 1) (.cons (.bty "tuple") .nil))) [e, none, none, none, none, none, none]) [.tup u, .loc l] [] S = .ok [.bl true, .bl false] S := fun u e => by
      simp [walkT, turnC, startE, setR, parR, parE, asgT, asgTs, asgsR, bindT, bindTs, wipeE, bt_tuple, il, isiB_lt, LIM]
    have al : bllD .all [.bl true, .bl false] S = .ok (.bl false) S := rfl
    generalize rows.map Row.d = q at *
    simp [b_are_values, startE, setR, parR, parE, asgT, asgTs, asgsR, bindT, bindTs, wipeE, bt_tuple, w, al]
  | rows =>
    rw [call_eq df_are_values]
    refine run_same rfl hS rfl ?_
    by_cases h2 : rows.length = 2
    · obtain ⟨r0, r1, rfl⟩ : ∃ r0 r1, rows = [r0, r1] := by
        match rows, h2 with
        | [a, b], _ => exact ⟨a, b, rfl⟩
      have e : [r0, r1].map Row.d = [.tup r0.ds, .tup r1.ds] := by rw [List.map_cons, List.map_cons, List.map_nil, Row.d_ds, Row.d_ds]
      rw [e]
      have w2 := walkT_mapS (S := S) (f := turnC (cxK md.P (k + 3)) [4, 5] (.tup (.cons (.name 4) (.cons (.name 5) .nil))) (fun _ S => .ok true S) (.call "is_value_row" (.cons (.var 5) (.cons (.var 4) .nil))) [some (.tup [.tup r0.ds, .tup r1.ds]), none, some (.tup r0.ds), some (.tup r1.ds), none, none, none]) (h := fun p : D × Nat => .tup [.int ((p.2 : Nat) : Int), p.1]) (g := fun p => D.bl ((fun _ => false) p)) (r0.ds.zipIdx 0) (fun p hp acc ha => by
        obtain ⟨x, j⟩ := p
        have hj := List.mem_zipIdx_iff_getElem?.mp hp
        have o := flat_vrow (k := k) (Row.ds_flat r0 x (List.mem_of_getElem? hj)) j hS
        generalize r0.ds = q at *
        generalize r1.ds = q2 at *
        simp [turnC, startE, setR, parR, parE, asgT, asgTs, asgsR, bindT, bindTs, wipeE, df_is_value_row, o, ha]) [] (by cases r0 <;> simp [Row.ds, LIM])
      have en := enumL_map (fun d : D => d) r0.ds 0
      rw [List.map_id'] at en
      rw [List.nil_append, ← en] at w2
      have ab := all_bl (S := S) (r0.ds.zipIdx 0) (fun _ => false)
      have fl : (r0.ds.zipIdx 0).all (fun _ => false) = false := by cases r0 <;> rfl
      rw [fl] at ab
      have few : ¬ (200 : Int) < (r0.ds.length : Int) := by cases r0 <;> simp [Row.ds]
      have few2 : ¬ 200 < r0.ds.length := by omega
      generalize (r0.ds.zipIdx 0).map (fun p => D.bl ((fun _ => false) p)) = bs at *
      generalize r0.ds = q at *
      generalize r1.ds = q2 at *
      simp [b_are_values, startE, setR, parR, parE, asgT, asgTs, asgsR, bindT, bindTs, wipeE, bt_tuple, gl_MOST_VALUES, w1, al2, w2, ab, few, few2]
    · have h2' : ¬ (rows.map Row.d).length = 2 := by rw [List.length_map]; exact h2
      have h2'' : ¬ ((rows.map Row.d).length : Int) = 2 := by omega
      generalize rows.map Row.d = q at *
      simp [b_are_values, startE, setR, parR, parE, asgT, asgTs, asgsR, bindT, bindTs, wipeE, bt_tuple, h2', h2'']
  | three =>
    rw [call_eq df_are_values]
    refine run_same rfl hS rfl ?_
    generalize rows.map Row.d = q at *
    generalize nD left = q2 at *
    simp [b_are_values, startE, setR, parR, parE, asgT, asgTs, asgsR, bindT, bindTs, wipeE, bt_tuple]
  | @left d hd =>
    have av := av_left (k := k) hlow hinn (by omega) (nD left ++ [d]) (fun x => match x with | .int i => decide (0 ≤ i) && decide (i ≤ ((rows.map Row.d).length : Int) - 1) | _ => false) (by simp [nD]; omega) (fun x hx => by
      obtain ⟨i, rfl⟩ : ∃ i, x = .int i := by
        rcases List.mem_append.mp hx with h | h
        · obtain ⟨a, _, rfl⟩ := List.mem_map.mp h
          exact ⟨_, rfl⟩
        · rw [List.mem_singleton.mp h]
          rcases hd with rfl | rfl <;> exact ⟨_, rfl⟩
      exact is_within_int (k := k + 1) i 0 (((rows.map Row.d).length : Int) - 1) hS) hS
    rw [av]
    have : ((nD left ++ [d]).all fun x => match x with | .int i => decide (0 ≤ i) && decide (i ≤ ((rows.map Row.d).length : Int) - 1) | _ => false) = false := by
      rw [List.all_eq_false]
      refine ⟨d, by simp, ?_⟩
      rcases hd with rfl | rfl
      · simp
        try omega
      · simp
    rw [this]
  | flag =>
    have av := av_left (k := k) hlow hinn (by omega) [.bl true] (fun _ => false) (by decide) (fun x hx => by
      rw [List.mem_singleton.mp hx]
      exact is_within_no (k := k + 1) (NoInt.bl true) 0 (((rows.map Row.d).length : Int) - 1) hS) hS
    exact av
  | row hx h0 h2 => exact av_rows (wide := 0) (k := k) hlow (by omega) _ hx h0 h2 _ hS
theorem df_run_values : md.P.defs "run_values" = some ⟨2, 8, b_run_values⟩ := by rfl
theorem oddv_check {wide : Nat} {rows : List Row} {left : List Nat} {d : D} (hlow : lows rows) (hinn : innFirst wide rows) (hlt : ∀ a ∈ left, a < rows.length) (hlen : rows.length ≤ 190) (hfew : left.length ≤ 1000) (h : OddV rows left S d) (hS : wf S) : (cxK md.P (k + 5)).call "check_values" [d] S = .exc ⟨"NoValues", []⟩ S := by
  rw [call_eq df_check_values]
  have o := oddv_ok (k := k) hlow hinn hlt hlen hfew h hS
  refine run_exc (env := [some d]) rfl ?_
  simp [b_check_values, startE, setR, parR, parE, asgT, asgTs, asgsR, bindT, bindTs, wipeE, df_are_values, o, xc_NoValues]
theorem oddv_used {wide : Nat} {rows : List Row} {left : List Nat} {d : D} (hlow : lows rows) (hinn : innFirst wide rows) (hlt : ∀ a ∈ left, a < rows.length) (hlen : rows.length ≤ 190) (hfew : left.length ≤ 1000) (h : OddV rows left S d) (hS : wf S) : (cxK md.P (k + 6)).call "used_values" [d] S = .exc ⟨"NoValues", []⟩ S := by
  rw [call_eq df_used_values]
  have o := oddv_check (k := k) hlow hinn hlt hlen hfew h hS
  refine run_exc (env := [some d, none, none, none, none, none, none, none, none]) rfl ?_
  simp [b_used_values, startE, setR, parR, parE, asgT, asgTs, asgsR, bindT, bindTs, wipeE, df_check_values, o]
theorem oddv_run {wide : Nat} {rows : List Row} {left : List Nat} {d : D} (hlow : lows rows) (hinn : innFirst wide rows) (hlt : ∀ a ∈ left, a < rows.length) (hlen : rows.length ≤ 190) (hfew : left.length ≤ 1000) (h : OddV rows left S d) (hS : wf S) (pd : D) : (cxK md.P (k + 6)).call "run_values" [d, pd] S = .exc ⟨"NoValues", []⟩ S := by
  rw [call_eq df_run_values]
  have o := oddv_check (k := k) hlow hinn hlt hlen hfew h hS
  refine run_exc (env := [some d, some pd, none, none, none, none, none, none]) rfl ?_
  simp [b_run_values, startE, setR, parR, parE, asgT, asgTs, asgsR, bindT, bindTs, wipeE, df_check_values, o]
/-- piles that are none are refused -/
theorem pile_run {wide : Nat} {rows : List Row} {left : List Nat} {d : D} (t : Told wide rows left) (h : OddPile wide S d) (hS : wf S) : (cxK md.P (k + 6)).call "run_values" [vD rows left, d] S = .exc ⟨"NoPile", []⟩ S := by
  rw [call_eq df_run_values]
  have cv := check_values_ok (k := k) t hS
  have wo := wide_of_ok (k := k + 4) t.inn t.len hS
  have np := no_pile (k := k + 3) h hS
  have as2 : ∀ (c : Ev.Ctx) (env : EnvD) (St : Store), asgsR c [.name 2, .name 3] env (vD rows left) St = asgTs c [.name 2, .name 3] [.tup (rows.map Row.d), .tup (nD left)] env St := fun _ _ _ => rfl
  refine run_exc (env := [some (vD rows left), some d, some (.tup (rows.map Row.d)), some (.tup (nD left)), none, none, none, none]) rfl ?_
  generalize rows.map Row.d = q at *
  generalize nD left = q2 at *
  generalize vD rows left = v at *
  simp [b_run_values, startE, setR, parR, parE, asgT, asgTs, bindT, bindTs, wipeE, df_check_values, cv, as2, df_wide_of, wo, df_check_integers, np]
end
end K84
end

section
set_option Elab.async false
set_option linter.all false
set_option maxRecDepth 100000
set_option maxHeartbeats 2000000
set_option autoImplicit false
namespace K84
open PySem Ev
section
variable {k bz : Nat} {S : Store}
theorem spoiled_ok {rows : List Row} {left : List Nat} (hr0 : 0 < rows.length) (hlen : rows.length ≤ 190) (hfew : left.length ≤ 1000) (h : Bag 2 1 S) : ∃ d S', (cxK md.P (k + 3)).call "_law_spoiled" [.loc 2, vD rows left] S = .ok d S' ∧ BS S S' ∧ OddV rows left S' d := by
  rw [call_eq df__law_spoiled]
  have h2 := h.bl
  have hv : vD rows left = .tup [.tup (rows.map Row.d), .tup (nD left)] := rfl
  rw [hv]
  have hq1 : (rows.map Row.d).length = rows.length := List.length_map ..
  have hq2 : (nD left).length = left.length := by simp [nD]
  have hb1 := fun n => bds_rows rows n
  have hb2 := fun n => bds_nD (n := n) left
  have o1 : ∀ {S' : Store} {d : D}, (d = .int ((rows.length : Nat) : Int) ∨ d = .int (-1)) → OddV rows left S' (.tup [.tup (rows.map Row.d), .tup (nD left ++ [d])]) := fun {S' d} h => .left h
  have o2 : ∀ {S' : Store} {x : D}, OddVRow rows.length x → OddV rows left S' (.tup [.tup (rows.map Row.d ++ [x]), .tup (nD left)]) := fun {S' x} h => .row (fun i y hy => by
    match i, hy with
    | 0, hy => cases hy; exact h
    | n + 1, hy => simp at hy) (by simp) (by simp)
  have o3 : ∀ {S' : Store}, OddV rows left S' (.tup [.tup (rows.map Row.d ++ [.tup [.str "in", .int 0], .tup [.str "in", .int 0]]), .tup (nD left)]) := fun {S'} => .row (fun i y hy => by
    match i, hy with
    | 0, hy => cases hy; exact .inn (by omega)
    | 1, hy => cases hy; exact .inn (by omega)
    | n + 2, hy => simp at hy) (by simp) (by simp)
  have o4 : ∀ {S' : Store}, OddV rows left S' (.tup [.tup (rows.map Row.d), .tup [.bl true]]) := fun {S'} => .flag
  have o5 : ∀ {S' : Store}, OddV rows left S' (.tup [.tup (rows.map Row.d), .tup (nD left), .int 0]) := fun {S'} => .three
  have o6 : ∀ {S' : Store}, OddV rows left S' (.tup (rows.map Row.d)) := fun {S'} => .rows
  have o7 : ∀ {S' : Store} {l : Nat} {ds : List D}, S'[l]? = some (.lst ds) → OddV rows left S' (.tup [.tup (rows.map Row.d), .loc l]) := fun {S' l ds} h => .lleft h
  have o8 : ∀ {S' : Store} {l : Nat} {ds : List D}, S'[l]? = some (.lst ds) → OddV rows left S' (.tup [.loc l, .tup (nD left)]) := fun {S' l ds} h => .lrow h
  have ha : OddVRow rows.length (.tup [.str "neg", .int (((rows.map Row.d).length : Nat) : Int)]) := .ahead (by rw [List.length_map]; exact Nat.le_refl _)
  have hn : (D.int (((rows.map Row.d).length : Nat) : Int) = .int ((rows.length : Nat) : Int) ∨ D.int (((rows.map Row.d).length : Nat) : Int) = .int (-1)) := .inl (by rw [hq1])
  generalize rows.map Row.d = q1 at *
  generalize nD left = q2 at *
  have c2 : ∀ (x : D) (St : Store), binD .add (.tup q1) (.tup [x]) St = .ok (.tup (q1 ++ [x])) St := fun x St => bin_tup (by simp [LIM]; omega)
  have c2' : ∀ (x y : D) (St : Store), binD .add (.tup q1) (.tup [x, y]) St = .ok (.tup (q1 ++ [x, y])) St := fun x y St => bin_tup (by simp [LIM]; omega)
  have c3 : ∀ (x : D) (St : Store), binD .add (.tup q2) (.tup [x]) St = .ok (.tup (q2 ++ [x])) St := fun x St => bin_tup (by simp [LIM]; omega)
  have d7 : ∀ (a b c d e f g : D) (St : Store), disR [a, b, c, d, e, f, g] St = .ok [a, b, c, d, e, f, g] St := fun _ _ _ _ _ _ _ _ => rfl
  have d4 : ∀ (a b c d : D) (St : Store), disR [a, b, c, d] St = .ok [a, b, c, d] St := fun _ _ _ _ _ => rfl
  have wk : ∀ env : EnvD, env = [some (.loc 2), some (.tup [.tup q1, .tup q2]), some (.tup q1), some (.tup q2), some (.loc (S.length + 5)), some (.loc (S.length + 6)), none] → walkL (turnC (cxK md.P (k + 2)) [6] (.name 6) (fun _ S => .ok true S) (.tup (.cons (.bin .add (.var 2) (.tup (.cons (.var 6) .nil))) (.cons (.var 3) .nil))) env) (S.length + 6) LIM 0 [] (S ++ [Ob.lst [.tup q1, .tup q2], Ob.lst q1, Ob.lst q2, Ob.lst [.non, .tup [], .loc S.length, .tup [.loc (S.length + 1), .tup q2], .tup [.tup q1, .loc (S.length + 2)], .tup q1, .tup [.tup q1, .tup q2, .int 0]], Ob.lst [.tup [.tup q1, .tup (q2 ++ [.int ((q1.length : Nat) : Int)])], .tup [.tup q1, .tup (q2 ++ [.int (-1)])], .tup [.tup q1, .tup [.bl true]], .tup [.tup (q1 ++ [.str "neg"]), .tup q2]], Ob.lst [.non, .tup [], .loc S.length, .tup [.loc (S.length + 1), .tup q2], .tup [.tup q1, .loc (S.length + 2)], .tup q1, .tup [.tup q1, .tup q2, .int 0], .tup [.tup q1, .tup (q2 ++ [.int ((q1.length : Nat) : Int)])], .tup [.tup q1, .tup (q2 ++ [.int (-1)])], .tup [.tup q1, .tup [.bl true]], .tup [.tup (q1 ++ [.str "neg"]), .tup q2]], Ob.lst [.tup [.str "out", .int 0], .tup [.str "neg", .int ((q1.length : Nat) : Int)], .tup [.str "add", .int 0], .tup [.str "neg", .tup [.int 0]], .tup [.str "neg", .bl true], .tup [.str "int", .bl true], .tup [.str "int", .str "1"]]]) = .ok [.tup [.tup (q1 ++ [.tup [.str "out", .int 0]]), .tup q2], .tup [.tup (q1 ++ [.tup [.str "neg", .int ((q1.length : Nat) : Int)]]), .tup q2], .tup [.tup (q1 ++ [.tup [.str "add", .int 0]]), .tup q2], .tup [.tup (q1 ++ [.tup [.str "neg", .tup [.int 0]]]), .tup q2], .tup [.tup (q1 ++ [.tup [.str "neg", .bl true]]), .tup q2], .tup [.tup (q1 ++ [.tup [.str "int", .bl true]]), .tup q2], .tup [.tup (q1 ++ [.tup [.str "int", .str "1"]]), .tup q2]] (S ++ [Ob.lst [.tup q1, .tup q2], Ob.lst q1, Ob.lst q2, Ob.lst [.non, .tup [], .loc S.length, .tup [.loc (S.length + 1), .tup q2], .tup [.tup q1, .loc (S.length + 2)], .tup q1, .tup [.tup q1, .tup q2, .int 0]], Ob.lst [.tup [.tup q1, .tup (q2 ++ [.int ((q1.length : Nat) : Int)])], .tup [.tup q1, .tup (q2 ++ [.int (-1)])], .tup [.tup q1, .tup [.bl true]], .tup [.tup (q1 ++ [.str "neg"]), .tup q2]], Ob.lst [.non, .tup [], .loc S.length, .tup [.loc (S.length + 1), .tup q2], .tup [.tup q1, .loc (S.length + 2)], .tup q1, .tup [.tup q1, .tup q2, .int 0], .tup [.tup q1, .tup (q2 ++ [.int ((q1.length : Nat) : Int)])], .tup [.tup q1, .tup (q2 ++ [.int (-1)])], .tup [.tup q1, .tup [.bl true]], .tup [.tup (q1 ++ [.str "neg"]), .tup q2]], Ob.lst [.tup [.str "out", .int 0], .tup [.str "neg", .int ((q1.length : Nat) : Int)], .tup [.str "add", .int 0], .tup [.str "neg", .tup [.int 0]], .tup [.str "neg", .bl true], .tup [.str "int", .bl true], .tup [.str "int", .str "1"]]]) := fun env he => by
    have := walkL_own (l := S.length + 6) (xs := [.tup [.str "out", .int 0], .tup [.str "neg", .int ((q1.length : Nat) : Int)], .tup [.str "add", .int 0], .tup [.str "neg", .tup [.int 0]], .tup [.str "neg", .bl true], .tup [.str "int", .bl true], .tup [.str "int", .str "1"]]) (S := S ++ [Ob.lst [.tup q1, .tup q2], Ob.lst q1, Ob.lst q2, Ob.lst [.non, .tup [], .loc S.length, .tup [.loc (S.length + 1), .tup q2], .tup [.tup q1, .loc (S.length + 2)], .tup q1, .tup [.tup q1, .tup q2, .int 0]], Ob.lst [.tup [.tup q1, .tup (q2 ++ [.int ((q1.length : Nat) : Int)])], .tup [.tup q1, .tup (q2 ++ [.int (-1)])], .tup [.tup q1, .tup [.bl true]], .tup [.tup (q1 ++ [.str "neg"]), .tup q2]], Ob.lst [.non, .tup [], .loc S.length, .tup [.loc (S.length + 1), .tup q2], .tup [.tup q1, .loc (S.length + 2)], .tup q1, .tup [.tup q1, .tup q2, .int 0], .tup [.tup q1, .tup (q2 ++ [.int ((q1.length : Nat) : Int)])], .tup [.tup q1, .tup (q2 ++ [.int (-1)])], .tup [.tup q1, .tup [.bl true]], .tup [.tup (q1 ++ [.str "neg"]), .tup q2]], Ob.lst [.tup [.str "out", .int 0], .tup [.str "neg", .int ((q1.length : Nat) : Int)], .tup [.str "add", .int 0], .tup [.str "neg", .tup [.int 0]], .tup [.str "neg", .bl true], .tup [.str "int", .bl true], .tup [.str "int", .str "1"]]]) (f := turnC (cxK md.P (k + 2)) [6] (.name 6) (fun _ S => .ok true S) (.tup (.cons (.bin .add (.var 2) (.tup (.cons (.var 6) .nil))) (.cons (.var 3) .nil))) env) (g := fun d => .tup [.tup (q1 ++ [d]), .tup q2]) (by rw [own_at]; rfl) (fun d hd acc hacc => by
      subst he
      simp [turnC, startE, setR, parR, parE, asgT, asgTs, asgsR, bindT, bindTs, wipeE, c2, hacc]) (by simp [LIM])
    exact this
  have wk := wk _ rfl
  have fl : ∀ o ∈ [Ob.lst [.tup q1, .tup q2], Ob.lst q1, Ob.lst q2, Ob.lst [.non, .tup [], .loc S.length, .tup [.loc (S.length + 1), .tup q2], .tup [.tup q1, .loc (S.length + 2)], .tup q1, .tup [.tup q1, .tup q2, .int 0]], Ob.lst [.tup [.tup q1, .tup (q2 ++ [.int ((q1.length : Nat) : Int)])], .tup [.tup q1, .tup (q2 ++ [.int (-1)])], .tup [.tup q1, .tup [.bl true]], .tup [.tup (q1 ++ [.str "neg"]), .tup q2]], Ob.lst [.non, .tup [], .loc S.length, .tup [.loc (S.length + 1), .tup q2], .tup [.tup q1, .loc (S.length + 2)], .tup q1, .tup [.tup q1, .tup q2, .int 0], .tup [.tup q1, .tup (q2 ++ [.int ((q1.length : Nat) : Int)])], .tup [.tup q1, .tup (q2 ++ [.int (-1)])], .tup [.tup q1, .tup [.bl true]], .tup [.tup (q1 ++ [.str "neg"]), .tup q2]], Ob.lst [.tup [.str "out", .int 0], .tup [.str "neg", .int ((q1.length : Nat) : Int)], .tup [.str "add", .int 0], .tup [.str "neg", .tup [.int 0]], .tup [.str "neg", .bl true], .tup [.str "int", .bl true], .tup [.str "int", .str "1"]], Ob.lst [.tup [.tup (q1 ++ [.tup [.str "out", .int 0]]), .tup q2], .tup [.tup (q1 ++ [.tup [.str "neg", .int ((q1.length : Nat) : Int)]]), .tup q2], .tup [.tup (q1 ++ [.tup [.str "add", .int 0]]), .tup q2], .tup [.tup (q1 ++ [.tup [.str "neg", .tup [.int 0]]]), .tup q2], .tup [.tup (q1 ++ [.tup [.str "neg", .bl true]]), .tup q2], .tup [.tup (q1 ++ [.tup [.str "int", .bl true]]), .tup q2], .tup [.tup (q1 ++ [.tup [.str "int", .str "1"]]), .tup q2]], Ob.lst [.non, .tup [], .loc S.length, .tup [.loc (S.length + 1), .tup q2], .tup [.tup q1, .loc (S.length + 2)], .tup q1, .tup [.tup q1, .tup q2, .int 0], .tup [.tup q1, .tup (q2 ++ [.int ((q1.length : Nat) : Int)])], .tup [.tup q1, .tup (q2 ++ [.int (-1)])], .tup [.tup q1, .tup [.bl true]], .tup [.tup (q1 ++ [.str "neg"]), .tup q2], .tup [.tup (q1 ++ [.tup [.str "out", .int 0]]), .tup q2], .tup [.tup (q1 ++ [.tup [.str "neg", .int ((q1.length : Nat) : Int)]]), .tup q2], .tup [.tup (q1 ++ [.tup [.str "add", .int 0]]), .tup q2], .tup [.tup (q1 ++ [.tup [.str "neg", .tup [.int 0]]]), .tup q2], .tup [.tup (q1 ++ [.tup [.str "neg", .bl true]]), .tup q2], .tup [.tup (q1 ++ [.tup [.str "int", .bl true]]), .tup q2], .tup [.tup (q1 ++ [.tup [.str "int", .str "1"]]), .tup q2]], Ob.lst [.tup [.tup (q1 ++ [.tup [.str "in", .int 0], .tup [.str "in", .int 0]]), .tup q2]], Ob.lst [.non, .tup [], .loc S.length, .tup [.loc (S.length + 1), .tup q2], .tup [.tup q1, .loc (S.length + 2)], .tup q1, .tup [.tup q1, .tup q2, .int 0], .tup [.tup q1, .tup (q2 ++ [.int ((q1.length : Nat) : Int)])], .tup [.tup q1, .tup (q2 ++ [.int (-1)])], .tup [.tup q1, .tup [.bl true]], .tup [.tup (q1 ++ [.str "neg"]), .tup q2], .tup [.tup (q1 ++ [.tup [.str "out", .int 0]]), .tup q2], .tup [.tup (q1 ++ [.tup [.str "neg", .int ((q1.length : Nat) : Int)]]), .tup q2], .tup [.tup (q1 ++ [.tup [.str "add", .int 0]]), .tup q2], .tup [.tup (q1 ++ [.tup [.str "neg", .tup [.int 0]]]), .tup q2], .tup [.tup (q1 ++ [.tup [.str "neg", .bl true]]), .tup q2], .tup [.tup (q1 ++ [.tup [.str "int", .bl true]]), .tup q2], .tup [.tup (q1 ++ [.tup [.str "int", .str "1"]]), .tup q2], .tup [.tup (q1 ++ [.tup [.str "in", .int 0], .tup [.str "in", .int 0]]), .tup q2]]], o.bd (S.length + 11) = true := fun o ho => by
    simp only [List.mem_cons, List.not_mem_nil, or_false] at ho
    rcases ho with rfl | rfl | rfl | rfl | rfl | rfl | rfl | rfl | rfl | rfl | rfl <;> simp [hb1, hb2, bds_append]
  have wfA : wf (S ++ [Ob.lst [.tup q1, .tup q2], Ob.lst q1, Ob.lst q2, Ob.lst [.non, .tup [], .loc S.length, .tup [.loc (S.length + 1), .tup q2], .tup [.tup q1, .loc (S.length + 2)], .tup q1, .tup [.tup q1, .tup q2, .int 0]], Ob.lst [.tup [.tup q1, .tup (q2 ++ [.int ((q1.length : Nat) : Int)])], .tup [.tup q1, .tup (q2 ++ [.int (-1)])], .tup [.tup q1, .tup [.bl true]], .tup [.tup (q1 ++ [.str "neg"]), .tup q2]], Ob.lst [.non, .tup [], .loc S.length, .tup [.loc (S.length + 1), .tup q2], .tup [.tup q1, .loc (S.length + 2)], .tup q1, .tup [.tup q1, .tup q2, .int 0], .tup [.tup q1, .tup (q2 ++ [.int ((q1.length : Nat) : Int)])], .tup [.tup q1, .tup (q2 ++ [.int (-1)])], .tup [.tup q1, .tup [.bl true]], .tup [.tup (q1 ++ [.str "neg"]), .tup q2]], Ob.lst [.tup [.str "out", .int 0], .tup [.str "neg", .int ((q1.length : Nat) : Int)], .tup [.str "add", .int 0], .tup [.str "neg", .tup [.int 0]], .tup [.str "neg", .bl true], .tup [.str "int", .bl true], .tup [.str "int", .str "1"]], Ob.lst [.tup [.tup (q1 ++ [.tup [.str "out", .int 0]]), .tup q2], .tup [.tup (q1 ++ [.tup [.str "neg", .int ((q1.length : Nat) : Int)]]), .tup q2], .tup [.tup (q1 ++ [.tup [.str "add", .int 0]]), .tup q2], .tup [.tup (q1 ++ [.tup [.str "neg", .tup [.int 0]]]), .tup q2], .tup [.tup (q1 ++ [.tup [.str "neg", .bl true]]), .tup q2], .tup [.tup (q1 ++ [.tup [.str "int", .bl true]]), .tup q2], .tup [.tup (q1 ++ [.tup [.str "int", .str "1"]]), .tup q2]], Ob.lst [.non, .tup [], .loc S.length, .tup [.loc (S.length + 1), .tup q2], .tup [.tup q1, .loc (S.length + 2)], .tup q1, .tup [.tup q1, .tup q2, .int 0], .tup [.tup q1, .tup (q2 ++ [.int ((q1.length : Nat) : Int)])], .tup [.tup q1, .tup (q2 ++ [.int (-1)])], .tup [.tup q1, .tup [.bl true]], .tup [.tup (q1 ++ [.str "neg"]), .tup q2], .tup [.tup (q1 ++ [.tup [.str "out", .int 0]]), .tup q2], .tup [.tup (q1 ++ [.tup [.str "neg", .int ((q1.length : Nat) : Int)]]), .tup q2], .tup [.tup (q1 ++ [.tup [.str "add", .int 0]]), .tup q2], .tup [.tup (q1 ++ [.tup [.str "neg", .tup [.int 0]]]), .tup q2], .tup [.tup (q1 ++ [.tup [.str "neg", .bl true]]), .tup q2], .tup [.tup (q1 ++ [.tup [.str "int", .bl true]]), .tup q2], .tup [.tup (q1 ++ [.tup [.str "int", .str "1"]]), .tup q2]], Ob.lst [.tup [.tup (q1 ++ [.tup [.str "in", .int 0], .tup [.str "in", .int 0]]), .tup q2]], Ob.lst [.non, .tup [], .loc S.length, .tup [.loc (S.length + 1), .tup q2], .tup [.tup q1, .loc (S.length + 2)], .tup q1, .tup [.tup q1, .tup q2, .int 0], .tup [.tup q1, .tup (q2 ++ [.int ((q1.length : Nat) : Int)])], .tup [.tup q1, .tup (q2 ++ [.int (-1)])], .tup [.tup q1, .tup [.bl true]], .tup [.tup (q1 ++ [.str "neg"]), .tup q2], .tup [.tup (q1 ++ [.tup [.str "out", .int 0]]), .tup q2], .tup [.tup (q1 ++ [.tup [.str "neg", .int ((q1.length : Nat) : Int)]]), .tup q2], .tup [.tup (q1 ++ [.tup [.str "add", .int 0]]), .tup q2], .tup [.tup (q1 ++ [.tup [.str "neg", .tup [.int 0]]]), .tup q2], .tup [.tup (q1 ++ [.tup [.str "neg", .bl true]]), .tup q2], .tup [.tup (q1 ++ [.tup [.str "int", .bl true]]), .tup q2], .tup [.tup (q1 ++ [.tup [.str "int", .str "1"]]), .tup q2], .tup [.tup (q1 ++ [.tup [.str "in", .int 0], .tup [.str "in", .int 0]]), .tup q2]]]) := by
    unfold wf
    rw [List.all_append, Bool.and_eq_true]
    refine ⟨List.all_eq_true.mpr fun x hx => Ob.bd_mono (by simp) (List.all_eq_true.mp h.w x hx), List.all_eq_true.mpr fun x hx => ?_⟩
    rw [show (S ++ [Ob.lst [.tup q1, .tup q2], Ob.lst q1, Ob.lst q2, Ob.lst [.non, .tup [], .loc S.length, .tup [.loc (S.length + 1), .tup q2], .tup [.tup q1, .loc (S.length + 2)], .tup q1, .tup [.tup q1, .tup q2, .int 0]], Ob.lst [.tup [.tup q1, .tup (q2 ++ [.int ((q1.length : Nat) : Int)])], .tup [.tup q1, .tup (q2 ++ [.int (-1)])], .tup [.tup q1, .tup [.bl true]], .tup [.tup (q1 ++ [.str "neg"]), .tup q2]], Ob.lst [.non, .tup [], .loc S.length, .tup [.loc (S.length + 1), .tup q2], .tup [.tup q1, .loc (S.length + 2)], .tup q1, .tup [.tup q1, .tup q2, .int 0], .tup [.tup q1, .tup (q2 ++ [.int ((q1.length : Nat) : Int)])], .tup [.tup q1, .tup (q2 ++ [.int (-1)])], .tup [.tup q1, .tup [.bl true]], .tup [.tup (q1 ++ [.str "neg"]), .tup q2]], Ob.lst [.tup [.str "out", .int 0], .tup [.str "neg", .int ((q1.length : Nat) : Int)], .tup [.str "add", .int 0], .tup [.str "neg", .tup [.int 0]], .tup [.str "neg", .bl true], .tup [.str "int", .bl true], .tup [.str "int", .str "1"]], Ob.lst [.tup [.tup (q1 ++ [.tup [.str "out", .int 0]]), .tup q2], .tup [.tup (q1 ++ [.tup [.str "neg", .int ((q1.length : Nat) : Int)]]), .tup q2], .tup [.tup (q1 ++ [.tup [.str "add", .int 0]]), .tup q2], .tup [.tup (q1 ++ [.tup [.str "neg", .tup [.int 0]]]), .tup q2], .tup [.tup (q1 ++ [.tup [.str "neg", .bl true]]), .tup q2], .tup [.tup (q1 ++ [.tup [.str "int", .bl true]]), .tup q2], .tup [.tup (q1 ++ [.tup [.str "int", .str "1"]]), .tup q2]], Ob.lst [.non, .tup [], .loc S.length, .tup [.loc (S.length + 1), .tup q2], .tup [.tup q1, .loc (S.length + 2)], .tup q1, .tup [.tup q1, .tup q2, .int 0], .tup [.tup q1, .tup (q2 ++ [.int ((q1.length : Nat) : Int)])], .tup [.tup q1, .tup (q2 ++ [.int (-1)])], .tup [.tup q1, .tup [.bl true]], .tup [.tup (q1 ++ [.str "neg"]), .tup q2], .tup [.tup (q1 ++ [.tup [.str "out", .int 0]]), .tup q2], .tup [.tup (q1 ++ [.tup [.str "neg", .int ((q1.length : Nat) : Int)]]), .tup q2], .tup [.tup (q1 ++ [.tup [.str "add", .int 0]]), .tup q2], .tup [.tup (q1 ++ [.tup [.str "neg", .tup [.int 0]]]), .tup q2], .tup [.tup (q1 ++ [.tup [.str "neg", .bl true]]), .tup q2], .tup [.tup (q1 ++ [.tup [.str "int", .bl true]]), .tup q2], .tup [.tup (q1 ++ [.tup [.str "int", .str "1"]]), .tup q2]], Ob.lst [.tup [.tup (q1 ++ [.tup [.str "in", .int 0], .tup [.str "in", .int 0]]), .tup q2]], Ob.lst [.non, .tup [], .loc S.length, .tup [.loc (S.length + 1), .tup q2], .tup [.tup q1, .loc (S.length + 2)], .tup q1, .tup [.tup q1, .tup q2, .int 0], .tup [.tup q1, .tup (q2 ++ [.int ((q1.length : Nat) : Int)])], .tup [.tup q1, .tup (q2 ++ [.int (-1)])], .tup [.tup q1, .tup [.bl true]], .tup [.tup (q1 ++ [.str "neg"]), .tup q2], .tup [.tup (q1 ++ [.tup [.str "out", .int 0]]), .tup q2], .tup [.tup (q1 ++ [.tup [.str "neg", .int ((q1.length : Nat) : Int)]]), .tup q2], .tup [.tup (q1 ++ [.tup [.str "add", .int 0]]), .tup q2], .tup [.tup (q1 ++ [.tup [.str "neg", .tup [.int 0]]]), .tup q2], .tup [.tup (q1 ++ [.tup [.str "neg", .bl true]]), .tup q2], .tup [.tup (q1 ++ [.tup [.str "int", .bl true]]), .tup q2], .tup [.tup (q1 ++ [.tup [.str "int", .str "1"]]), .tup q2], .tup [.tup (q1 ++ [.tup [.str "in", .int 0], .tup [.str "in", .int 0]]), .tup q2]]]).length = S.length + 11 from by simp]
    exact fl x hx
  have bA : BS S (S ++ [Ob.lst [.tup q1, .tup q2], Ob.lst q1, Ob.lst q2, Ob.lst [.non, .tup [], .loc S.length, .tup [.loc (S.length + 1), .tup q2], .tup [.tup q1, .loc (S.length + 2)], .tup q1, .tup [.tup q1, .tup q2, .int 0]], Ob.lst [.tup [.tup q1, .tup (q2 ++ [.int ((q1.length : Nat) : Int)])], .tup [.tup q1, .tup (q2 ++ [.int (-1)])], .tup [.tup q1, .tup [.bl true]], .tup [.tup (q1 ++ [.str "neg"]), .tup q2]], Ob.lst [.non, .tup [], .loc S.length, .tup [.loc (S.length + 1), .tup q2], .tup [.tup q1, .loc (S.length + 2)], .tup q1, .tup [.tup q1, .tup q2, .int 0], .tup [.tup q1, .tup (q2 ++ [.int ((q1.length : Nat) : Int)])], .tup [.tup q1, .tup (q2 ++ [.int (-1)])], .tup [.tup q1, .tup [.bl true]], .tup [.tup (q1 ++ [.str "neg"]), .tup q2]], Ob.lst [.tup [.str "out", .int 0], .tup [.str "neg", .int ((q1.length : Nat) : Int)], .tup [.str "add", .int 0], .tup [.str "neg", .tup [.int 0]], .tup [.str "neg", .bl true], .tup [.str "int", .bl true], .tup [.str "int", .str "1"]], Ob.lst [.tup [.tup (q1 ++ [.tup [.str "out", .int 0]]), .tup q2], .tup [.tup (q1 ++ [.tup [.str "neg", .int ((q1.length : Nat) : Int)]]), .tup q2], .tup [.tup (q1 ++ [.tup [.str "add", .int 0]]), .tup q2], .tup [.tup (q1 ++ [.tup [.str "neg", .tup [.int 0]]]), .tup q2], .tup [.tup (q1 ++ [.tup [.str "neg", .bl true]]), .tup q2], .tup [.tup (q1 ++ [.tup [.str "int", .bl true]]), .tup q2], .tup [.tup (q1 ++ [.tup [.str "int", .str "1"]]), .tup q2]], Ob.lst [.non, .tup [], .loc S.length, .tup [.loc (S.length + 1), .tup q2], .tup [.tup q1, .loc (S.length + 2)], .tup q1, .tup [.tup q1, .tup q2, .int 0], .tup [.tup q1, .tup (q2 ++ [.int ((q1.length : Nat) : Int)])], .tup [.tup q1, .tup (q2 ++ [.int (-1)])], .tup [.tup q1, .tup [.bl true]], .tup [.tup (q1 ++ [.str "neg"]), .tup q2], .tup [.tup (q1 ++ [.tup [.str "out", .int 0]]), .tup q2], .tup [.tup (q1 ++ [.tup [.str "neg", .int ((q1.length : Nat) : Int)]]), .tup q2], .tup [.tup (q1 ++ [.tup [.str "add", .int 0]]), .tup q2], .tup [.tup (q1 ++ [.tup [.str "neg", .tup [.int 0]]]), .tup q2], .tup [.tup (q1 ++ [.tup [.str "neg", .bl true]]), .tup q2], .tup [.tup (q1 ++ [.tup [.str "int", .bl true]]), .tup q2], .tup [.tup (q1 ++ [.tup [.str "int", .str "1"]]), .tup q2]], Ob.lst [.tup [.tup (q1 ++ [.tup [.str "in", .int 0], .tup [.str "in", .int 0]]), .tup q2]], Ob.lst [.non, .tup [], .loc S.length, .tup [.loc (S.length + 1), .tup q2], .tup [.tup q1, .loc (S.length + 2)], .tup q1, .tup [.tup q1, .tup q2, .int 0], .tup [.tup q1, .tup (q2 ++ [.int ((q1.length : Nat) : Int)])], .tup [.tup q1, .tup (q2 ++ [.int (-1)])], .tup [.tup q1, .tup [.bl true]], .tup [.tup (q1 ++ [.str "neg"]), .tup q2], .tup [.tup (q1 ++ [.tup [.str "out", .int 0]]), .tup q2], .tup [.tup (q1 ++ [.tup [.str "neg", .int ((q1.length : Nat) : Int)]]), .tup q2], .tup [.tup (q1 ++ [.tup [.str "add", .int 0]]), .tup q2], .tup [.tup (q1 ++ [.tup [.str "neg", .tup [.int 0]]]), .tup q2], .tup [.tup (q1 ++ [.tup [.str "neg", .bl true]]), .tup q2], .tup [.tup (q1 ++ [.tup [.str "int", .bl true]]), .tup q2], .tup [.tup (q1 ++ [.tup [.str "int", .str "1"]]), .tup q2], .tup [.tup (q1 ++ [.tup [.str "in", .int 0], .tup [.str "in", .int 0]]), .tup q2]]]) := ⟨wfA, by simp, by
    obtain ⟨i, x, s, n, e⟩ := (BS.refl h).bag
    exact ⟨i, x, s, n, fun l hl => by rw [List.getElem?_append_left hl]; exact e l hl⟩⟩
  obtain ⟨d, hd, S', e, b, l', k'⟩ := some_BS (k := k) (t := S.length + 10) (ds := [.non, .tup [], .loc S.length, .tup [.loc (S.length + 1), .tup q2], .tup [.tup q1, .loc (S.length + 2)], .tup q1, .tup [.tup q1, .tup q2, .int 0], .tup [.tup q1, .tup (q2 ++ [.int ((q1.length : Nat) : Int)])], .tup [.tup q1, .tup (q2 ++ [.int (-1)])], .tup [.tup q1, .tup [.bl true]], .tup [.tup (q1 ++ [.str "neg"]), .tup q2], .tup [.tup (q1 ++ [.tup [.str "out", .int 0]]), .tup q2], .tup [.tup (q1 ++ [.tup [.str "neg", .int ((q1.length : Nat) : Int)]]), .tup q2], .tup [.tup (q1 ++ [.tup [.str "add", .int 0]]), .tup q2], .tup [.tup (q1 ++ [.tup [.str "neg", .tup [.int 0]]]), .tup q2], .tup [.tup (q1 ++ [.tup [.str "neg", .bl true]]), .tup q2], .tup [.tup (q1 ++ [.tup [.str "int", .bl true]]), .tup q2], .tup [.tup (q1 ++ [.tup [.str "int", .str "1"]]), .tup q2], .tup [.tup (q1 ++ [.tup [.str "in", .int 0], .tup [.str "in", .int 0]]), .tup q2]]) h bA (by rw [own_at]; rfl) (by omega) (by simp) (by simp)
  have run : evSs (cxK md.P (k + 2)) S.length b__law_spoiled (startE 7 [.loc 2, .tup [.tup q1, .tup q2]]) S = .rt d S' := by
    have l11 : 11 ≤ LIM := by decide
    have l18 : 18 ≤ LIM := by decide
    have l19 : 19 ≤ LIM := by decide
    simp [b__law_spoiled, startE, setR, parR, parE, asgT, asgTs, asgsR, bindT, bindTs, wipeE, d7, d4, c2, c2', c3, wk, df__law_some, e, l11, l18, l19]
  have fn := b.fin h
  have bc := BS.cut h b
  have low : ∀ {d : D}, evSs (cxK md.P (k + 2)) S.length b__law_spoiled (startE 7 [.loc 2, .tup [.tup q1, .tup q2]]) S = .rt d S' → d.bd S.length = true → OddV rows left (S'.take S.length) d → ∃ d S', runDef (cxK md.P (k + 2)) ⟨2, 7, b__law_spoiled⟩ [.loc 2, .tup [.tup q1, .tup q2]] S = .ok d S' ∧ BS S S' ∧ OddV rows left S' d := fun {d} hr hbd ho =>
    ⟨d, _, run_low (S' := S') rfl fn.1 hbd rfl hr, bc, ho⟩
  simp only [List.mem_cons, List.not_mem_nil, or_false] at hd
  rcases hd with rfl | rfl | rfl | rfl | rfl | rfl | rfl | rfl | rfl | rfl | rfl | rfl | rfl | rfl | rfl | rfl | rfl | rfl | rfl
  · exact low run rfl .non
  · exact low run rfl .nil
  · have e1 : S'[S.length]? = some (.lst [.tup q1, .tup q2]) := by rw [k' _ (by omega), own_at0]; rfl
    refine ⟨.loc S.length, _, run_newW (S' := S') rfl fn.1 rfl (Nat.le_refl _) e1 (by simp [hb1, hb2]) run, bc.add (by simp [hb1, hb2]), .lst (l := S.length) (ds := [.tup q1, .tup q2]) ?_⟩
    have := fn.2.2
    rw [List.getElem?_append_right (by omega)]
    simp [this]
  · have e1 : S'[S.length + 1]? = some (.lst q1) := by rw [k' _ (by omega), own_at]; rfl
    exact ⟨_, S', run_keepT rfl (by simp) run, b, o8 e1⟩
  · have e1 : S'[S.length + 2]? = some (.lst q2) := by rw [k' _ (by omega), own_at]; rfl
    exact ⟨_, S', run_keepT rfl (by simp) run, b, o7 e1⟩
  · exact low run (by simp [hb1, hb2]) o6
  · exact low run (by simp [hb1, hb2]) o5
  · exact low run (by simp [hb1, hb2, bds_append]) (o1 hn)
  · exact low run (by simp [hb1, hb2, bds_append]) (o1 (.inr rfl))
  · exact low run (by simp [hb1, hb2]) o4
  · exact low run (by simp [hb1, hb2, bds_append]) (o2 .str)
  · exact low run (by simp [hb1, hb2, bds_append]) (o2 .out)
  · exact low run (by simp [hb1, hb2, bds_append]) (o2 ha)
  · exact low run (by simp [hb1, hb2, bds_append]) (o2 .few)
  · exact low run (by simp [hb1, hb2, bds_append]) (o2 .deep)
  · exact low run (by simp [hb1, hb2, bds_append]) (o2 .bl)
  · exact low run (by simp [hb1, hb2, bds_append]) (o2 .ibl)
  · exact low run (by simp [hb1, hb2, bds_append]) (o2 .itx)
  · exact low run (by simp [hb1, hb2, bds_append]) o3
end
end K84
end

section
set_option Elab.async false
set_option linter.all false
set_option maxRecDepth 100000
set_option maxHeartbeats 1000000
set_option autoImplicit false
namespace K84
open PySem Ev
section
variable {k bz : Nat} {S : Store}
/-! ### what are no programs -/
inductive NoProg : D → Prop
  | bl : NoProg (.tup [.bl true])
  | call : NoProg (.tup [.str "call"])
  | mul : NoProg (.tup (List.replicate 7 (.str "mul")))
  | long : NoProg (.tup (List.replicate 61 (.int 1)))
  | zz : NoProg (.tup [.str "zz"])
  | quote : NoProg (.tup [.tup [.str "quote", .tup []]])
theorem no_words : (kdGet shN shD (Str.ofString "call")).isSome = false ∧ (kdGet shN shD (Str.ofString "zz")).isSome = false ∧ inDs (.str (Str.ofString "call")) sumsD = some false ∧ inDs (.str (Str.ofString "zz")) sumsD = some false := ⟨by kernel_rfl, by kernel_rfl, by kernel_rfl, by kernel_rfl⟩
theorem no_item {d : D} (h : d = .bl true ∨ d = .str "call" ∨ d = .str "zz" ∨ d = .tup [.str "quote", .tup []]) (hS : wf S) : (cxK md.P (k + 2)).call "is_straight_item" [d] S = .ok (.bl false) S := by
  rw [call_eq df_is_straight_item]
  refine run_same rfl hS rfl ?_
  obtain ⟨n1, n2, n3, n4⟩ := no_words
  rcases h with rfl | rfl | rfl | rfl
  · simp [b_is_straight_item, startE, setR, parR, parE, asgT, asgTs, asgsR, bindT, bindTs, wipeE, bt_str, df_is_integer, is_integer_no (k := k) (NoInt.bl true) hS]
  · simp [b_is_straight_item, startE, setR, parR, parE, asgT, asgTs, asgsR, bindT, bindTs, wipeE, bt_str, gl_SHUFFLES, gl_SUMS, n1, n3]
  · simp [b_is_straight_item, startE, setR, parR, parE, asgT, asgTs, asgsR, bindT, bindTs, wipeE, bt_str, gl_SHUFFLES, gl_SUMS, n2, n4]
  · simp [b_is_straight_item, startE, setR, parR, parE, asgT, asgTs, asgsR, bindT, bindTs, wipeE, bt_str, df_is_integer, is_integer_no (k := k) (NoInt.tup [.str "quote", .tup []]) hS]
theorem no_straight {d : D} (h : NoProg d) (hS : wf S) : (cxK md.P (k + 3)).call "is_straight" [d] S = .ok (.bl false) S := by
  rw [call_eq df_is_straight]
  refine run_same rfl hS rfl ?_
  have one : ∀ x : D, (x = .bl true ∨ x = .str "call" ∨ x = .str "zz" ∨ x = .tup [.str "quote", .tup []]) → evSs (cxK md.P (k + 2)) S.length b_is_straight (startE 2 [.tup [x]]) S = .rt (.bl false) S := fun x hx => by
    have o := no_item (k := k) hx hS
    have al : bllD .all [.bl false] S = .ok (.bl false) S := rfl
    have wk : ∀ e0 : Option D, walkT (turnC (cxK md.P (k + 2)) [1] (.name 1) (fun _ S => .ok true S) (.call "is_straight_item" (.cons (.var 1) .nil)) [e0, none]) [x] [] S = .ok [.bl false] S := fun e0 => by
      simp [walkT, turnC, startE, setR, parR, parE, asgT, asgTs, asgsR, bindT, bindTs, wipeE, df_is_straight_item, o, LIM]
    generalize hd : x = y at *
    simp [b_is_straight, startE, setR, parR, parE, asgT, asgTs, asgsR, bindT, bindTs, wipeE, bt_tuple, gl_MOST_ITEMS, wk, al]
  cases h with
  | bl => exact one _ (.inl rfl)
  | call => exact one _ (.inr (.inl rfl))
  | zz => exact one _ (.inr (.inr (.inl rfl)))
  | quote => exact one _ (.inr (.inr (.inr rfl)))
  | long =>
    have c1 : (60 : Int) < ((List.replicate 61 (D.int 1)).length : Int) := by rw [List.length_replicate]; omega
    have c2 : 60 < (List.replicate 61 (D.int 1)).length := by rw [List.length_replicate]; omega
    generalize List.replicate 61 (D.int 1) = q at *
    simp [b_is_straight, startE, setR, parR, parE, asgT, asgTs, asgsR, bindT, bindTs, wipeE, bt_tuple, gl_MOST_ITEMS, c1, c2]
  | mul =>
    have e : (List.replicate 7 (D.str "mul")) = (List.replicate 7 (It.w .mul)).map It.d := rfl
    rw [e]
    have w := walkT_all (S := S) (f := turnC (cxK md.P (k + 2)) [1] (.name 1) (fun _ S => .ok true S) (.call "is_straight_item" (.cons (.var 1) .nil)) [some (.tup ((List.replicate 7 (It.w .mul)).map It.d)), none]) (h := It.d) (List.replicate 7 (It.w .mul)) (fun x hx acc ha => by
      have hx := List.eq_of_mem_replicate hx
      subst hx
      simp [turnC, startE, setR, parR, parE, asgT, asgTs, asgsR, bindT, bindTs, wipeE, df_is_straight_item, is_straight_item_ok (k := k) (It.w .mul) trivial hS, ha]) (by decide)
    obtain ⟨acc, h1, h2⟩ := muls_walk (k := k + 2) (S := S) [some (.tup ((List.replicate 7 (It.w .mul)).map It.d)), none] rfl (List.replicate 7 (It.w .mul)) [] (by decide)
    rw [List.length_nil, Nat.zero_add] at h1
    have h1 : acc.length = 7 := h1
    have al := all_true (S := S) (List.replicate 7 (It.w .mul)).length
    have hq : ((List.replicate 7 (It.w .mul)).map It.d).length = 7 := rfl
    generalize (List.replicate 7 (It.w .mul)).map It.d = q at *
    generalize (List.replicate 7 (It.w .mul)).length = n at *
    simp [b_is_straight, startE, setR, parR, parE, asgT, asgTs, asgsR, bindT, bindTs, wipeE, bt_tuple, gl_MOST_ITEMS, gl_MOST_PRODUCTS, w, al, h2, h1, hq]
theorem no_check {d : D} (h : NoProg d) (hS : wf S) : (cxK md.P (k + 4)).call "check_straight" [d] S = .exc ⟨"NoStraight", []⟩ S := by
  rw [call_eq df_check_straight]
  have o := no_straight (k := k) h hS
  refine run_exc (env := [some d]) rfl ?_
  simp [b_check_straight, startE, setR, parR, parE, asgT, asgTs, asgsR, bindT, bindTs, wipeE, df_is_straight, o, xc_NoStraight]
theorem df_registers : md.P.defs "registers" = some ⟨1, 3, b_registers⟩ := by rfl
theorem df_repeats_many : md.P.defs "repeats_many" = some ⟨1, 4, b_repeats_many⟩ := by rfl
theorem no_values_of {d : D} (h : NoProg d) (hS : wf S) : (cxK md.P (k + 5)).call "values_of" [d] S = .exc ⟨"NoStraight", []⟩ S := by
  rw [call_eq df_values_of]
  have o := no_check (k := k) h hS
  refine run_exc (env := [some d]) rfl ?_
  simp [b_values_of, startE, setR, parR, parE, asgT, asgTs, asgsR, bindT, bindTs, wipeE, df_check_straight, o]
theorem no_registers_of {d : D} (h : NoProg d) (hS : wf S) : (cxK md.P (k + 5)).call "registers" [d] S = .exc ⟨"NoStraight", []⟩ S := by
  rw [call_eq df_registers]
  have o := no_check (k := k) h hS
  refine run_exc (env := [some d, none, none]) rfl ?_
  simp [b_registers, startE, setR, parR, parE, asgT, asgTs, asgsR, bindT, bindTs, wipeE, df_check_straight, o]
theorem no_repeats {d : D} (h : NoProg d) (hS : wf S) : (cxK md.P (k + 5)).call "repeats_many" [d] S = .exc ⟨"NoStraight", []⟩ S := by
  rw [call_eq df_repeats_many]
  have o := no_check (k := k) h hS
  refine run_exc (env := [some d, none, none, none]) rfl ?_
  simp [b_repeats_many, startE, setR, parR, parE, asgT, asgTs, asgsR, bindT, bindTs, wipeE, df_check_straight, o]
/-! ### the words for refusals -/
theorem wr_law : md.P.wrd "_law_word_of" = some ([("NoValues", ("values" : Str)), ("NoPile", ("pile" : Str)), ("NoStraight", ("straight" : Str))], ("told" : Str)) := by rfl
theorem word_values {b : EX} {env : EnvD} {St St' : Store} (h : evE (cxK md.P k) b env St = .exc ⟨"NoValues", []⟩ St') : (cxK md.P (k + 2)).lam "_law_word_of" b env St = .ok (.str "values") St' := by
  rw [lam_eq, h]; rfl
theorem word_pile {b : EX} {env : EnvD} {St St' : Store} (h : evE (cxK md.P k) b env St = .exc ⟨"NoPile", []⟩ St') : (cxK md.P (k + 2)).lam "_law_word_of" b env St = .ok (.str "pile") St' := by
  rw [lam_eq, h]; rfl
theorem word_straight {b : EX} {env : EnvD} {St St' : Store} (h : evE (cxK md.P k) b env St = .exc ⟨"NoStraight", []⟩ St') : (cxK md.P (k + 2)).lam "_law_word_of" b env St = .ok (.str "straight") St' := by
  rw [lam_eq, h]; rfl
end
end K84
end

section
set_option Elab.async false
set_option linter.all false
set_option maxRecDepth 100000
set_option maxHeartbeats 1000000
set_option autoImplicit false
namespace K84
open PySem Ev
section
variable {k bz : Nat} {S : Store}
theorem df_law : md.P.defs "law" = some ⟨1, 10, b_law⟩ := by rfl
def SS.nth : SS → Nat → ST
  | .nil, _ => .pass
  | .cons s _, 0 => s
  | .cons _ ss, n + 1 => SS.nth ss n
def lwS (n : Nat) : ST := SS.nth b_law n
theorem lw_eq : b_law = .cons (lwS 0) (.cons (lwS 1) (.cons (lwS 2) (.cons (lwS 3) (.cons (lwS 4) (.cons (lwS 5) (.cons (lwS 6) (.cons (lwS 7) (.cons (lwS 8) (.cons (lwS 9) (.cons (lwS 10) (.cons (lwS 11) (.cons (lwS 12) (.cons (lwS 13) (.cons (lwS 14) .nil)))))))))))))) := rfl
/-! ### spoiled ones are refused -/
theorem lap_ok {wide : Nat} {rows : List Row} {left : List Nat} (t : Told wide rows left) (hr0 : 0 < rows.length) (hlen : rows.length ≤ 190) (h : Bag 2 1 S) (z : D) (e0 e2 e4 e5 : Option D) :
    ∃ y5 S', turnF (cxK md.P (k + 12)) bz (.name 4) l_law_0 z [e0, some (.loc 2), e2, some (vD rows left), e4, e5, none, none, none, none] S = .nx [e0, some (.loc 2), e2, some (vD rows left), some z, y5, none, none, none, none] S' ∧ Bag 2 1 S' := by
  obtain ⟨d, S1, e1, b1, od⟩ := spoiled_ok (k := k + 9) (rows := rows) (left := left) hr0 hlen t.few h
  have h1 := b1.toBag h
  have av := oddv_ok (k := k + 8) t.low t.inn t.lt hlen t.few od h1.w
  have uv := oddv_used (k := k + 4) t.low t.inn t.lt hlen t.few od h1.w
  have rv := oddv_run (k := k + 4) t.low t.inn t.lt hlen t.few od h1.w .non
  have w1 := word_values (k := k + 10) (b := .call "used_values" (.cons (.var 5) .nil)) (env := [e0, some (.loc 2), e2, some (vD rows left), some z, some d, none, none, none, none]) (St := S1) (St' := S1) (by simp [df_used_values, uv])
  have w2 := word_values (k := k + 10) (b := .call "run_values" (.cons (.var 5) (.cons .non .nil))) (env := [e0, some (.loc 2), e2, some (vD rows left), some z, some d, none, none, none, none]) (St := S1) (St' := S1) (by simp [df_run_values, rv])
  refine ⟨some d, S1, ?_, h1⟩
  generalize vD rows left = cd at *
  simp [turnF, l_law_0, startE, setR, parR, parE, asgT, asgTs, asgsR, bindT, bindTs, wipeE, df__law_spoiled, e1, df_are_values, av, cmp_isn_bl, w1, w2]
theorem laps_ok {wide : Nat} {rows : List Row} {left : List Nat} (t : Told wide rows left) (hr0 : 0 < rows.length) (hlen : rows.length ≤ 190) (e0 e2 : Option D) : ∀ (zs : List D) (S : Store) (e4 e5 : Option D), Bag 2 1 S →
    ∃ y4 y5 S', forT (turnF (cxK md.P (k + 12)) bz (.name 4) l_law_0) zs [e0, some (.loc 2), e2, some (vD rows left), e4, e5, none, none, none, none] S = .nx [e0, some (.loc 2), e2, some (vD rows left), y4, y5, none, none, none, none] S' ∧ Bag 2 1 S'
  | [], S, e4, e5, h => ⟨e4, e5, S, rfl, h⟩
  | z :: zs, S, e4, e5, h => by
    obtain ⟨y5, S1, t1, h1⟩ := lap_ok (bz := bz) (k := k) t hr0 hlen h z e0 e2 e4 e5
    obtain ⟨z4, z5, S2, t2, h2⟩ := laps_ok t hr0 hlen e0 e2 zs S1 (some z) y5 h1
    refine ⟨z4, z5, S2, ?_, h2⟩
    unfold forT
    rw [t1]
    exact t2
/-- a drawn program and a 2 -/
theorem two_drawn {p : List It} (dr : Drawn p) (h : p.length ≤ 20) : Drawn (p ++ [.n 2]) where
  len := by rw [List.length_append, List.length_singleton]; omega
  ok := fun x hx => by
    rcases List.mem_append.mp hx with e | e
    · exact dr.ok x e
    · rw [List.mem_singleton.mp e]; exact ⟨by decide, by decide⟩
  mul := by
    have : muls (p ++ [.n 2]) = muls p := by simp [muls, List.countP_append]
    rw [this]; exact dr.mul
theorem wst_two : ∀ (p : List It) (w s : Nat), 0 < (wst (p ++ [.n 2]) w s).2
  | [], w, s => by simp [wst, It.takes, It.gives]
  | x :: p, w, s => wst_two p _ _
theorem two_rows (p : List It) : 0 < (vals (p ++ [.n 2])).2.length := by
  have r := vals_run (p ++ [.n 2])
  have sl := r.2.2.2.1
  have : 0 < stands (p ++ [.n 2]) := wst_two p 0 0
  have ne : (vals (p ++ [.n 2])).1 ≠ [] := fun e => by rw [e] at sl; simp at sl; omega
  obtain ⟨a, l, e⟩ := List.exists_cons_of_ne_nil ne
  have := r.2.2.1 a (by rw [e]; exact List.mem_cons_self)
  omega
/-! ### the two at the head -/
theorem c1_ok (hS : wf S) : (cxK md.P (k + 4)).call "are_values" [.tup [.tup [.tup [.str "in", .int 0], .tup [.str "neg", .int 0]], .tup [.int 1]]] S = .ok (.bl true) S :=
  are_values_ok (k := k) (wide := 1) (rows := [.inn 0, .one .neg 0]) (left := [1])
    { low := fun i r h => by
        match i, h with
        | 0, h => cases h; exact rfl
        | 1, h => cases h; exact ⟨rfl, by decide⟩
        | n + 2, h => simp at h
      inn := ⟨by decide, fun i r h => by
        match i, h with
        | 0, h => cases h; simp
        | 1, h => cases h; simp
        | n + 2, h => simp at h⟩
      lt := fun a ha => by simp at ha; subst ha; decide
      len := by decide
      few := by decide } hS
theorem c2_ok (hS : wf S) : (cxK md.P (k + 4)).call "are_values" [.tup [.tup [.tup [.str "neg", .int 0], .tup [.str "in", .int 0]], .tup [.int 1]]] S = .ok (.bl false) S := by
  have := av_rows (k := k) (wide := 0) (rows := []) (S := S) (fun i r h => by simp at h) (by decide) [.tup [.str "neg", .int 0], .tup [.str "in", .int 0]] (fun i x h => by
    match i, h with
    | 0, h => cases h; exact .ahead (n := 0) (m := 0) (Nat.le_refl _)
    | 1, h => cases h; exact .inn (by decide)
    | n + 2, h => simp at h) (by simp) (by simp) [.int 1] hS
  exact this
theorem pile_step {p : List It} (hw : wants p ≤ 900) (e0 e2 e3 e4 e5 : Option D) (h : Bag 2 1 S) : ∃ pd S', evS (cxK md.P (k + 12)) 0 (lwS 8) [e0, some (.loc 2), e2, e3, e4, e5, some (.int ((wants p : Nat) : Int)), none, none, none] S = .nx [e0, some (.loc 2), e2, e3, e4, e5, some (.int ((wants p : Nat) : Int)), some pd, none, none] S' ∧ Bag 2 1 S' ∧ OddPile (wants p) S' pd := by
  have frp : ∀ (d : D) (n : Nat), (List.replicate n [d]).flatten = List.replicate n d := fun d n => by simp
  have h2 := h.bl
  have mA : binD .mul (.loc S.length) (.int ((wants p : Nat) : Int)) (S ++ [Ob.lst [.int 1]]) = .ok (.loc (S.length + 1)) (S ++ [Ob.lst [.int 1], Ob.lst (List.replicate (wants p) (D.int 1))]) := by
    have e1 : (S ++ [Ob.lst [.int 1]])[S.length]? = some (.lst [.int 1]) := by rw [own_at0]; rfl
    simp only [binD, e1]
    rw [if_pos ⟨by omega, by omega, by simp⟩, show ((wants p : Nat) : Int).toNat = wants p from by omega, frp]
    simp
  have mB : ∀ (x : D) (St : Store), binD .mul (.tup [x]) (.int ((max 1 (wants p) : Nat) : Int)) St = .ok (.tup (List.replicate (max 1 (wants p)) x)) St := fun x St => by
    simp only [binD]
    rw [if_pos ⟨by omega, by omega, by simp⟩, show ((max 1 (wants p) : Nat) : Int).toNat = max 1 (wants p) from by omega, frp]
  have mC : ∀ (x : D) (St : Store), binD .mul (.tup [x]) (.int (((wants p : Nat) : Int) + 1)) St = .ok (.tup (List.replicate (wants p + 1) x)) St := fun x St => by
    simp only [binD]
    rw [if_pos ⟨by omega, by omega, by simp⟩, show (((wants p : Nat) : Int) + 1).toNat = wants p + 1 from by omega, frp]
  have mx : (if ((wants p : Nat) : Int) > 1 then ((wants p : Nat) : Int) else 1) = ((max 1 (wants p) : Nat) : Int) := by split <;> omega
  have rb : ∀ (d : D) (n m : Nat), d.bd m = true → bds m (List.replicate n d) = true := fun d n m hd => by
    induction n with
    | zero => rfl
    | succ n ih => rw [List.replicate_succ, bds_cons, hd, ih]; rfl
  have wB : wf (S ++ [Ob.lst [.int 1], Ob.lst (List.replicate (wants p) (D.int 1)), Ob.lst [.non, .loc (S.length + 1), .tup (List.replicate (max 1 (wants p)) (.bl true)), .tup (List.replicate (max 1 (wants p)) (.str "1")), .tup (List.replicate (wants p + 1) (.tup []))]]) := by
    unfold wf
    rw [List.all_append, Bool.and_eq_true]
    refine ⟨List.all_eq_true.mpr fun x hx => Ob.bd_mono (by simp) (List.all_eq_true.mp h.w x hx), ?_⟩
    simp [rb (.int 1) _ _ rfl, rb (.bl true) _ _ rfl, rb (.str "1") _ _ rfl, rb (.tup []) _ _ rfl]
  have bB : BS S (S ++ [Ob.lst [.int 1], Ob.lst (List.replicate (wants p) (D.int 1)), Ob.lst [.non, .loc (S.length + 1), .tup (List.replicate (max 1 (wants p)) (.bl true)), .tup (List.replicate (max 1 (wants p)) (.str "1")), .tup (List.replicate (wants p + 1) (.tup []))]]) := ⟨wB, by simp, by
    obtain ⟨i, x, s, n, e⟩ := (BS.refl h).bag
    exact ⟨i, x, s, n, fun l hl => by rw [List.getElem?_append_left hl]; exact e l hl⟩⟩
  obtain ⟨d, hd, S8, es, b8, l8, k8⟩ := some_BS (k := k + 10) (t := S.length + 2) (ds := [.non, .loc (S.length + 1), .tup (List.replicate (max 1 (wants p)) (.bl true)), .tup (List.replicate (max 1 (wants p)) (.str "1")), .tup (List.replicate (wants p + 1) (.tup []))]) h bB (by rw [own_at]; rfl) (by omega) (by simp) (by simp)
  refine ⟨d, S8, ?_, b8.toBag h, ?_⟩
  · replace mC := mC (.tup [])
    generalize List.replicate (wants p) (D.int 1) = r3 at *
    generalize List.replicate (wants p + 1) (D.tup []) = r4 at *
    generalize max 1 (wants p) = mw at *
    have d5 : ∀ (a b c d e : D) (St : Store), disR [a, b, c, d, e] St = .ok [a, b, c, d, e] St := fun _ _ _ _ _ _ => rfl
    simp [lwS, SS.nth, b_law, startE, setR, parR, parE, asgT, asgTs, asgsR, bindT, bindTs, wipeE, mA, mB, mC, mx, d5, df__law_some, es]
  · simp only [List.mem_cons, List.not_mem_nil, or_false] at hd
    rcases hd with rfl | rfl | rfl | rfl | rfl
    · exact .non
    · exact .lst (l := S.length + 1) (ds := List.replicate (wants p) (D.int 1)) (by rw [k8 _ (by omega), own_at]; rfl)
    · exact .odd (.bl true) (by omega) (by omega)
    · exact .odd (.str "1") (by omega) (by omega)
    · exact .odd (.tup []) (by omega) (by omega)
theorem prog_step (e0 e2 e3 e4 e5 e6 e7 : Option D) (h : Bag 2 1 S) : ∃ nd S', evS (cxK md.P (k + 12)) 0 (lwS 11) [e0, some (.loc 2), e2, e3, e4, e5, e6, e7, none, none] S = .nx [e0, some (.loc 2), e2, e3, e4, e5, e6, e7, some nd, none] S' ∧ wf S' ∧ NoProg nd := by
  have h2 := h.bl
  have frp : ∀ (d : D) (n : Nat), (List.replicate n [d]).flatten = List.replicate n d := fun d n => by simp
  have mA : ∀ (x : D) (St : Store), binD .mul (.tup [x]) (.int 7) St = .ok (.tup (List.replicate 7 x)) St := fun x St => rfl
  have mB : ∀ (x : D) (St : Store), binD .mul (.tup [x]) (.int 61) St = .ok (.tup (List.replicate 61 x)) St := fun x St => rfl
  have rb : ∀ (d : D) (n m : Nat), d.bd m = true → bds m (List.replicate n d) = true := fun d n m hd => by
    induction n with
    | zero => rfl
    | succ n ih => rw [List.replicate_succ, bds_cons, hd, ih]; rfl
  have r1 := fun m => rb (.str "mul") 7 m rfl
  have r2 := fun m => rb (.int 1) 61 m rfl
  replace mA := mA (.str "mul")
  replace mB := mB (.int 1)
  have n1 := NoProg.mul
  have n2 := NoProg.long
  generalize List.replicate 7 (D.str "mul") = q7 at *
  generalize List.replicate 61 (D.int 1) = q61 at *
  have wB : wf (S ++ [Ob.lst [.tup [.bl true], .tup [.str "call"], .tup q7, .tup q61, .tup [.str "zz"], .tup [.tup [.str "quote", .tup []]]]]) := by
    unfold wf
    rw [List.all_append, Bool.and_eq_true]
    refine ⟨List.all_eq_true.mpr fun x hx => Ob.bd_mono (by simp) (List.all_eq_true.mp h.w x hx), ?_⟩
    simp [r1, r2]
  have bB : BS S (S ++ [Ob.lst [.tup [.bl true], .tup [.str "call"], .tup q7, .tup q61, .tup [.str "zz"], .tup [.tup [.str "quote", .tup []]]]]) := ⟨wB, by simp, by
    obtain ⟨i, x, s, n, e⟩ := (BS.refl h).bag
    exact ⟨i, x, s, n, fun l hl => by rw [List.getElem?_append_left hl]; exact e l hl⟩⟩
  obtain ⟨d, hd, S8, es, b8, l8, k8⟩ := some_BS (k := k + 10) (t := S.length) (ds := [.tup [.bl true], .tup [.str "call"], .tup q7, .tup q61, .tup [.str "zz"], .tup [.tup [.str "quote", .tup []]]]) h bB (by rw [own_at0]; rfl) (by omega) (by simp) (by simp)
  refine ⟨d, S8, ?_, b8.wf, ?_⟩
  · have d6 : ∀ (a b c d e f : D) (St : Store), disR [a, b, c, d, e, f] St = .ok [a, b, c, d, e, f] St := fun _ _ _ _ _ _ _ => rfl
    simp [lwS, SS.nth, b_law, startE, setR, parR, parE, asgT, asgTs, asgsR, bindT, bindTs, wipeE, mA, mB, d6, df__law_some, es]
  · simp only [List.mem_cons, List.not_mem_nil, or_false] at hd
    rcases hd with rfl | rfl | rfl | rfl | rfl | rfl
    · exact .bl
    · exact .call
    · exact n1
    · exact n2
    · exact .zz
    · exact .quote
theorem law_ok (ns : List Int) : ∃ S', (cxK md.P (k + 13)).call "law" [.scr ns] [] = .ok (.bl true) S' := by
  obtain ⟨S1, b1, h1⟩ := bag_ok (k := k + 11) ns
  have a1 := c1_ok (k := k + 8) h1.w
  have a2 := c2_ok (k := k + 8) h1.w
  obtain ⟨p0, S2, sp, h2, _, dr0, len0⟩ := straight_ok (k := k + 9) h1
  have ap2 : binD .add (pr p0) (.tup [.int 2]) S2 = .ok (pr (p0 ++ [.n 2])) S2 := by
    have := bin_tup (S := S2) (xs := p0.map It.d) (ys := [.int 2]) (by simp [LIM]; omega)
    rw [show pr (p0 ++ [.n 2]) = .tup (p0.map It.d ++ [.int 2]) from by simp [pr, It.d]]
    exact this
  have dr := two_drawn dr0 (by omega)
  have rpos := two_rows p0
  generalize hp : p0 ++ [It.n 2] = p at *
  have w2 := h2.w
  have vo := values_of_ok (k := k + 7) p dr.fine w2
  obtain ⟨t, tlen⟩ := told_vals dr
  have av1 := are_values_ok (k := k + 8) t w2
  obtain ⟨g, gd, uv⟩ := used_values_ok (k := k + 6) t w2
  have av2 := are_values_ok (k := k + 8) (told_used t gd) w2
  obtain ⟨y4, y5, S3, ll, h3⟩ := laps_ok (bz := 0) (k := k) t rpos (by omega) (some (.scr ns)) (some (pr p)) (rngL 0 1 4) S2 none none h2
  have lw := law_wants_ok (k := k + 10) p h3.w
  have hl := dr.len
  have hw := wants_le p
  have hw2 : wants p ≤ 900 := by omega
  obtain ⟨pd, S4, st8, h4, op⟩ := pile_step (k := k) (p := p) hw2 (some (.scr ns)) (some (pr p)) (some (vD (vals p).2 (vals p).1)) y4 y5 h3
  have st0 : evS (cxK md.P (k + 12)) 0 (lwS 0) [some (.scr ns), none, none, none, none, none, none, none, none, none] [] = .nx [some (.scr ns), some (.loc 2), none, none, none, none, none, none, none, none] S1 := by
    generalize vD (vals p).2 (vals p).1 = cd at *
    generalize pr p = pp at *
    simp [lwS, SS.nth, b_law, startE, setR, parR, parE, asgT, asgTs, asgsR, bindT, bindTs, wipeE, df__law_bag, b1]
  have st1 : evS (cxK md.P (k + 12)) 0 (lwS 1) [some (.scr ns), some (.loc 2), none, none, none, none, none, none, none, none] S1 = .nx [some (.scr ns), some (.loc 2), none, none, none, none, none, none, none, none] S1 := by
    generalize vD (vals p).2 (vals p).1 = cd at *
    generalize pr p = pp at *
    simp [lwS, SS.nth, b_law, startE, setR, parR, parE, asgT, asgTs, asgsR, bindT, bindTs, wipeE, df_are_values, a1, cmp_isn_bl]
  have st2 : evS (cxK md.P (k + 12)) 0 (lwS 2) [some (.scr ns), some (.loc 2), none, none, none, none, none, none, none, none] S1 = .nx [some (.scr ns), some (.loc 2), none, none, none, none, none, none, none, none] S1 := by
    generalize vD (vals p).2 (vals p).1 = cd at *
    generalize pr p = pp at *
    simp [lwS, SS.nth, b_law, startE, setR, parR, parE, asgT, asgTs, asgsR, bindT, bindTs, wipeE, df_are_values, a2, cmp_isn_bl]
  have st3 : evS (cxK md.P (k + 12)) 0 (lwS 3) [some (.scr ns), some (.loc 2), none, none, none, none, none, none, none, none] S1 = .nx [some (.scr ns), some (.loc 2), some (pr p), none, none, none, none, none, none, none] S2 := by
    generalize pr p = pp at *
    generalize pr p0 = pp0 at *
    simp [lwS, SS.nth, b_law, startE, setR, parR, parE, asgT, asgTs, asgsR, bindT, bindTs, wipeE, df__law_straight, sp, ap2]
  have st4 : evS (cxK md.P (k + 12)) 0 (lwS 4) [some (.scr ns), some (.loc 2), some (pr p), none, none, none, none, none, none, none] S2 = .nx [some (.scr ns), some (.loc 2), some (pr p), some (vD (vals p).2 (vals p).1), none, none, none, none, none, none] S2 := by
    generalize vD (vals p).2 (vals p).1 = cd at *
    generalize pr p = pp at *
    simp [lwS, SS.nth, b_law, startE, setR, parR, parE, asgT, asgTs, asgsR, bindT, bindTs, wipeE, df_values_of, vo]
  have st5 : evS (cxK md.P (k + 12)) 0 (lwS 5) [some (.scr ns), some (.loc 2), some (pr p), some (vD (vals p).2 (vals p).1), none, none, none, none, none, none] S2 = .nx [some (.scr ns), some (.loc 2), some (pr p), some (vD (vals p).2 (vals p).1), none, none, none, none, none, none] S2 := by
    generalize vD (usedR (uG g) (vals p).2) (usedL (uG g) (vals p).2 (vals p).1) = ud at *
    generalize vD (vals p).2 (vals p).1 = cd at *
    generalize pr p = pp at *
    simp [lwS, SS.nth, b_law, startE, setR, parR, parE, asgT, asgTs, asgsR, bindT, bindTs, wipeE, df_are_values, av1, df_used_values, uv, av2, cmp_isn_bl]
  have rg4 := rng_nat (n := 4) (St := S2) (by decide)
  rw [show ((4 : Nat) : Int) = 4 from rfl] at rg4
  have st6 : evS (cxK md.P (k + 12)) 0 (lwS 6) [some (.scr ns), some (.loc 2), some (pr p), some (vD (vals p).2 (vals p).1), none, none, none, none, none, none] S2 = .nx [some (.scr ns), some (.loc 2), some (pr p), some (vD (vals p).2 (vals p).1), y4, y5, none, none, none, none] S3 := by
    generalize vD (vals p).2 (vals p).1 = cd at *
    generalize pr p = pp at *
    simp [lwS, SS.nth, b_law, startE, setR, parR, parE, asgT, asgTs, asgsR, bindT, bindTs, wipeE, rg4, ll, -rng1R_int]
  have st7 : evS (cxK md.P (k + 12)) 0 (lwS 7) [some (.scr ns), some (.loc 2), some (pr p), some (vD (vals p).2 (vals p).1), y4, y5, none, none, none, none] S3 = .nx [some (.scr ns), some (.loc 2), some (pr p), some (vD (vals p).2 (vals p).1), y4, y5, some (.int ((wants p : Nat) : Int)), none, none, none] S3 := by
    generalize vD (vals p).2 (vals p).1 = cd at *
    generalize hpp : pr p = pp at *
    simp [lwS, SS.nth, b_law, startE, setR, parR, parE, asgT, asgTs, asgsR, bindT, bindTs, wipeE, df__law_wants, lw]
  have pr9 := pile_run (k := k + 4) t op h4.w
  have ww9 := word_pile (k := k + 10) (b := .call "run_values" (.cons (.var 3) (.cons (.var 7) .nil))) (env := [some (.scr ns), some (.loc 2), some (pr p), some (vD (vals p).2 (vals p).1), y4, y5, some (.int ((wants p : Nat) : Int)), some (pd), none, none]) (St := S4) (St' := S4) (by
    generalize vD (vals p).2 (vals p).1 = cd at *
    generalize pr p = pp at *
    simp [df_run_values, pr9])
  have st9 : evS (cxK md.P (k + 12)) 0 (lwS 9) [some (.scr ns), some (.loc 2), some (pr p), some (vD (vals p).2 (vals p).1), y4, y5, some (.int ((wants p : Nat) : Int)), some (pd), none, none] S4 = .nx [some (.scr ns), some (.loc 2), some (pr p), some (vD (vals p).2 (vals p).1), y4, y5, some (.int ((wants p : Nat) : Int)), some (pd), none, none] S4 := by
    generalize vD (vals p).2 (vals p).1 = cd at *
    generalize pr p = pp at *
    simp [lwS, SS.nth, b_law, startE, setR, parR, parE, asgT, asgTs, asgsR, bindT, bindTs, wipeE, ww9]
  have st10 : evS (cxK md.P (k + 12)) 0 (lwS 10) [some (.scr ns), some (.loc 2), some (pr p), some (vD (vals p).2 (vals p).1), y4, y5, some (.int ((wants p : Nat) : Int)), some (pd), none, none] S4 = .nx [some (.scr ns), some (.loc 2), some (pr p), some (vD (vals p).2 (vals p).1), y4, y5, some (.int ((wants p : Nat) : Int)), some (pd), none, none] S4 := by
    by_cases hm : 0 < wants p
    · have m3 : ∀ St : Store, binD .mul (.tup [.int 3]) (.int (((wants p : Nat) : Int) - 1)) St = .ok (.tup (List.replicate (wants p - 1) (.int 3))) St := fun St => by
        simp only [binD]
        rw [if_pos ⟨by omega, by omega, by simp⟩, show (((wants p : Nat) : Int) - 1).toNat = wants p - 1 from by omega]
        simp
      have opf : OddPile (wants p) S4 (.tup (List.replicate (wants p - 1) (.int 3))) := by
        have := OddPile.few (wide := wants p) (S := S4) (pile := List.replicate (wants p - 1) 3) (by rw [List.length_replicate]; omega) (by rw [List.length_replicate]; omega)
        rw [List.map_replicate] at this
        exact this
      have pr10 := pile_run (k := k + 4) t opf h4.w
      generalize List.replicate (wants p - 1) (D.int 3) = r3 at *
      have ww10 := word_pile (k := k + 10) (b := .call "run_values" (.cons (.var 3) (.cons (.bin .mul (.tup (.cons (.int 3) .nil)) (.bin .sub (.var 6) (.int 1))) .nil))) (env := [some (.scr ns), some (.loc 2), some (pr p), some (vD (vals p).2 (vals p).1), y4, y5, some (.int ((wants p : Nat) : Int)), some (pd), none, none]) (St := S4) (St' := S4) (by
        generalize vD (vals p).2 (vals p).1 = cd at *
        generalize pr p = pp at *
        simp [df_run_values, pr10, m3])
      have hm' : (0 : Int) < ((wants p : Nat) : Int) := by omega
      generalize vD (vals p).2 (vals p).1 = cd at *
      generalize pr p = pp at *
      simp [lwS, SS.nth, b_law, startE, setR, parR, parE, asgT, asgTs, asgsR, bindT, bindTs, wipeE, hm, hm', ww10]
    · have hm' : ¬ (0 : Int) < ((wants p : Nat) : Int) := by omega
      generalize vD (vals p).2 (vals p).1 = cd at *
      generalize pr p = pp at *
      simp [lwS, SS.nth, b_law, startE, setR, parR, parE, asgT, asgTs, asgsR, bindT, bindTs, wipeE, hm, hm']
  obtain ⟨nd, S5, st11, w5, np⟩ := prog_step (k := k) (some (.scr ns)) (some (pr p)) (some (vD (vals p).2 (vals p).1)) y4 y5 (some (.int ((wants p : Nat) : Int))) (some pd) h4
  have o12 := no_values_of (k := k + 5) np w5
  have ww12 := word_straight (k := k + 10) (b := .call "values_of" (.cons (.var 8) .nil)) (env := [some (.scr ns), some (.loc 2), some (pr p), some (vD (vals p).2 (vals p).1), y4, y5, some (.int ((wants p : Nat) : Int)), some (pd), some (nd), none]) (St := S5) (St' := S5) (by
    generalize vD (vals p).2 (vals p).1 = cd at *
    generalize pr p = pp at *
    simp [df_values_of, o12])
  have st12 : evS (cxK md.P (k + 12)) 0 (lwS 12) [some (.scr ns), some (.loc 2), some (pr p), some (vD (vals p).2 (vals p).1), y4, y5, some (.int ((wants p : Nat) : Int)), some (pd), some (nd), none] S5 = .nx [some (.scr ns), some (.loc 2), some (pr p), some (vD (vals p).2 (vals p).1), y4, y5, some (.int ((wants p : Nat) : Int)), some (pd), some (nd), none] S5 := by
    generalize vD (vals p).2 (vals p).1 = cd at *
    generalize pr p = pp at *
    simp [lwS, SS.nth, b_law, startE, setR, parR, parE, asgT, asgTs, asgsR, bindT, bindTs, wipeE, ww12]
  have o13 := no_repeats (k := k + 5) np w5
  have ww13 := word_straight (k := k + 10) (b := .call "repeats_many" (.cons (.var 8) .nil)) (env := [some (.scr ns), some (.loc 2), some (pr p), some (vD (vals p).2 (vals p).1), y4, y5, some (.int ((wants p : Nat) : Int)), some (pd), some (nd), none]) (St := S5) (St' := S5) (by
    generalize vD (vals p).2 (vals p).1 = cd at *
    generalize pr p = pp at *
    simp [df_repeats_many, o13])
  have st13 : evS (cxK md.P (k + 12)) 0 (lwS 13) [some (.scr ns), some (.loc 2), some (pr p), some (vD (vals p).2 (vals p).1), y4, y5, some (.int ((wants p : Nat) : Int)), some (pd), some (nd), none] S5 = .nx [some (.scr ns), some (.loc 2), some (pr p), some (vD (vals p).2 (vals p).1), y4, y5, some (.int ((wants p : Nat) : Int)), some (pd), some (nd), none] S5 := by
    generalize vD (vals p).2 (vals p).1 = cd at *
    generalize pr p = pp at *
    simp [lwS, SS.nth, b_law, startE, setR, parR, parE, asgT, asgTs, asgsR, bindT, bindTs, wipeE, ww13]
  have o14 := no_registers_of (k := k + 5) np w5
  have ww14 := word_straight (k := k + 10) (b := .call "registers" (.cons (.var 8) .nil)) (env := [some (.scr ns), some (.loc 2), some (pr p), some (vD (vals p).2 (vals p).1), y4, y5, some (.int ((wants p : Nat) : Int)), some (pd), some (nd), none]) (St := S5) (St' := S5) (by
    generalize vD (vals p).2 (vals p).1 = cd at *
    generalize pr p = pp at *
    simp [df_registers, o14])
  have st14 : evS (cxK md.P (k + 12)) 0 (lwS 14) [some (.scr ns), some (.loc 2), some (pr p), some (vD (vals p).2 (vals p).1), y4, y5, some (.int ((wants p : Nat) : Int)), some (pd), some (nd), none] S5 = .rt (.bl true) S5 := by
    generalize vD (vals p).2 (vals p).1 = cd at *
    generalize pr p = pp at *
    simp [lwS, SS.nth, b_law, startE, setR, parR, parE, asgT, asgTs, asgsR, bindT, bindTs, wipeE, ww14]

  refine ⟨[], ?_⟩
  rw [call_eq df_law]
  refine run_cut (S' := S5) rfl wf_nil rfl rfl ?_
  show evSs (cxK md.P (k + 12)) 0 b_law [some (.scr ns), none, none, none, none, none, none, none, none, none] [] = _
  rw [lw_eq]
  simp only [evSs_cons, st0, st1, st2, st3, st4, st5, st6, st7, st8, st9, st10, st11, st12, st13, st14, Out.then_nx]
  rfl
theorem the_law : md.Law 101 63 := fun ns _ => law_ok (k := 88) ns
end
end K84
end

section
set_option Elab.async false
set_option linter.all false
set_option maxRecDepth 100000
set_option maxHeartbeats 0
namespace K84
open PySem PySem.Spec PyProof.Rows L2 Ev
def lo0 : List Str := ["PileError", "NoPile", "NoStraight", "NoValues", "MOST_INTEGER", "is_integer", "is_within", "MANY", "SHUFFLES", "MOST_ITEMS", "MOST_PRODUCTS", "SUMS", "is_straight_item", "is_straight", "check_straight", "takes_of", "raw_wants", "straight_pile", "sum_told", "MOST_VALUES", "SAME", "Values", "raw_values", "values_of", "is_value_row"]
def lo1 : List Str := ["are_values", "check_values", "wide_of", "check_integers", "run_values", "used_rows", "used_values", "last_uses", "raw_registers", "registers", "repeats_many", "_law_bag", "_law_pick", "_law_some", "_law_needs", "_law_straight", "_law_orders", "_law_wants", "_law_values", "_law_done", "_law_word_of", "_law_spoiled"]
def loose : List Str := lo0 ++ lo1
abbrev R : PySem.W.OpenRow := PySem.W.OpenLaw.row PySem.Challenge.rw_pilewords_k84_whole_what_are_no_values
abbrev hk : PySem.W.Hook := md.hk 4
def ob (s : PySem.W.SharedT) : He.AlX := He.obsX 4 md.fa md.fn md.ts md.tf (exB md) (HandSHeadRun.getT s)
theorem ob_eq (s : PySem.W.SharedT) : ob s = hk.obs s.abs := He.obsX_eq (HandSHeadRun.getT_eq s)
theorem run (w : World) : HandSHeadRun.RunEq R (PySem.W.view R.prog [52]) hk ob 4000 loose w := by
  refine PySem.W.byRow2 "special-get-raises" (P := fun w => HandSHeadRun.RunEq R (PySem.W.view R.prog [52]) hk ob 4000 loose w) (fun w os => ?_) (fun w os => ?_) w
  · kernel_rfl
  · kernel_rfl
end K84
open PySem PySem.W PySem.Calls PyProof.Rows in
theorem PySem.Challenge.cw_pilewords_k84_whole_what_are_no_values_holds : PySem.Challenge.rw_pilewords_k84_whole_what_are_no_values.Holds := by
  w_on; o_law
  refine HandSHeadRun.head_any (r := K84.R) (q := view K84.R.prog [52]) (H := K84.hk) (ob := K84.ob) (M := 4000) (loose := K84.loose) (d := HandSHeadRun.topDef K84.R.prog 52) (kwd := []) K84.ob_eq
    (by kernel_rfl) (fun s => by kernel_rfl) K84.run (by kernel_rfl) (by kernel_rfl) (by kernel_rfl) (by rfl) (by first | assumption | decide +kernel) (by decide +kernel) ⟨rfl, rfl, rfl, rfl, rfl, by decide +kernel⟩ ?hw ?hc
  case hw => w_witness2
  case hc => exact Ev.law_end (M := K84.md) (t := K84.t_law) (x := "script") (n := 63) (k := 100) (by rfl) rfl K84.md_ok K84.md_binds K84.the_law ⟨rfl, by decide, by decide⟩ rfl (by decide) (by kernel_rfl) (by kernel_rfl)
end
