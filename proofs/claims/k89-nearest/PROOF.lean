import PyProof.Rows.All
import Wide.All
import OpenK.AllK
import Wide.FinOn
import PySem.Challenge.RW_pilewords_k89_whole_nearest_programs_and
import HandS.Codes
import HandS.Comp
import HandS.Deep
import HandS.Defaults
import HandS.EndTab
import HandS.Exc
import HandS.ExcOwn
import HandS.ForMost
import HandS.Head2
import HandS.HeadEnd
import HandS.HeadHook4
import HandS.IsInst
import HandS.Iter
import HandS.Lambda
import HandS.Small
import HandS.Style
import HandS.TryMany
import HandS.TupAny
import HandS.Wide
import KE.DataMinMax
import KE.GoesMore
import KE.KDictCopyH
import KE.KDictPairs
import KE.SortData
import PyProof.EnumMake
import PyProof.Rows.RowBridgeK
section
set_option Elab.async false
set_option linter.all false
/-! Ev1: data and an evaluator of a part of Python, over data and a store of its own. -/
namespace Ev
open PySem

/-- data: what a name may hold. loc: a list, a dict, an instance in the store; scr: the script (read only); ty: a built-in type; fn: a def of the module; bm: a method bound to an instance; tab: a dict of the module -/
inductive D where
  | non | bl (b : Bool) | int (i : Int) | str (x : Str) | tup (ds : List D) | loc (l : Nat) | scr (ns : List Int) | ty (n : String) | ktup (ds : List D)
  deriving Inhabited
abbrev Key := Sum Int Str
/-- what stands in the store: a list; a dict whose keys are ints and texts; one whose keys are tuples of such; an instance -/
inductive Ob where
  | lst (ds : List D) | dk (kvs : List (Key × D)) | dt (kvs : List (List Key × D)) | ins (C : String) (fs : List (String × D))
abbrev Store := List Ob
/-- a raised exception of the module's own class, its fields -/
structure Xc where
  cls : String
  fs : List (String × D) := []
inductive Res (α : Type) where
  | ok (a : α) (S : Store) | exc (x : Xc) (S : Store) | bad
def Res.bind {α β : Type} (r : Res α) (f : α → Store → Res β) : Res β := match r with
  | .ok a S => f a S
  | .exc x S => .exc x S
  | .bad => .bad
section
variable {α β : Type}
@[simp] theorem Res.bind_ok (a : α) (S : Store) (f : α → Store → Res β) : (Res.ok a S).bind f = f a S := Eq.trans rfl rfl
@[simp] theorem Res.bind_exc (x : Xc) (S : Store) (f : α → Store → Res β) : (Res.exc x S).bind f = .exc x S := rfl
@[simp] theorem Res.bind_bad (f : α → Store → Res β) : (Res.bad : Res α).bind f = .bad := rfl
end
abbrev EnvD := List (Option D)
@[reducible] def LIM : Nat := 1000000

/-! ### the syntax -/
inductive Op where
  | add | sub | mul | fdiv | mod | pow
  deriving DecidableEq
inductive Cm where
  | eq | ne | lt | le | gt | ge | is | isn | isin | nin
  deriving DecidableEq
/-- built-in functions by values; those of a list that nobody else holds; methods -/
inductive Bf where
  | len | abs | int | max | min | isi | tuple | list | repr
  deriving DecidableEq
inductive Bl where
  | all | any | tuple | len | dict | min
  deriving DecidableEq
inductive Mt where
  | append | extend | pop | get | update | index | own (m : String)
  deriving DecidableEq
mutual
/-- targets of a for -/
inductive TG where
  | name (i : Nat) | tup (ts : TGs)
inductive TGs where
  | nil | cons (t : TG) (ts : TGs)
end
mutual
inductive EX where
  | non | bl (b : Bool) | int (i : Int) | str (x : Str)
  | var (i : Nat) | glb (x : String) | bty (x : String)
  | tup (es : EXs) | ofl (l : LX) | dk0 | dt0
  | bin (op : Op) (a b : EX) | neg (a : EX) | cmp (op : Cm) (a b : EX) | chn (op : Cm) (a b : EX) (op' : Cm) (c : EX)
  | bop (isAnd : Bool) (es : EXs) | nt (a : EX) | ife (t a b : EX)
  | sub (a i : EX) | slc0 (a : EX) | slcF (a lo : EX) | slcT (a hi : EX) | slcB (a lo hi : EX) | fld (a : EX) (f : String)
  | call (x : String) (es : EXs) | new (C : String) (es : EXs) | meth (a : EX) (m : Mt) (es : EXs)
  | blt (f : Bf) (es : EXs) | bll (f : Bl) (l : LX) | lamw (x : String) (b : EX)
inductive EXs where
  | nil | cons (e : EX) (es : EXs)
inductive IT where
  | val (e : EX) | rng1 (a : EX) | rng2 (a b : EX) | rng3 (a b c : EX) | enm (a : EX)
inductive LX where
  | dis (es : EXs) | comp (own : List (String × Nat)) (t : TG) (it : IT) (ifs : EXs) (e : EX)
end

/-! ### data as PyData, equality -/
mutual
def D.data : D → Option PyData
  | .non => some .none
  | .bl b => some (.bool b)
  | .int i => some (.int i)
  | .str x => if PyData.strOk x then some (.str x) else none
  | .tup ds => (datas ds).map .tuple
  | .ktup ds => (datas ds).map .tuple
  | _ => none
def datas : List D → Option (List PyData)
  | [] => some []
  | d :: ds => match d.data, datas ds with
    | some p, some ps => some (p :: ps)
    | _, _ => none
end
def dataOf (S : Store) : D → Option PyData
  | .loc l => match S[l]? with
    | some (.lst ds) => (datas ds).map .list
    | _ => none
  | d => d.data
def eqD (S : Store) (a b : D) : Option Bool := match a, b with
  | .str x, .str y => some (x == y)
  | a, b => match dataOf S a, dataOf S b with
    | some p, some q => if p.depth ≤ 60 ∧ q.depth ≤ 60 then some (p.eqv q) else none
    | _, _ => none
def isScal : D → Bool
  | .non => true
  | .bl _ => true
  | .int _ => true
  | .str _ => true
  | _ => false
/-- == of flat data -/
def eqS : D → D → Bool
  | .non, .non => true
  | .bl a, .bl b => a == b
  | .bl a, .int b => (if a then 1 else 0) == b
  | .int a, .bl b => a == (if b then 1 else 0)
  | .int a, .int b => a == b
  | .str a, .str b => a == b
  | _, _ => false
/-- x in these -/
def inDs (x : D) (ds : List D) : Option Bool := if isScal x && ds.all isScal then some (ds.any fun d => eqS d x) else match x.data, datas ds with
  | some p, some qs => if p.depth ≤ 60 then some (qs.any fun q => q.eqv p) else none
  | _, _ => none
mutual
/-- the places in it are below n -/
def D.bd (n : Nat) : D → Bool
  | .tup ds => bds n ds
  | .ktup ds => bds n ds
  | .loc l => decide (l < n)
  | _ => true
def bds (n : Nat) : List D → Bool
  | [] => true
  | d :: ds => d.bd n && bds n ds
end
def Ob.bd (n : Nat) : Ob → Bool
  | .lst ds => bds n ds
  | .dk kvs => kvs.all fun p => p.2.bd n
  | .dt kvs => kvs.all fun p => p.2.bd n
  | .ins _ fs => fs.all fun p => p.2.bd n
/-- behind a call: what the call laid is let go where nothing leads to it -/
def gc (d : D) (n : Nat) (S' : Store) : D × Store :=
  if (S'.take n).all (Ob.bd n) then
    if d.bd n then (d, S'.take n) else match d with
    | .loc l => match S'[l]? with
      | some o => if o.bd n then (.loc n, S'.take n ++ [o]) else (d, S')
      | none => (d, S')
    | _ => (d, S')
  else (d, S')

/-! ### keys -/
def keyOf : D → Option Key
  | .int i => some (.inl i)
  | .str x => some (.inr x)
  | _ => none
def keysOf : List D → Option (List Key)
  | [] => some []
  | d :: ds => match keyOf d, keysOf ds with
    | some k, some ks => some (k :: ks)
    | _, _ => none
section
variable {κ : Type} [DecidableEq κ]
def kget (kvs : List (κ × D)) (k : κ) : Option D := (kvs.find? fun kv => decide (kv.1 = k)).map (·.2)
def kput (kvs : List (κ × D)) (k : κ) (v : D) : List (κ × D) := if kvs.any (fun kv => decide (kv.1 = k)) then kvs.map fun kv => if kv.1 = k then (kv.1, v) else kv else kvs ++ [(k, v)]
end
/-- look-up in a dict -/
def obGet (o : Ob) (k : D) : Option (Option D) := match o, k with
  | .dk kvs, .tup _ => none
  | .dk kvs, k => (keyOf k).map fun k => kget kvs k
  | .dt kvs, .tup ks => (keysOf ks).map fun k => kget kvs k
  | _, _ => none
def obPut (o : Ob) (k v : D) : Option Ob := match o, k with
  | .dk kvs, k => (keyOf k).bind fun k => if kvs.length < LIM then some (.dk (kput kvs k v)) else none
  | .dt kvs, .tup ks => (keysOf ks).bind fun k => if kvs.length < LIM then some (.dt (kput kvs k v)) else none
  | _, _ => none

/-! ### operators -/
def okR (o : Option D) (S : Store) : Res D := match o with
  | some d => .ok d S
  | none => .bad
/-- a new object -/
def alloc (o : Ob) (S : Store) : Res D := .ok (.loc S.length) (S ++ [o])
/-- bounds of products -/
def mulOk (i j : Int) : Bool := decide (-(2 ^ 64) < i ∧ i < 2 ^ 64) || decide (-(2 ^ 64) < j ∧ j < 2 ^ 64) || decide (i.natAbs.log2 + j.natAbs.log2 < 1000000)
def binD (op : Op) (a b : D) (S : Store) : Res D := match op, a, b with
  | .add, .int i, .int j => .ok (.int (i + j)) S
  | .add, .tup xs, .tup ys => if xs.length + ys.length ≤ LIM then .ok (.tup (xs ++ ys)) S else .bad
  | .add, .str x, .str y => if x.length + y.length ≤ LIM then .ok (.str (x ++ y)) S else .bad
  | .add, .loc l, .loc m => match S[l]?, S[m]? with
    | some (.lst xs), some (.lst ys) => if xs.length + ys.length ≤ LIM then alloc (.lst (xs ++ ys)) S else .bad
    | _, _ => .bad
  | .sub, .int i, .int j => .ok (.int (i - j)) S
  | .mul, .int i, .int j => if mulOk i j then .ok (.int (i * j)) S else .bad
  | .mul, .loc l, .int k => match S[l]? with
    | some (.lst xs) => if k ≤ 1000 ∧ -1000 ≤ k ∧ xs.length ≤ 1000 then alloc (.lst (List.replicate k.toNat xs).flatten) S else .bad
    | _ => .bad
  | .fdiv, .int i, .int j => if 0 < j ∧ j < 1073741824 then .ok (.int (i / j)) S else .bad
  | .mod, .int i, .int j => if 0 < j then .ok (.int (i % j)) S else .bad
  | .pow, .int i, .int j => if 0 ≤ j ∧ j ≤ 1000 ∧ i.natAbs < 2 ^ 64 then .ok (.int (i ^ j.toNat)) S else .bad
  | _, _, _ => .bad
def boolR (o : Option Bool) (S : Store) : Res D := match o with
  | some b => .ok (.bl b) S
  | none => .bad
def cmpD (op : Cm) (a b : D) (S : Store) : Res D := match op, a, b with
  | .eq, a, b => boolR (eqD S a b) S
  | .ne, a, b => boolR ((eqD S a b).map not) S
  | .lt, .int i, .int j => .ok (.bl (decide (i < j))) S
  | .le, .int i, .int j => .ok (.bl (decide (i ≤ j))) S
  | .gt, .int i, .int j => .ok (.bl (decide (j < i))) S
  | .ge, .int i, .int j => .ok (.bl (decide (j ≤ i))) S
  | .is, .bl x, .bl y => .ok (.bl (decide (x = y))) S
  | .isn, .bl x, .bl y => .ok (.bl (!decide (x = y))) S
  | .is, .non, .non => .ok (.bl true) S
  | .is, _, .non => .ok (.bl false) S
  | .isn, .non, .non => .ok (.bl false) S
  | .isn, _, .non => .ok (.bl true) S
  | .isin, x, .tup ds => boolR (inDs x ds) S
  | .nin, x, .tup ds => boolR ((inDs x ds).map not) S
  | .isin, x, .ktup ds => boolR (inDs x ds) S
  | .nin, x, .ktup ds => boolR ((inDs x ds).map not) S
  | .isin, .str x, .str y => match x.cps.toList with
    | [c] => .ok (.bl (decide (c ∈ y.cps.toList))) S
    | _ => .bad
  | .nin, .str x, .str y => match x.cps.toList with
    | [c] => .ok (.bl (!decide (c ∈ y.cps.toList))) S
    | _ => .bad
  | .isin, x, .loc l => match S[l]? with
    | some (.lst ds) => boolR (inDs x ds) S
    | some o => boolR ((obGet o x).map (·.isSome)) S
    | none => .bad
  | .nin, x, .loc l => match S[l]? with
    | some (.lst ds) => boolR ((inDs x ds).map not) S
    | some o => boolR ((obGet o x).map fun r => !r.isSome) S
    | none => .bad
  | _, _, _ => .bad
def truD (d : D) (S : Store) : Option Bool := match d with
  | .non => some false
  | .bl b => some b
  | .int i => some (i != 0)
  | .str x => if x.length ≤ LIM then some ((x.length : Int) != 0) else none
  | .tup ds => some (!ds.isEmpty)
  | .loc l => match S[l]? with
    | some (.lst ds) => some (!ds.isEmpty)
    | some (.dk kvs) => some (!kvs.isEmpty)
    | _ => none
  | _ => none
def truR (d : D) (S : Store) : Res Bool := match truD d S with
  | some b => .ok b S
  | none => .bad
/-- o[i] -/
def subD (a i : D) (S : Store) : Res D := match a, i with
  | .tup ds, .int i => okR (L2.atI ds i) S
  | .ktup ds, .int i => okR (L2.atI ds i) S
  | .str x, .int i => match L2.atI x.cps.toList i with
    | some c => if x.length ≤ LIM then .ok (.str ⟨#[c]⟩) S else .bad
    | none => .bad
  | .loc l, i => match S[l]?, i with
    | some (.lst ds), .int i => okR (L2.atI ds i) S
    | some o, k => match obGet o k with
      | some (some v) => .ok v S
      | _ => .bad
    | none, _ => .bad
  | _, _ => .bad
def cutL {α : Type} (xs : List α) (lo hi : Option Int) : List α := (xs.drop (HT.sIx xs.length 0 lo)).take (HT.sIx xs.length xs.length hi - HT.sIx xs.length 0 lo)
/-- o[lo:hi] -/
def slcD (a : D) (lo hi : Option Int) (S : Store) : Res D := match a with
  | .tup ds => .ok (.tup (cutL ds lo hi)) S
  | .loc l => match S[l]? with
    | some (.lst ds) => alloc (.lst (cutL ds lo hi)) S
    | _ => .bad
  | .scr ns => alloc (.lst ((cutL ns lo hi).map D.int)) S
  | _ => .bad
def tyD (d : D) (S : Store) : Option String := match d with
  | .non => some "NoneType"
  | .bl _ => some "bool"
  | .int _ => some "int"
  | .str _ => some "str"
  | .tup _ => some "tuple"
  | .ktup _ => some "tuple"
  | .loc l => match S[l]? with
    | some (.lst _) => some "list"
    | some (.dk _) => some "dict"
    | some (.dt _) => some "dict"
    | _ => none
  | _ => none
/-- isinstance by the names of built-in types -/
def isiB (t u : String) : Option Bool := if u = "int" ∨ u = "bool" ∨ u = "str" ∨ u = "tuple" ∨ u = "list" ∨ u = "dict" then some (decide (t = u) || (decide (t = "bool") && decide (u = "int"))) else none
/-- these ints -/
def intsD : List D → Option (List Int)
  | [] => some []
  | .int i :: ds => (intsD ds).map (i :: ·)
  | _ => none
def minI (ds : List D) : Option Int := match intsD ds with
  | some (i :: is) => some (is.foldl (fun a b => if b < a then b else a) i)
  | _ => none
/-- these pairs of ints -/
def pairsD : List D → Option (List (Int × Int))
  | [] => some []
  | .tup [.int i, .int j] :: ds => (pairsD ds).map ((i, j) :: ·)
  | _ => none
def ltP (a b : Int × Int) : Bool := decide (a.1 < b.1) || (decide (a.1 = b.1) && decide (a.2 < b.2))
def minP (ds : List D) : Option (Int × Int) := match pairsD ds with
  | some (p :: ps) => some (ps.foldl (fun a b => if ltP b a then b else a) p)
  | _ => none
def bltD (f : Bf) (as : List D) (S : Store) : Res D := match f, as with
  | .len, [.str x] => if x.length ≤ LIM then .ok (.int x.length) S else .bad
  | .len, [.tup ds] => .ok (.int ds.length) S
  | .len, [.ktup ds] => .ok (.int ds.length) S
  | .len, [.loc l] => match S[l]? with
    | some (.lst ds) => .ok (.int ds.length) S
    | _ => .bad
  | .abs, [.int i] => .ok (.int (if i < 0 then -i else i)) S
  | .int, [.int i] => .ok (.int i) S
  | .int, [.bl b] => .ok (.int (if b then 1 else 0)) S
  | .max, [.int i, .int j] => .ok (.int (if j > i then j else i)) S
  | .min, [.int i, .int j] => .ok (.int (if j < i then j else i)) S
  | .min, [.loc l] => match S[l]? with
    | some (.lst ds) => match minI ds with
      | some m => .ok (.int m) S
      | none => .bad
    | _ => .bad
  | .isi, [d, .ty u] => match tyD d S with
    | some t => boolR (isiB t u) S
    | none => .bad
  | .tuple, [.tup ds] => .ok (.tup ds) S
  | .tuple, [.loc l] => match S[l]? with
    | some (.lst ds) => .ok (.tup ds) S
    | _ => .bad
  | .list, [.tup ds] => alloc (.lst ds) S
  | .list, [.loc l] => match S[l]? with
    | some (.lst ds) => alloc (.lst ds) S
    | _ => .bad
  | .repr, [d] => match d.data with
    | some p => if p.showable ∧ p.shown.length ≤ LIM ∧ p.depth ≤ 60 then .ok (.str p.shown) S else .bad
    | none => .bad
  | _, _ => .bad
/-- repr wants to know what is under way -/
def okBf (f : Bf) (gd : Bool) : Bool := match f with
  | .repr => gd
  | _ => true
/-- pairs (key, value), the keys tuples -/
def pairsT : List D → Option (List (List Key × D))
  | [] => some []
  | .tup [.tup ks, v] :: r => match keysOf ks, pairsT r with
    | some k, some kvs => some ((k, v) :: kvs)
    | _, _ => none
  | _ => none
def putAll {κ : Type} [DecidableEq κ] (acc more : List (κ × D)) : List (κ × D) := more.foldl (fun acc p => kput acc p.1 p.2) acc
def blsOf : List D → Option (List Bool)
  | [] => some []
  | .bl b :: ds => (blsOf ds).map (b :: ·)
  | _ => none
/-- built-ins of a list that nobody else holds -/
def bllD (f : Bl) (ds : List D) (S : Store) : Res D := match f with
  | .all => match blsOf ds with
    | some bs => .ok (.bl (bs.all id)) S
    | none => .bad
  | .any => match blsOf ds with
    | some bs => .ok (.bl (bs.any id)) S
    | none => .bad
  | .tuple => .ok (.tup ds) S
  | .len => .ok (.int ds.length) S
  | .dict => match pairsT ds with
    | some kvs => if kvs.length ≤ LIM then alloc (.dt (putAll [] kvs)) S else .bad
    | none => .bad
  | .min => match minP ds with
    | some p => .ok (.tup [.int p.1, .int p.2]) S
    | none => .bad
/-- the receiver is of the kind that the method wants -/
def kindOk (m : Mt) (x : D) (S : Store) : Bool := match m, x with
  | .get, .loc l => match S[l]? with
    | some (.dk _) => true
    | some (.dt _) => true
    | _ => false
  | .update, .loc l => match S[l]? with
    | some (.dk _) => true
    | some (.dt _) => true
    | _ => false
  | .own _, _ => false
  | _, .loc l => match S[l]? with
    | some (.lst _) => true
    | _ => false
  | _, _ => false
/-- methods of lists, dicts -/
def methD (a : D) (m : Mt) (as : List D) (S : Store) : Res D := match a with
  | .loc l => match S[l]?, m, as with
    | some (.lst xs), .append, [y] => if xs.length < LIM then .ok .non (S.set l (.lst (xs ++ [y]))) else .bad
    | some (.lst xs), .extend, [.loc b] => match S[b]? with
      | some (.lst zs) => if xs.length + zs.length ≤ LIM then .ok .non (S.set l (.lst (xs ++ zs))) else .bad
      | _ => .bad
    | some (.lst xs), .pop, [] => match xs[xs.length - 1]? with
      | some y => .ok y (S.set l (.lst xs.dropLast))
      | none => .bad
    | some (.dt kvs), .update, [.loc b] => match S[b]? with
      | some (.dt more) => if l ≠ b ∧ !kvs.isEmpty ∧ kvs.length + more.length ≤ LIM then .ok .non (S.set l (.dt (putAll kvs more))) else .bad
      | _ => .bad
    | some (.lst xs), .index, [y] => if isScal y && xs.all isScal then match xs.findIdx? fun z => eqS z y with
      | some j => .ok (.int (j : Nat)) S
      | none => .bad else .bad
    | some o, .get, [k, d] => match obGet o k with
      | some r => .ok (r.getD d) S
      | none => .bad
    | _, _, _ => .bad
  | _ => .bad

/-! ### targets -/
mutual
def bindT : TG → D → EnvD → Option EnvD
  | .name i, d, env => if i < env.length then some (env.set i (some d)) else none
  | .tup ts, .tup ds, env => bindTs ts ds env
  | _, _, _ => none
def bindTs : TGs → List D → EnvD → Option EnvD
  | .nil, [], env => some env
  | .cons t ts, d :: ds, env => match bindT t d env with
    | some e => bindTs ts ds e
    | none => none
  | _, _, _ => none
end
def wipeE (env : EnvD) : List Nat → EnvD
  | [] => env
  | v :: vs => (wipeE env vs).set v none

/-! ### what is walked -/
inductive ItV where
  | ds (ds : List D) | lst (l : Nat)
def itD (d : D) (S : Store) : Res ItV := match d with
  | .tup ds => .ok (.ds ds) S
  | .ktup ds => .ok (.ds ds) S
  | .str x => .ok (.ds (x.cps.toList.map fun c => .str ⟨#[c]⟩)) S
  | .loc l => match S[l]? with
    | some (.lst _) => .ok (.lst l) S
    | _ => .bad
  | _ => .bad
def rngL (lo c : Int) : Nat → List D
  | 0 => []
  | n + 1 => .int lo :: rngL (lo + c) c n
def small62 (i : Int) : Bool := decide (-1000000000 ≤ i ∧ i ≤ 1000000000)
/-- over data: the turns one by one; a turn's state is α -/
def walkT {α : Type} (f : D → α → Store → Res α) : List D → α → Store → Res α
  | [], a, S => .ok a S
  | d :: ds, a, S => (f d a S).bind fun a S => walkT f ds a S
/-- over a list of the store, by places -/
def walkL {α : Type} (f : D → α → Store → Res α) (l : Nat) : Nat → Nat → α → Store → Res α
  | 0, _, _, _ => .bad
  | n + 1, i, a, S => match S[l]? with
    | some (.lst ds) => match ds[i]? with
      | some d => (f d a S).bind fun a S => walkL f l n (i + 1) a S
      | none => .ok a S
    | _ => .bad
def walkI {α : Type} (f : D → α → Store → Res α) (it : ItV) (a : α) (S : Store) : Res α := match it with
  | .ds ds => walkT f ds a S
  | .lst l => walkL f l LIM 0 a S
/-- in a comprehension nothing may be raised -/
def noExc {α : Type} : Res α → Res α
  | .exc _ _ => .bad
  | r => r

/-! ### the evaluator -/
structure Ctx where
  call : String → List D → Store → Res D
  meth : String → String → List D → Store → Res D
  init : String → List D → Store → Res D
  glb : String → Option D
  bty : String → Bool
  att : String → String → Bool
  defd : String → Bool
  newd : String → Bool
  methd : String → String → Bool
  gd : Bool
  lam : String → EX → EnvD → Store → Res D
  exc : String → Bool
/-- enumerate(..) -/
def enumL (i : Nat) : List D → List D
  | [] => []
  | d :: ds => .tup [.int (i : Nat), d] :: enumL (i + 1) ds
def enmD (d : D) (S : Store) : Res ItV := match d with
  | .tup ds => .ok (.ds (enumL 0 ds)) S
  | _ => .bad
def partR (d : D) (S : Store) : Res Int := match d with
  | .int i => .ok i S
  | _ => .bad
mutual
def evE (c : Ctx) : EX → EnvD → Store → Res D
  | .non, _, S => .ok .non S
  | .bl b, _, S => .ok (.bl b) S
  | .int i, _, S => .ok (.int i) S
  | .str x, _, S => .ok (.str x) S
  | .var i, env, S => match env[i]? with
    | some (some d) => .ok d S
    | _ => .bad
  | .glb x, _, S => okR (c.glb x) S
  | .bty x, _, S => if c.bty x then .ok (.ty x) S else .bad
  | .tup es, env, S => (evEs c es env S).bind fun ds S => if ds.length ≤ LIM then .ok (.tup ds) S else .bad
  | .ofl l, env, S => (evL c l env S).bind fun ds S => alloc (.lst ds) S
  | .dk0, _, S => alloc (.dk []) S
  | .dt0, _, S => alloc (.dt []) S
  | .bin op a b, env, S => (evE c a env S).bind fun x S => (evE c b env S).bind fun y S => binD op x y S
  | .neg a, env, S => (evE c a env S).bind fun x S => match x with
    | .int i => .ok (.int (-i)) S
    | _ => .bad
  | .cmp op a b, env, S => (evE c a env S).bind fun x S => (evE c b env S).bind fun y S => cmpD op x y S
  | .chn op a b op' z, env, S => (evE c a env S).bind fun x S => (evE c b env S).bind fun y S => (cmpD op x y S).bind fun r S => match r with
    | .bl true => (evE c z env S).bind fun z S => cmpD op' y z S
    | .bl false => .ok (.bl false) S
    | _ => .bad
  | .bop isAnd es, env, S => evBs c isAnd es env S
  | .nt a, env, S => (evE c a env S).bind fun x S => match x with
    | .bl b => .ok (.bl (!b)) S
    | _ => .bad
  | .ife t a b, env, S => (evE c t env S).bind fun x S => (truR x S).bind fun k S => match k with
    | true => evE c a env S
    | false => evE c b env S
  | .sub a i, env, S => (evE c a env S).bind fun x S => (evE c i env S).bind fun y S => subD x y S
  | .slc0 a, env, S => (evE c a env S).bind fun x S => slcD x none none S
  | .slcF a lo, env, S => (evE c a env S).bind fun x S => (evE c lo env S).bind fun l S => (partR l S).bind fun l S => slcD x (some l) none S
  | .slcT a hi, env, S => (evE c a env S).bind fun x S => (evE c hi env S).bind fun h S => (partR h S).bind fun h S => slcD x none (some h) S
  | .slcB a lo hi, env, S => (evE c a env S).bind fun x S => (evE c lo env S).bind fun l S => (partR l S).bind fun l S => (evE c hi env S).bind fun h S => (partR h S).bind fun h S => slcD x (some l) (some h) S
  | .fld a f, env, S => (evE c a env S).bind fun x S => match x with
    | .loc l => match S[l]? with
      | some (.ins C fs) => if c.att C f then okR (fs.lookup f) S else .bad
      | _ => .bad
    | _ => .bad
  | .call x es, env, S => if c.defd x then (evEs c es env S).bind fun ds S => c.call x ds S else .bad
  | .new C es, env, S => if c.newd C then (evEs c es env S).bind fun ds S => (noExc (c.init C (.loc S.length :: ds) (S ++ [.ins C []]))).bind fun r S' => match r with
    | .non => .ok (.loc S.length) S'
    | _ => .bad else .bad
  | .meth a (.own m) es, env, S => (evE c a env S).bind fun x S => match x with
    | .loc l => match S[l]? with
      | some (.ins C fs) => if (fs.lookup m).isNone && c.methd C m then (evEs c es env S).bind fun ds S => c.meth C m (x :: ds) S else .bad
      | _ => .bad
    | _ => .bad
  | .meth a m es, env, S => (evE c a env S).bind fun x S => if kindOk m x S then (evEs c es env S).bind fun ds S => methD x m ds S else .bad
  | .blt f es, env, S => if okBf f c.gd then (evEs c es env S).bind fun ds S => bltD f ds S else .bad
  | .bll f l, env, S => (evL c l env S).bind fun ds S => bllD f ds S
  | .lamw x b, env, S => c.lam x b env S
def evEs (c : Ctx) : EXs → EnvD → Store → Res (List D)
  | .nil, _, S => .ok [] S
  | .cons e es, env, S => (evE c e env S).bind fun d S => (evEs c es env S).bind fun ds S => .ok (d :: ds) S
def evBs (c : Ctx) (isAnd : Bool) : EXs → EnvD → Store → Res D
  | .nil, _, _ => .bad
  | .cons e .nil, env, S => evE c e env S
  | .cons e (.cons e' es), env, S => (evE c e env S).bind fun x S => match x with
    | .bl b => if b = isAnd then evBs c isAnd (.cons e' es) env S else .ok (.bl b) S
    | _ => .bad
def evIt (c : Ctx) : IT → EnvD → Store → Res ItV
  | .val e, env, S => (evE c e env S).bind itD
  | .rng1 a, env, S => (evE c a env S).bind fun x S => match x with
    | .int n => if small62 n then .ok (.ds (rngL 0 1 n.toNat)) S else .bad
    | _ => .bad
  | .rng2 a b, env, S => (evE c a env S).bind fun x S => (evE c b env S).bind fun y S => match x, y with
    | .int i, .int j => if small62 i && small62 j then .ok (.ds (rngL i 1 (j - i).toNat)) S else .bad
    | _, _ => .bad
  | .rng3 a b d, env, S => (evE c a env S).bind fun x S => (evE c b env S).bind fun y S => (evE c d env S).bind fun z S => match x, y, z with
    | .int i, .int j, .int (-1) => if small62 i && small62 j then .ok (.ds (rngL i (-1) (i - j).toNat)) S else .bad
    | _, _, _ => .bad
  | .enm a, env, S => (evE c a env S).bind enmD
def evL (c : Ctx) : LX → EnvD → Store → Res (List D)
  | .dis es, env, S => (evEs c es env S).bind fun ds S => if ds.length ≤ LIM then .ok ds S else .bad
  | .comp own t it ifs e, env, S => (evIt c it env S).bind fun iv S => noExc (walkI (fun d acc S => match bindT t d (wipeE env (own.map (·.2))) with
      | some env' => match ifs with
        | .nil => (evE c e env' S).bind fun y S => if acc.length < LIM then .ok (acc ++ [y]) S else .bad
        | .cons i _ => (evE c i env' S).bind fun x S => (truR x S).bind fun k S => match k with
          | true => (evE c e env' S).bind fun y S => if acc.length < LIM then .ok (acc ++ [y]) S else .bad
          | false => .ok acc S
      | none => .bad) iv [] S)
end

/-! ### statements -/
/-- targets of an assignment -/
inductive TAG where
  | name (i : Nat) | sub (o i : EX)
mutual
inductive ST where
  | expr (e : EX) | set (i : Nat) (e : EX) | par (ns : List Nat) (es : EXs) | asg (t : TAG) (e : EX) | fst (o : EX) (f : String) (e : EX) | asgs (ts : List TAG) (e : EX)
  | aug (i : Nat) (op : Op) (e : EX) | ret (e : EX) | ret0
  | ife (t : EX) (a b : SS) | whl (t : EX) (b : SS) | for_ (t : TG) (it : IT) (b : SS) | brk | cont | pass
  | never | raise (C : String)
inductive SS where
  | nil | cons (s : ST) (ss : SS)
end
inductive Out where
  | nx (env : EnvD) (S : Store) | rt (d : D) (S : Store) | bk (env : EnvD) (S : Store) | ct (env : EnvD) (S : Store) | exc (x : Xc) (env : EnvD) (S : Store) | bad
/-- an expression within a statement -/
def Res.out {α : Type} (r : Res α) (env : EnvD) (f : α → Store → Out) : Out := match r with
  | .ok a S => f a S
  | .exc x S => .exc x env S
  | .bad => .bad
def Out.then (o : Out) (f : EnvD → Store → Out) : Out := match o with
  | .nx env S => f env S
  | o => o
section
variable {α : Type}
@[simp] theorem Res.out_ok (a : α) (S : Store) (env : EnvD) (f : α → Store → Out) : (Res.ok a S).out env f = f a S := Eq.trans rfl rfl
@[simp] theorem Res.out_exc (x : Xc) (S : Store) (env : EnvD) (f : α → Store → Out) : (Res.exc x S).out env f = .exc x env S := rfl
@[simp] theorem Res.out_bad (env : EnvD) (f : α → Store → Out) : (Res.bad : Res α).out env f = .bad := rfl
@[simp] theorem Out.then_nx (env : EnvD) (S : Store) (f : EnvD → Store → Out) : (Out.nx env S).then f = f env S := Eq.trans rfl rfl
@[simp] theorem Out.then_rt (d : D) (S : Store) (f : EnvD → Store → Out) : (Out.rt d S).then f = .rt d S := rfl
@[simp] theorem Out.then_bk (env : EnvD) (S : Store) (f : EnvD → Store → Out) : (Out.bk env S).then f = .bk env S := rfl
@[simp] theorem Out.then_ct (env : EnvD) (S : Store) (f : EnvD → Store → Out) : (Out.ct env S).then f = .ct env S := rfl
@[simp] theorem Out.then_exc (x : Xc) (env : EnvD) (S : Store) (f : EnvD → Store → Out) : (Out.exc x env S).then f = .exc x env S := rfl
@[simp] theorem Out.then_bad (f : EnvD → Store → Out) : Out.bad.then f = .bad := rfl
end
/-- name op= value, on what is never changed in place -/
def augD (op : Op) (x y : D) (S : Store) : Res D := match op, x, y with
  | .add, .int i, .int j => .ok (.int (i + j)) S
  | .sub, .int i, .int j => .ok (.int (i - j)) S
  | _, _, _ => .bad
/-- o[i] = v -/
def stoD (o i v : D) (S : Store) : Res Unit := match o with
  | .loc l => match S[l]?, i with
    | some (.lst xs), .int i => match L2.ixN xs.length i with
      | some j => .ok () (S.set l (.lst (xs.set j v)))
      | none => .bad
    | some ob, k => match obPut ob k v with
      | some ob' => .ok () (S.set l ob')
      | none => .bad
    | none, _ => .bad
  | _ => .bad
/-- o.f = v -/
def putF (f : String) (v : D) : List (String × D) → List (String × D)
  | [] => [(f, v)]
  | (g, w) :: r => if g = f then (g, v) :: r else (g, w) :: putF f v r
def fldD (c : Ctx) (o : D) (f : String) (v : D) (S : Store) : Res Unit := match o with
  | .loc l => match S[l]? with
    | some (.ins C fs) => if c.att C f && fs.length < 100 then .ok () (S.set l (.ins C (putF f v fs))) else .bad
    | _ => .bad
  | _ => .bad
def setE (env : EnvD) (i : Nat) (d : D) : EnvD := env.set i (some d)
def asgT (c : Ctx) (t : TAG) (d : D) (env : EnvD) (S : Store) : Out := match t with
  | .name i => if i < env.length then .nx (env.set i (some d)) S else .bad
  | .sub o i => (evE c o env S).out env fun x S => (evE c i env S).out env fun y S => (stoD x y d S).out env fun _ S => .nx env S
def asgTs (c : Ctx) : List TAG → List D → EnvD → Store → Out
  | [], [], env, S => .nx env S
  | t :: ts, d :: ds, env, S => (asgT c t d env S).then fun env S => asgTs c ts ds env S
  | _, _, _, _ => .bad
def parE : List Nat → List D → EnvD → EnvD
  | i :: is, d :: ds, env => parE is ds (env.set i (some d))
  | _, _, env => env
/-- what is left of a loop behind a turn -/
inductive Lp where
  | go (env : EnvD) | stop (o : Out)
def turnO (o : Out) : Res Lp := match o with
  | .nx env S => .ok (.go env) S
  | .ct env S => .ok (.go env) S
  | .bk env S => .ok (.stop (.nx env S)) S
  | .rt d S => .ok (.stop (.rt d S)) S
  | .exc x env S => .ok (.stop (.exc x env S)) S
  | .bad => .bad
/-- a for over data -/
def forT (f : D → EnvD → Store → Out) : List D → EnvD → Store → Out
  | [], env, S => .nx env S
  | d :: ds, env, S => match f d env S with
    | .nx env S => forT f ds env S
    | .ct env S => forT f ds env S
    | .bk env S => .nx env S
    | o => o
/-- a for over a list of the store -/
def forL (f : D → EnvD → Store → Out) (l : Nat) : Nat → Nat → EnvD → Store → Out
  | 0, _, _, _ => .bad
  | n + 1, i, env, S => match S[l]? with
    | some (.lst ds) => match ds[i]? with
      | some d => match f d env S with
        | .nx env S => forL f l n (i + 1) env S
        | .ct env S => forL f l n (i + 1) env S
        | .bk env S => .nx env S
        | o => o
      | none => .nx env S
    | _ => .bad
def whlT (t : EnvD → Store → Res Bool) (f : EnvD → Store → Out) : Nat → EnvD → Store → Out
  | 0, _, _ => .bad
  | n + 1, env, S => (t env S).out env fun b S => match b with
    | true => match f env S with
      | .nx env S => whlT t f n env S
      | .ct env S => whlT t f n env S
      | .bk env S => .nx env S
      | o => o
    | false => .nx env S
def evTest (c : Ctx) (t : EX) (env : EnvD) (S : Store) : Res Bool := (evE c t env S).bind truR
/-- the fields of the module's own exceptions, by their classes -/
abbrev XcT := String → Option (List String)
mutual
def evS (c : Ctx) : ST → EnvD → Store → Out
  | .expr e, env, S => (evE c e env S).out env fun _ S => .nx env S
  | .set i e, env, S => (evE c e env S).out env fun d S => if i < env.length then .nx (env.set i (some d)) S else .bad
  | .par ns es, env, S => (evEs c es env S).out env fun ds S => if ds.length = ns.length then .nx (parE ns ds env) S else .bad
  | .asg t e, env, S => (evE c e env S).out env fun d S => asgT c t d env S
  | .fst o f e, env, S => (evE c e env S).out env fun d S => (evE c o env S).out env fun x S => (fldD c x f d S).out env fun _ S => .nx env S
  | .asgs ts e, env, S => (evE c e env S).out env fun d S => match d with
    | .tup ds => if ds.length = ts.length then asgTs c ts ds env S else .bad
    | _ => .bad
  | .aug i op e, env, S => match env[i]? with
    | some (some x) => (evE c e env S).out env fun y S => (augD op x y S).out env fun z S => .nx (env.set i (some z)) S
    | _ => .bad
  | .ret e, env, S => (evE c e env S).out env fun d S => .rt d S
  | .ret0, env, S => .rt .non S
  | .ife t a b, env, S => (evTest c t env S).out env fun k S => match k with
    | true => evSs c a env S
    | false => evSs c b env S
  | .whl t b, env, S => whlT (evTest c t) (fun env S => evSs c b env S) LIM env S
  | .for_ t it b, env, S => (evIt c it env S).out env fun iv S => match iv with
    | .ds ds => forT (fun d env S => match bindT t d env with
      | some env => evSs c b env S
      | none => .bad) ds env S
    | .lst l => forL (fun d env S => match bindT t d env with
      | some env => evSs c b env S
      | none => .bad) l LIM 0 env S
  | .brk, env, S => .bk env S
  | .cont, env, S => .ct env S
  | .pass, env, S => .nx env S
  | .never, _, _ => .bad
  | .raise C, env, S => if c.exc C then .exc ⟨C, []⟩ env S else .bad
def evSs (c : Ctx) : SS → EnvD → Store → Out
  | .nil, env, S => .nx env S
  | .cons s ss, env, S => (evS c s env S).then fun env S => evSs c ss env S
end

/-! ### defs, calls -/
structure Def where
  np : Nat      -- parameters
  nn : Nat      -- names in all
  body : SS
structure Prg where
  defs : String → Option Def
  meths : String → String → Option Def
  glb : String → Option D
  bty : String → Bool
  att : String → String → Bool
  gd : Bool := false   -- known: no repr is under way (and no instance is made)
  wrd : String → Option (List (String × Str) × Str) := fun _ => none   -- the words of what is raised, of none
  xc : String → Bool := fun _ => false
/-- the word of a call's end -/
def wordR (xc : String → Bool) (w : Option (List (String × Str) × Str)) (r : Res D) : Res D := match w with
  | some (hs, told) => match r with
    | .ok _ S => .ok (.str told) S
    | .exc x S => if xc x.cls then match hs.find? fun h => decide (h.1 = x.cls) with
      | some h => .ok (.str h.2) S
      | none => .bad else .bad
    | .bad => .bad
  | none => .bad
def endO (o : Out) : Res D := match o with
  | .nx _ S => .ok .non S
  | .rt d S => .ok d S
  | .exc x _ S => .exc x S
  | _ => .bad
def gcR (S : Store) (r : Res D) : Res D := match r with
  | .ok d S' => .ok (gc d S.length S').1 (gc d S.length S').2
  | .exc x S' => .exc x S'
  | .bad => .bad
def startE (nn : Nat) (ds : List D) : EnvD := ds.map some ++ List.replicate (nn - ds.length) none
def runDef (c : Ctx) (d : Def) (ds : List D) (S : Store) : Res D := if ds.length = d.np then gcR S (endO (evSs c d.body (startE d.nn ds) S)) else .bad
/-- the calls at a depth -/
def cxK (P : Prg) : Nat → Ctx
  | 0 => ⟨fun _ _ _ => .bad, fun _ _ _ _ => .bad, fun _ _ _ => .bad, P.glb, P.bty, P.att, fun _ => false, fun _ => false, fun _ _ => false, P.gd, fun _ _ _ _ => .bad, P.xc⟩
  | k + 1 => ⟨fun x ds S => match P.defs x with
      | some d => runDef (cxK P k) d ds S
      | none => .bad,
    fun C m ds S => match P.meths C m with
      | some d => runDef (cxK P k) d ds S
      | none => .bad,
    fun C ds S => match k with
      | 0 => .bad
      | j + 1 => match P.meths C "__init__" with
        | some d => runDef (cxK P j) d ds S
        | none => .bad, P.glb, P.bty, P.att, fun x => (P.defs x).isSome, fun C => !P.gd && (P.meths C "__init__").isSome, fun C m => (P.meths C m).isSome, P.gd,
    fun x b env S => match k with
      | 0 => .bad
      | j + 1 => wordR P.xc (P.wrd x) (evE (cxK P j) b env S), P.xc⟩
end Ev
end

section
set_option Elab.async false
set_option linter.all false
set_option maxRecDepth 100000
set_option autoImplicit false
/-! Ev2: how the evaluator's data and store stand in the hand layer's abstract heap. -/
namespace Ev
open PySem PySem.Spec L2
open PyProof.Rows hiding St

/-- what the written part gives by names: the classes' addresses -/
structure Wr where
  K : PySem.W.Frag
  ca : String → Addr
  tabs : List (Addr × Str) := []   -- tables of code objects, and what these are called
  lc : Addr := 0                   -- the code object of the def that makes lambdas

mutual
inductive RepV (K : PySem.W.Frag) (φ : List Addr) (H : Hp) : V → D → Prop
  | non : RepV K φ H .non .non
  | bl (b : Bool) : RepV K φ H (.bl b) (.bl b)
  | int (i : Int) : RepV K φ H (.int i) (.int i)
  | str (x : Str) : RepV K φ H (.str x) (.str x)
  | ty (n : String) : RepV K φ H (.ty n) (.ty n)
  | tup {a : Addr} {vs : List V} {ds : List D} : H a = some (.tup vs) → RepVs K φ H vs ds → RepV K φ H (.ref a) (.tup ds)
  | ktup {a : Addr} {o : Obj} {its : Array Value} {n : Nat} {vs : List V} {ds : List D} : K.lookup a = some o → o.cls = .type "tuple" → o.data = .seq its n → its.size ≤ sizeLine → Vals vs its.toList → RepVs K φ H vs ds → RepV K φ H (.ref a) (.ktup ds)
  | loc {a : Addr} {l : Nat} : φ[l]? = some a → RepV K φ H (.ref a) (.loc l)
  | scrF {a : Addr} {o : Obj} {ns : List Int} : H a = some (.frz o (.lst (ns.map V.int))) → RepV K φ H (.ref a) (.scr ns)
  | scrK {a : Addr} {o : Obj} {its : Array Value} {n : Nat} {ns : List Int} : K.lookup a = some o → o.cls = .type "list" → o.dict = none → o.data = .seq its n → its.size ≤ sizeLine → Vals (ns.map V.int) its.toList → RepV K φ H (.ref a) (.scr ns)
inductive RepVs (K : PySem.W.Frag) (φ : List Addr) (H : Hp) : List V → List D → Prop
  | nil : RepVs K φ H [] []
  | cons {v : V} {vs : List V} {d : D} {ds : List D} : RepV K φ H v d → RepVs K φ H vs ds → RepVs K φ H (v :: vs) (d :: ds)
end
abbrev RepK (K : PySem.W.Frag) (φ : List Addr) (H : Hp) {κ : Type} : List (κ × V) → List (κ × D) → Prop := Paired fun p q => p.1 = q.1 ∧ RepV K φ H p.2 q.2
abbrev RepF (K : PySem.W.Frag) (φ : List Addr) (H : Hp) : List (Str × V) → List (String × D) → Prop := Paired fun p q => p.1 = Str.ofString q.1 ∧ RepV K φ H p.2 q.2
def RepO (T : Wr) (φ : List Addr) (H : Hp) (a : Addr) : Ob → Prop
  | .lst ds => ∃ vs, H a = some (.lst vs) ∧ RepVs T.K φ H vs ds
  | .dk kds => ∃ kvs, H a = some (.dK kvs) ∧ RepK T.K φ H kvs kds
  | .dt kds => ∃ kvs, H a = some (.dT kvs) ∧ RepK T.K φ H kvs kds
  | .ins C fs => ∃ dx vfs, H a = some (.ins (T.ca C) dx vfs) ∧ RepF T.K φ H vfs fs
structure RepS (T : Wr) (φ : List Addr) (H : Hp) (S : Store) : Prop where
  len : φ.length = S.length
  nd : φ.Nodup
  ob : ∀ (l : Nat) (o : Ob) (a : Addr), S[l]? = some o → φ[l]? = some a → RepO T φ H a o
  tab : LamX.Tabs T.tabs H
/-- nothing stands there (but a table of code objects) -/
def Nw (H : Hp) (a : Addr) : Prop := ∀ u, H a = some u → ∃ ps, u = .tbl ps
theorem Nw.of {H : Hp} {a : Addr} (h : H a = none) : Nw H a := fun u e => by rw [h] at e; cases e
/-- what a run leaves of what stood: the places stay, new ones were free, what is no place of the store stays -/
structure Ext (φ φ' : List Addr) (H H' : Hp) : Prop where
  pre : φ <+: φ'
  new : ∀ a ∈ φ', a ∈ φ ∨ Nw H a
  kp : ∀ b o, H b = some o → b ∉ φ → (∀ ps, o ≠ .tbl ps) → H' b = some o
structure Rep (T : Wr) (φ : List Addr) (σ : St) (H : Hp) (env : EnvD) (S : Store) : Prop where
  sto : RepS T φ H S
  len : σ.length = env.length
  env : ∀ (i : Nat) (d : D), env[i]? = some (some d) → ∃ v, σ[i]? = some (some v) ∧ RepV T.K φ H v d

theorem RepO.mut {T : Wr} {φ : List Addr} {H : Hp} {a : Addr} {o : Ob} (h : RepO T φ H a o) : ∃ u, H a = some u ∧ Mut (some u) ∧ (∀ ps, u ≠ .tbl ps) := by
  cases o with
  | lst ds => obtain ⟨vs, e, _⟩ := h; exact ⟨_, e, trivial, fun _ z => by cases z⟩
  | dk ds => obtain ⟨vs, e, _⟩ := h; exact ⟨_, e, trivial, fun _ z => by cases z⟩
  | dt ds => obtain ⟨vs, e, _⟩ := h; exact ⟨_, e, trivial, fun _ z => by cases z⟩
  | ins C fs => obtain ⟨dx, vs, e, _⟩ := h; exact ⟨_, e, trivial, fun _ z => by cases z⟩
def inSt : HO → Prop
  | .ext _ => False
  | _ => True
theorem RepO.inStore {T : Wr} {φ : List Addr} {H : Hp} {a : Addr} {o : Ob} (h : RepO T φ H a o) : ∃ u, H a = some u ∧ inSt u := by
  cases o with
  | lst ds => obtain ⟨vs, e, _⟩ := h; exact ⟨_, e, trivial⟩
  | dk ds => obtain ⟨vs, e, _⟩ := h; exact ⟨_, e, trivial⟩
  | dt ds => obtain ⟨vs, e, _⟩ := h; exact ⟨_, e, trivial⟩
  | ins C fs => obtain ⟨dx, vs, e, _⟩ := h; exact ⟨_, e, trivial⟩
section
variable {T : Wr} {φ φ' φ'' : List Addr} {H H' H'' : Hp} {S S' : Store} {σ : St} {env : EnvD}
theorem RepS.mem (h : RepS T φ H S) {a : Addr} (ha : a ∈ φ) : ∃ (l : Nat) (o : Ob), φ[l]? = some a ∧ S[l]? = some o ∧ RepO T φ H a o := by
  obtain ⟨l, hl, e⟩ := List.getElem_of_mem ha
  have hl' : l < S.length := by rw [← h.len]; exact hl
  have e1 : φ[l]? = some a := by rw [List.getElem?_eq_getElem hl, e]
  exact ⟨l, S[l], e1, List.getElem?_eq_getElem hl', h.ob l _ a (List.getElem?_eq_getElem hl') e1⟩
theorem RepS.mut (h : RepS T φ H S) {a : Addr} (ha : a ∈ φ) : ∃ u, H a = some u ∧ Mut (some u) := by
  obtain ⟨l, o, _, _, r⟩ := h.mem ha
  obtain ⟨u, e, m, _⟩ := r.mut
  exact ⟨u, e, m⟩
/-- what is no list, no dict, no instance is no place -/
theorem RepS.out (h : RepS T φ H S) {a : Addr} {u : HO} (e : H a = some u) (m : ¬ Mut (some u)) : a ∉ φ := fun ha => by
  obtain ⟨v, e', m'⟩ := h.mut ha
  rw [e] at e'; cases e'
  exact m m'
theorem RepS.at (h : RepS T φ H S) {l : Nat} {o : Ob} (e : S[l]? = some o) : ∃ a, φ[l]? = some a ∧ RepO T φ H a o := by
  have hl : l < S.length := (List.getElem?_eq_some_iff.mp e).1
  have hl' : l < φ.length := by rw [h.len]; exact hl
  exact ⟨φ[l], List.getElem?_eq_getElem hl', h.ob l o _ e (List.getElem?_eq_getElem hl')⟩
theorem Ext.refl : Ext φ φ H H := ⟨List.prefix_refl _, fun _ h => .inl h, fun _ _ h _ _ => h⟩
theorem Ext.trans (a : Ext φ φ' H H') (b : Ext φ' φ'' H' H'') : Ext φ φ'' H H'' := by
  refine ⟨a.pre.trans b.pre, fun c hc => ?_, fun c o h hn ht => ?_⟩
  · rcases b.new c hc with h | h
    · exact a.new c h
    · by_cases hcφ : c ∈ φ
      · exact .inl hcφ
      · refine .inr fun o q => ?_
        cases o with
        | tbl ps => exact ⟨ps, rfl⟩
        | _ => exact h _ (a.kp c _ q hcφ (fun _ z => by cases z))
  · have e := a.kp c o h hn ht
    refine b.kp c o e (fun hc => ?_) ht
    rcases a.new c hc with q | q
    · exact hn q
    · obtain ⟨ps, z⟩ := q o h
      exact ht ps z
/-- a tuple stays -/
theorem SqT.ext {K : PySem.W.Frag} {a : Addr} {xs : List V} (r : RepS T φ H S) (x : Ext φ φ' H H') (h : SqT K H a xs) : SqT K H' a xs := by
  rcases h with (h | ⟨o, h⟩) | h
  · exact .inl (.inl (x.kp _ _ h (r.out h fun z => z) fun _ z => by cases z))
  · exact .inl (.inr ⟨o, x.kp _ _ h (r.out h fun z => z) fun _ z => by cases z⟩)
  · exact .inr h
theorem pre_at {l : Nat} {a : Addr} (x : φ <+: φ') (h : φ[l]? = some a) : φ'[l]? = some a := by
  obtain ⟨t, rfl⟩ := x
  rw [List.getElem?_append_left (List.getElem?_eq_some_iff.mp h).1]
  exact h
mutual
theorem RepV.ext (r : RepS T φ H S) (x : Ext φ φ' H H') : ∀ {v : V} {d : D}, RepV T.K φ H v d → RepV T.K φ' H' v d
  | _, _, .non => .non
  | _, _, .bl b => .bl b
  | _, _, .int b => .int b
  | _, _, .str b => .str b
  | _, _, .ty b => .ty b
  | _, _, .tup h hs => .tup (x.kp _ _ h (r.out h fun z => z) fun _ z => by cases z) (RepVs.ext r x hs)
  | _, _, .ktup h1 h2 h3 h4 h5 hs => .ktup h1 h2 h3 h4 h5 (RepVs.ext r x hs)
  | _, _, .loc h => .loc (pre_at x.pre h)
  | _, _, .scrF h => .scrF (x.kp _ _ h (r.out h fun z => z) fun _ z => by cases z)
  | _, _, .scrK h1 h2 h3 h4 h5 h6 => .scrK h1 h2 h3 h4 h5 h6
theorem RepVs.ext (r : RepS T φ H S) (x : Ext φ φ' H H') : ∀ {vs : List V} {ds : List D}, RepVs T.K φ H vs ds → RepVs T.K φ' H' vs ds
  | _, _, .nil => .nil
  | _, _, .cons h hs => .cons (RepV.ext r x h) (RepVs.ext r x hs)
end
theorem RepK.ext {κ : Type} (r : RepS T φ H S) (x : Ext φ φ' H H') {kvs : List (κ × V)} {kds : List (κ × D)} (h : RepK T.K φ H kvs kds) : RepK T.K φ' H' kvs kds :=
  Paired.mapP h fun _ _ q => ⟨q.1, q.2.ext r x⟩
theorem RepF.ext (r : RepS T φ H S) (x : Ext φ φ' H H') {kvs : List (Str × V)} {kds : List (String × D)} (h : RepF T.K φ H kvs kds) : RepF T.K φ' H' kvs kds :=
  Paired.mapP h fun _ _ q => ⟨q.1, q.2.ext r x⟩
theorem Rep.ext (r : Rep T φ σ H env S) (x : Ext φ φ' H H') (s : RepS T φ' H' S') : Rep T φ' σ H' env S' :=
  ⟨s, r.len, fun i d e => by
    obtain ⟨v, h1, h2⟩ := r.env i d e
    exact ⟨v, h1, h2.ext r.sto x⟩⟩
theorem RepVs.length {K : PySem.W.Frag} : ∀ {vs : List V} {ds : List D}, RepVs K φ H vs ds → vs.length = ds.length
  | _, _, .nil => rfl
  | _, _, .cons _ h => by simp [h.length]
theorem RepVs.get {K : PySem.W.Frag} : ∀ {vs : List V} {ds : List D} {i : Nat} {d : D}, RepVs K φ H vs ds → ds[i]? = some d → ∃ v, vs[i]? = some v ∧ RepV K φ H v d
  | _, _, _, _, .nil, e => by simp at e
  | _, _, 0, _, .cons r _, e => by simp at e; subst e; exact ⟨_, rfl, r⟩
  | _, _, i + 1, d, .cons _ t, e => by
    obtain ⟨v, h1, h2⟩ := RepVs.get (i := i) (d := d) t (by simpa using e)
    exact ⟨v, by simpa using h1, h2⟩
theorem RepVs.getV {K : PySem.W.Frag} : ∀ {vs : List V} {ds : List D} {i : Nat} {v : V}, RepVs K φ H vs ds → vs[i]? = some v → ∃ d, ds[i]? = some d ∧ RepV K φ H v d
  | _, _, _, _, .nil, e => by simp at e
  | _, _, 0, _, .cons r _, e => by simp at e; subst e; exact ⟨_, rfl, r⟩
  | _, _, i + 1, v, .cons _ t, e => by
    obtain ⟨d, h1, h2⟩ := RepVs.getV (i := i) (v := v) t (by simpa using e)
    exact ⟨d, by simpa using h1, h2⟩
theorem RepVs.append {K : PySem.W.Frag} : ∀ {vs ws : List V} {ds es : List D}, RepVs K φ H vs ds → RepVs K φ H ws es → RepVs K φ H (vs ++ ws) (ds ++ es)
  | _, _, _, _, .nil, s => s
  | _, _, _, _, .cons r t, s => .cons r (RepVs.append t s)
theorem RepVs.take {K : PySem.W.Frag} : ∀ {vs : List V} {ds : List D} (n : Nat), RepVs K φ H vs ds → RepVs K φ H (vs.take n) (ds.take n)
  | _, _, 0, _ => .nil
  | _, _, _ + 1, .nil => .nil
  | _, _, n + 1, .cons r t => .cons r (RepVs.take n t)
theorem RepVs.drop {K : PySem.W.Frag} : ∀ {vs : List V} {ds : List D} (n : Nat), RepVs K φ H vs ds → RepVs K φ H (vs.drop n) (ds.drop n)
  | _, _, 0, r => r
  | _, _, _ + 1, .nil => .nil
  | _, _, n + 1, .cons _ t => RepVs.drop n t
theorem RepVs.set {K : PySem.W.Frag} {v : V} {d : D} (r : RepV K φ H v d) : ∀ {vs : List V} {ds : List D} (i : Nat), RepVs K φ H vs ds → RepVs K φ H (vs.set i v) (ds.set i d)
  | _, _, _, .nil => .nil
  | _, _, 0, .cons _ t => .cons r t
  | _, _, i + 1, .cons q t => .cons q (RepVs.set r i t)
theorem RepVs.dropLast {K : PySem.W.Frag} {vs : List V} {ds : List D} (h : RepVs K φ H vs ds) : RepVs K φ H vs.dropLast ds.dropLast := by
  rw [List.dropLast_eq_take, List.dropLast_eq_take, h.length]
  exact h.take _
theorem RepVs.rep {K : PySem.W.Frag} {vs : List V} {ds : List D} (h : RepVs K φ H vs ds) : ∀ k : Nat, RepVs K φ H (List.replicate k vs).flatten (List.replicate k ds).flatten
  | 0 => .nil
  | k + 1 => by
    rw [List.replicate_succ, List.replicate_succ, List.flatten_cons, List.flatten_cons]
    exact h.append (h.rep k)
theorem RepVs.ints {K : PySem.W.Frag} : ∀ ns : List Int, RepVs K φ H (ns.map V.int) (ns.map D.int)
  | [] => .nil
  | n :: ns => .cons (.int n) (RepVs.ints ns)

/-- a new object at a free place -/
theorem Ext.alloc {p : Addr} {u : HO} (hp : H p = none) (hφ : p ∉ φ) : Ext φ (φ ++ [p]) H (upd H p u) := by
  refine ⟨List.prefix_append _ _, fun a ha => ?_, fun b o h _ _ => ?_⟩
  · rcases List.mem_append.mp ha with h | h
    · exact .inl h
    · rw [List.mem_singleton.mp h]; exact .inr (.of hp)
  · rw [upd_ne (ne_of_none h hp)]; exact h
/-- a new object that is no place of the store (a tuple) -/
theorem Ext.aside {p : Addr} {u : HO} (hp : H p = none) : Ext φ φ H (upd H p u) := by
  refine ⟨List.prefix_refl _, fun a ha => .inl ha, fun b o h _ _ => ?_⟩
  rw [upd_ne (ne_of_none h hp)]; exact h
theorem RepS.fresh (r : RepS T φ H S) {p : Addr} (hp : H p = none) : p ∉ φ := fun h => by
  obtain ⟨u, e, _⟩ := r.mut h
  rw [hp] at e; cases e
theorem RepO.ext {a : Addr} {o : Ob} (r : RepS T φ H S) (x : Ext φ φ' H H') (e : H' a = H a) (h : RepO T φ H a o) : RepO T φ' H' a o := by
  cases o with
  | lst ds => obtain ⟨vs, e1, h1⟩ := h; exact ⟨vs, e.trans e1, h1.ext r x⟩
  | dk ds => obtain ⟨vs, e1, h1⟩ := h; exact ⟨vs, e.trans e1, RepK.ext r x h1⟩
  | dt ds => obtain ⟨vs, e1, h1⟩ := h; exact ⟨vs, e.trans e1, RepK.ext r x h1⟩
  | ins C fs => obtain ⟨dx, vs, e1, h1⟩ := h; exact ⟨dx, vs, e.trans e1, RepF.ext r x h1⟩
/-- the store with what is new aside -/
theorem tabs_new {p : Addr} {u : HO} (t : LamX.Tabs T.tabs H) (hp : H p = none) : LamX.Tabs T.tabs (upd H p u) := t.ext fun b o h => by rw [upd_ne (ne_of_none h hp)]; exact h
theorem RepS.aside (r : RepS T φ H S) {p : Addr} {u : HO} (hp : H p = none) : RepS T φ (upd H p u) S :=
  ⟨r.len, r.nd, fun l o a e1 e2 => by
    have h := r.ob l o a e1 e2
    obtain ⟨w, ew, _⟩ := h.mut
    exact h.ext r (Ext.aside hp) (upd_ne (ne_of_none ew hp)), tabs_new r.tab hp⟩
theorem RepS.alloc (r : RepS T φ H S) {p : Addr} {u : HO} {o : Ob} (hp : H p = none) (h : RepO T (φ ++ [p]) (upd H p u) p o) : RepS T (φ ++ [p]) (upd H p u) (S ++ [o]) := by
  have hφ := r.fresh hp
  refine ⟨by simp [r.len], ?_, fun l ob a e1 e2 => ?_, tabs_new r.tab hp⟩
  · rw [List.nodup_append]
    exact ⟨r.nd, by simp, fun a ha b hb => by rw [List.mem_singleton.mp hb]; rintro rfl; exact hφ ha⟩
  · by_cases hl : l < S.length
    · rw [List.getElem?_append_left hl] at e1
      rw [List.getElem?_append_left (by rw [r.len]; exact hl)] at e2
      have h := r.ob l ob a e1 e2
      obtain ⟨w, ew, _⟩ := h.mut
      exact h.ext r (Ext.alloc hp hφ) (upd_ne (ne_of_none ew hp))
    · have hl2 : l = S.length := by
        have := (List.getElem?_eq_some_iff.mp e1).1
        simp at this; omega
      subst hl2
      rw [List.getElem?_append_right (Nat.le_refl _)] at e1
      rw [← r.len, List.getElem?_append_right (Nat.le_refl _)] at e2
      simp at e1 e2
      subst e1 e2
      exact h
/-- an object of the store is changed -/
theorem Ext.write {a : Addr} {u w : HO} (ha : a ∈ φ) (hw : H a = some w) (ht : ∀ ps, w ≠ .tbl ps) : Ext φ φ H (upd H a u) := by
  refine ⟨List.prefix_refl _, fun a ha => .inl ha, fun b o h hb _ => ?_⟩
  rw [upd_ne (by rintro rfl; exact hb ha)]; exact h
theorem RepS.write (r : RepS T φ H S) {l : Nat} {a : Addr} {u : HO} {o o' : Ob} (hl : S[l]? = some o) (ha : φ[l]? = some a) (h : RepO T φ (upd H a u) a o') : RepS T φ (upd H a u) (S.set l o') := by
  have ho := r.ob l o a hl ha
  obtain ⟨w, ew, _, ht⟩ := ho.mut
  have hmem : a ∈ φ := List.mem_of_getElem? ha
  refine ⟨by simp [r.len], r.nd, fun j ob b e1 e2 => ?_, ?_⟩
  rotate_left
  · intro q hq
    obtain ⟨ps, h1, h2, h3⟩ := r.tab q hq
    refine ⟨ps, by rw [upd_ne (by rintro e; rw [e, ew] at h1; cases h1; exact ht ps rfl)]; exact h1, h2, fun pos cv hc => ?_⟩
    obtain ⟨c, e1, e2⟩ := h3 pos cv hc
    exact ⟨c, e1, by rw [upd_ne (by rintro rfl; obtain ⟨w2, ew2, hm⟩ := ho.inStore; rw [e2] at ew2; cases ew2; exact hm)]; exact e2⟩
  by_cases hj : j = l
  · subst hj
    rw [ha] at e2; cases e2
    rw [List.getElem?_set_self (List.getElem?_eq_some_iff.mp hl).1] at e1
    cases e1
    exact h
  · rw [List.getElem?_set_ne (Ne.symm hj)] at e1
    have hb := r.ob j ob b e1 e2
    refine hb.ext r (Ext.write hmem ew ht) (upd_ne ?_)
    rintro rfl
    exact hj ((List.getElem?_inj (List.getElem?_eq_some_iff.mp e2).1 r.nd).mp (e2.trans ha.symm))
end
end Ev
end

section
set_option Elab.async false
set_option linter.all false
set_option maxRecDepth 100000
set_option autoImplicit false
/-! Ev3: what the evaluator's operators tell holds of the model's. -/
namespace Ev
open PySem PySem.Spec L2
open PyProof.Rows hiding St

/-! ### what a run's end is to give -/
def RepX (T : Wr) (φ : List Addr) (H : Hp) (cls : Value) (dx : Option Addr) (x : Xc) : Prop := cls = .ref (T.ca x.cls) ∧ x.fs = [] ∧ dx = none
abbrev Rl (α β : Type) := List Addr → Hp → β → α → Prop
abbrev WXk := Value → Option Addr → Hp → Prop
def Post {α β : Type} (T : Wr) (W : WXk) (R : Rl α β) (φ : List Addr) (H : Hp) (r : Res α) (Q : β → Hp → Prop) : Prop := match r with
  | .ok a S' => ∀ φ' H' b, Ext φ φ' H H' → RepS T φ' H' S' → R φ' H' b a → Q b H'
  | .exc x S' => ∀ φ' H' cls dx, Ext φ φ' H H' → RepS T φ' H' S' → RepX T φ' H' cls dx x → W cls dx H'
  | .bad => False
abbrev RV (T : Wr) : Rl D V := fun φ H v d => RepV T.K φ H v d
abbrev RVs (T : Wr) : Rl (List D) (List V) := fun φ H v d => RepVs T.K φ H v d
abbrev RE {α : Type} : Rl α α := fun _ _ b a => b = a
section
variable {α β γ δ : Type} {T : Wr} {W : WXk} {φ φ' : List Addr} {H H' : Hp} {S S' : Store}
theorem Post.ext {R : Rl α β} {r : Res α} {Q : β → Hp → Prop} (x : Ext φ φ' H H') (p : Post T W R φ H r Q) : Post T W R φ' H' r Q := by
  cases r with
  | ok a S1 => exact fun φ2 H2 b x2 => p φ2 H2 b (x.trans x2)
  | exc e S1 => exact fun φ2 H2 c d x2 => p φ2 H2 c d (x.trans x2)
  | bad => exact p
theorem Post.imp {R : Rl α β} {r : Res α} {Q Q' : β → Hp → Prop} (p : Post T W R φ H r Q) (h : ∀ b H, Q b H → Q' b H) : Post T W R φ H r Q' := by
  cases r with
  | ok a S1 => exact fun φ2 H2 b x2 s2 r2 => h _ _ (p φ2 H2 b x2 s2 r2)
  | exc e S1 => exact p
  | bad => exact p
theorem Post.bind {R1 : Rl α β} {R2 : Rl γ δ} {r : Res α} {f : α → Store → Res γ} {Q1 : β → Hp → Prop} {Q2 : δ → Hp → Prop} (p : Post T W R2 φ H (r.bind f) Q2)
    (h : ∀ a S1 φ1 H1 b, r = .ok a S1 → Ext φ φ1 H H1 → RepS T φ1 H1 S1 → R1 φ1 H1 b a → Post T W R2 φ1 H1 (f a S1) Q2 → Q1 b H1) : Post T W R1 φ H r Q1 := by
  cases r with
  | ok a S1 => exact fun φ1 H1 b x s q => h a S1 φ1 H1 b rfl x s q (Post.ext x p)
  | exc e S1 => exact p
  | bad => exact p
theorem Post.ok {R : Rl α β} {a : α} {Q : β → Hp → Prop} {b : β} (p : Post T W R φ H (.ok a S) Q) (s : RepS T φ H S) (r : R φ H b a) : Q b H := p φ H b Ext.refl s r
/-- a new object -/
theorem Post.alloc {o : Ob} {u : HO} {Q : V → Hp → Prop} {p : Addr} (h : Post T W (RV T) φ H (Ev.alloc o S) Q) (s : RepS T φ H S) (hp : H p = none) (r : RepO T (φ ++ [p]) (upd H p u) p o) : Q (.ref p) (upd H p u) :=
  h (φ ++ [p]) (upd H p u) (.ref p) (Ext.alloc hp (s.fresh hp)) (s.alloc hp r) (.loc (by rw [← s.len]; simp))
theorem Post.tup {ds : List D} {vs : List V} {Q : V → Hp → Prop} {p : Addr} (h : Post T W (RV T) φ H (.ok (.tup ds) S) Q) (s : RepS T φ H S) (hp : H p = none) (r : RepVs T.K φ H vs ds) : Q (.ref p) (upd H p (.tup vs)) :=
  h φ (upd H p (.tup vs)) (.ref p) (Ext.aside hp) (s.aside hp) (.tup upd_same (r.ext s (Ext.aside hp)))
/-- an object changed -/
theorem Post.write {R : Rl α β} {a : α} {b : β} {l : Nat} {c : Addr} {o o' : Ob} {u : HO} {Q : β → Hp → Prop} (h : Post T W R φ H (.ok a (S.set l o')) Q) (s : RepS T φ H S) (hl : S[l]? = some o) (hc : φ[l]? = some c)
    (r : RepO T φ (upd H c u) c o') (rb : R φ (upd H c u) b a) : Q b (upd H c u) := by
  have ho := s.ob l o c hl hc
  obtain ⟨w, ew, _, ht⟩ := ho.mut
  exact h φ (upd H c u) b (Ext.write (List.mem_of_getElem? hc) ew ht) (s.write hl hc r) rb
end

theorem LIM_le {n : Nat} (h : n ≤ LIM) : n ≤ sizeLine := by rw [sizeLine_eq]; unfold LIM at h; omega
theorem LIM_lt {n : Nat} (h : n < LIM) : n < sizeLine := by rw [sizeLine_eq]; unfold LIM at h; omega

/-! ### data read as PyData -/
section
variable {T : Wr} {φ : List Addr} {H : Hp} {S : Store}
theorem datas_cons {d : D} {ds : List D} {ps : List PyData} (h : datas (d :: ds) = some ps) : ∃ p qs, d.data = some p ∧ datas ds = some qs ∧ ps = p :: qs := by
  unfold datas at h
  cases e1 : d.data with
  | none => rw [e1] at h; cases h
  | some p =>
    cases e2 : datas ds with
    | none => rw [e1, e2] at h; cases h
    | some qs => rw [e1, e2] at h; cases h; exact ⟨p, qs, rfl, rfl, rfl⟩
mutual
theorem RepV.dp : ∀ {v : V} {d : D} {p : PyData}, RepV T.K φ H v d → d.data = some p → Dp T.K H v p
  | _, _, _, .non, e => by cases e; exact .non
  | _, _, _, .bl b, e => by cases e; exact .bl b
  | _, _, _, .int i, e => by cases e; exact .int i
  | _, _, _, .str x, e => by
    simp only [D.data] at e
    split at e
    · cases e; exact .str x
    · cases e
  | _, _, _, .ty n, e => by cases e
  | _, .tup ds, p, .tup h hs, e => by
    obtain ⟨ps, e1, e2⟩ := Option.map_eq_some_iff.mp (show (datas ds).map PyData.tuple = some p by rw [← e]; simp [D.data])
    subst e2
    exact .tup (SqT.of h) (RepVs.dp hs e1)
  | _, .ktup ds, p, .ktup h1 h2 h3 h4 h5 hs, e => by
    obtain ⟨ps, e1, e2⟩ := Option.map_eq_some_iff.mp (show (datas ds).map PyData.tuple = some p by rw [← e]; simp [D.data])
    subst e2
    exact .tup (.inr ⟨_, _, _, h1, h2, h3, h4, h5⟩) (RepVs.dp hs e1)
  | _, _, _, .loc h, e => by simp [D.data] at e
  | _, _, _, .scrF h, e => by simp [D.data] at e
  | _, _, _, .scrK h1 h2 h3 h4 h5 h6, e => by simp [D.data] at e
theorem RepVs.dp : ∀ {vs : List V} {ds : List D} {ps : List PyData}, RepVs T.K φ H vs ds → datas ds = some ps → DpAll T.K H vs ps
  | _, _, _, .nil, e => by cases e; exact .nil
  | _, _, _, .cons h hs, e => by
    obtain ⟨p, qs, e1, e2, e3⟩ := datas_cons e
    subst e3
    exact .cons (RepV.dp h e1) (RepVs.dp hs e2)
end
mutual
theorem D.lay : ∀ {d : D} {p : PyData}, d.data = some p → p.canLay0 = true
  | .non, _, e => by cases e; rfl
  | .bl _, _, e => by cases e; rfl
  | .int _, _, e => by cases e; rfl
  | .str x, _, e => by
    simp only [D.data] at e
    split at e
    · cases e; simp only [PyData.canLay0]; assumption
    · cases e
  | .tup ds, p, e => by
    obtain ⟨ps, e1, e2⟩ := Option.map_eq_some_iff.mp (show (datas ds).map PyData.tuple = some p by rw [← e]; simp [D.data])
    subst e2
    simp only [PyData.canLay0]
    exact datas_lay e1
  | .ktup ds, p, e => by
    obtain ⟨ps, e1, e2⟩ := Option.map_eq_some_iff.mp (show (datas ds).map PyData.tuple = some p by rw [← e]; simp [D.data])
    subst e2
    simp only [PyData.canLay0]
    exact datas_lay e1
  | .loc _, _, e => by simp [D.data] at e
  | .scr _, _, e => by simp [D.data] at e
  | .ty _, _, e => by simp [D.data] at e
theorem datas_lay : ∀ {ds : List D} {ps : List PyData}, datas ds = some ps → PyData.canLayAll0 ps = true
  | [], _, e => by cases e; rfl
  | d :: ds, ps, e => by
    obtain ⟨p, qs, e1, e2, e3⟩ := datas_cons e
    subst e3
    simp only [PyData.canLayAll0, Bool.and_eq_true]
    exact ⟨D.lay e1, datas_lay e2⟩
end
theorem dataOf_dp (s : RepS T φ H S) {v : V} {d : D} {p : PyData} (r : RepV T.K φ H v d) (e : dataOf S d = some p) : Dp T.K H v p ∧ p.canLay0 = true := by
  cases d with
  | loc l =>
    simp only [dataOf] at e
    cases q : S[l]? with
    | none => rw [q] at e; cases e
    | some o =>
      rw [q] at e
      cases o with
      | lst ds =>
        obtain ⟨ps, e1, e2⟩ := Option.map_eq_some_iff.mp (show (datas ds).map PyData.list = some p from e)
        subst e2
        cases r with
        | loc h =>
          obtain ⟨vs, h1, h2⟩ := s.ob _ _ _ q h
          exact ⟨.lst (SqL.of h1) (h2.dp e1), by simp only [PyData.canLay0]; exact datas_lay e1⟩
      | _ => cases e
  | _ => exact ⟨r.dp e, D.lay e⟩
theorem shaped_of {p : PyData} (h : p.canLay0 = true) (hd : p.depth ≤ 60) : SeqAt.shaped p = true := by
  unfold SeqAt.shaped
  rw [h, Bool.true_and]
  exact decide_eq_true (by omega)
end

/-! ### operators -/
/-- an operator's reading by the evaluator -/
def rD (T : Wr) (f : D → D → Store → Res D) : R2 := fun x y H Q => ∃ (W : WXk) (φ : List Addr) (S : Store) (d e : D), RepS T φ H S ∧ RepV T.K φ H x d ∧ RepV T.K φ H y e ∧ Post T W (RV T) φ H (f d e S) Q
section
variable {X : Cx} {T : Wr}
theorem ext_addI : True := trivial
theorem op_addD (hK : X.K = T.K) : OpR X (binaryOp .Add) (rD T (binD .add)) := by
  intro pins s σ H x y v u Q I rx ry ⟨W, φ, S, d, e, r, rd, re, p⟩
  cases d with
  | int i =>
    cases e with
    | int j => cases rd; cases re; exact op_add pins s σ H _ _ v u Q I rx ry ⟨i, j, rfl, rfl, p.ok r (.int _)⟩
    | _ => exact False.elim p
  | str i =>
    cases e with
    | str j =>
      cases rd; cases re
      dsimp only [binD] at p
      split at p
      · exact op_add_str pins s σ H _ _ v u Q I rx ry ⟨i, j, rfl, rfl, LIM_le (by assumption), p.ok r (.str _)⟩
      · exact False.elim p
    | _ => exact False.elim p
  | tup ds =>
    cases e with
    | tup es =>
      cases rd with
      | @tup a vs _ h1 h2 =>
        cases re with
        | @tup b ws _ k1 k2 =>
          dsimp only [binD] at p
          split at p
          · rename_i hl
            refine op_catA pins s σ H _ _ v u Q I rx ry ⟨a, b, vs, ws, rfl, rfl, by rw [hK]; exact SqT.of h1, by rw [hK]; exact SqT.of k1, LIM_le (by rw [h2.length, k2.length]; exact hl), fun e0 => ?_, fun _ e0 => ?_, fun _ _ q hq => ?_⟩
            · subst e0
              cases h2
              exact p.ok r (.tup k1 k2)
            · subst e0
              cases k2
              refine p.ok r ?_
              rw [List.append_nil]
              exact .tup h1 h2
            · exact p.tup r hq (h2.append k2)
          · exact False.elim p
    | _ => exact False.elim p
  | loc l =>
    cases e with
    | loc m =>
      dsimp only [binD] at p
      split at p
      · rename_i xs ys e1 e2
        cases rd with
        | loc h1 =>
          cases re with
          | loc h2 =>
            obtain ⟨vs, a1, a2⟩ := r.ob _ _ _ e1 h1
            obtain ⟨ws, b1, b2⟩ := r.ob _ _ _ e2 h2
            split at p
            · rename_i hl
              refine op_cat pins s σ H _ _ v u Q I rx ry ⟨_, _, vs, ws, rfl, rfl, a1, b1, LIM_le (by rw [a2.length, b2.length]; exact hl), fun q hq => ?_⟩
              exact p.alloc r hq ⟨_, upd_same, (a2.append b2).ext r (Ext.alloc hq (r.fresh hq))⟩
            · exact False.elim p
      · exact False.elim p
    | _ => exact False.elim p
  | _ => exact False.elim p
theorem op_subD : OpR X (binaryOp .Sub) (rD T (binD .sub)) := by
  intro pins s σ H x y v u Q I rx ry ⟨W, φ, S, d, e, r, rd, re, p⟩
  cases d with
  | int i =>
    cases e with
    | int j => cases rd; cases re; exact op_sub pins s σ H _ _ v u Q I rx ry ⟨i, j, rfl, rfl, p.ok r (.int _)⟩
    | _ => exact False.elim p
  | _ => exact False.elim p
theorem op_mulD : OpR X (binaryOp .Mult) (rD T (binD .mul)) := by
  intro pins s σ H x y v u Q I rx ry ⟨W, φ, S, d, e, r, rd, re, p⟩
  cases d with
  | int i =>
    cases e with
    | int j =>
      cases rd; cases re
      dsimp only [binD] at p
      split at p
      · rename_i hm
        unfold mulOk at hm
        simp only [Bool.or_eq_true, decide_eq_true_eq] at hm
        rcases hm with hm | hm
        · exact op_mul pins s σ H _ _ v u Q I rx ry ⟨i, j, rfl, rfl, hm, p.ok r (.int _)⟩
        · exact op_mulW pins s σ H _ _ v u Q I rx ry ⟨i, j, rfl, rfl, hm, p.ok r (.int _)⟩
      · exact False.elim p
    | _ => exact False.elim p
  | loc l =>
    cases e with
    | int k =>
      cases re
      dsimp only [binD] at p
      split at p
      · rename_i xs e1
        cases rd with
        | loc h1 =>
          obtain ⟨vs, a1, a2⟩ := r.ob _ _ _ e1 h1
          split at p
          · rename_i hl
            obtain ⟨k1, k2, k3⟩ := hl
            refine op_rep pins s σ H _ _ v u Q I rx ry ⟨_, k, vs, rfl, rfl, a1, by omega, by omega, ?_, fun q hq => ?_⟩
            · rw [a2.length, sizeLine_eq]
              have : xs.length * k.toNat ≤ 1000 * 1000 := Nat.mul_le_mul k3 (by omega)
              omega
            · exact p.alloc r hq ⟨_, upd_same, (a2.rep _).ext r (Ext.alloc hq (r.fresh hq))⟩
          · exact False.elim p
      · exact False.elim p
    | _ => exact False.elim p
  | _ => exact False.elim p
theorem op_fdivD : OpR X (binaryOp .FloorDiv) (rD T (binD .fdiv)) := by
  intro pins s σ H x y v u Q I rx ry ⟨W, φ, S, d, e, r, rd, re, p⟩
  cases d with
  | int i =>
    cases e with
    | int j =>
      cases rd; cases re
      dsimp only [binD] at p
      split at p
      · exact op_fdiv pins s σ H _ _ v u Q I rx ry ⟨i, j, rfl, rfl, by assumption, p.ok r (.int _)⟩
      · exact False.elim p
    | _ => exact False.elim p
  | _ => exact False.elim p
theorem op_modD : OpR X (binaryOp .Mod) (rD T (binD .mod)) := by
  intro pins s σ H x y v u Q I rx ry ⟨W, φ, S, d, e, r, rd, re, p⟩
  cases d with
  | int i =>
    cases e with
    | int j =>
      cases rd; cases re
      dsimp only [binD] at p
      split at p
      · exact op_mod pins s σ H _ _ v u Q I rx ry ⟨i, j, rfl, rfl, by assumption, p.ok r (.int _)⟩
      · exact False.elim p
    | _ => exact False.elim p
  | _ => exact False.elim p
theorem op_powD : OpR X (binaryOp .Pow) (rD T (binD .pow)) := by
  intro pins s σ H x y v u Q I rx ry ⟨W, φ, S, d, e, r, rd, re, p⟩
  cases d with
  | int i =>
    cases e with
    | int j =>
      cases rd; cases re
      dsimp only [binD] at p
      split at p
      · rename_i hl
        obtain ⟨k1, k2, k3⟩ := hl
        exact op_pow pins s σ H _ _ v u Q I rx ry ⟨i, j, rfl, rfl, ⟨k1, by omega, k3⟩, p.ok r (.int _)⟩
      · exact False.elim p
    | _ => exact False.elim p
  | _ => exact False.elim p
def opOf : Op → Operator
  | .add => .Add
  | .sub => .Sub
  | .mul => .Mult
  | .fdiv => .FloorDiv
  | .mod => .Mod
  | .pow => .Pow
theorem op_ok (hK : X.K = T.K) (op : Op) : OpR X (binaryOp (opOf op)) (rD T (binD op)) := by
  cases op
  · exact op_addD hK
  · exact op_subD
  · exact op_mulD
  · exact op_fdivD
  · exact op_modD
  · exact op_powD
end
end Ev
end

section
set_option Elab.async false
set_option linter.all false
set_option maxRecDepth 100000
set_option autoImplicit false
/-! Ev4: comparisons, subscripts, slices, truth, built-ins, methods. -/
namespace Ev
open PySem PySem.Spec L2
open PyProof.Rows hiding St

section
variable {X : Cx} {T : Wr}
/-! ### == and in -/
def cmpOf : Cm → CmpOp
  | .eq => .Eq
  | .ne => .NotEq
  | .lt => .Lt
  | .le => .LtE
  | .gt => .Gt
  | .ge => .GtE
  | .is => .Is
  | .isn => .IsNot
  | .isin => .In
  | .nin => .NotIn
theorem boolR_some {W : WXk} {φ : List Addr} {H : Hp} {S : Store} {o : Option Bool} {Q : VK} (p : Post T W (RV T) φ H (boolR o S) Q) (r : RepS T φ H S) : ∃ b, o = some b ∧ Q (.bl b) H := by
  cases o with
  | none => exact False.elim p
  | some b => exact ⟨b, rfl, p.ok r (.bl b)⟩
theorem eqD_some {S : Store} {d e : D} {b : Bool} (h : eqD S d e = some b) : (∃ x y, d = .str x ∧ e = .str y ∧ b = (x == y)) ∨ ∃ p q, dataOf S d = some p ∧ dataOf S e = some q ∧ p.depth ≤ 60 ∧ q.depth ≤ 60 ∧ b = p.eqv q := by
  have gen : (match dataOf S d, dataOf S e with
    | some p, some q => if p.depth ≤ 60 ∧ q.depth ≤ 60 then some (p.eqv q) else none
    | _, _ => none) = some b → ∃ p q, dataOf S d = some p ∧ dataOf S e = some q ∧ p.depth ≤ 60 ∧ q.depth ≤ 60 ∧ b = p.eqv q := fun h => by
    cases h1 : dataOf S d with
    | none => rw [h1] at h; cases h
    | some p =>
      cases h2 : dataOf S e with
      | none => rw [h1, h2] at h; cases h
      | some q =>
        rw [h1, h2] at h
        dsimp only at h
        split at h
        · rename_i hd
          cases h
          exact ⟨p, q, rfl, rfl, hd.1, hd.2, rfl⟩
        · cases h
  unfold eqD at h
  split at h
  · cases h
    exact .inl ⟨_, _, rfl, rfl, rfl⟩
  · exact .inr (gen h)
theorem op_eqDD (hu : X.A.units + 64 < cLine) (hK : X.K = T.K) : OpR X (compareOp .Eq) (rD T (cmpD .eq)) := by
  intro pins s σ H x y v u Q I rx ry ⟨W, φ, S, d, e, r, rd, re, p⟩
  obtain ⟨b, hb, q⟩ := boolR_some (show Post T W (RV T) φ H (boolR (eqD S d e) S) Q by cases d <;> cases e <;> exact p) r
  rcases eqD_some hb with ⟨x1, y1, rfl, rfl, rfl⟩ | ⟨p1, q1, h1, h2, h3, h4, rfl⟩
  · cases rd; cases re
    exact op_eq pins s σ H _ _ v u Q I rx ry ⟨rfl, by rw [dec_str]; exact q⟩
  · obtain ⟨k1, k2⟩ := dataOf_dp r rd h1
    obtain ⟨k3, k4⟩ := dataOf_dp r re h2
    exact op_eqD hu pins s σ H _ _ v u Q I rx ry ⟨p1, q1, by rw [hK]; exact k1, by rw [hK]; exact k3, shaped_of k2 h3, shaped_of k4 h4, q⟩
theorem op_neDD (hu : X.A.units + 64 < cLine) (hK : X.K = T.K) : OpR X (compareOp .NotEq) (rD T (cmpD .ne)) := by
  intro pins s σ H x y v u Q I rx ry ⟨W, φ, S, d, e, r, rd, re, p⟩
  obtain ⟨b', hb, q⟩ := boolR_some (show Post T W (RV T) φ H (boolR ((eqD S d e).map not) S) Q by cases d <;> cases e <;> exact p) r
  obtain ⟨b, hb2, rfl⟩ := Option.map_eq_some_iff.mp hb
  rcases eqD_some hb2 with ⟨x1, y1, rfl, rfl, rfl⟩ | ⟨p1, q1, h1, h2, h3, h4, rfl⟩
  · cases rd; cases re
    exact op_ne pins s σ H _ _ v u Q I rx ry ⟨rfl, by rw [dec_str]; exact q⟩
  · obtain ⟨k1, k2⟩ := dataOf_dp r rd h1
    obtain ⟨k3, k4⟩ := dataOf_dp r re h2
    exact op_neD hu pins s σ H _ _ v u Q I rx ry ⟨p1, q1, by rw [hK]; exact k1, by rw [hK]; exact k3, shaped_of k2 h3, shaped_of k4 h4, q⟩
theorem RepV.flat {K : PySem.W.Frag} {φ : List Addr} {H : Hp} {v : V} {d : D} (r : RepV K φ H v d) (h : isScal d = true) : flatV v = true := by
  cases r <;> first | rfl | cases h
theorem RepVs.flat {K : PySem.W.Frag} {φ : List Addr} {H : Hp} : ∀ {vs : List V} {ds : List D}, RepVs K φ H vs ds → ds.all isScal = true → vs.all flatV = true
  | _, _, .nil, _ => rfl
  | _, _, .cons r t, h => by
    rw [List.all_cons, Bool.and_eq_true] at h ⊢
    exact ⟨r.flat h.1, RepVs.flat t h.2⟩
theorem eqS_of {K : PySem.W.Frag} {φ : List Addr} {H : Hp} {v w : V} {d e : D} (r : RepV K φ H v d) (q : RepV K φ H w e) (hd : isScal d = true) (he : isScal e = true) : eqV v w = eqS d e := by
  cases r <;> first | (cases hd; done) | skip
  all_goals (cases q <;> first | (cases he; done) | rfl)
theorem inV_of {K : PySem.W.Frag} {φ : List Addr} {H : Hp} {x : V} {d : D} (rx : RepV K φ H x d) (hd : isScal d = true) : ∀ {vs : List V} {ds : List D}, RepVs K φ H vs ds → ds.all isScal = true → inV x vs = ds.any fun e => eqS e d
  | _, _, .nil, _ => rfl
  | v :: vs, e :: es, .cons r t, h => by
    rw [List.all_cons, Bool.and_eq_true] at h
    have ih := inV_of rx hd t h.2
    unfold inV at ih ⊢
    rw [List.any_cons, List.any_cons, eqS_of r rx h.1 hd, ih]
theorem inDs_some {x : D} {ds : List D} {b : Bool} (h : inDs x ds = some b) : (isScal x = true ∧ ds.all isScal = true ∧ b = ds.any fun d => eqS d x) ∨ ∃ p qs, x.data = some p ∧ datas ds = some qs ∧ p.depth ≤ 60 ∧ b = qs.any fun q => q.eqv p := by
  unfold inDs at h
  split at h
  · rename_i hc
    cases h
    rw [Bool.and_eq_true] at hc
    exact .inl ⟨hc.1, hc.2, rfl⟩
  · cases h1 : x.data with
    | none => rw [h1] at h; cases h
    | some p =>
      cases h2 : datas ds with
      | none => rw [h1, h2] at h; cases h
      | some qs =>
        rw [h1, h2] at h
        dsimp only at h
        split at h
        · cases h
          exact .inr ⟨p, qs, rfl, rfl, by assumption, rfl⟩
        · cases h
theorem room_in {A : Around} {xs : List PyData} {p : PyData} (h : p.depth ≤ 60) (hu : A.units + 64 < cLine) : A.units + 1 + min (PyData.depthAll xs) p.depth < cLine := by
  have := Nat.min_le_right (PyData.depthAll xs) p.depth
  omega
/-- x in a tuple, a list -/
theorem in_seqD (hu : X.A.units + 64 < cLine) (hK : X.K = T.K) {pins : List (Addr × Obj)} {s : Shared} {σ : St} {H : Hp} {x : V} {v : Value} {a : Addr} {Q : VK} {φ : List Addr} {d : D} {ds : List D} {vs : List V} {b neg : Bool}
    (I : L2.Inv X pins σ H s) (rx : L2.RelV x v) (rd : RepV T.K φ H x d) (hq : SqL X.K H a vs ∨ SqT X.K H a vs) (rs : RepVs T.K φ H vs ds) (hb : inDs d ds = some b) (q : Q (.bl (if neg then !b else b)) H) :
    wpAny (model X.prog X.w) X.A (compareOp (if neg then .NotIn else .In) v (.ref a)) (EP X pins σ Q) X.xe s := by
  rcases inDs_some hb with ⟨h1, h2, rfl⟩ | ⟨p, qs, h1, h2, h3, rfl⟩
  · have e := inV_of rd h1 rs h2
    cases neg with
    | false => exact op_in_seq pins s σ H x (.ref a) v _ Q I rx rfl ⟨a, vs, rfl, hq, rd.flat h1, rs.flat h2, by rw [e]; exact q⟩
    | true => exact op_notIn_seq pins s σ H x (.ref a) v _ Q I rx rfl ⟨a, vs, rfl, hq, rd.flat h1, rs.flat h2, by rw [e]; exact q⟩
  · have k1 := rd.dp h1
    have k2 := rs.dp h2
    rw [← hK] at k1 k2
    obtain ⟨as, r1⟩ := Dp.reads I p x v k1 rx
    rcases hq with hq | hq
    · obtain ⟨bs, r2⟩ := Dp.reads I (.list qs) (.ref a) (.ref a) (.lst hq k2) rfl
      cases neg with
      | false => exact SeqAt.in_list_reads r2 r1 (datas_lay h2) (D.lay h1) (room_in h3 hu) ⟨.bl _, H, I, rfl, q⟩
      | true => exact SeqAt.notIn_list_reads r2 r1 (datas_lay h2) (D.lay h1) (room_in h3 hu) ⟨.bl _, H, I, rfl, q⟩
    · obtain ⟨bs, r2⟩ := Dp.reads I (.tuple qs) (.ref a) (.ref a) (.tup hq k2) rfl
      cases neg with
      | false => exact SeqAt.in_tuple_reads r2 r1 (datas_lay h2) (D.lay h1) (room_in h3 hu) ⟨.bl _, H, I, rfl, q⟩
      | true => exact SeqAt.notIn_tuple_reads r2 r1 (datas_lay h2) (D.lay h1) (room_in h3 hu) ⟨.bl _, H, I, rfl, q⟩

/-! ### dicts: look-up -/
theorem keyOf_rep {K : PySem.W.Frag} {φ : List Addr} {H : Hp} {v : V} {d : D} {k : Key} (r : RepV K φ H v d) (h : keyOf d = some k) : v = kV k := by
  cases r <;> first | (cases h; done) | (cases h; rfl)
theorem keysOf_rep {K : PySem.W.Frag} {φ : List Addr} {H : Hp} : ∀ {vs : List V} {ds : List D} {ks : List Key}, RepVs K φ H vs ds → keysOf ds = some ks → vs = ks.map kV
  | _, _, _, .nil, h => by cases h; rfl
  | _, d :: ds, ks, .cons r t, h => by
    unfold keysOf at h
    cases h1 : keyOf d with
    | none => rw [h1] at h; cases h
    | some k =>
      cases h2 : keysOf ds with
      | none => rw [h1, h2] at h; cases h
      | some ks' =>
        rw [h1, h2] at h
        cases h
        rw [List.map_cons, ← keyOf_rep r h1, ← keysOf_rep t h2]
theorem kget_rep {κ : Type} [DecidableEq κ] {K : PySem.W.Frag} {φ : List Addr} {H : Hp} (k : κ) : ∀ {kvs : List (κ × V)} {kds : List (κ × D)}, RepK K φ H kvs kds →
    (kget kds k = none → valV kvs k = none) ∧ ∀ d, kget kds k = some d → ∃ v, valV kvs k = some v ∧ RepV K φ H v d
  | _, _, .nil => ⟨fun _ => rfl, fun d h => by cases h⟩
  | (k1, v1) :: r1, (k2, d2) :: r2, .cons h t => by
    obtain ⟨e, hv⟩ := h
    have e : k1 = k2 := e
    subst e
    obtain ⟨i1, i2⟩ := kget_rep k t
    by_cases hk : k1 = k
    · rw [valV_pos hk]
      refine ⟨fun q => ?_, fun d q => ?_⟩
      · simp [kget, List.find?_cons, hk] at q
      · simp [kget, List.find?_cons, hk] at q
        subst q
        exact ⟨_, rfl, hv⟩
    · rw [valV_neg hk]
      have e2 : kget ((k1, d2) :: r2) k = kget r2 k := by simp [kget, List.find?_cons, hk]
      rw [e2]
      exact ⟨i1, i2⟩
theorem kput_rep {κ : Type} [DecidableEq κ] {K : PySem.W.Frag} {φ : List Addr} {H : Hp} {k : κ} {v : V} {d : D} (rv : RepV K φ H v d) {kvs : List (κ × V)} {kds : List (κ × D)} (r : RepK K φ H kvs kds) : RepK K φ H (putK kvs k v) (kput kds k d) := by
  have hany : (kvs.any fun kv => decide (kv.1 = k)) = kds.any fun kv => decide (kv.1 = k) := by
    induction r with
    | nil => rfl
    | cons h _ ih =>
      rw [List.any_cons, List.any_cons, ih, h.1]
  unfold putK kput
  rw [hany]
  split
  · rename_i hc
    clear hany hc
    induction r with
    | nil => exact .nil
    | @cons p q _ _ h _ ih =>
      refine .cons ?_ ih
      obtain ⟨h1, h2⟩ := h
      dsimp only
      rw [h1]
      split
      · exact ⟨rfl, rv⟩
      · exact ⟨h1, h2⟩
  · rename_i hc
    clear hany hc
    induction r with
    | nil => exact .cons ⟨rfl, rv⟩ .nil
    | cons h _ ih => exact .cons h ih
theorem RepK.length {κ : Type} {K : PySem.W.Frag} {φ : List Addr} {H : Hp} {kvs : List (κ × V)} {kds : List (κ × D)} (r : RepK K φ H kvs kds) : kvs.length = kds.length := Paired.length r
/-- what obGet tells is what the dict holds -/
theorem obGet_rep {φ : List Addr} {H : Hp} {S : Store} {a : Addr} {o : Ob} {y : V} {k : D} {r : Option D} (h : RepO T φ H a o) (ry : RepV T.K φ H y k) (e : obGet o k = some r) :
    ∃ w, DGet H a y w ∧ (r = none → w = none) ∧ ∀ d, r = some d → ∃ v, w = some v ∧ RepV T.K φ H v d := by
  have dkc : ∀ {kds : List (Key × D)}, RepO T φ H a (.dk kds) → ((keyOf k).map fun k => kget kds k) = some r → ∃ w, DGet H a y w ∧ (r = none → w = none) ∧ ∀ d, r = some d → ∃ v, w = some v ∧ RepV T.K φ H v d := fun {kds} h e => by
    obtain ⟨kvs, h1, h2⟩ := h
    obtain ⟨kk, e1, e2⟩ := Option.map_eq_some_iff.mp e
    have hy := keyOf_rep ry e1
    obtain ⟨g1, g2⟩ := kget_rep kk h2
    refine ⟨valV kvs kk, by rw [hy]; exact DGet.k h1, fun q => g1 (e2.trans q), fun d q => g2 d (e2.trans q)⟩
  cases o with
  | dk kds =>
    cases k with
    | tup ks => cases e
    | _ => exact dkc h e
  | dt kds =>
    cases k with
    | tup ks =>
      obtain ⟨kvs, h1, h2⟩ := h
      obtain ⟨kk, e1, e2⟩ := Option.map_eq_some_iff.mp (show (keysOf ks).map (fun k => kget kds k) = some r from e)
      cases ry with
      | tup t1 t2 =>
        have hy := keysOf_rep t2 e1
        subst hy
        obtain ⟨g1, g2⟩ := kget_rep kk h2
        exact ⟨valV kvs kk, DGet.t h1 t1, fun q => g1 (e2.trans q), fun d q => g2 d (e2.trans q)⟩
    | _ => cases e
  | lst ds => cases k <;> cases e
  | ins C fs => cases k <;> cases e
/-! ### the comparisons -/
theorem in_D (hu : X.A.units + 64 < cLine) (hK : X.K = T.K) (neg : Bool) : OpR X (compareOp (if neg then .NotIn else .In)) (rD T (cmpD (if neg then .nin else .isin))) := by
  intro pins s σ H x y v u Q I rx ry ⟨W, φ, S, d, e, r, rd, re, p⟩
  cases e with
  | tup ds =>
    cases re with
    | tup t1 t2 =>
      cases ry
      cases neg with
      | false =>
        obtain ⟨b, hb, q⟩ := boolR_some (show Post T W (RV T) φ H (boolR (inDs d ds) S) Q by cases d <;> exact p) r
        exact in_seqD (neg := false) hu hK I rx rd (.inr (SqT.of t1)) t2 hb q
      | true =>
        obtain ⟨b', hb, q⟩ := boolR_some (show Post T W (RV T) φ H (boolR ((inDs d ds).map not) S) Q by cases d <;> exact p) r
        obtain ⟨b, hb2, rfl⟩ := Option.map_eq_some_iff.mp hb
        exact in_seqD (neg := true) hu hK I rx rd (.inr (SqT.of t1)) t2 hb2 q
  | ktup ds =>
    cases re with
    | ktup h1 h2 h3 h4 h5 t2 =>
      cases ry
      have hT : SqT X.K H _ _ := .inr ⟨_, _, _, by rw [hK]; exact h1, h2, h3, h4, h5⟩
      cases neg with
      | false =>
        obtain ⟨b, hb, q⟩ := boolR_some (show Post T W (RV T) φ H (boolR (inDs d ds) S) Q by cases d <;> exact p) r
        exact in_seqD (neg := false) hu hK I rx rd (.inr hT) t2 hb q
      | true =>
        obtain ⟨b', hb, q⟩ := boolR_some (show Post T W (RV T) φ H (boolR ((inDs d ds).map not) S) Q by cases d <;> exact p) r
        obtain ⟨b, hb2, rfl⟩ := Option.map_eq_some_iff.mp hb
        exact in_seqD (neg := true) hu hK I rx rd (.inr hT) t2 hb2 q
  | str z =>
    cases d with
    | str w =>
      cases rd; cases re
      have key : ∀ c, w.cps.toList = [c] → w = ⟨#[c]⟩ := fun c h => by
        obtain ⟨cps⟩ := w
        obtain ⟨l⟩ := cps
        dsimp only at h
        subst h; rfl
      cases neg with
      | false =>
        have p : Post T W (RV T) φ H (match w.cps.toList with
          | [c] => .ok (.bl (decide (c ∈ z.cps.toList))) S
          | _ => .bad) Q := p
        split at p
        · rename_i c hc
          have := key c hc; subst this
          exact op_in_sign pins s σ H _ _ v u Q I rx ry ⟨c, z, rfl, rfl, p.ok r (.bl _)⟩
        · exact False.elim p
      | true =>
        have p : Post T W (RV T) φ H (match w.cps.toList with
          | [c] => .ok (.bl (!decide (c ∈ z.cps.toList))) S
          | _ => .bad) Q := p
        split at p
        · rename_i c hc
          have := key c hc; subst this
          exact op_notIn_sign pins s σ H _ _ v u Q I rx ry ⟨c, z, rfl, rfl, p.ok r (.bl _)⟩
        · exact False.elim p
    | _ => cases neg <;> exact False.elim p
  | loc l =>
    cases re with
    | loc hl =>
      cases ry
      cases neg with
      | false =>
        have p' : Post T W (RV T) φ H (match S[l]? with
          | some (.lst ds) => boolR (inDs d ds) S
          | some o => boolR ((obGet o d).map (·.isSome)) S
          | none => .bad) Q := by cases d <;> exact p
        cases hS : S[l]? with
        | none => rw [hS] at p'; exact False.elim p'
        | some o =>
          rw [hS] at p'
          have ho := r.ob _ _ _ hS hl
          have dict : Post T W (RV T) φ H (boolR ((obGet o d).map (·.isSome)) S) Q → wpAny (model X.prog X.w) X.A (compareOp .In v (.ref _)) (EP X pins σ Q) X.xe s := fun p' => by
            obtain ⟨b, hb, q⟩ := boolR_some p' r
            obtain ⟨g, hg, rfl⟩ := Option.map_eq_some_iff.mp hb
            obtain ⟨w, dg, w1, w2⟩ := obGet_rep (S := S) ho rd hg
            refine d_in (by omega) I dg rx fun s' I' => ⟨.bl _, H, I', rfl, ?_⟩
            cases g with
            | none => rw [w1 rfl]; exact q
            | some gd => obtain ⟨v', e', _⟩ := w2 gd rfl; rw [e']; exact q
          cases o with
          | lst ds =>
            obtain ⟨b, hb, q⟩ := boolR_some p' r
            obtain ⟨vs, h1, h2⟩ := ho
            exact in_seqD (neg := false) hu hK I rx rd (.inl (SqL.of h1)) h2 hb q
          | _ => exact dict p'
      | true =>
        have p' : Post T W (RV T) φ H (match S[l]? with
          | some (.lst ds) => boolR ((inDs d ds).map not) S
          | some o => boolR ((obGet o d).map fun r => !r.isSome) S
          | none => .bad) Q := by cases d <;> exact p
        cases hS : S[l]? with
        | none => rw [hS] at p'; exact False.elim p'
        | some o =>
          rw [hS] at p'
          have ho := r.ob _ _ _ hS hl
          have dict : Post T W (RV T) φ H (boolR ((obGet o d).map fun r => !r.isSome) S) Q → wpAny (model X.prog X.w) X.A (compareOp .NotIn v (.ref _)) (EP X pins σ Q) X.xe s := fun p' => by
            obtain ⟨b, hb, q⟩ := boolR_some p' r
            obtain ⟨g, hg, rfl⟩ := Option.map_eq_some_iff.mp hb
            obtain ⟨w, dg, w1, w2⟩ := obGet_rep (S := S) ho rd hg
            refine d_notIn (by omega) I dg rx fun s' I' => ⟨.bl _, H, I', rfl, ?_⟩
            cases g with
            | none => rw [w1 rfl]; exact q
            | some gd => obtain ⟨v', e', _⟩ := w2 gd rfl; rw [e']; exact q
          cases o with
          | lst ds =>
            obtain ⟨b', hb, q⟩ := boolR_some p' r
            obtain ⟨b, hb2, rfl⟩ := Option.map_eq_some_iff.mp hb
            obtain ⟨vs, h1, h2⟩ := ho
            exact in_seqD (neg := true) hu hK I rx rd (.inl (SqL.of h1)) h2 hb2 q
          | _ => exact dict p'
  | _ => cases neg <;> (cases d <;> exact False.elim p)
theorem cmp_int {op : Cm} {c : CmpOp} {f : Int → Int → Bool} (ho : OpR X (compareOp c) (rI0 fun i j => .bl (f i j))) (hf : ∀ i j S, cmpD op (.int i) (.int j) S = .ok (.bl (f i j)) S) (hn : ∀ d e S, (∀ i j, ¬ (d = .int i ∧ e = .int j)) → cmpD op d e S = .bad) : OpR X (compareOp c) (rD T (cmpD op)) := by
  intro pins s σ H x y v u Q I rx ry ⟨W, φ, S, d, e, r, rd, re, p⟩
  by_cases h : ∃ i j, d = .int i ∧ e = .int j
  · obtain ⟨i, j, rfl, rfl⟩ := h
    cases rd; cases re
    rw [hf] at p
    exact ho pins s σ H _ _ v u Q I rx ry ⟨i, j, rfl, rfl, p.ok r (.bl _)⟩
  · rw [hn d e S fun i j q => h ⟨i, j, q⟩] at p
    exact False.elim p
theorem op_isD (neg : Bool) : OpR X (compareOp (if neg then .IsNot else .Is)) (rD T (cmpD (if neg then .isn else .is))) := by
  intro pins s σ H x y v u Q I rx ry ⟨W, φ, S, d, e, r, rd, re, p⟩
  cases e with
  | non =>
    cases re
    cases neg with
    | false =>
      refine op_isN pins s σ H _ _ v u Q I rx ry ⟨rfl, ?_⟩
      cases rd <;> exact p.ok r (.bl _)
    | true =>
      refine op_notN pins s σ H _ _ v u Q I rx ry ⟨rfl, ?_⟩
      cases rd <;> exact p.ok r (.bl _)
  | bl b =>
    cases d with
    | bl a =>
      cases rd; cases re
      cases neg with
      | false => exact op_isBl pins s σ H _ _ v u Q I rx ry ⟨a, b, rfl, rfl, p.ok r (.bl _)⟩
      | true => exact op_notBl pins s σ H _ _ v u Q I rx ry ⟨a, b, rfl, rfl, p.ok r (.bl _)⟩
    | _ => cases neg <;> exact False.elim p
  | _ => cases neg <;> (cases d <;> exact False.elim p)
theorem cmp_ok (hu : X.A.units + 64 < cLine) (hK : X.K = T.K) (op : Cm) : OpR X (compareOp (cmpOf op)) (rD T (cmpD op)) := by
  cases op with
  | eq => exact op_eqDD hu hK
  | ne => exact op_neDD hu hK
  | lt => exact cmp_int op_lt (fun _ _ _ => rfl) fun d e S h => by cases d <;> cases e <;> first | rfl | exact absurd ⟨rfl, rfl⟩ (h _ _)
  | le => exact cmp_int op_le (fun _ _ _ => rfl) fun d e S h => by cases d <;> cases e <;> first | rfl | exact absurd ⟨rfl, rfl⟩ (h _ _)
  | gt => exact cmp_int op_gt (fun _ _ _ => rfl) fun d e S h => by cases d <;> cases e <;> first | rfl | exact absurd ⟨rfl, rfl⟩ (h _ _)
  | ge => exact cmp_int op_ge (fun _ _ _ => rfl) fun d e S h => by cases d <;> cases e <;> first | rfl | exact absurd ⟨rfl, rfl⟩ (h _ _)
  | is => exact op_isD false
  | isn => exact op_isD true
  | isin => exact in_D hu hK false
  | nin => exact in_D hu hK true
end
end Ev
end

section
set_option Elab.async false
set_option linter.all false
set_option maxRecDepth 100000
set_option autoImplicit false
/-! Ev5: subscripts, slices, truth, built-ins, methods, stores. -/
namespace Ev
open PySem PySem.Spec L2
open PyProof.Rows hiding St

section
variable {X : Cx} {T : Wr}
/-! ### subscripts -/
theorem okR_some {W : WXk} {φ : List Addr} {H : Hp} {S : Store} {o : Option D} {Q : VK} (p : Post T W (RV T) φ H (okR o S) Q) : ∃ d, o = some d ∧ Post T W (RV T) φ H (.ok d S) Q := by
  cases o with
  | none => exact False.elim p
  | some d => exact ⟨d, rfl, p⟩
theorem atI_rep {K : PySem.W.Frag} {φ : List Addr} {H : Hp} {vs : List V} {ds : List D} {i : Int} {d : D} (r : RepVs K φ H vs ds) (h : atI ds i = some d) : ∃ v, atI vs i = some v ∧ RepV K φ H v d := by
  unfold atI at h ⊢
  rw [r.length]
  cases e : ixN ds.length i with
  | none => rw [e] at h; cases h
  | some j =>
    rw [e] at h
    exact r.get h
theorem ix_dict (hu : X.A.units + 1 < cLine) : IxR X (fun x y H Q => ∃ a v, x = .ref a ∧ DGet H a y (some v) ∧ Q v H) := by
  intro value slice pins s σ H x y v u Q I rx ry h hs
  obtain ⟨a, z, rfl, g, q⟩ := h
  cases rx
  exact tail_any (dict_typeIs I g) PySem.F.slot_dict_getitem.lookup (d_getItem hu I g ry fun w' s3 I3 rw' => ⟨z, H, I3, rw', q⟩) hs
theorem ix_D (hu : X.A.units + 64 < cLine) (hK : X.K = T.K) : IxR X (rD T subD) := by
  intro value slice pins s σ H x y v u Q I rx ry ⟨W, φ, S, d, e, r, rd, re, p⟩ hs
  cases d with
  | tup ds =>
    cases e with
    | int i =>
      obtain ⟨g, hg, p⟩ := okR_some (o := atI ds i) p
      cases rd with
      | tup h1 h2 =>
        cases re
        obtain ⟨w, e1, e2⟩ := atI_rep h2 hg
        exact ix_tup value slice pins s σ H _ _ v u Q I rx ry ⟨_, _, i, w, rfl, rfl, SqT.of h1, e1, p.ok r e2⟩ hs
    | _ => exact False.elim p
  | ktup ds =>
    cases e with
    | int i =>
      obtain ⟨g, hg, p⟩ := okR_some (o := atI ds i) p
      cases rd with
      | ktup h1 h2 h3 h4 h5 h6 =>
        cases re
        obtain ⟨w, e1, e2⟩ := atI_rep h6 hg
        exact ix_tup value slice pins s σ H _ _ v u Q I rx ry ⟨_, _, i, w, rfl, rfl, .inr ⟨_, _, _, by rw [hK]; exact h1, h2, h3, h4, h5⟩, e1, p.ok r e2⟩ hs
    | _ => exact False.elim p
  | str z =>
    cases e with
    | int i =>
      cases rd; cases re
      have p : Post T W (RV T) φ H (match atI z.cps.toList i with
        | some c => if z.length ≤ LIM then .ok (.str ⟨#[c]⟩) S else .bad
        | none => .bad) Q := p
      cases hc : atI z.cps.toList i with
      | none => rw [hc] at p; exact False.elim p
      | some c =>
        rw [hc] at p
        dsimp only at p
        split at p
        · rename_i hl
          exact ix_str value slice pins s σ H _ _ v u Q I rx ry ⟨z, i, c, rfl, rfl, LIM_le hl, hc, p.ok r (.str _)⟩ hs
        · exact False.elim p
    | _ => exact False.elim p
  | loc l =>
    cases rd with
    | loc hl =>
      have p' : Post T W (RV T) φ H (match (generalizing := false) S[l]?, e with
        | some (.lst ds), .int i => okR (L2.atI ds i) S
        | some o, k => match obGet o k with
          | some (some v) => .ok v S
          | _ => .bad
        | none, _ => .bad) Q := by cases e <;> exact p
      cases hS : S[l]? with
      | none => rw [hS] at p'; exact False.elim p'
      | some o =>
        rw [hS] at p'
        have ho := r.ob _ _ _ hS hl
        have dict : Post T W (RV T) φ H (match obGet o e with
          | some (some v) => .ok v S
          | _ => .bad) Q → wpAny (model X.prog X.w) X.A (subscriptTail value slice v u) (EP X pins σ Q) X.xe s := fun p' => by
          cases hg : obGet o e with
          | none => rw [hg] at p'; exact False.elim p'
          | some g =>
            rw [hg] at p'
            cases g with
            | none => exact False.elim p'
            | some gd =>
              obtain ⟨w, dg, w1, w2⟩ := obGet_rep (S := S) ho re hg
              obtain ⟨v', e', rv⟩ := w2 gd rfl
              subst e'
              exact ix_dict (by omega) value slice pins s σ H _ _ v u Q I rx ry ⟨_, v', rfl, dg, p'.ok r rv⟩ hs
        cases o with
        | lst ds =>
          cases e with
          | int i =>
            obtain ⟨g, hg, p⟩ := okR_some (o := atI ds i) p'
            obtain ⟨vs, h1, h2⟩ := ho
            cases re
            obtain ⟨w, e1, e2⟩ := atI_rep h2 hg
            exact ix_list value slice pins s σ H _ _ v u Q I rx ry ⟨_, _, i, w, rfl, rfl, SqL.of h1, e1, p.ok r e2⟩ hs
          | _ => exact dict p'
        | _ => cases e <;> exact dict p'
  | _ => cases e <;> exact False.elim p
/-! ### slices -/
def rSl (T : Wr) : V → Option Int → Option Int → Hp → VK → Prop := fun x lo hi H Q => ∃ (W : WXk) (φ : List Addr) (S : Store) (d : D), RepS T φ H S ∧ RepV T.K φ H x d ∧ Post T W (RV T) φ H (slcD d lo hi S) Q
theorem cut_rep {K : PySem.W.Frag} {φ : List Addr} {H : Hp} {vs : List V} {ds : List D} (r : RepVs K φ H vs ds) (lo hi : Option Int) : RepVs K φ H (cutV vs lo hi) (cutL ds lo hi) := by
  unfold cutV cutL
  rw [r.length]
  exact (r.drop _).take _
theorem cutV_whole {vs : List V} {lo hi : Option Int} (h : HT.sIx vs.length 0 lo = 0 ∧ HT.sIx vs.length vs.length hi = vs.length) : cutV vs lo hi = vs := by
  unfold cutV
  rw [h.1, h.2]
  simp
theorem sl_D (hK : X.K = T.K) : SlR X (rSl T) := by
  intro pins s σ H x v vl vu lo hi sl Q I rx hs pl pu ⟨W, φ, S, d, r, rd, p⟩
  cases d with
  | tup ds =>
    cases rd with
    | @tup a vs _ h1 h2 =>
      have p : Post T W (RV T) φ H (.ok (.tup (cutL ds lo hi)) S) Q := p
      refine sl_tupA pins s σ H _ v vl vu lo hi sl Q I rx hs pl pu ⟨a, vs, rfl, SqT.of h1, fun hw => ?_, fun _ q hq => p.tup r hq (cut_rep h2 lo hi)⟩
      refine p.ok r ?_
      have e := cut_rep h2 lo hi
      rw [cutV_whole hw] at e
      exact .tup h1 e
  | loc l =>
    cases rd with
    | loc hl =>
      have p : Post T W (RV T) φ H (match S[l]? with
        | some (.lst ds) => alloc (.lst (cutL ds lo hi)) S
        | _ => .bad) Q := p
      split at p
      · rename_i ds hS
        obtain ⟨vs, h1, h2⟩ := r.ob _ _ _ hS hl
        refine sl_list pins s σ H _ v vl vu lo hi sl Q I rx hs pl pu ⟨_, vs, rfl, SqL.of h1, fun q hq => ?_⟩
        exact p.alloc r hq ⟨_, upd_same, (cut_rep h2 lo hi).ext r (Ext.alloc hq (r.fresh hq))⟩
      · exact False.elim p
  | scr ns =>
    have p : Post T W (RV T) φ H (alloc (.lst ((cutL ns lo hi).map D.int)) S) Q := p
    have e : cutV (ns.map V.int) lo hi = (cutL ns lo hi).map V.int := by
      unfold cutV cutL
      rw [List.length_map, List.map_take, List.map_drop]
    have fin : ∀ {a : Addr}, SqL X.K H a (ns.map V.int) → L2.RelV (.ref a) v → ∃ T id, typeLookup (.type T) "__getitem__" = pure (some (.builtin id)) ∧ s.TypeIs v T ∧ wpAny (model X.prog X.w) X.A (getItem v (.ref sl)) (EP X pins σ Q) X.xe s := fun {a} hq rx => by
      refine sl_list pins s σ H _ v vl vu lo hi sl Q I rx hs pl pu ⟨a, _, rfl, hq, fun q hq => ?_⟩
      rw [e]
      exact p.alloc r hq ⟨_, upd_same, RepVs.ints _⟩
    cases rd with
    | scrF h => exact fin (.inl (.inr ⟨_, h⟩)) rx
    | scrK h1 h2 h3 h4 h5 h6 => exact fin (.inr ⟨_, _, _, by rw [hK]; exact h1, h2, h3, h4, h5, h6⟩) rx
  | _ => exact False.elim p
/-! ### truth -/
theorem isEmpty_rep {K : PySem.W.Frag} {φ : List Addr} {H : Hp} {vs : List V} {ds : List D} (r : RepVs K φ H vs ds) : vs.isEmpty = ds.isEmpty := by cases r <;> rfl
theorem truD_rep (hK : X.K = T.K) {φ : List Addr} {H : Hp} {S : Store} {x : V} {d : D} {b : Bool} (r : RepS T φ H S) (rd : RepV T.K φ H x d) (h : truD d S = some b) : TruV X.K x H b := by
  cases d with
  | non => cases rd; cases h; rfl
  | bl k => cases rd; cases h; rfl
  | int i => cases rd; cases h; rfl
  | str z =>
    cases rd
    simp only [truD] at h
    split at h
    · cases h
      exact ⟨LIM_le (by assumption), rfl⟩
    · cases h
  | tup ds =>
    cases rd with
    | tup h1 h2 =>
      cases h
      exact .inr (.inl ⟨_, SqT.of h1, by rw [isEmpty_rep h2]⟩)
  | loc l =>
    cases rd with
    | loc hl =>
      simp only [truD] at h
      split at h
      · rename_i ds hS
        cases h
        obtain ⟨vs, h1, h2⟩ := r.ob _ _ _ hS hl
        exact .inl ⟨vs, SqL.of h1, by rw [isEmpty_rep h2]⟩
      · rename_i ds hS
        cases h
        obtain ⟨vs, h1, h2⟩ := r.ob _ _ _ hS hl
        exact .inr (.inr ⟨vs, h1, by cases h2 <;> rfl⟩)
      · cases h
  | _ => cases h
/-! ### built-ins -/
def rBf (T : Wr) (f : List D → Store → Res D) : List V → Hp → VK → Prop := fun xs H Q => ∃ (W : WXk) (φ : List Addr) (S : Store) (ds : List D), RepS T φ H S ∧ RepVs T.K φ H xs ds ∧ Post T W (RV T) φ H (f ds S) Q
def tyNames : List String := ["NoneType", "bool", "int", "str", "tuple", "list", "dict"]
def isiNames : List String := ["int", "bool", "str", "tuple", "list", "dict"]
theorem kit_all : (tyNames.all fun t => isiNames.all fun u => decide (kitB t u = isiB t u)) = true := by decide +kernel
theorem isiB_some {t u : String} {b : Bool} (h : isiB t u = some b) (ht : t ∈ tyNames) : kitB t u = some b := by
  have hu : u ∈ isiNames := by
    unfold isiB at h
    split at h
    · rename_i hc
      unfold isiNames
      rcases hc with rfl | rfl | rfl | rfl | rfl | rfl <;> simp
    · cases h
  have h1 := List.all_eq_true.mp (List.all_eq_true.mp kit_all t ht) u hu
  rw [of_decide_eq_true h1]
  exact h
theorem tyD_rep (hK : X.K = T.K) {φ : List Addr} {H : Hp} {S : Store} {x : V} {d : D} {t : String} (r : RepS T φ H S) (rd : RepV T.K φ H x d) (h : tyD d S = some t) : TyX X.K H x (.type t) ∧ t ∈ tyNames := by
  cases d with
  | non => cases rd; cases h; exact ⟨.base .non, by decide⟩
  | bl k => cases rd; cases h; exact ⟨.base (.bl _), by decide⟩
  | int i => cases rd; cases h; exact ⟨.base (.int _), by decide⟩
  | str z => cases rd; cases h; exact ⟨.base (.str _), by decide⟩
  | tup ds => cases rd with | tup h1 h2 => cases h; exact ⟨.base (.tup h1), by decide⟩
  | ktup ds => cases rd with | ktup h1 h2 h3 h4 h5 h6 => cases h; exact ⟨.kTuple (by rw [hK]; exact h1) h2, by decide⟩
  | loc l =>
    cases rd with
    | loc hl =>
      simp only [tyD] at h
      split at h
      · rename_i ds hS
        cases h
        obtain ⟨vs, h1, h2⟩ := r.ob _ _ _ hS hl
        exact ⟨.base (.lst h1), by decide⟩
      · rename_i ds hS
        cases h
        obtain ⟨vs, h1, h2⟩ := r.ob _ _ _ hS hl
        exact ⟨.base (.dK h1), by decide⟩
      · rename_i ds hS
        cases h
        obtain ⟨vs, h1, h2⟩ := r.ob _ _ _ hS hl
        exact ⟨.base (.dT h1), by decide⟩
      · cases h
  | _ => cases h
theorem reps1 {K : PySem.W.Frag} {φ : List Addr} {H : Hp} {xs : List V} {d : D} (r : RepVs K φ H xs [d]) : ∃ x, xs = [x] ∧ RepV K φ H x d := by
  cases r with | cons r t => cases t; exact ⟨_, rfl, r⟩
theorem reps2 {K : PySem.W.Frag} {φ : List Addr} {H : Hp} {xs : List V} {d e : D} (r : RepVs K φ H xs [d, e]) : ∃ x y, xs = [x, y] ∧ RepV K φ H x d ∧ RepV K φ H y e := by
  cases r with | cons r t => obtain ⟨y, rfl, h⟩ := reps1 t; exact ⟨_, _, rfl, r, h⟩
theorem cl_abs : CallR X (.builtin "abs") (rBf T (bltD .abs)) := by
  intro pins s σ H xs us Q I rv ⟨W, φ, S, ds, r, rs, p⟩
  unfold bltD at p
  split at p
  all_goals first | exact False.elim p | skip
  all_goals (rename_i hf; first | (cases hf; done) | skip)
  all_goals (obtain ⟨x, rfl, rx⟩ := reps1 rs; cases rx; exact call_abs pins s σ H _ us Q I rv ⟨_, rfl, p.ok r (.int _)⟩)
theorem cl_int : CallR X (.type "int") (rBf T (bltD .int)) := by
  intro pins s σ H xs us Q I rv ⟨W, φ, S, ds, r, rs, p⟩
  unfold bltD at p
  split at p
  all_goals first | exact False.elim p | skip
  all_goals (rename_i hf; first | (cases hf; done) | skip)
  · obtain ⟨x, rfl, rx⟩ := reps1 rs; cases rx; exact call_int1 pins s σ H _ us Q I rv (.inl ⟨_, rfl, p.ok r (.int _)⟩)
  · obtain ⟨x, rfl, rx⟩ := reps1 rs; cases rx; exact call_int1 pins s σ H _ us Q I rv (.inr ⟨_, rfl, p.ok r (.int _)⟩)
theorem cl_max (hc : X.calm = true) : CallR X (.builtin "max") (rBf T (bltD .max)) := by
  intro pins s σ H xs us Q I rv ⟨W, φ, S, ds, r, rs, p⟩
  unfold bltD at p
  split at p
  all_goals first | exact False.elim p | skip
  all_goals (rename_i hf; first | (cases hf; done) | skip)
  all_goals (obtain ⟨x, y, rfl, rx, ry⟩ := reps2 rs; cases rx; cases ry; exact call_max2 hc pins s σ H _ us Q I rv ⟨_, _, rfl, p.ok r (.int _)⟩)
theorem intsD_rep {K : PySem.W.Frag} {φ : List Addr} {H : Hp} : ∀ {vs : List V} {ds : List D} {is : List Int}, RepVs K φ H vs ds → intsD ds = some is → vs = is.map V.int
  | _, _, _, .nil, h => by cases h; rfl
  | _, d :: ds, is, .cons r t, h => by
    cases d with
    | int i =>
      obtain ⟨js, e1, e2⟩ := Option.map_eq_some_iff.mp (show (intsD ds).map (i :: ·) = some is from h)
      subst e2
      cases r
      rw [List.map_cons, ← intsD_rep t e1]
    | _ => cases h
theorem foldmin : ∀ (is : List Int) (i : Int), (is.foldl (fun a b => if b < a then b else a) i ∈ i :: is) ∧ ∀ y ∈ i :: is, is.foldl (fun a b => if b < a then b else a) i ≤ y
  | [], i => ⟨by simp, by simp⟩
  | j :: is, i => by
    obtain ⟨h1, h2⟩ := foldmin is (if j < i then j else i)
    rw [List.foldl_cons]
    generalize List.foldl (fun a b => if b < a then b else a) (if j < i then j else i) is = m at h1 h2 ⊢
    refine ⟨?_, fun y hy => ?_⟩
    · rcases List.mem_cons.mp h1 with h | h
      · rw [h]
        split <;> simp
      · simp [h]
    · have h3 := h2 _ List.mem_cons_self
      rcases List.mem_cons.mp hy with rfl | hy
      · split at h3 <;> omega
      · rcases List.mem_cons.mp hy with rfl | hy
        · split at h3 <;> omega
        · exact h2 y (List.mem_cons_of_mem _ hy)
theorem cl_min (hc : X.calm = true) (hK : X.K = T.K) : CallR X (.builtin "min") (rBf T (bltD .min)) := by
  intro pins s σ H xs us Q I rv ⟨W, φ, S, ds, r, rs, p⟩
  unfold bltD at p
  split at p
  all_goals first | exact False.elim p | skip
  all_goals (rename_i hf; first | (cases hf; done) | skip)
  · obtain ⟨x, y, rfl, rx, ry⟩ := reps2 rs
    cases rx; cases ry; exact call_min2 hc pins s σ H _ us Q I rv ⟨_, _, rfl, p.ok r (.int _)⟩
  · obtain ⟨x, rfl, rx⟩ := reps1 rs
    cases rx with
    | loc hl =>
      split at p
      · rename_i es hS
        obtain ⟨vs, h1, h2⟩ := r.ob _ _ _ hS hl
        unfold minI at p
        cases hi : intsD es with
        | none => rw [hi] at p; exact False.elim p
        | some is =>
          rw [hi] at p
          have e := intsD_rep h2 hi
          subst e
          cases is with
          | nil => exact False.elim p
          | cons i is =>
            refine cr_min hc pins s σ H _ us Q I rv ⟨_, i :: is, rfl, by rw [hK]; exact SqL.of h1, by simp, fun m hm hle => ?_⟩
            obtain ⟨g1, g2⟩ := foldmin is i
            have : m = is.foldl (fun a b => if b < a then b else a) i := Int.le_antisymm (hle _ g1) (g2 _ hm)
            rw [this]
            exact p.ok r (.int _)
      · exact False.elim p
theorem cl_isi (hK : X.K = T.K) : CallR X (.builtin "isinstance") (rBf T (bltD .isi)) := by
  intro pins s σ H xs us Q I rv ⟨W, φ, S, ds, r, rs, p⟩
  unfold bltD at p
  split at p
  all_goals first | exact False.elim p | skip
  all_goals (rename_i hf; first | (cases hf; done) | skip)
  rename_i d u
  obtain ⟨x, y, rfl, rx, ry⟩ := reps2 rs
  cases ry
  cases ht : tyD d S with
  | none => rw [ht] at p; exact False.elim p
  | some t =>
    rw [ht] at p
    obtain ⟨b, hb, q⟩ := boolR_some p r
    obtain ⟨t1, t2⟩ := tyD_rep hK r rx ht
    exact call_isi pins s σ H _ us Q I rv ⟨x, .ty u, .type t, .type u, b, rfl, .ty u, t1, kit_ty (isiB_some hb t2), q⟩
theorem cl_len (hK : X.K = T.K) : CallR X (.builtin "len") (rBf T (bltD .len)) := by
  intro pins s σ H xs us Q I rv ⟨W, φ, S, ds, r, rs, p⟩
  unfold bltD at p
  split at p
  all_goals first | exact False.elim p | skip
  all_goals (rename_i hf; first | (cases hf; done) | skip)
  · obtain ⟨x, rfl, rx⟩ := reps1 rs
    cases rx
    split at p
    · exact call_len pins s σ H _ us Q I rv ⟨_, _, rfl, ⟨LIM_le (by assumption), rfl⟩, p.ok r (.int _)⟩
    · exact False.elim p
  · obtain ⟨x, rfl, rx⟩ := reps1 rs
    cases rx with
    | tup h1 h2 => exact call_len pins s σ H _ us Q I rv ⟨_, _, rfl, .inr ⟨_, SqT.of h1, rfl⟩, by rw [h2.length]; exact p.ok r (.int _)⟩
  · obtain ⟨x, rfl, rx⟩ := reps1 rs
    cases rx with
    | ktup h1 h2 h3 h4 h5 h6 => exact call_len pins s σ H _ us Q I rv ⟨_, _, rfl, .inr ⟨_, .inr ⟨_, _, _, by rw [hK]; exact h1, h2, h3, h4, h5⟩, rfl⟩, by rw [h6.length]; exact p.ok r (.int _)⟩
  · obtain ⟨x, rfl, rx⟩ := reps1 rs
    cases rx with
    | loc hl =>
      split at p
      · rename_i es hS
        obtain ⟨vs, h1, h2⟩ := r.ob _ _ _ hS hl
        exact call_len pins s σ H _ us Q I rv ⟨_, _, rfl, .inl ⟨_, SqL.of h1, rfl⟩, by rw [h2.length]; exact p.ok r (.int _)⟩
      · exact False.elim p
theorem cl_tuple : CallR X (.type "tuple") (rBf T (bltD .tuple)) := by
  intro pins s σ H xs us Q I rv ⟨W, φ, S, ds, r, rs, p⟩
  unfold bltD at p
  split at p
  all_goals first | exact False.elim p | skip
  all_goals (rename_i hf; first | (cases hf; done) | skip)
  · obtain ⟨x, rfl, rx⟩ := reps1 rs
    cases rx with
    | tup h1 h2 => exact call_tuple_of pins s σ H _ us Q I rv ⟨_, _, rfl, .inr ⟨SqT.of h1, p.ok r (.tup h1 h2)⟩⟩
  · obtain ⟨x, rfl, rx⟩ := reps1 rs
    cases rx with
    | loc hl =>
      split at p
      · rename_i es hS
        obtain ⟨vs, h1, h2⟩ := r.ob _ _ _ hS hl
        exact call_tuple_of pins s σ H _ us Q I rv ⟨_, _, rfl, .inl ⟨SqL.of h1, fun q hq => p.tup r hq h2⟩⟩
      · exact False.elim p
theorem cl_list : CallR X (.type "list") (rBf T (bltD .list)) := by
  intro pins s σ H xs us Q I rv ⟨W, φ, S, ds, r, rs, p⟩
  unfold bltD at p
  split at p
  all_goals first | exact False.elim p | skip
  all_goals (rename_i hf; first | (cases hf; done) | skip)
  · obtain ⟨x, rfl, rx⟩ := reps1 rs
    cases rx with
    | tup h1 h2 => exact call_list_of pins s σ H _ us Q I rv ⟨_, _, rfl, .inr (SqT.of h1), fun q hq => p.alloc r hq ⟨_, upd_same, h2.ext r (Ext.alloc hq (r.fresh hq))⟩⟩
  · obtain ⟨x, rfl, rx⟩ := reps1 rs
    cases rx with
    | loc hl =>
      split at p
      · rename_i es hS
        obtain ⟨vs, h1, h2⟩ := r.ob _ _ _ hS hl
        exact call_list_of pins s σ H _ us Q I rv ⟨_, _, rfl, .inl (SqL.of h1), fun q hq => p.alloc r hq ⟨_, upd_same, h2.ext r (Ext.alloc hq (r.fresh hq))⟩⟩
      · exact False.elim p
/-! ### built-ins of a list that nobody else holds -/
def rBl (T : Wr) (f : List D → Store → Res D) : List V → Hp → VK → Prop := fun xs H Q => ∃ (W : WXk) (φ : List Addr) (S : Store) (ds : List D) (a : Addr) (vs : List V), xs = [.ref a] ∧ H a = some (.lst vs) ∧ RepS T φ H S ∧ RepVs T.K φ H vs ds ∧ Post T W (RV T) φ H (f ds S) Q
theorem blsOf_rep {K : PySem.W.Frag} {φ : List Addr} {H : Hp} : ∀ {vs : List V} {ds : List D} {bs : List Bool}, RepVs K φ H vs ds → blsOf ds = some bs → vs = bs.map V.bl
  | _, _, _, .nil, h => by cases h; rfl
  | _, d :: ds, bs, .cons r t, h => by
    cases d with
    | bl b =>
      obtain ⟨cs, e1, e2⟩ := Option.map_eq_some_iff.mp (show (blsOf ds).map (b :: ·) = some bs from h)
      subst e2
      cases r
      rw [List.map_cons, ← blsOf_rep t e1]
    | _ => cases h
theorem cb_all (hc : X.calm = true) : CallR X (.builtin "all") (rBl T (bllD .all)) := by
  intro pins s σ H xs us Q I rv h
  obtain ⟨W, φ, S, ds, a, vs, rfl, ha, r, rs, p⟩ := h
  unfold bllD at p
  dsimp only at p
  split at p
  · rename_i bs hb
    have e := blsOf_rep rs hb
    subst e
    exact cr_all hc pins s σ H _ us Q I rv ⟨a, bs, rfl, SqL.of ha, p.ok r (.bl _)⟩
  · exact False.elim p
theorem cb_any (hc : X.calm = true) : CallR X (.builtin "any") (rBl T (bllD .any)) := by
  intro pins s σ H xs us Q I rv h
  obtain ⟨W, φ, S, ds, a, vs, rfl, ha, r, rs, p⟩ := h
  unfold bllD at p
  dsimp only at p
  split at p
  · rename_i bs hb
    have e := blsOf_rep rs hb
    subst e
    exact cr_any hc pins s σ H _ us Q I rv ⟨a, bs, rfl, SqL.of ha, p.ok r (.bl _)⟩
  · exact False.elim p
theorem cb_tuple : CallR X (.type "tuple") (rBl T (bllD .tuple)) := by
  intro pins s σ H xs us Q I rv h
  obtain ⟨W, φ, S, ds, a, vs, rfl, ha, r, rs, p⟩ := h
  exact call_tuple_of pins s σ H _ us Q I rv ⟨_, _, rfl, .inl ⟨SqL.of ha, fun q hq => Post.tup p r hq rs⟩⟩
theorem cb_len : CallR X (.builtin "len") (rBl T (bllD .len)) := by
  intro pins s σ H xs us Q I rv h
  obtain ⟨W, φ, S, ds, a, vs, rfl, ha, r, rs, p⟩ := h
  exact call_len pins s σ H _ us Q I rv ⟨_, _, rfl, .inl ⟨_, SqL.of ha, rfl⟩, by rw [rs.length]; exact Post.ok p r (.int _)⟩
def ptD (p : Int × Int) : PyData := .tuple [.int p.1, .int p.2]
theorem pairsD_rep {φ : List Addr} {H : Hp} : ∀ {vs : List V} {ds : List D} {ps : List (Int × Int)}, RepVs T.K φ H vs ds → pairsD ds = some ps → ds = ps.map (fun p => .tup [.int p.1, .int p.2]) ∧ DpAll T.K H vs (ps.map ptD)
  | _, _, _, .nil, h => by cases h; exact ⟨rfl, .nil⟩
  | _, d :: ds, ps, .cons r t, h => by
    unfold pairsD at h
    split at h
    · rename_i e; cases e
    · rename_i i j ds' e
      cases e
      obtain ⟨js, e1, e2⟩ := Option.map_eq_some_iff.mp h
      subst e2
      obtain ⟨g1, g2⟩ := pairsD_rep t e1
      exact ⟨by rw [List.map_cons, ← g1], .cons (RepV.dp r (p := ptD (i, j)) rfl) g2⟩
    · cases h
theorem minD_pairs : ∀ (ps : List (Int × Int)) (p : Int × Int), PySem.W.minD (ptD p) (ps.map ptD) = ptD (ps.foldl (fun a b => if ltP b a then b else a) p)
  | [], p => rfl
  | q :: ps, p => by
    have e : PySem.W.dataLt (ptD q) (ptD p) = ltP q p := by
      unfold ptD
      rw [PySem.W.dataLt_ii]
      unfold ltP
      rw [Bool.eq_iff_iff]
      simp
    rw [List.foldl_cons, ← minD_pairs ps]
    show PySem.W.minD (if PySem.W.dataLt (ptD q) (ptD p) = true then ptD q else ptD p) (ps.map ptD) = _
    rw [e]
    split <;> rfl
theorem alike_pairs (ps : List (Int × Int)) : PySem.W.AlikeAll (ps.map ptD) := by
  refine ⟨fun x hx y hy => ?_, fun x hx => ?_⟩
  · obtain ⟨p, _, rfl⟩ := List.mem_map.mp hx
    obtain ⟨q, _, rfl⟩ := List.mem_map.mp hy
    rfl
  · obtain ⟨p, _, rfl⟩ := List.mem_map.mp hx
    intro z; cases z
theorem depth_pairs : ∀ ps : List (Int × Int), PyData.depthAll (ps.map ptD) ≤ 1
  | [] => by simp [PyData.depthAll]
  | p :: ps => by
    rw [List.map_cons, PyData.depthAll]
    refine Nat.max_le.mpr ⟨?_, depth_pairs ps⟩
    simp [ptD, PyData.depth, PyData.depthAll]
theorem cb_min (hc : X.calm = true) (hu : X.A.units + 64 < cLine) (hK : X.K = T.K) : CallR X (.builtin "min") (rBl T (bllD .min)) := by
  intro pins s σ H xs us Q I rv h
  obtain ⟨W, φ, S, ds, a, vs, rfl, ha, r, rs, p⟩ := h
  unfold bllD minP at p
  dsimp only at p
  cases hp : pairsD ds with
  | none => rw [hp] at p; exact False.elim p
  | some ps =>
    rw [hp] at p
    cases ps with
    | nil => exact False.elim p
    | cons q ps =>
      obtain ⟨e1, e2⟩ := pairsD_rep rs hp
      obtain ⟨its, rv', hl, _⟩ := I.list (SqL.of (K := X.K) ha)
      obtain ⟨as, hr⟩ := Dp.readsAll I _ vs its (by rw [hK]; exact e2) rv'
      rw [Vals.ref1 rv]
      refine PySem.W.min_list_data (I.ok.hd hc) hl.isList hr (alike_pairs (q :: ps)) (by have := depth_pairs (q :: ps); rw [List.map_cons] at this; omega) fun i v h' tk bs hv rd hk => ?_
      have I1 : L2.Inv X pins σ H { s with heap := h', toks := tk } := I.kept (t' := tk) hk
      have hv : its[i]? = some v := by simpa using hv
      obtain ⟨x, hx, rx⟩ : ∃ x, vs[i]? = some x ∧ L2.RelV x v := by
        have hl2 := rv'.length
        have hi : i < vs.length := by rw [hl2]; exact (List.getElem?_eq_some_iff.mp hv).1
        obtain ⟨u, hu', ru⟩ := rv'.get (List.getElem?_eq_getElem hi)
        rw [hv] at hu'
        cases hu'
        exact ⟨_, List.getElem?_eq_getElem hi, ru⟩
      refine ⟨x, H, I1, rx, ?_⟩
      obtain ⟨d, hd, rd'⟩ := rs.getV hx
      rw [e1, List.getElem?_map] at hd
      cases hq : (q :: ps)[i]? with
      | none => rw [hq] at hd; cases hd
      | some q' =>
        rw [hq] at hd
        cases hd
        have dq : Dp X.K H x (ptD q') := by rw [hK]; exact RepV.dp rd' (p := ptD q') rfl
        obtain ⟨as', r1⟩ := Dp.reads I1 (ptD q') x v dq rx
        rw [minD_pairs] at rd
        obtain ⟨e3, _⟩ := PyProof.Rows.reads_det (fun _ _ e _ => e) r1 rd
        have e4 : q' = ps.foldl (fun a b => if ltP b a then b else a) q := by
          generalize ps.foldl (fun a b => if ltP b a then b else a) q = m at e3
          unfold ptD at e3
          simp at e3
          exact Prod.ext e3.1.symm e3.2.symm
        dsimp only at p
        rw [← e4] at p
        exact Post.ok p r rd'
/-! ### methods -/
def rMt (T : Wr) (m : Mt) : V → List V → Hp → VK → Prop := fun x xs H Q => ∃ (W : WXk) (φ : List Addr) (S : Store) (d : D) (ds : List D), RepS T φ H S ∧ RepV T.K φ H x d ∧ RepVs T.K φ H xs ds ∧ Post T W (RV T) φ H (methD d m ds S) Q
theorem reps0 {K : PySem.W.Frag} {φ : List Addr} {H : Hp} {xs : List V} (r : RepVs K φ H xs []) : xs = [] := by cases r; rfl
theorem mt_appendD : MtR X "list.append" (rMt T .append) := by
  intro pins s σ H x xs v us Q I rx rxs ⟨W, φ, S, d, ds, r, rd, rs, p⟩
  unfold methD at p
  split at p
  · split at p
    all_goals first | exact False.elim p | skip
    all_goals (rename_i hf; first | (cases hf; done) | skip)
    · rename_i l ys y hS
      split at p
      · rename_i hl
        obtain ⟨x', rfl, rx'⟩ := reps1 rs
        cases rd with
        | loc ha =>
          obtain ⟨vs, h1, h2⟩ := r.ob _ _ _ hS ha
          refine mt_append pins s σ H _ _ v us Q I rx rxs ⟨_, vs, x', rfl, rfl, h1, LIM_lt (by rw [h2.length]; exact hl), ?_⟩
          obtain ⟨w, ew, _, ht⟩ := (r.ob _ _ _ hS ha).mut
          have x := Ext.write (u := HO.lst (vs ++ [x'])) (List.mem_of_getElem? ha) ew ht
          exact p.write r hS ha ⟨_, upd_same, (h2.append (.cons rx' .nil)).ext r x⟩ .non
      · exact False.elim p
  · exact False.elim p
end
end Ev
end

section
set_option Elab.async false
set_option linter.all false
set_option maxRecDepth 100000
set_option autoImplicit false
/-! Ev6: methods, stores, fields; names; a list that becomes a place of the store. -/
namespace Ev
open PySem PySem.Spec L2
open PyProof.Rows hiding St

theorem ofString_inj {a b : String} (h : Str.ofString a = Str.ofString b) : a = b := by
  rw [Str.ofString_eq_toList, Str.ofString_eq_toList] at h
  have h1 : (a.toList.map Char.toNat).toArray = (b.toList.map Char.toNat).toArray := congrArg Str.cps h
  have h2 : a.toList.map Char.toNat = b.toList.map Char.toNat := by simpa using congrArg Array.toList h1
  have h3 : a.toList = b.toList := by
    refine (List.map_inj_right fun x y e => ?_).mp h2
    exact Char.toNat_inj.mp e
  exact String.toList_inj.mp h3
theorem ofString_eq {a b : String} : (Str.ofString a = Str.ofString b) = (a = b) := propext ⟨ofString_inj, fun h => by rw [h]⟩
theorem ofString_beq {a b : String} : (Str.ofString a == Str.ofString b) = (a == b) := by
  by_cases h : a = b
  · subst h; simp
  · rw [beq_eq_false_iff_ne.mpr h, beq_eq_false_iff_ne.mpr fun e => h (ofString_inj e)]
theorem strOk_ofString (a : String) : PyData.strOk (Str.ofString a) = true := by
  rw [Str.ofString_eq_toList]
  unfold PyData.strOk
  simp only [List.all_toArray, List.all_map, List.all_eq_true, Function.comp, decide_eq_true_eq]
  intro c _
  have := c.valid
  unfold UInt32.isValidChar Nat.isValidChar at this
  show c.val.toNat < 1114112
  omega

section
variable {X : Cx} {T : Wr}
theorem mt_extendD : MtR X "list.extend" (rMt T .extend) := by
  intro pins s σ H x xs v us Q I rx rxs ⟨W, φ, S, d, ds, r, rd, rs, p⟩
  unfold methD at p
  split at p
  · split at p
    all_goals first | exact False.elim p | skip
    all_goals (rename_i hf; first | (cases hf; done) | skip)
    rename_i l ys b hS
    split at p
    · rename_i zs hB
      split at p
      · rename_i hl
        obtain ⟨x', rfl, rx'⟩ := reps1 rs
        cases rd with
        | loc ha =>
          cases rx' with
          | loc hb =>
            obtain ⟨vs, h1, h2⟩ := r.ob _ _ _ hS ha
            obtain ⟨ws, k1, k2⟩ := r.ob _ _ _ hB hb
            refine mt_extend pins s σ H _ _ v us Q I rx rxs ⟨_, _, vs, ws, rfl, rfl, h1, k1, LIM_le (by rw [h2.length, k2.length]; exact hl), ?_⟩
            obtain ⟨w, ew, _, ht⟩ := (r.ob _ _ _ hS ha).mut
            have x := Ext.write (u := HO.lst (vs ++ ws)) (List.mem_of_getElem? ha) ew ht
            exact p.write r hS ha ⟨_, upd_same, (h2.append k2).ext r x⟩ .non
      · exact False.elim p
    · exact False.elim p
  · exact False.elim p
theorem mt_popD : MtR X "list.pop" (rMt T .pop) := by
  intro pins s σ H x xs v us Q I rx rxs ⟨W, φ, S, d, ds, r, rd, rs, p⟩
  unfold methD at p
  split at p
  · split at p
    all_goals first | exact False.elim p | skip
    all_goals (rename_i hf; first | (cases hf; done) | skip)
    rename_i l ys hS
    split at p
    · rename_i y hy
      have := reps0 rs
      subst this
      cases rd with
      | loc ha =>
        obtain ⟨vs, h1, h2⟩ := r.ob _ _ _ hS ha
        rw [← h2.length] at hy
        obtain ⟨y', e1, e2⟩ := h2.get hy
        refine mt_pop pins s σ H _ _ v us Q I rx rxs ⟨_, vs, y', rfl, rfl, h1, e1, ?_⟩
        obtain ⟨w, ew, _, ht⟩ := (r.ob _ _ _ hS ha).mut
        have x := Ext.write (u := HO.lst vs.dropLast) (List.mem_of_getElem? ha) ew ht
        exact p.write r hS ha ⟨_, upd_same, h2.dropLast.ext r x⟩ (e2.ext r x)
    · exact False.elim p
  · exact False.elim p
theorem mt_indexF (hK : X.K = T.K) : MtR X "list.index" (rMt T .index) := by
  intro pins s σ H x xs v us Q I rx rxs ⟨W, φ, S, d, ds, r, rd, rs, p⟩
  unfold methD at p
  split at p
  · split at p
    all_goals first | exact False.elim p | skip
    all_goals (rename_i hf; first | (cases hf; done) | skip)
    rename_i l ys y hS
    split at p
    · rename_i hb
      rw [Bool.and_eq_true] at hb
      cases hi : ys.findIdx? fun z => eqS z y with
      | none => rw [hi] at p; exact False.elim p
      | some j =>
        rw [hi] at p
        obtain ⟨hj, e1, e2⟩ := List.findIdx?_eq_some_iff_getElem.mp hi
        obtain ⟨x', rfl, rx'⟩ := reps1 rs
        cases rd with
        | loc ha =>
          obtain ⟨vs, h1, h2⟩ := r.ob _ _ _ hS ha
          obtain ⟨z, z1, z2⟩ := h2.get (List.getElem?_eq_getElem hj)
          refine mt_index pins s σ H _ _ v us Q I rx rxs ⟨_, vs, x', j, z, rfl, rfl, by rw [hK]; exact SqL.of h1, rx'.flat hb.1, h2.flat hb.2, z1, ?_, fun m z' hm hz => ?_, p.ok r (.int _)⟩
          · rw [eqS_of z2 rx' (List.all_eq_true.mp hb.2 _ (List.getElem_mem hj)) hb.1]
            exact e1
          · obtain ⟨d', g1, g2⟩ := h2.getV hz
            have hm2 : m < ys.length := by omega
            rw [List.getElem?_eq_getElem hm2] at g1
            cases g1
            rw [eqS_of g2 rx' (List.all_eq_true.mp hb.2 _ (List.getElem_mem hm2)) hb.1]
            exact Bool.eq_false_iff.mpr (e2 m hm)
    · exact False.elim p
  · exact False.elim p
theorem mt_get2 (hu : X.A.units + 1 < cLine) : MtR X "dict.get" (fun x xs H Q => ∃ a y z o, x = .ref a ∧ xs = [y, z] ∧ DGet H a y o ∧ Q (o.getD z) H) := by
  intro pins s σ H x xs v us Q I rx rxs h
  obtain ⟨a, y, z, o, rfl, rfl, g, q⟩ := h
  obtain ⟨u1, u2, rfl, r1, r2⟩ := vals2 rxs
  cases rx
  exact d_get2 hu I g r1 r2 fun w' s' I' rw' => ⟨_, H, I', rw', q⟩
theorem mt_getD (hu : X.A.units + 64 < cLine) : MtR X "dict.get" (rMt T .get) := by
  intro pins s σ H x xs v us Q I rx rxs ⟨W, φ, S, d, ds, r, rd, rs, p⟩
  unfold methD at p
  split at p
  · split at p
    all_goals first | exact False.elim p | skip
    all_goals (rename_i hf; first | (cases hf; done) | skip)
    rename_i l o k e hS
    split at p
    · rename_i g hg
      obtain ⟨y, z, rfl, ry, rz⟩ := reps2 rs
      cases rd with
      | loc ha =>
        have ho := r.ob _ _ _ hS ha
        obtain ⟨w, dg, w1, w2⟩ := obGet_rep (S := S) ho ry hg
        refine mt_get2 (by omega) pins s σ H _ _ v us Q I rx rxs ⟨_, y, z, w, rfl, rfl, dg, ?_⟩
        cases g with
        | none => rw [w1 rfl]; exact p.ok r rz
        | some gd => obtain ⟨v', e', rv⟩ := w2 gd rfl; rw [e']; exact p.ok r rv
    · exact False.elim p
  · exact False.elim p
/-! ### o[i] = v -/
def rSto (T : Wr) : TSet := fun o i v H Q => ∃ (W : WXk) (φ : List Addr) (S : Store) (d e f : D), RepS T φ H S ∧ RepV T.K φ H o d ∧ RepV T.K φ H i e ∧ RepV T.K φ H v f ∧ Post T W (RE (α := Unit)) φ H (stoD d e f S) fun _ H' => Q H'
theorem obPut_rep {φ : List Addr} {H : Hp} {S : Store} {a : Addr} {o o' : Ob} {y z : V} {k v : D} (r : RepS T φ H S) {l : Nat} (hl : S[l]? = some o) (ha : φ[l]? = some a) (ry : RepV T.K φ H y k) (rz : RepV T.K φ H z v) (e : obPut o k v = some o') :
    ∃ u, DPut H a y z (upd H a u) ∧ RepO T φ (upd H a u) a o' := by
  have h := r.ob _ _ _ hl ha
  obtain ⟨w, ew, _, ht⟩ := h.mut
  cases o with
  | dk kds =>
    have e : ((keyOf k).bind fun k => if kds.length < LIM then some (.dk (kput kds k v)) else none) = some o' := by
      unfold obPut at e
      cases k <;> exact e
    obtain ⟨kk, e1, e2⟩ := Option.bind_eq_some_iff.mp e
    split at e2
    · rename_i hz
      cases e2
      obtain ⟨kvs, h1, h2⟩ := h
      have hy := keyOf_rep ry e1
      subst hy
      have x := Ext.write (u := HO.dK (putK kvs kk z)) (List.mem_of_getElem? ha) ew ht
      refine ⟨.dK (putK kvs kk z), DPut.k h1 (LIM_lt (by rw [h2.length]; exact hz)), _, upd_same, ?_⟩
      exact kput_rep (rz.ext r x) (RepK.ext r x h2)
    · cases e2
  | dt kds =>
    cases k with
    | tup ks =>
      have e : ((keysOf ks).bind fun k => if kds.length < LIM then some (.dt (kput kds k v)) else none) = some o' := e
      obtain ⟨kk, e1, e2⟩ := Option.bind_eq_some_iff.mp e
      split at e2
      · rename_i hz
        cases e2
        obtain ⟨kvs, h1, h2⟩ := h
        cases ry with
        | tup t1 t2 =>
          have hy := keysOf_rep t2 e1
          subst hy
          have x := Ext.write (u := HO.dT (putK kvs kk z)) (List.mem_of_getElem? ha) ew ht
          refine ⟨.dT (putK kvs kk z), DPut.t h1 t1 (LIM_lt (by rw [h2.length]; exact hz)), _, upd_same, ?_⟩
          exact kput_rep (rz.ext r x) (RepK.ext r x h2)
      · cases e2
    | _ => cases e
  | lst ds => cases k <;> cases e
  | ins C fs => cases k <;> cases e
theorem set_D (hu : X.A.units + 64 < cLine) : PSet X (rSto T) := by
  intro pins s σ H o i v ov iv u Q I ro ri rv ⟨W, φ, S, d, e, f, r, rd, re, rf, p⟩
  cases d with
  | loc l =>
    cases rd with
    | loc ha =>
      have p' : Post T W (RE (α := Unit)) φ H (match (generalizing := false) S[l]?, e with
        | some (.lst xs), .int i => match L2.ixN xs.length i with
          | some j => .ok () (S.set l (.lst (xs.set j f)))
          | none => .bad
        | some ob, k => match obPut ob k f with
          | some ob' => .ok () (S.set l ob')
          | none => .bad
        | none, _ => .bad) fun _ H' => Q H' := by cases e <;> exact p
      cases hS : S[l]? with
      | none => rw [hS] at p'; exact False.elim p'
      | some o =>
        rw [hS] at p'
        have ho := r.ob _ _ _ hS ha
        have dict : Post T W (RE (α := Unit)) φ H (match obPut o e f with
          | some ob' => .ok () (S.set l ob')
          | none => .bad) (fun _ H' => Q H') → wpAny (model X.prog X.w) X.A (setItem ov iv u) (fun _ s' => ∃ H', L2.Inv X pins σ H' s' ∧ Q H') X.xe s := fun p' => by
          cases hg : obPut o e f with
          | none => rw [hg] at p'; exact False.elim p'
          | some o' =>
            rw [hg] at p'
            obtain ⟨w, dp, ro'⟩ := obPut_rep r hS ha re rf hg
            exact set_dict (by omega) pins s σ H _ i v ov iv u Q I ro ri rv ⟨_, _, rfl, dp, p'.write r hS ha ro' rfl⟩
        cases o with
        | lst ds =>
          cases e with
          | int k =>
            dsimp only at p'
            cases hj : ixN ds.length k with
            | none => rw [hj] at p'; exact False.elim p'
            | some j =>
              rw [hj] at p'
              obtain ⟨vs, h1, h2⟩ := ho
              cases re
              obtain ⟨w, ew, _, ht⟩ := (r.ob _ _ _ hS ha).mut
              have x := Ext.write (u := HO.lst (vs.set j v)) (List.mem_of_getElem? ha) ew ht
              exact set_list pins s σ H _ _ v ov iv u Q I ro ri rv ⟨_, vs, k, j, rfl, rfl, h1, by rw [h2.length]; exact hj, p'.write r hS ha ⟨_, upd_same, (RepVs.set rf j h2).ext r x⟩ rfl⟩
          | _ => exact dict p'
        | _ => cases e <;> exact dict p'
  | _ => exact False.elim p
/-! ### fields -/
theorem fs_lookup {K : PySem.W.Frag} {φ : List Addr} {H : Hp} (f : String) : ∀ {vfs : List (Str × V)} {fs : List (String × D)}, RepF K φ H vfs fs →
    (fs.lookup f = none → vfs.lookup (Str.ofString f) = none) ∧ ∀ d, fs.lookup f = some d → ∃ v, vfs.lookup (Str.ofString f) = some v ∧ RepV K φ H v d
  | _, _, .nil => ⟨fun _ => rfl, fun d h => by cases h⟩
  | (g1, v1) :: r1, (g2, d2) :: r2, .cons h t => by
    obtain ⟨e, hv⟩ := h
    have e : g1 = Str.ofString g2 := e
    subst e
    obtain ⟨i1, i2⟩ := fs_lookup f t
    rw [List.lookup_cons, List.lookup_cons, ofString_beq]
    cases q : f == g2 with
    | true => exact ⟨fun z => (Option.some_ne_none _ z).elim, fun d z => by cases z; exact ⟨_, rfl, hv⟩⟩
    | false => exact ⟨i1, i2⟩
theorem putF_rep {K : PySem.W.Frag} {φ : List Addr} {H : Hp} {f : String} {v : V} {d : D} (rv : RepV K φ H v d) : ∀ {vfs : List (Str × V)} {fs : List (String × D)}, RepF K φ H vfs fs → RepF K φ H (L2.putF (Str.ofString f) v vfs) (Ev.putF f d fs)
  | _, _, .nil => .cons ⟨rfl, rv⟩ .nil
  | (g1, v1) :: r1, (g2, d2) :: r2, .cons h t => by
    obtain ⟨e, hv⟩ := h
    have e : g1 = Str.ofString g2 := e
    subst e
    unfold L2.putF Ev.putF
    by_cases q : g2 = f
    · subst q
      rw [if_pos rfl, if_pos rfl]
      exact .cons ⟨rfl, rv⟩ t
    · rw [if_neg q, if_neg fun z => q (ofString_inj z)]
      exact .cons ⟨rfl, hv⟩ (putF_rep rv t)
theorem RepF.length {K : PySem.W.Frag} {φ : List Addr} {H : Hp} {vfs : List (Str × V)} {fs : List (String × D)} (r : RepF K φ H vfs fs) : vfs.length = fs.length := Paired.length r
end

/-! ### a list that becomes a place -/
section
variable {T : Wr} {φ φ' : List Addr} {H H' : Hp} {S S' : Store} {a : Addr}
mutual
theorem RepV.more {K : PySem.W.Frag} (x : φ <+: φ') : ∀ {v : V} {d : D}, RepV K φ H v d → RepV K φ' H v d
  | _, _, .non => .non
  | _, _, .bl b => .bl b
  | _, _, .int b => .int b
  | _, _, .str b => .str b
  | _, _, .ty b => .ty b
  | _, _, .tup h hs => .tup h (RepVs.more x hs)
  | _, _, .ktup h1 h2 h3 h4 h5 hs => .ktup h1 h2 h3 h4 h5 (RepVs.more x hs)
  | _, _, .loc h => .loc (pre_at x h)
  | _, _, .scrF h => .scrF h
  | _, _, .scrK h1 h2 h3 h4 h5 h6 => .scrK h1 h2 h3 h4 h5 h6
theorem RepVs.more {K : PySem.W.Frag} (x : φ <+: φ') : ∀ {vs : List V} {ds : List D}, RepVs K φ H vs ds → RepVs K φ' H vs ds
  | _, _, .nil => .nil
  | _, _, .cons h hs => .cons (RepV.more x h) (RepVs.more x hs)
end
mutual
theorem RepV.keep {K : PySem.W.Frag} (ht : ∀ b xs, H b = some (.tup xs) → H' b = some (.tup xs)) (hf : ∀ b o u, H b = some (.frz o u) → H' b = some (.frz o u)) : ∀ {v : V} {d : D}, RepV K φ H v d → RepV K φ H' v d
  | _, _, .non => .non
  | _, _, .bl b => .bl b
  | _, _, .int b => .int b
  | _, _, .str b => .str b
  | _, _, .ty b => .ty b
  | _, _, .tup h hs => .tup (ht _ _ h) (RepVs.keep ht hf hs)
  | _, _, .ktup h1 h2 h3 h4 h5 hs => .ktup h1 h2 h3 h4 h5 (RepVs.keep ht hf hs)
  | _, _, .loc h => .loc h
  | _, _, .scrF h => .scrF (hf _ _ _ h)
  | _, _, .scrK h1 h2 h3 h4 h5 h6 => .scrK h1 h2 h3 h4 h5 h6
theorem RepVs.keep {K : PySem.W.Frag} (ht : ∀ b xs, H b = some (.tup xs) → H' b = some (.tup xs)) (hf : ∀ b o u, H b = some (.frz o u) → H' b = some (.frz o u)) : ∀ {vs : List V} {ds : List D}, RepVs K φ H vs ds → RepVs K φ H' vs ds
  | _, _, .nil => .nil
  | _, _, .cons h hs => .cons (RepV.keep ht hf h) (RepVs.keep ht hf hs)
end
theorem RepO.more (x : φ <+: φ') {b : Addr} {o : Ob} (h : RepO T φ H b o) : RepO T φ' H b o := by
  cases o with
  | lst ds => obtain ⟨vs, e1, h1⟩ := h; exact ⟨vs, e1, h1.more x⟩
  | dk ds => obtain ⟨vs, e1, h1⟩ := h; exact ⟨vs, e1, Paired.mapP h1 fun _ _ q => ⟨q.1, q.2.more x⟩⟩
  | dt ds => obtain ⟨vs, e1, h1⟩ := h; exact ⟨vs, e1, Paired.mapP h1 fun _ _ q => ⟨q.1, q.2.more x⟩⟩
  | ins C fs => obtain ⟨dx, vs, e1, h1⟩ := h; exact ⟨dx, vs, e1, Paired.mapP h1 fun _ _ q => ⟨q.1, q.2.more x⟩⟩
theorem RepS.adopt {o : Ob} (r : RepS T φ H S) (ha : a ∉ φ) (h : RepO T φ H a o) : RepS T (φ ++ [a]) H (S ++ [o]) := by
  have pre : φ <+: φ ++ [a] := List.prefix_append _ _
  refine ⟨by simp [r.len], ?_, fun l ob b e1 e2 => ?_, r.tab⟩
  · rw [List.nodup_append]
    exact ⟨r.nd, by simp, fun c hc b hb => by rw [List.mem_singleton.mp hb]; rintro rfl; exact ha hc⟩
  · by_cases hl : l < S.length
    · rw [List.getElem?_append_left hl] at e1
      rw [List.getElem?_append_left (by rw [r.len]; exact hl)] at e2
      exact (r.ob l ob b e1 e2).more pre
    · have hl2 : l = S.length := by
        have := (List.getElem?_eq_some_iff.mp e1).1
        simp at this; omega
      subst hl2
      rw [List.getElem?_append_right (Nat.le_refl _)] at e1
      rw [← r.len, List.getElem?_append_right (Nat.le_refl _)] at e2
      simp at e1 e2
      subst e1 e2
      exact h.more pre
theorem Ext.adopt (x : Ext φ φ' H H') (hn : Nw H a) : Ext φ (φ' ++ [a]) H H' :=
  ⟨x.pre.trans (List.prefix_append _ _), fun b hb => by
    rcases List.mem_append.mp hb with h | h
    · exact x.new b h
    · rw [List.mem_singleton.mp h]; exact .inr hn, x.kp⟩
/-- what is free behind was free ahead -/
theorem Ext.none (x : Ext φ φ' H H') (s : RepS T φ' H' S') (h : Nw H' a) : Nw H a := fun o q => by
  by_cases hm : a ∈ φ
  · obtain ⟨l, ob, _, _, rp⟩ := s.mem (x.pre.subset hm)
    obtain ⟨u, e, _, ht⟩ := rp.mut
    obtain ⟨ps, z⟩ := h u e
    exact absurd z (ht ps)
  · cases o with
    | tbl ps => exact ⟨ps, rfl⟩
    | _ => exact h _ (x.kp a _ q hm (fun _ z => by cases z))
end
end Ev
end

section
set_option Elab.async false
set_option linter.all false
set_option maxRecDepth 100000
set_option autoImplicit false
/-! Ev6d: repr; dicts of pairs. -/
namespace Ev
open PySem PySem.Spec L2
open PyProof.Rows hiding St

section
variable {X : Cx} {T : Wr}
/-! ### repr -/
theorem cl_repr (hK : X.K = T.K) (hu : X.A.units + 128 < cLine) (hg : X.A.guards = some []) : CallR X (.builtin "repr") (rBf T (bltD .repr)) := by
  intro pins s σ H xs us Q I rv ⟨W, φ, S, ds, r, rs, p⟩
  unfold bltD at p
  split at p
  all_goals first | exact False.elim p | skip
  all_goals (rename_i hf; first | (cases hf; done) | skip)
  rename_i d
  obtain ⟨x, rfl, rx⟩ := reps1 rs
  obtain ⟨u, rfl, ru⟩ := vals1 rv
  cases hp : d.data with
  | none => rw [hp] at p; exact False.elim p
  | some q =>
    rw [hp] at p
    dsimp only at p
    split at p
    · rename_i hc
      obtain ⟨h1, h2, h3⟩ := hc
      have dp := rx.dp hp
      rw [← hK] at dp
      have lay := D.lay hp
      obtain ⟨as, rd⟩ := Dp.reads I q x u dp ru
      have out : ∀ h' tk u', (∀ b o, s.heap.get? b = some o → h'.get? b = some o) → EP X pins σ Q (.str q.shown u') { s with heap := h', toks := tk } := fun h' tk u' k => ⟨.str q.shown, H, I.kept (t' := tk) k, ⟨u', rfl⟩, p.ok r (.str _)⟩
      cases u with
      | ref a => exact repr_of_reads' rd h1 (fun z => by rw [PyData.hasDict_of_canLay q lay] at z; cases z) hg (by omega) (fun _ _ e => e) (fun h' u tk k => out h' tk u k) (LIM_le h2)
      | none => cases rd; exact PySem.P.repr_of_none (by simpa only [PyData.shown] using out s.heap _ _ fun _ _ e => e)
      | bool b => cases rd; exact PySem.P.repr_of_bool (by simpa only [PyData.shown] using out s.heap _ _ fun _ _ e => e)
      | int i t => cases rd; exact PySem.P.repr_of_int (by simpa [PyData.showable] using h1) (by simpa only [PyData.shown] using out s.heap _ _ fun _ _ e => e)
      | str z t => cases rd; exact PySem.P.repr_of_str (by simpa only [PyData.shown] using out s.heap _ _ fun _ _ e => e) (by simpa only [PyData.shown] using LIM_le h2)
      | _ => cases rd
    · exact False.elim p

/-! ### dicts of pairs -/
/-- the pairs' parts, in the heap -/
theorem pairsT_rep {K : PySem.W.Frag} {φ : List Addr} {H : Hp} : ∀ {vs : List V} {ds : List D} {kds : List (List Key × D)}, RepVs K φ H vs ds → pairsT ds = some kds →
    ∃ (kvs : List (List Key × V)) (ts : List (Addr × Addr)), RepK K φ H kvs kds ∧ vs = ts.map (fun t => V.ref t.1) ∧ Paired (fun p t => H t.1 = some (.tup [.ref t.2, p.2]) ∧ H t.2 = some (.tup (p.1.map kV))) kvs ts
  | _, _, kds, .nil, e => by
    cases e
    exact ⟨[], [], .nil, rfl, .nil⟩
  | _, d :: ds, kds, .cons rd rs, e => by
    unfold pairsT at e
    split at e
    · cases ‹_ = []›
    · rename_i ks v r heq
      cases heq
      split at e
      · rename_i k kvs' h1 h2
        cases e
        obtain ⟨kvs, ts, g1, g2, g3⟩ := pairsT_rep rs h2
        cases rd with
        | @tup a _ _ a1 a2 =>
          obtain ⟨y, z, rfl, ry, rz⟩ := reps2 a2
          cases ry with
          | @tup b _ _ b1 b2 =>
            have ek := keysOf_rep b2 h1
            subst ek
            exact ⟨(k, z) :: kvs, (a, b) :: ts, .cons ⟨rfl, rz⟩ g1, by rw [g2]; rfl, .cons ⟨a1, b1⟩ g3⟩
      · cases e
    · cases e
/-- the values in the model's heap -/
theorem pairs_vals {H : Hp} {pins : List (Addr × Obj)} {σ : L2.St} {s : Shared} (I : L2.Inv X pins σ H s) : ∀ {kvs : List (List Key × V)} {ts : List (Addr × Addr)}, Paired (fun p t => H t.1 = some (.tup [.ref t.2, p.2]) ∧ H t.2 = some (.tup (p.1.map kV))) kvs ts →
    ∃ ps : List (List Key × Addr × Value), KT H kvs ps ∧ ps.length = ts.length ∧ ∀ (j : Nat) (q : List Key × Addr × Value), ps[j]? = some q → ∃ t : Addr × Addr, ts[j]? = some t ∧ q.2.1 = t.2 ∧ IsTup s.heap t.1 #[.ref q.2.1, q.2.2]
  | _, _, .nil => ⟨[], .nil, rfl, fun j q e => by simp at e⟩
  | _, _, .cons (a := p) (b := t) h r => by
    obtain ⟨ps, g1, g2, g3⟩ := pairs_vals I r
    obtain ⟨its, rv, it, _⟩ := I.tuple (SqT.of h.1)
    obtain ⟨u1, u2, rfl, r1, r2⟩ := vals2 rv
    cases r1
    refine ⟨(p.1, t.2, u2) :: ps, .cons ⟨rfl, h.2, r2⟩ g1, by simp [g2], fun j q e => ?_⟩
    cases j with
    | zero =>
      cases e
      exact ⟨t, rfl, rfl, it⟩
    | succ j => exact g3 j q (by simpa using e)
theorem putAll_rep {K : PySem.W.Frag} {φ : List Addr} {H : Hp} {κ : Type} [DecidableEq κ] : ∀ {mv : List (κ × V)} {md : List (κ × D)} {av : List (κ × V)} {ad : List (κ × D)}, RepK K φ H mv md → RepK K φ H av ad → RepK K φ H (mv.foldl (fun acc p => putK acc p.1 p.2) av) (putAll ad md)
  | _, _, _, _, .nil, h => h
  | _, _, _, _, .cons (a := p) (b := q) h t, ha => by
    obtain ⟨e, hv⟩ := h
    have := putAll_rep t (kput_rep (k := p.1) hv ha)
    rw [e] at this
    show RepK K φ H (List.foldl _ (putK _ p.1 p.2) _) (putAll (kput _ q.1 q.2) _)
    rw [e]
    exact this
theorem putAll_kt {H : Hp} : ∀ {mv : List (List Key × V)} {ps : List (List Key × Addr × Value)} {av : List (List Key × V)} {xs : List (List Key × Addr × Value)}, KT H mv ps → KT H av xs → KT H (mv.foldl (fun acc p => putK acc p.1 p.2) av) (storedAllH xs ps)
  | _, _, _, _, .nil, h => h
  | _, _, _, _, .cons (a := p) (b := q) h t, ha => by
    obtain ⟨e, h1, h2⟩ := h
    have := putAll_kt t (KT.put ha p.1 h1 h2)
    show KT H _ (storedAllH (storedH _ q.1 q.2.1 q.2.2) _)
    rw [← e]
    exact this
theorem foldK_len {κ : Type} [DecidableEq κ] : ∀ (mv av : List (κ × V)), (mv.foldl (fun acc p => putK acc p.1 p.2) av).length ≤ av.length + mv.length
  | [], av => Nat.le_refl _
  | p :: mv, av => by
    have h1 := foldK_len mv (putK av p.1 p.2)
    have h2 := length_putK av p.1 p.2
    show (List.foldl _ (putK av p.1 p.2) mv).length ≤ av.length + (mv.length + 1)
    omega
theorem cb_dict (hu : X.A.units + 128 < cLine) (hc : X.calm = true) : CallR X (.type "dict") (rBl T (bllD .dict)) := by
  intro pins s σ H xs us Q I rv ⟨W, φ, S, ds, a, vs, ex, ha, r, rs, p⟩
  subst ex
  obtain ⟨u, rfl, ru⟩ := vals1 rv
  cases ru
  unfold bllD at p
  dsimp only at p
  split at p
  · rename_i kds hk
    split at p
    · rename_i hl
      obtain ⟨kvs, ts, g1, g2, g3⟩ := pairsT_rep rs hk
      obtain ⟨ps, k1, k2, k3⟩ := pairs_vals I g3
      have l1 : kvs.length = kds.length := Paired.length g1
      have l2 : kvs.length = ps.length := Paired.length k1
      obtain ⟨its, iv, ⟨o, n, ho, hcl, hd, hdat⟩, hz⟩ := I.list (SqL.of ha)
      have ei : its = ts.map fun t => Value.ref t.1 := by
        rw [g2] at iv
        clear hdat
        have : ∀ {ts : List (Addr × Addr)} {its : List Value}, Vals (ts.map fun t => V.ref t.1) its → its = ts.map fun t => Value.ref t.1 := by
          intro ts
          induction ts with
          | nil => intro its h; cases h; rfl
          | cons t ts ih => intro its h; cases h with | cons h1 h2 => cases h1; rw [List.map_cons, ← ih h2]
        exact this iv
      subst ei
      have PI0 : PairItems s.heap (ts.map fun t => Value.ref t.1).toArray (fun j => (ts[j]?.map (·.1)).getD 0) (ps.map fun q => (Value.ref q.2.1, q.2.2)) := by
        refine ⟨by simp [k2], fun j k v e => ?_⟩
        rw [List.getElem?_map] at e
        obtain ⟨q, e1, e2⟩ := Option.map_eq_some_iff.mp e
        cases e2
        obtain ⟨t, t1, t2, t3⟩ := k3 j q e1
        obtain ⟨ot, q1, q2, m, q3⟩ := t3
        refine ⟨by simp [t1], .inl ?_⟩
        dsimp only
        rw [t1]
        exact ⟨ot, q1, q2, m, q3⟩
      have key : ∀ x ∈ ps, (tupleKind (mixKind X.prog X.w)).is s.heap x.1 x.2.1 ∧ x.2.1 < s.heap.objs.size := by
        have gen : ∀ {kvs : List (List Key × V)} {ps : List (List Key × Addr × Value)}, KT H kvs ps → ∀ x ∈ ps, (tupleKind (mixKind X.prog X.w)).is s.heap x.1 x.2.1 ∧ x.2.1 < s.heap.objs.size := by
          intro kvs ps h
          induction h with
          | nil => intro x hx; cases hx
          | @cons p q ps qs h t ih =>
            intro x hx
            rcases List.mem_cons.mp hx with rfl | hx
            · obtain ⟨e1, e2, _⟩ := h
              rw [e1] at e2
              have kk := key_of (P := X.prog) (w := X.w) I.hok e2
              obtain ⟨o, its, n, h1, _⟩ := id kk
              exact ⟨kk, Heap.lt_size h1⟩
            · exact ih x hx
        exact gen k1
      refine PySem.call_dict_pairsH (knd := tupleKind (mixKind X.prog X.w)) (ps := ps) (PairArg.list a _ (fun j => (ts[j]?.map (·.1)).getD 0) (ps.map fun q => (Value.ref q.2.1, q.2.2))) (I.ok.hd hc) (show X.A.in1.in1.units < cLine from by show X.A.units + 1 + 1 < cLine; omega) ⟨⟨o, n, ho, hcl, hd, hdat⟩, PI0⟩ ⟨by simp, fun i k v e => ?_⟩ (fun h' hk x hx => ?_) (by rw [List.length_map, ← l2, l1]; exact LIM_le hl) fun h' tk hd' hk => ?_
      · have e : (ps.map fun q => (Value.ref q.2.1, q.2.2))[i]? = some (k, v) := e
        rw [List.getElem?_map] at e
        obtain ⟨q, e1, e2⟩ := Option.map_eq_some_iff.mp e
        cases e2
        exact ⟨q.1, q.2.1, e1, rfl⟩
      · obtain ⟨⟨o, its, n, h1, h2⟩, hlt⟩ := key x hx
        exact ⟨o, its, n, hk _ _ (Nat.ne_of_lt hlt) (by simp) h1, h2⟩
      · have hnew : H s.heap.objs.size = none := I.hok.fresh (Nat.le_refl _)
        have hm : (s.heap.objs.size == sysModules) = false := beq_eq_false_iff_ne.mpr (Nat.ne_of_gt I.big)
        obtain ⟨q, es, ep, b1, b2, b3, b4, _, b5⟩ := hd'
        have hlen := foldK_len kvs []
        have ok : ObjOk X.prog X.w (upd H s.heap.objs.size (.dT (kvs.foldl (fun acc p => putK acc p.1 p.2) []))) h' s.heap.objs.size (.dT (kvs.foldl (fun acc p => putK acc p.1 p.2) [])) := by
          refine ⟨?_, hm, storedAllH [] ps, KT.keeps (putAll_kt k1 .nil) fun b ys e => ?_, q, es, ep, b1, b2, b3, b4, b5⟩
          · refine Nat.le_trans hlen ?_
            show 0 + kvs.length ≤ sizeLine
            rw [Nat.zero_add, l1]
            exact LIM_le hl
          · rw [upd_ne (ne_of_none e hnew)]
            exact e
        refine ⟨.ref s.heap.objs.size, _, I.laid (t' := tk) (fun b o e => hk b o (by simp) e) (Nat.le_refl _) ok, rfl, ?_⟩
        exact p.alloc r hnew ⟨_, upd_same, putAll_rep (RepK.ext r (Ext.alloc hnew (r.fresh hnew)) g1) .nil⟩
    · exact False.elim p
  · exact False.elim p

/-! ### d.update(e) -/
theorem mt_updateD (hu : X.A.units + 128 < cLine) : MtR X "dict.update" (rMt T .update) := by
  intro pins s σ H x xs v us Q I rx rxs ⟨W, φ, S, d, ds, r, rd, rs, p⟩
  unfold methD at p
  split at p
  · split at p
    all_goals first | exact False.elim p | skip
    all_goals (rename_i hf; first | (cases hf; done) | skip)
    rename_i l kds b hS
    split at p
    · rename_i mds hB
      split at p
      · rename_i hc
        obtain ⟨c1, c2, c3⟩ := hc
        obtain ⟨x', rfl, rx'⟩ := reps1 rs
        cases rd with
        | @loc a _ hla =>
          cases rx' with
          | @loc o _ hlo =>
            obtain ⟨kvs, a1, a2⟩ := r.ob _ _ _ hS hla
            obtain ⟨mvs, o1, o2⟩ := r.ob _ _ _ hB hlo
            obtain ⟨u, rfl, ru⟩ := vals1 rxs
            cases rx
            cases ru
            have hne : a ≠ o := by
              rintro rfl
              obtain ⟨h1, q1⟩ := List.getElem?_eq_some_iff.mp hla
              obtain ⟨h2, q2⟩ := List.getElem?_eq_some_iff.mp hlo
              exact c1 ((List.getElem_inj r.nd).mp (q1.trans q2.symm))
            obtain ⟨z1, d1, xs1, rel1, dd1⟩ := dt_of I.hok a1
            obtain ⟨z2, d2, xs2, rel2, dd2⟩ := dt_of I.hok o1
            have l1 : kvs.length = kds.length := Paired.length a2
            have l2 : mvs.length = mds.length := Paired.length o2
            have l3 : kvs.length = xs1.length := Paired.length rel1
            have l4 : mvs.length = xs2.length := Paired.length rel2
            have hne1 : xs1 ≠ [] := by
              rintro rfl
              simp only [List.length_nil] at l3
              have : kds.length = 0 := by omega
              rw [List.length_eq_zero_iff.mp this] at c2
              simp at c2
            refine PySem.call_update_dictH (knd := tupleKind (mixKind X.prog X.w)) (show X.A.in1.units < cLine from by show X.A.units + 1 < cLine; omega) hne d2 dd1 dd2 (.inl hne1) (by rw [← l3, ← l4, l1, l2]; exact LIM_le c3) fun h' dd1' dd2' hs => ?_
            obtain ⟨q, es, ep, b1, b2, b3, b4, _, b5⟩ := dd1'
            have hlen := foldK_len mvs kvs
            have keepT : ∀ c ys, H c = some (.tup ys) → upd H a (.dT (mvs.foldl (fun acc p => putK acc p.1 p.2) kvs)) c = some (.tup ys) := fun c ys ec => by
              rw [upd_ne (by rintro rfl; rw [a1] at ec; cases ec)]
              exact ec
            have I2 := d_write (t' := s.toks) (ob := .dT (mvs.foldl (fun acc p => putK acc p.1 p.2) kvs)) I (by rw [a1]; exact True.intro) hs ⟨q, b1⟩ ⟨Nat.le_trans hlen (by rw [l1, l2]; exact LIM_le c3), d1, storedAllH xs1 xs2, KT.keeps (putAll_kt rel2 rel1) keepT, q, es, ep, b1, b2, b3, b4, b5⟩
            refine ⟨.non, _, I2, rfl, ?_⟩
            obtain ⟨w, ew, _, ht⟩ := (r.ob _ _ _ hS hla).mut
            have xw := Ext.write (u := HO.dT (mvs.foldl (fun acc p => putK acc p.1 p.2) kvs)) (List.mem_of_getElem? hla) ew ht
            exact p.write r hS hla ⟨_, upd_same, RepK.ext r xw (putAll_rep o2 a2)⟩ .non
      · exact False.elim p
    · exact False.elim p
  · exact False.elim p
end
end Ev
end

section
set_option Elab.async false
set_option linter.all false
set_option maxRecDepth 100000
set_option autoImplicit false
/-! Ev7: the text against the evaluator's syntax; calls. -/
namespace Ev
open PySem PySem.Spec L2
open PyProof.Rows hiding St

/-! ### the text is what the evaluator's syntax says -/
def visB (sc : Scope) (x : Str) : Bool := match sc.names.lookup x with
  | some .local => true
  | some .cell => true
  | some .free => true
  | _ => false
def locB (sc : Scope) (x : Str) : Bool := match sc.names.lookup x with
  | some .local => true
  | some .cell => true
  | _ => false
def glB (sc : Scope) (x : Str) : Bool := match sc.names.lookup x with
  | some .globalImplicit => true
  | _ => false
def plainN (x : Str) : Bool := !(x == ("__debug__" : Str)) && !(x == ("__classdict__" : Str)) && !(x == ("__name__" : Str))
def lclB (sc : Scope) (x : Str) : Bool := match sc.names.lookup x with
  | some .local => true
  | _ => false
/-- a name in a slot -/
def okV (N : List Str) (sc : Scope) (i : Nat) (x : Str) : Bool := decide (N[i]? = some x) && visB sc x && plainN x
def okG (sc : Scope) (y : String) (x : Str) : Bool := decide (x = Str.ofString y) && glB sc x && plainN x
def Bf.nm : Bf → String
  | .len => "len"
  | .abs => "abs"
  | .int => "int"
  | .max => "max"
  | .min => "min"
  | .isi => "isinstance"
  | .tuple => "tuple"
  | .list => "list"
  | .repr => "repr"
def Bl.nm : Bl → String
  | .all => "all"
  | .any => "any"
  | .tuple => "tuple"
  | .len => "len"
  | .dict => "dict"
  | .min => "min"
def Mt.nm : Mt → String
  | .append => "append"
  | .extend => "extend"
  | .pop => "pop"
  | .get => "get"
  | .update => "update"
  | .index => "index"
  | .own m => m
/-- what may stand as a method's receiver -/
def rcvB : Expr → Bool
  | .Name .. => true
  | .Subscript .. => true
  | .Attribute .. => true
  | _ => false
def fewB (es : List Expr) : Bool := decide (es.length < 20)
def lineB (apos pos : Pos) : Bool := apos.endLine == pos.line
mutual
def okTG (N : List Str) (sc : Scope) : TG → Expr → Bool
  | .name i, e => match e with
    | .Name x _ => decide (N[i]? = some x) && locB sc x && plainN x
    | _ => false
  | .tup ts, e => match e with
    | .Tuple es _ _ => okTGs N sc ts es
    | _ => false
def okTGs (N : List Str) (sc : Scope) : TGs → List Expr → Bool
  | .nil, es => es.isEmpty
  | .cons t ts, es => match es with
    | e :: es => okTG N sc t e && okTGs N sc ts es
    | [] => false
end
mutual
def slT : TG → List Nat
  | .name i => [i]
  | .tup ts => slTs ts
def slTs : TGs → List Nat
  | .nil => []
  | .cons t ts => slT t ++ slTs ts
end
/-- the def makes lambdas -/
def lamMark (N : List Str) : Bool := N.contains "<lambda>"
/-- the mark taken away -/
def unmark (N : List Str) : List Str := N.map fun (x : Str) => if x = ("<lambda>" : Str) then ("<none>" : Str) else x
/-- no parameters -/
def lamP : Arguments → Bool
  | ⟨[], [], none, [], [], none, []⟩ => true
  | _ => false
/-- enumerate(..) wants a tuple as its target -/
def enmOk : IT → Expr → Bool
  | .enm _, e => match e with
    | .Tuple .. => true
    | _ => false
  | _, _ => true
mutual
def okE (N : List Str) (sc : Scope) : EX → Expr → Bool
  | .non, e => match e with
    | .Constant .none _ _ => true
    | _ => false
  | .bl b, e => match e with
    | .Constant (.bool c) _ _ => b == c
    | _ => false
  | .int i, e => match e with
    | .Constant (.int j) _ _ => decide (i = j)
    | _ => false
  | .str x, e => match e with
    | .Constant (.str y) _ _ => decide (x = y)
    | _ => false
  | .var i, e => match e with
    | .Name x _ => okV N sc i x
    | _ => false
  | .glb y, e => match e with
    | .Name x _ => okG sc y x
    | _ => false
  | .bty y, e => match e with
    | .Name x _ => okG sc y x
    | _ => false
  | .tup xs, e => match e with
    | .Tuple es _ _ => okEs N sc xs es
    | _ => false
  | .ofl l, e => okL N sc l e
  | .dk0, e => match e with
    | .Dict [] [] _ => true
    | _ => false
  | .dt0, e => match e with
    | .Dict [] [] _ => true
    | _ => false
  | .bin op a b, e => match e with
    | .BinOp l o r _ => decide (o = opOf op) && okE N sc a l && okE N sc b r
    | _ => false
  | .neg a, e => match e with
    | .UnaryOp .USub l _ => okE N sc a l
    | _ => false
  | .cmp op a b, e => match e with
    | .Compare l [o] [r] _ => decide (o = cmpOf op) && okE N sc a l && okE N sc b r
    | _ => false
  | .chn op a b op' c, e => match e with
    | .Compare l [o, o'] [r, z] _ => decide (o = cmpOf op) && decide (o' = cmpOf op') && okE N sc a l && okE N sc b r && okE N sc c z
    | _ => false
  | .bop isAnd xs, e => match e with
    | .BoolOp op es _ => decide (op = if isAnd then .And else .Or) && okEs N sc xs es
    | _ => false
  | .nt a, e => match e with
    | .UnaryOp .Not l _ => okE N sc a l
    | _ => false
  | .ife t a b, e => match e with
    | .IfExp c l r _ => okE N sc t c && okE N sc a l && okE N sc b r
    | _ => false
  | .sub a i, e => match e with
    | .Subscript l r _ => okE N sc a l && okE N sc i r
    | _ => false
  | .slc0 a, e => match e with
    | .Subscript l (.Slice none none none _) _ => okE N sc a l
    | _ => false
  | .slcF a lo, e => match e with
    | .Subscript l (.Slice (some r) none none _) _ => okE N sc a l && okE N sc lo r
    | _ => false
  | .slcT a hi, e => match e with
    | .Subscript l (.Slice none (some r) none _) _ => okE N sc a l && okE N sc hi r
    | _ => false
  | .slcB a lo hi, e => match e with
    | .Subscript l (.Slice (some r) (some z) none _) _ => okE N sc a l && okE N sc lo r && okE N sc hi z
    | _ => false
  | .fld a f, e => match e with
    | .Attribute l y _ => decide (y = Str.ofString f) && rcvB l && okE N sc a l
    | _ => false
  | .call y xs, e => match e with
    | .Call (.Name x _) es [] _ => okG sc y x && okEs N sc xs es
    | _ => false
  | .new y xs, e => match e with
    | .Call (.Name x _) es [] _ => okG sc y x && okEs N sc xs es
    | _ => false
  | .meth a m xs, e => match e with
    | .Call (.Attribute l y apos) es [] pos => decide (y = Str.ofString m.nm) && rcvB l && lineB apos pos && fewB es && okE N sc a l && okEs N sc xs es
    | _ => false
  | .blt f xs, e => match e with
    | .Call (.Name x _) es [] _ => okG sc f.nm x && !es.isEmpty && okEs N sc xs es
    | _ => false
  | .bll f l, e => match e with
    | .Call (.Name x _) [r] [] _ => okG sc f.nm x && okL N sc l r
    | _ => false
  | .lamw y b, e => match e with
    | .Call (.Name x _) [.Lambda ps body scope _] [] _ => okG sc y x && lamMark N && lamP ps && LamX.lamSB sc scope && (decide (unmark N).Nodup && !lamMark (unmark N) && !visB scope "<lambda>" && !visB scope "<none>") && okE (unmark N) scope b body
    | _ => false
def okEs (N : List Str) (sc : Scope) : EXs → List Expr → Bool
  | .nil, es => es.isEmpty
  | .cons x xs, es => match es with
    | e :: es => okE N sc x e && okEs N sc xs es
    | [] => false
def okI (N : List Str) (sc : Scope) : IT → Expr → Bool
  | .val a, e => okE N sc a e
  | .rng1 a, e => match e with
    | .Call (.Name x _) [l] [] _ => okG sc "range" x && okE N sc a l
    | _ => false
  | .rng2 a b, e => match e with
    | .Call (.Name x _) [l, r] [] _ => okG sc "range" x && okE N sc a l && okE N sc b r
    | _ => false
  | .rng3 a b c, e => match e with
    | .Call (.Name x _) [l, r, z] [] _ => okG sc "range" x && okE N sc a l && okE N sc b r && okE N sc c z
    | _ => false
  | .enm a, e => match e with
    | .Call (.Name x _) [l] [] _ => okG sc "enumerate" x && okE N sc a l
    | _ => false
def okL (N : List Str) (sc : Scope) : LX → Expr → Bool
  | .dis xs, e => match e with
    | .List es _ => okEs N sc xs es
    | _ => false
  | .comp own t it ifs x, e => match e with
    | .ListComp elt [⟨tg, iter, cs, 0⟩] scope _ => blkC N sc scope (own.map fun p => (Str.ofString p.1, p.2)) && okTG N (relS scope sc) t tg && okI N sc it iter && enmOk it tg && okEs N (relS scope sc) ifs cs && decide (cs.length ≤ 1) && (slT t).all (fun i => decide (i ∈ own.map (·.2))) && own.all (fun p => (scope.names.lookup (Str.ofString p.1) == some .cell) || lclB (relS scope sc) (Str.ofString p.1)) && okE N (relS scope sc) x elt
    | _ => false
end

/-! ### what follows of the text -/
def plainX : Expr → Bool
  | .Starred .. => false
  | .Slice .. => false
  | .Set .. => false
  | .GeneratorExp .. => false
  | _ => true
theorem okL_plain {N : List Str} {sc : Scope} {l : LX} {e : Expr} (h : okL N sc l e = true) : plainX e = true := by
  cases l <;> (unfold okL at h; split at h <;> first | rfl | cases h)
theorem okE_plain {N : List Str} {sc : Scope} {x : EX} {e : Expr} (h : okE N sc x e = true) : plainX e = true := by
  cases x <;> (unfold okE at h; first | exact okL_plain h | (split at h <;> first | rfl | cases h))
theorem starEach_plain {e : Expr} {es : List Expr} {env : PySem.Env} (h : plainX e = true) : starEach (e :: es) env = (false, eval e env) :: starEach es env := by
  cases e <;> first | rfl | cases h
theorem starEach_none {N : List Str} {sc : Scope} {env : PySem.Env} : ∀ {xs : EXs} {es : List Expr}, okEs N sc xs es = true → ∀ pos, (backTo pos (starEach es env)).any (·.1) = false
  | .nil, es, h, pos => by
    have : es = [] := List.isEmpty_iff.mp h
    subst this; rfl
  | .cons x xs, [], h, pos => by cases h
  | .cons x xs, e :: es, h, pos => by
    have h : (okE N sc x e && okEs N sc xs es) = true := h
    rw [Bool.and_eq_true] at h
    rw [starEach_plain (okE_plain h.1)]
    show (false || (backTo pos (starEach es env)).any (·.1)) = false
    rw [starEach_none h.2]; rfl
theorem starEach_all {N : List Str} {sc : Scope} {env : PySem.Env} : ∀ {xs : EXs} {es : List Expr}, okEs N sc xs es = true → ∀ pos, (backTo pos (starEach es env)).all (fun x => !x.1) = true
  | .nil, es, h, pos => by
    have : es = [] := List.isEmpty_iff.mp h
    subst this; rfl
  | .cons x xs, [], h, pos => by cases h
  | .cons x xs, e :: es, h, pos => by
    have h : (okE N sc x e && okEs N sc xs es) = true := h
    rw [Bool.and_eq_true] at h
    rw [starEach_plain (okE_plain h.1)]
    show (true && (backTo pos (starEach es env)).all (fun x => !x.1)) = true
    rw [starEach_all h.2]; rfl
theorem few_ok {N : List Str} {sc : Scope} {env : PySem.Env} {xs : EXs} {es : List Expr} {pos : Pos} (h : okEs N sc xs es = true) (hf : fewB es = true) :
    ((backTo pos (starEach es env)).all (fun x => !x.1) && (backToKw pos (keywordEach [] env)).all (fun x => x.1.isSome) && decide (es.length + ([] : List Keyword).length + (if ([] : List Keyword).isEmpty then 0 else 1) < 30)) = true := by
  rw [starEach_all h]
  have hl : es.length < 20 := of_decide_eq_true hf
  simp only [Bool.true_and, Bool.and_eq_true, decide_eq_true_eq]
  refine ⟨rfl, ?_⟩
  show es.length + 0 + 0 < 30
  omega
theorem nomark_plain {b : Expr} {op : CmpOp} (h : plainX b = true) : behindInMarks op b = false := by
  cases b <;> first | rfl | cases h
theorem plainIx_of {b : Expr} (h : plainX b = true) : PlainIx b := by
  intro o i
  cases b <;> first | rfl | cases h
theorem base_rcv {o : Expr} {f : Str} {env : PySem.Env} (h : rcvB o = true) : attributeBase o f env (eval o env) = eval o env := by
  cases o <;> first | rfl | cases h
theorem visB_ok {sc : Scope} {x : Str} (h : visB sc x = true) : Vis sc x := by
  unfold visB at h
  split at h
  · exact .inl (by assumption)
  · exact .inr (.inl (by assumption))
  · exact .inr (.inr (by assumption))
  · cases h
theorem locB_ok {sc : Scope} {x : Str} (h : locB sc x = true) : Loc sc x := by
  unfold locB at h
  split at h
  · exact .inl (by assumption)
  · exact .inr (by assumption)
  · cases h
theorem glB_ok {sc : Scope} {x : Str} (h : glB sc x = true) : sc.names.lookup x = some .globalImplicit := by
  unfold glB at h
  split at h
  · assumption
  · cases h
theorem plainN_ok {x : Str} (h : plainN x = true) : (x == ("__debug__" : Str)) = false ∧ (x == ("__classdict__" : Str)) = false ∧ x ≠ "__name__" := by
  unfold plainN at h
  simp only [Bool.and_eq_true, Bool.not_eq_true'] at h
  exact ⟨h.1.1, h.1.2, fun e => by rw [e] at h; simp at h⟩

/-! ### what is known where a body runs -/
def spD (T : Wr) (f : List D → Store → Res D) : Sp := fun vs H Q E => ∃ (φ : List Addr) (S : Store) (ds : List D), RepS T φ H S ∧ RepVs T.K φ H vs ds ∧ Post T E (RV T) φ H (f ds S) Q
/-- a def's promise where the guards are known -/
structure FnG (G : Around → Prop) (prog : Program) (w : World) (K : PySem.W.Frag) (mg : Str → Option Value) (base : Heap) (Z : CXT) (k : Nat) (f : Addr) (fd : FuncData) (ps : List Str) (sp : Sp) : Prop where
  many : ∀ vs H Q E, sp vs H Q E → vs.length = ps.length
  goes : ∀ (A : Around), G A → Room k A → ∀ (outer : List PySem.Env) (s : Shared) (H : Hp) (args : Args) (us : List Value) (vs : List V) (Q : VK) (E : XK), Env0 prog w K mg base A outer s H → BindsTo s fd args (ps.zip us) → L2.Vals vs us → sp vs H Q E →
    codeAny (model prog w) A (.call (.ref f) args) (CR Z outer prog w H s Q E) s
theorem FnG.all {G : Around → Prop} {prog : Program} {w : World} {K : PySem.W.Frag} {mg : Str → Option Value} {base : Heap} {Z : CXT} {k : Nat} {f : Addr} {fd : FuncData} {ps : List Str} {sp : Sp} (F : FnG G prog w K mg base Z k f fd ps sp) (h : ∀ A, G A) : FnOk prog w K mg base Z k f fd ps sp :=
  ⟨F.many, fun A outer s H args us vs Q E hr e0 hb r q => F.goes A (h A) hr outer s H args us vs Q E e0 hb r q⟩
theorem FnG.call {G : Around → Prop} {X : Cx} {W : WX} {k : Nat} {f : Addr} {fd : FuncData} {ps : List Str} {sp : Sp} {pins : List (Addr × Obj)} {σ : L2.St} {H : Hp} {s : Shared} {Q : VK} {us : List Value} {vs : List V}
    (F : FnG G X.prog X.w X.K X.mg X.base (L2.CX X.prog X.w) k f fd ps sp) (hG : G X.A) (hr : Room k X.A) (hb : Binds X.K fd ps []) (tk : Takes X W) (I : L2.Inv X pins σ H s) (r : L2.Vals vs us) (h : sp vs H Q (WE W σ)) : wpAny (model X.prog X.w) X.A (call (.ref f) us) (EP X pins σ Q) X.xe s := by
  have n1 : us.length = ps.length := r.length.symm.trans (F.many _ _ _ _ h)
  have n2 : BindsTo s fd ⟨us, []⟩ (ps.zip us) := by
    have q := hb s us I.kIn (by simpa using n1)
    simpa using q
  have n3 := F.goes X.A hG hr X.stack s H ⟨us, []⟩ us vs Q (WE W σ) I.env0 n2 r h
  refine wpAny_call (codeAny_mono n3 fun res s' q => ?_)
  match res, q with
  | .error e, q => exact passAt tk σ pins H s e s' I q
  | .ok (.ret u), q => exact I.after q
/-- what is known of the guards -/
def Gd (P : Prg) (A : Around) : Prop := P.gd = true → A.guards = some []
def bltNames : List String := ["len", "abs", "int", "max", "min", "isinstance", "tuple", "list", "all", "any", "range", "repr", "dict", "enumerate"]
/-- the text of a def that calls what it got, and tells a word -/
def hdTx (sg : Scope) : List (String × Str) → List ExceptHandler → Bool
  | [], [] => true
  | (C, w) :: hs, .ExceptHandler (some (.Name e _)) none [.Return (some (.Constant (.str r) _ _)) _] _ :: hds => okG sg C e && decide (r = w) && hdTx sg hs hds
  | _, _ => false
def wordTx (sg : Scope) (a : Str) (hs : List (String × Str)) (told : Str) : List Stmt → Bool
  | [.Try [.Expr (.Call (.Name b _) [] [] _) _] hds [] [] _, .Return (some (.Constant (.str r) _ _)) _] => decide (b = a) && decide (r = told) && !hs.isEmpty && hdTx sg hs hds
  | _ => false
def veBases : List Value := [.type "ValueError", .type "Exception", .type "BaseException", .type "object"]
structure Facts (P : Prg) (T : Wr) (prog : Program) (w : World) (mg : Str → Option Value) (base : Heap) (k : Nat) : Prop where
  glb : ∀ x d, P.glb x = some d → ∃ u v, mg (Str.ofString x) = some u ∧ L2.RelV v u ∧ ∀ φ H, RepV T.K φ H v d
  bty : ∀ x, P.bty x = true → mg (Str.ofString x) = none ∧ bootBuiltins (Str.ofString x) = some (.type x)
  blt : ∀ x ∈ bltNames, mg (Str.ofString x) = none
  att : ∀ C f, P.att C f = true → Cls T.K (T.ca C) ∧ NoAttr T.K (T.ca C) (Str.ofString f)
  fn : ∀ x d, P.defs x = some d → ∃ f fd ps, mg (Str.ofString x) = some (.ref f) ∧ PySem.W.keepIn T.K (.ref f) = true ∧ Binds T.K fd ps [] ∧ FnG (Gd P) prog w T.K mg base (L2.CX prog w) k f fd ps (spD T fun ds S => (cxK P k).call x ds S)
  mt : ∀ C m d, P.meths C m = some d → Cls T.K (T.ca C) ∧ ∃ f fd ps, Meth T.K (T.ca C) (Str.ofString m) f ∧ Binds T.K fd ps [] ∧ FnG (Gd P) prog w T.K mg base (L2.CX prog w) k f fd ps (spD T fun ds S => (cxK P k).meth C m ds S)
  nw : P.gd = false → ∀ C d, P.meths C "__init__" = some d → ∃ f fd ps, mg (Str.ofString C) = some (.ref (T.ca C)) ∧ Mk T.K (T.ca C) f ∧ Binds T.K fd ps [] ∧ FnOk prog w T.K mg base (L2.CX prog w) (k - 1) f fd ps (spD T fun ds S => (cxK P k).init C ds S)
  xc : ∀ C, P.xc C = true → mg (Str.ofString C) = some (.ref (T.ca C)) ∧ PySem.W.excIn T.K (T.ca C) veBases "ValueError.__new__" = true ∧ PySem.W.keepIn T.K (.ref (T.ca C)) = true ∧ PySem.W.subIn T.K (.ref (T.ca C)) (.type "BaseException") = some true ∧ PySem.W.typeIn T.K (.ref (T.ca C)) = some (.type "type")
  exm : ∀ C C', P.xc C = true → P.xc C' = true → PySem.W.exmOne T.K (.ref (T.ca C)) (.ref (T.ca C')) = some (decide (C = C'))
  wrd : ∀ x hs told, P.wrd x = some (hs, told) → ∃ (g : Addr) (fd : FuncData) (pg : Arguments) (bg : List Stmt) (sg : Scope) (a : Str), mg (Str.ofString x) = some (.ref g) ∧ FunD T.K (Str.ofString x) (Str.ofString x) pg bg sg [] [] g fd ∧ Binds T.K fd [a] [] ∧ FnScope [a] [a] sg ∧ okV [a] sg 0 a = true ∧ wordTx sg a hs told bg = true ∧ ∀ h ∈ hs, P.xc h.1 = true
  tbs : ∀ p ∈ T.tabs, LamX.TabB base mg T.lc p.1
structure Sit (P : Prg) (T : Wr) (X : Cx) (k : Nat) (W : WX) : Prop where
  calm : X.calm = true
  nd : X.N.Nodup
  room : Room k X.A
  gd : Gd P X.A
  tk : Takes X W
  K : X.K = T.K
  fx : Facts P T X.prog X.w X.mg X.base k
  low : ∀ j, j + 2 ≤ k → Facts P T X.prog X.w X.mg X.base j
  lm : lamMark X.N = true → X.env.code = .ref T.lc ∧ ∃ q : Addr, T.tabs = [(q, X.env.qual ++ "<lambda>")]
theorem Sit.hu2 {P : Prg} {T : Wr} {X : Cx} {k : Nat} {W : WX} (s : Sit P T X k W) : X.A.units + 128 < cLine := by have := s.room.un; omega
theorem Sit.hu {P : Prg} {T : Wr} {X : Cx} {k : Nat} {W : WX} (s : Sit P T X k W) : X.A.units + 64 < cLine := s.room.units

/-! ### readings -/
/-- an expression's reading by the evaluator -/
def rd {β : Type} (T : Wr) (W : WX) (R : Rl D β) (f : EnvD → Store → Res D) : St → Hp → (β → Hp → Prop) → Prop := fun σ H Q => ∃ (φ : List Addr) (env : EnvD) (S : Store), Rep T φ σ H env S ∧ Post T (fun c d H => W c d σ H) R φ H (f env S) Q
def rds (T : Wr) (W : WX) (f : EnvD → Store → Res (List D)) : L2.TA := fun σ H Q => ∃ (φ : List Addr) (env : EnvD) (S : Store), Rep T φ σ H env S ∧ Post T (fun c d H => W c d σ H) (RVs T) φ H (f env S) Q
abbrev rdV (T : Wr) (W : WX) (f : EnvD → Store → Res D) : TE := rd T W (RV T) f
def rdB (T : Wr) (W : WX) (f : EnvD → Store → Res Bool) : TT := fun σ H Q => ∃ (φ : List Addr) (env : EnvD) (S : Store), Rep T φ σ H env S ∧ Post T (fun c d H => W c d σ H) RE φ H (f env S) Q
/-- a list that is no place yet -/
def PostL (T : Wr) (W : WXk) (φ : List Addr) (H : Hp) (r : Res (List D)) (Q : V → Hp → Prop) : Prop := match r with
  | .ok ds S' => ∀ φ' H' a vs, Ext φ φ' H H' → RepS T φ' H' S' → a ∉ φ' → Nw H a → H' a = some (.lst vs) → RepVs T.K φ' H' vs ds → Q (.ref a) H'
  | .exc x S' => ∀ φ' H' cls dx, Ext φ φ' H H' → RepS T φ' H' S' → RepX T φ' H' cls dx x → W cls dx H'
  | .bad => False
def rdL (T : Wr) (W : WX) (f : EnvD → Store → Res (List D)) : TE := fun σ H Q => ∃ (φ : List Addr) (env : EnvD) (S : Store), Rep T φ σ H env S ∧ PostL T (fun c d H => W c d σ H) φ H (f env S) Q
theorem _root_.L2.PE.imp {X : Cx} {e : Expr} {t t' : TE} (h : PE X e t) (i : ∀ σ H Q, t' σ H Q → t σ H Q) : PE X e t' := ⟨fun pins s σ H Q I q => h.run pins s σ H Q I (i σ H Q q)⟩
theorem _root_.L2.PT.imp {X : Cx} {e : Expr} {t t' : TT} (h : PT X e t) (i : ∀ σ H Q, t' σ H Q → t σ H Q) : PT X e t' := ⟨fun pins s σ H Q I q => h.run pins s σ H Q I (i σ H Q q)⟩
theorem _root_.L2.PA.imp {X : Cx} {es : List Expr} {t t' : L2.TA} (h : PA X es t) (i : ∀ σ H Q, t' σ H Q → t σ H Q) : PA X es t' := ⟨fun pos pins s σ H Q I q => h.run pos pins s σ H Q I (i σ H Q q)⟩
theorem _root_.L2.PE.never {X : Cx} {e : Expr} : PE X e (fun _ _ _ => False) := ⟨fun _ _ _ _ _ _ q => q.elim⟩

/-! ### calls -/
section
variable {X : Cx} {f C : Addr} {x m : Str} {p pos apos : Pos} {o e : Expr} {es : List Expr} {t : L2.TA}
/-- a call of a def of the module, whatever is said of it -/
theorem pe_callFn {N : List Str} {sc : Scope} {xs : EXs} {R : St → List V → Hp → VK → Prop} (hm : X.mg x = some (.ref f)) (hk : PySem.W.keepIn X.K (.ref f) = true) (hg : Gl X x) (hdb : (x == ("__debug__" : Str)) = false) (ha : PA X (e :: es) t)
    (he : plainX e = true) (hes : okEs N sc xs es = true)
    (h : ∀ (pins : List (Addr × Obj)) (s : Shared) (σ : St) (H : Hp) (us : List Value) (vs : List V) (Q : VK), L2.Inv X pins σ H s → L2.Vals vs us → R σ vs H Q → wpAny (model X.prog X.w) X.A (call (.ref f) us) (EP X pins σ Q) X.xe s) :
    PE X (.Call (.Name x p) (e :: es) [] pos) (fun σ H Q => t σ H fun vs H1 => R σ vs H1 Q) := by
  refine ⟨fun pins s σ H Q I hq => ?_⟩
  refine wpAny_Call_Name_kw (ld_glob I hg hm ?_ hdb)
  refine PySem.W.callWith_K (h₀ := X.base) I.ok.mod.kin hk (thn (ha.run pos pins s σ H _ I hq) fun us s1 ⟨vs, H1, I1, r, q⟩ => ⟨I1.kIn, ?_⟩) (starEach_plain he) (starEach_none hes pos)
  exact h pins s1 σ H1 us vs Q I1 r q
theorem pe_callFn0 {R : St → List V → Hp → VK → Prop} (hm : X.mg x = some (.ref f)) (hk : PySem.W.keepIn X.K (.ref f) = true) (hg : Gl X x) (hdb : (x == ("__debug__" : Str)) = false)
    (h : ∀ (pins : List (Addr × Obj)) (s : Shared) (σ : St) (H : Hp) (us : List Value) (vs : List V) (Q : VK), L2.Inv X pins σ H s → L2.Vals vs us → R σ vs H Q → wpAny (model X.prog X.w) X.A (call (.ref f) us) (EP X pins σ Q) X.xe s) :
    PE X (.Call (.Name x p) [] [] pos) (fun σ H Q => R σ [] H Q) := by
  refine ⟨fun pins s σ H Q I hq => ?_⟩
  refine wpAny_Call_Name_kw (ld_glob I hg hm ?_ hdb)
  exact PySem.W.callWith_K0 I.kIn hk (h pins s σ H [] [] Q I .nil hq)
/-- a method of the module's own class: what is known of the receiver is said when it has come -/
def rcvOk (X : Cx) (m : Str) (R : Addr → St → List V → Hp → VK → Prop) (a : Addr) (C f : Addr) : Prop := Cls X.K C ∧ Meth X.K C m f ∧
  ∀ (pins : List (Addr × Obj)) (s : Shared) (σ : St) (H : Hp) (us : List Value) (vs : List V) (Q : VK), L2.Inv X pins σ H s → L2.Vals vs us → R a σ vs H Q → wpAny (model X.prog X.w) X.A (call (.ref f) (.ref a :: us)) (EP X pins σ Q) X.xe s
theorem eval_meth {es : List Expr} (hb : attributeBase o m X.env (eval o X.env) = eval o X.env) (hf : methodCallForm (es.length + ([] : List Keyword).length) (backTo pos (starEach es X.env)) (backToKw pos (keywordEach [] X.env)) = true) (hl : lineB apos pos = true) :
    eval (.Call (.Attribute o m apos) es [] pos) X.env = (do
      let ov ← eval o X.env
      standAt apos.atName
      let (f, first) ← holding [ov] (getMethod ov m (do return (← importBound o X.env).getD true))
      callWith pos f first (backTo pos (starEach es X.env)) (backToKw pos (keywordEach [] X.env))) := by
  have hl' : (apos.endLine == pos.line) = true := hl
  rw [arm_eval_Call, hb]
  congr 1; funext ov
  congr 1; funext _
  unfold methodCall
  rw [hf]
  show (holding [ov] (calleeOf true o X.env ov m) >>= fun p => _) = _
  congr 1; funext p
  obtain ⟨f, first⟩ := p
  unfold methodCallPos
  rw [hl']
  rfl
theorem pe_methFn {N : List Str} {sc : Scope} {xs : EXs} {ta : TE} {R : Addr → St → List V → Hp → VK → Prop} (he : PE X o ta) (hr : rcvB o = true) (hl : lineB apos pos = true) (hf : fewB (e :: es) = true) (hp : plainX e = true) (hes : okEs N sc xs es = true) (hall : ∀ p, (backTo p (starEach (e :: es) X.env)).all (fun x => !x.1) = true) (ha : PA X (e :: es) t) :
    PE X (.Call (.Attribute o m apos) (e :: es) [] pos) (fun σ H Q => ta σ H fun x H1 => ∃ a C f dx fs, x = .ref a ∧ H1 a = some (.ins C dx fs) ∧ fs.lookup m = none ∧ rcvOk X m R a C f ∧ t σ H1 fun vs H2 => R a σ vs H2 Q) := by
  have hlen : (e :: es).length < 20 := of_decide_eq_true hf
  refine ⟨fun pins s σ H Q I h => ?_⟩
  refine PySem.W.methodCall_KW (pl := (do return (← importBound o X.env).getD true)) (thn (he.run pins s σ H _ I h) fun u s1 ⟨x, H1, I1, rx, a, C, f, dx, fs, ex, ea, l, ⟨c, hm, run⟩, q⟩ => ?_) (eval_meth (base_rcv hr) ?_ hl)
  · subst ex
    obtain rfl : u = Value.ref a := rx
    refine getmeth_ok I1 ea c hm l ?_
    refine PySem.W.callWith_K (first := [.ref a]) (h₀ := X.base) I.ok.mod.kin hm.kp (thn (ha.run pos pins s1 σ H1 _ I1 q) fun us s2 ⟨vs, H2, I2, r, q2⟩ => ⟨I2.kIn, ?_⟩) (starEach_plain hp) (starEach_none hes pos)
    exact run pins s2 σ H2 us vs Q I2 r q2
  · unfold methodCallForm
    rw [hall]
    simp only [Bool.true_and, Bool.and_eq_true, decide_eq_true_eq]
    refine ⟨rfl, ?_⟩
    show (e :: es).length + 0 + 0 < 30
    omega
theorem pe_methFn0 {ta : TE} {R : Addr → St → List V → Hp → VK → Prop} (he : PE X o ta) (hr : rcvB o = true) (hl : lineB apos pos = true) :
    PE X (.Call (.Attribute o m apos) [] [] pos) (fun σ H Q => ta σ H fun x H1 => ∃ a C f dx fs, x = .ref a ∧ H1 a = some (.ins C dx fs) ∧ fs.lookup m = none ∧ rcvOk X m R a C f ∧ R a σ [] H1 Q) := by
  refine ⟨fun pins s σ H Q I h => ?_⟩
  refine PySem.W.methodCall_KW (pl := (do return (← importBound o X.env).getD true)) (thn (he.run pins s σ H _ I h) fun u s1 ⟨x, H1, I1, rx, a, C, f, dx, fs, ex, ea, l, ⟨c, hm, run⟩, q⟩ => ?_) (eval_meth (base_rcv hr) rfl hl)
  subst ex
  obtain rfl : u = Value.ref a := rx
  refine getmeth_ok I1 ea c hm l ?_
  exact PySem.W.callWith_K0 (first := [.ref a]) I1.kIn hm.kp (run pins s1 σ H1 [] [] Q I1 .nil q)
end
end Ev
end

section
set_option Elab.async false
set_option linter.all false
set_option maxRecDepth 100000
set_option autoImplicit false
/-! Ev8: targets, what is walked, the turns. -/
namespace Ev
open PySem PySem.Spec L2
open PyProof.Rows hiding St

/-! ### targets -/
mutual
def gTG (K : PySem.W.Frag) : TG → L2.TG
  | .name i => gName i
  | .tup ts => gTup K (lenT ts) (gTGs K ts)
def gTGs (K : PySem.W.Frag) : TGs → L2.TGs
  | .nil => gNil
  | .cons t ts => gCons (gTG K t) (gTGs K ts)
def lenT : TGs → Nat
  | .nil => 0
  | .cons _ ts => lenT ts + 1
end
section
variable {X : Cx} {T : Wr}
theorem assignEach_plain {e : Expr} {es : List Expr} {env : PySem.Env} (h : plainX e = true) : assignEach (e :: es) env = (false, assign e env) :: assignEach es env := by
  cases e <;> first | rfl | cases h
theorem okTG_plain {N : List Str} {sc : Scope} {t : TG} {e : Expr} (h : okTG N sc t e = true) : plainX e = true := by
  cases t <;> (unfold okTG at h; split at h <;> first | rfl | cases h)
theorem okTGs_len {N : List Str} {sc : Scope} {env : PySem.Env} : ∀ {ts : TGs} {es : List Expr}, okTGs N sc ts es = true → (assignEach es env).length = lenT ts ∧ (assignEach es env).findIdx? (·.1) = none
  | .nil, es, h => by
    have : es = [] := List.isEmpty_iff.mp h
    subst this; exact ⟨rfl, rfl⟩
  | .cons t ts, [], h => by cases h
  | .cons t ts, e :: es, h => by
    have h : (okTG N sc t e && okTGs N sc ts es) = true := h
    rw [Bool.and_eq_true] at h
    obtain ⟨h1, h2⟩ := okTGs_len (env := env) h.2
    rw [assignEach_plain (okTG_plain h.1)]
    refine ⟨by show (assignEach es env).length + 1 = lenT ts + 1; rw [h1], ?_⟩
    rw [List.findIdx?_cons]
    simp [h2]
mutual
theorem pg_ok (hc : X.calm = true) (hN : X.N.Nodup) : ∀ {t : TG} {e : Expr}, (∀ i x, i ∈ slT t → X.N[i]? = some x → Loc X.env.scope x → X.fn x = true ∨ X.env.scope.names.lookup x = some .local) → okTG X.N X.env.scope t e = true → PG X e (gTG X.K t)
  | .name i, e, hf, h => by
    unfold okTG at h
    split at h
    · simp only [Bool.and_eq_true, decide_eq_true_eq] at h
      exact pg_name hN h.1.1 (locB_ok h.1.2) (hf i _ (by simp [slT]) h.1.1 (locB_ok h.1.2))
    · cases h
  | .tup ts, e, hf, h => by
    unfold okTG at h
    split at h
    · obtain ⟨h1, h2⟩ := okTGs_len (env := X.env) h
      exact pg_tup hc (pgs_ok hc hN (fun i x hi => hf i x (by simpa [slT] using hi)) h) h1 h2
    · cases h
theorem pgs_ok (hc : X.calm = true) (hN : X.N.Nodup) : ∀ {ts : TGs} {es : List Expr}, (∀ i x, i ∈ slTs ts → X.N[i]? = some x → Loc X.env.scope x → X.fn x = true ∨ X.env.scope.names.lookup x = some .local) → okTGs X.N X.env.scope ts es = true → PGs X es (gTGs X.K ts)
  | .nil, es, hf, h => by
    have : es = [] := List.isEmpty_iff.mp h
    subst this; exact pgs_nil
  | .cons t ts, [], hf, h => by cases h
  | .cons t ts, e :: es, hf, h => by
    have h : (okTG X.N X.env.scope t e && okTGs X.N X.env.scope ts es) = true := h
    rw [Bool.and_eq_true] at h
    exact pgs_cons (pg_ok hc hN (fun i x hi => hf i x (by simp [slTs, hi])) h.1) (pgs_ok hc hN (fun i x hi => hf i x (by simp [slTs, hi])) h.2) (by rw [assignEach_plain (okTG_plain h.1)]; rfl)
end
theorem Rep.set {φ : List Addr} {σ : St} {H : Hp} {env : EnvD} {S : Store} {i : Nat} {v : V} {d : D} (r : Rep T φ σ H env S) (rv : RepV T.K φ H v d) (hi : i < env.length) : Rep T φ (σ.set i (some v)) H (env.set i (some d)) S := by
  refine ⟨r.sto, by simp [r.len], fun j e h => ?_⟩
  by_cases hj : j = i
  · subst hj
    rw [List.getElem?_set_self hi] at h
    cases h
    exact ⟨v, List.getElem?_set_self (by rw [r.len]; exact hi), rv⟩
  · rw [List.getElem?_set_ne (Ne.symm hj)] at h
    obtain ⟨w, h1, h2⟩ := r.env j e h
    exact ⟨w, by rw [List.getElem?_set_ne (Ne.symm hj)]; exact h1, h2⟩
theorem wipe_set {σ : St} {i : Nat} {v : Option V} : ∀ {vs : List Nat}, i ∈ vs → wipe (σ.set i v) vs = wipe σ vs
  | j :: vs, h => by
    unfold wipe
    by_cases hm : i ∈ vs
    · rw [wipe_set hm]
    · have hj : i = j := by
        rcases List.mem_cons.mp h with e | e
        · exact e
        · exact absurd e hm
      subst hj
      have gen : ∀ ws : List Nat, i ∉ ws → wipe (σ.set i v) ws = (wipe σ ws).set i v := by
        intro ws
        induction ws with
        | nil => intro _; rfl
        | cons a ws ih =>
          intro hn
          simp only [List.mem_cons, not_or] at hn
          unfold wipe
          rw [ih hn.2, List.set_comm _ _ hn.1]
      rw [gen vs hm, List.set_set]
mutual
theorem bindT_rep {φ : List Addr} {H : Hp} {S : Store} : ∀ {t : TG} {d : D} {σ : St} {env env' : EnvD} {x : V} {Q : St → Hp → Prop}, RepV T.K φ H x d → Rep T φ σ H env S → bindT t d env = some env' →
    (∀ σ', Rep T φ σ' H env' S → (∀ vs, (∀ i ∈ slT t, i ∈ vs) → wipe σ' vs = wipe σ vs) → Q σ' H) → gTG T.K t x σ H Q
  | .name i, d, σ, env, env', x, Q, rx, r, e, h => by
    unfold bindT at e
    split at e
    · cases e
      exact h _ (r.set rx (by assumption)) fun vs hv => wipe_set (hv i (by simp [slT]))
    · cases e
  | .tup ts, .tup ds, σ, env, env', _, Q, .tup h1 h2, r, e, h => by
    have e : bindTs ts ds env = some env' := e
    refine ⟨_, _, rfl, SqT.of h1, ?_, bindTs_rep h2 r e fun σ' r' hw => h σ' r' fun vs hv => hw vs hv⟩
    rw [h2.length]
    exact bindTs_len e
  | .tup ts, .non, _, _, _, _, _, _, _, e, _ => by cases e
  | .tup ts, .bl _, _, _, _, _, _, _, _, e, _ => by cases e
  | .tup ts, .int _, _, _, _, _, _, _, _, e, _ => by cases e
  | .tup ts, .str _, _, _, _, _, _, _, _, e, _ => by cases e
  | .tup ts, .loc _, _, _, _, _, _, _, _, e, _ => by cases e
  | .tup ts, .scr _, _, _, _, _, _, _, _, e, _ => by cases e
  | .tup ts, .ty _, _, _, _, _, _, _, _, e, _ => by cases e
  | .tup ts, .ktup _, _, _, _, _, _, _, _, e, _ => by cases e
theorem bindTs_len : ∀ {ts : TGs} {ds : List D} {env env' : EnvD}, bindTs ts ds env = some env' → ds.length = lenT ts
  | .nil, [], _, _, _ => rfl
  | .nil, _ :: _, _, _, e => by cases e
  | .cons t ts, [], _, _, e => by cases e
  | .cons t ts, d :: ds, env, env', e => by
    unfold bindTs at e
    split at e
    · show ds.length + 1 = lenT ts + 1
      rw [bindTs_len e]
    · cases e
theorem bindTs_rep {φ : List Addr} {H : Hp} {S : Store} : ∀ {ts : TGs} {ds : List D} {σ : St} {env env' : EnvD} {xs : List V} {Q : St → Hp → Prop}, RepVs T.K φ H xs ds → Rep T φ σ H env S → bindTs ts ds env = some env' →
    (∀ σ', Rep T φ σ' H env' S → (∀ vs, (∀ i ∈ slTs ts, i ∈ vs) → wipe σ' vs = wipe σ vs) → Q σ' H) → gTGs T.K ts xs σ H Q
  | .nil, [], σ, env, env', _, Q, .nil, r, e, h => by
    cases e
    exact ⟨rfl, h σ r fun _ _ => rfl⟩
  | .nil, _ :: _, _, _, _, _, _, _, _, e, _ => by cases e
  | .cons t ts, [], _, _, _, _, _, _, _, e, _ => by cases e
  | .cons t ts, d :: ds, σ, env, env', _, Q, .cons rx rs, r, e, h => by
    unfold bindTs at e
    split at e
    · rename_i env1 h1
      refine ⟨_, _, rfl, bindT_rep rx r h1 fun σ1 r1 w1 => bindTs_rep rs r1 e fun σ2 r2 w2 => h σ2 r2 fun vs hv => ?_⟩
      rw [w2 vs fun i hi => hv i (by simp [slTs, hi]), w1 vs fun i hi => hv i (by simp [slTs, hi])]
    · cases e
end
theorem Rep.wipe {φ : List Addr} {σ : St} {H : Hp} {env : EnvD} {S : Store} (r : Rep T φ σ H env S) : ∀ vs : List Nat, Rep T φ (L2.wipe σ vs) H (wipeE env vs) S
  | [] => r
  | v :: vs => by
    have ih := r.wipe vs
    refine ⟨r.sto, by show ((L2.wipe σ vs).set v none).length = ((wipeE env vs).set v none).length; simp [ih.len], fun j e h => ?_⟩
    have h : ((wipeE env vs).set v none)[j]? = some (some e) := h
    show ∃ w, ((L2.wipe σ vs).set v none)[j]? = some (some w) ∧ _
    by_cases hj : j = v
    · subst hj
      by_cases hl : j < (wipeE env vs).length
      · rw [List.getElem?_set_self hl] at h; cases h
      · rw [List.getElem?_eq_none (by simpa using hl)] at h; cases h
    · rw [List.getElem?_set_ne (Ne.symm hj)] at h ⊢
      exact ih.env j e h

/-! ### what is walked -/
def RI (T : Wr) : Rl ItV It := fun φ H J iv => match iv with
  | .ds ds => ∀ φ' H' S', Ext φ φ' H H' → RepS T φ' H' S' → ∀ i, (ds.length ≤ i → J.stop i H') ∧ (i < ds.length → J.go i H' ∧ ∀ x H'', J.yld i H' x H'' → ∃ d, ds[i]? = some d ∧ RepV T.K φ' H'' x d ∧ Ext φ' φ' H' H'' ∧ RepS T φ' H'' S')
  | .lst l => ∃ a, φ[l]? = some a ∧ J = Itl T.K a
theorem RI.ext {φ φ' : List Addr} {H H' : Hp} {J : It} {iv : ItV} (x : Ext φ φ' H H') (h : RI T φ H J iv) : RI T φ' H' J iv := by
  cases iv with
  | ds ds => exact fun φ2 H2 S2 x2 => h φ2 H2 S2 (x.trans x2)
  | lst l => obtain ⟨a, h1, h2⟩ := h; exact ⟨a, pre_at x.pre h1, h2⟩
theorem RI.tup {φ : List Addr} {H : Hp} {S : Store} {a : Addr} {vs : List V} {ds : List D} (r : RepS T φ H S) (hs : SqT T.K H a vs) (h : RepVs T.K φ H vs ds) : RI T φ H (Itt T.K a) (.ds ds) := by
  intro φ' H' S' x r' i
  have h' := h.ext r x
  have hs' := SqT.ext r x hs
  refine ⟨fun hi => ⟨vs, hs', by rw [h.length]; exact hi⟩, fun hi => ?_⟩
  obtain ⟨v, e, rv⟩ := h'.get (List.getElem?_eq_getElem hi)
  refine ⟨⟨vs, v, hs', e⟩, fun y H'' hy => ?_⟩
  obtain ⟨rfl, hy⟩ := hy
  have e2 := hy vs hs'
  rw [e] at e2; cases e2
  exact ⟨_, List.getElem?_eq_getElem hi, rv, Ext.refl, r'⟩
theorem rngL_len (c : Int) : ∀ (n : Nat) (lo : Int), (rngL lo c n).length = n
  | 0, _ => rfl
  | n + 1, lo => by unfold rngL; rw [List.length_cons, rngL_len c n]
theorem rngL_get (c : Int) : ∀ (n : Nat) (lo : Int) (i : Nat), i < n → (rngL lo c n)[i]? = some (.int (lo + i * c))
  | 0, _, _, h => absurd h (Nat.not_lt_zero _)
  | n + 1, lo, 0, _ => by unfold rngL; simp
  | n + 1, lo, i + 1, h => by
    unfold rngL
    rw [List.getElem?_cons_succ, rngL_get c n (lo + c) i (by omega)]
    congr 2
    rw [Int.natCast_add, Int.add_mul]
    show lo + c + i * c = lo + (i * c + (1 : Nat) * c)
    omega
theorem RI.rng {φ : List Addr} {H : Hp} {lo : Int} {n : Nat} : RI T φ H (Itr lo n) (.ds (rngL lo 1 n)) := by
  intro φ' H' S' x r' i
  rw [rngL_len]
  refine ⟨fun h => h, fun h => ⟨h, fun y H'' hy => ?_⟩⟩
  obtain ⟨rfl, rfl⟩ := hy
  refine ⟨_, rngL_get 1 n lo i h, ?_, Ext.refl, r'⟩
  rw [Int.mul_one]
  exact .int _
theorem RI.rngC {φ : List Addr} {H : Hp} {lo c : Int} {n : Nat} : RI T φ H (Itc lo c n) (.ds (rngL lo c n)) := by
  intro φ' H' S' x r' i
  rw [rngL_len]
  refine ⟨fun h => h, fun h => ⟨h, fun y H'' hy => ?_⟩⟩
  obtain ⟨rfl, rfl⟩ := hy
  exact ⟨_, rngL_get c n lo i h, .int _, Ext.refl, r'⟩
theorem RI.str {φ : List Addr} {H : Hp} {z : Str} : RI T φ H (Its z) (.ds (z.cps.toList.map fun c => .str ⟨#[c]⟩)) := by
  intro φ' H' S' x r' i
  rw [List.length_map]
  refine ⟨fun h => show z.cps.size ≤ i by simpa using h, fun h => ⟨show i < z.cps.size by simpa using h, fun y H'' hy => ?_⟩⟩
  obtain ⟨rfl, c, hc, rfl⟩ := hy
  refine ⟨_, ?_, .str _, Ext.refl, r'⟩
  rw [List.getElem?_map, Array.getElem?_toList, hc]
  rfl
/-- iter(v) by the evaluator's value -/
def rIt (T : Wr) (f : D → Store → Res ItV) (x : V) (H : Hp) (R : It → Hp → Prop) : Prop := ∃ (W : WXk) (φ : List Addr) (S : Store) (d : D), RepS T φ H S ∧ RepV T.K φ H x d ∧ Post T W (RI T) φ H (f d S) R
theorem pyIter_D (hK : X.K = T.K) {tg : Expr} {pins : List (Addr × Obj)} {s : Shared} {σ : St} {H : Hp} {x : V} {v : Value} {R : It → Hp → Prop} (I : L2.Inv X pins σ H s) (rx : L2.RelV x v) (h : rIt T itD x H R) : wpAny (model X.prog X.w) X.A (pyIter v) (PIE X pins σ tg R) X.xe s := by
  obtain ⟨W, φ, S, d, r, rd, p⟩ := h
  have tup : ∀ {a : Addr} {vs : List V} {ds : List D}, SqT T.K H a vs → RepVs T.K φ H vs ds → Post T W (RI T) φ H (.ok (.ds ds) S) R → v = .ref a → wpAny (model X.prog X.w) X.A (pyIter v) (PIE X pins σ tg R) X.xe s := fun {a vs ds} hq hs p e => by
    subst e
    have q := p.ok r (RI.tup r hq hs)
    rw [← hK] at hq
    obtain ⟨its, rv, pl, hz⟩ := I.tuple hq
    refine wpAny_pyIter_tuple (show s.heap.IsTuple a its.toArray from pl) ?_
    refine ⟨s.heap.objs.size, [s.heap.objs.size], _, _, H, rfl, I.kept (t' := s.toks) fun b o e => Heap.get?_push_of_some _ e, turn_tuple a _, ⟨_, Heap.get?_push_size _ rfl, rfl, rfl⟩, fun b hb => ?_, by rw [hK]; exact q⟩
    have e : b = s.heap.objs.size := by simpa using hb
    subst e
    exact I.fpOk (Nat.le_refl _) (I.hok.fresh (Nat.le_refl _))
  cases d with
  | tup ds =>
    cases rd with
    | tup h1 h2 => cases rx; exact tup (SqT.of h1) h2 p rfl
  | ktup ds =>
    cases rd with
    | ktup h1 h2 h3 h4 h5 h6 => cases rx; exact tup (.inr ⟨_, _, _, h1, h2, h3, h4, h5⟩) h6 p rfl
  | str z =>
    cases rd
    obtain ⟨t, rfl⟩ := rx
    have q := Post.ok p r RI.str
    cases ha : z.cps.all (· < 128)
    · exact wpAny_pyIter_wide ha (pi_one (tk := s.toks) I _ (turn_str _ z t "str_iterator" (.inr rfl)) ⟨_, Heap.get?_push_size _ rfl, rfl, rfl⟩ q)
    · exact wpAny_pyIter_ascii ha (pi_one (tk := s.toks) I _ (turn_str _ z t "str_ascii_iterator" (.inl rfl)) ⟨_, Heap.get?_push_size _ rfl, rfl, rfl⟩ q)
  | loc l =>
    cases rd with
    | loc hl =>
      have p : Post T W (RI T) φ H (match S[l]? with
        | some (.lst _) => .ok (.lst l) S
        | _ => .bad) R := p
      split at p
      · rename_i ds hS
        obtain ⟨vs, h1, h2⟩ := r.ob _ _ _ hS hl
        have q := p.ok r ⟨_, hl, rfl⟩
        cases rx
        obtain ⟨its, rv, pl, hz⟩ := I.list (SqL.of h1)
        refine wpAny_pyIter_list pl.isList ?_
        refine ⟨s.heap.objs.size, [s.heap.objs.size], _, _, H, rfl, I.kept (t' := s.toks) fun b o e => Heap.get?_push_of_some _ e, turn_list _ _, ⟨_, Heap.get?_push_size _ rfl, rfl, rfl⟩, fun b hb => ?_, by rw [hK]; exact q⟩
        have e : b = s.heap.objs.size := by simpa using hb
        subst e
        exact I.fpOk (Nat.le_refl _) (I.hok.fresh (Nat.le_refl _))
      · exact False.elim p
  | _ => exact False.elim p

/-! ### the turns of a comprehension's walk -/
/-- so far, by place i, the walk comes to r0; m is left -/
def Wk {α : Type} (f : D → α → Store → Res α) (iv : ItV) (i m : Nat) (a : α) (S : Store) (r0 : Res α) : Prop := match iv with
  | .ds ds => i ≤ ds.length ∧ m = ds.length - i ∧ walkT f (ds.drop i) a S = r0
  | .lst l => walkL f l m i a S = r0
theorem wk_start {α : Type} {f : D → α → Store → Res α} {iv : ItV} {a : α} {S : Store} : ∃ m, Wk f iv 0 m a S (walkI f iv a S) := by
  cases iv with
  | ds ds => exact ⟨ds.length, Nat.zero_le _, rfl, by rw [List.drop_zero]; rfl⟩
  | lst l => exact ⟨LIM, rfl⟩
theorem wk_turn {α : Type} {f : D → α → Store → Res α} {iv : ItV} {i m : Nat} {a : α} {S : Store} {r0 : Res α} {φ : List Addr} {H : Hp} {J : It} (w : Wk f iv i m a S r0) (hb : r0 ≠ .bad) (r : RepS T φ H S) (ri : RI T φ H J iv) :
    (J.stop i H ∧ r0 = .ok a S) ∨ (J.go i H ∧ ∃ d, (∀ x H', J.yld i H x H' → RepV T.K φ H' x d ∧ Ext φ φ H H' ∧ RepS T φ H' S) ∧ ∃ g : α → Store → Res α, r0 = (f d a S).bind g ∧ ∀ a' S', f d a S = .ok a' S' → ∃ m', m' < m ∧ Wk f iv (i + 1) m' a' S' r0) := by
  cases iv with
  | ds ds =>
    obtain ⟨hi, hm, hw⟩ := w
    obtain ⟨h1, h2⟩ := ri φ H S Ext.refl r i
    by_cases hlt : i < ds.length
    · obtain ⟨h3, h4⟩ := h2 hlt
      rw [List.drop_eq_getElem_cons hlt] at hw
      refine .inr ⟨h3, ds[i], fun x H' hy => ?_, fun a S => walkT f (ds.drop (i + 1)) a S, hw.symm, fun a' S' e => ⟨ds.length - (i + 1), by omega, hlt, rfl, ?_⟩⟩
      · obtain ⟨d, e1, e2, e3, e4⟩ := h4 x H' hy
        rw [List.getElem?_eq_getElem hlt] at e1; cases e1
        exact ⟨e2, e3, e4⟩
      · have hw : (f ds[i] a S).bind (fun a S => walkT f (ds.drop (i + 1)) a S) = r0 := hw
        rw [e] at hw
        exact hw
    · have hi2 : i = ds.length := by omega
      subst hi2
      rw [List.drop_length] at hw
      exact .inl ⟨h1 (Nat.le_refl _), hw.symm⟩
  | lst l =>
    obtain ⟨b, hl, rfl⟩ := ri
    have w : walkL f l m i a S = r0 := w
    cases m with
    | zero => exact absurd w.symm hb
    | succ n =>
      unfold walkL at w
      split at w
      · rename_i ds hS
        obtain ⟨vs, h1, h2⟩ := r.ob _ _ _ hS hl
        have hq : SqL T.K H b vs := SqL.of h1
        split at w
        · rename_i d hd
          obtain ⟨v, e1, e2⟩ := h2.get hd
          refine .inr ⟨⟨vs, v, hq, e1⟩, d, fun x H' hy => ?_, fun a S => walkL f l n (i + 1) a S, w.symm, fun a' S' e => ⟨n, Nat.lt_succ_self n, ?_⟩⟩
          · obtain ⟨rfl, hy⟩ := hy
            have e3 := hy vs hq
            rw [e1] at e3; cases e3
            exact ⟨e2, Ext.refl, r⟩
          · rw [e] at w
            exact w
        · rename_i hd
          refine .inl ⟨⟨vs, hq, ?_⟩, w.symm⟩
          rw [h2.length]
          exact List.getElem?_eq_none_iff.mp hd
      · exact absurd w.symm hb
end
end Ev
end

section
set_option Elab.async false
set_option linter.all false
set_option maxRecDepth 100000
set_option maxHeartbeats 1000000
set_option autoImplicit false
/-! Ev8e: enumerate(tuple). -/
namespace PySem
open Sem (wp)
open AutoSeq1 (wpAny_loadPart')
theorem enumT_new (t : Addr) (us : Array Value) (n : Nat) (dt : Option Addr) (sl : Array (Option Value)) :
    Meets (Builtin.«enumerate.__new__» ⟨[.type "enumerate", .ref t], []⟩) (fun _ R s =>
      s.heap.get? t = some { cls := .type "tuple", dict := dt, data := .seq us n, slots := sl } ∧
      R (.ok (.ret (.ref (s.heap.push { cls := .type "tuple_iterator", data := .fields #[.ref t, .int 0 0] }).objs.size)))
        { s with heap := ((s.heap.push { cls := .type "tuple_iterator", data := .fields #[.ref t, .int 0 0] }).push
          { cls := .type "enumerate", data := .fields #[.none, .bool false, .ref s.heap.objs.size, rawInt 0, .none, .none] }) }) :=
  .of_wp fun prog w A R s hh => by
    obtain ⟨hp, gs, dr, tk, os⟩ := s
    obtain ⟨at_t, goal⟩ := hh
    have subE := sub_enumerate
    have isT : Heap.IsTuple (Shared.heap ⟨hp, gs, dr, tk, os⟩) t us := ⟨_, at_t, rfl, n, rfl⟩
    wp_walk using wpAny_loadPart' at_t
    refine wpAny_stack_any fun _ => wpAny_pure ?_
    split
    · rename_i c _ _ _ _ _
      cases (c == Value.type "enumerate") <;> (wp_walk using wpAny_loadPart' at_t, wpAny_pyIter_tuple isT; exact ⟨_, rfl, goal⟩)
    · wp_walk using wpAny_loadPart' at_t, wpAny_pyIter_tuple isT
      exact ⟨_, rfl, goal⟩
theorem enumT_call {prog : Program} {w : World} {A : Around} {E : Value → Shared → Prop} {s : Shared} {t : Addr} {us : Array Value} {Q : Value → Shared → Prop} (isT : s.heap.IsTuple t us)
    (k : ∀ h', IsEnum h' (s.heap.objs.size + 1) s.heap.objs.size 0 .none → h'.IsTupleIter s.heap.objs.size t 0 → (∀ b o, s.heap.get? b = some o → h'.get? b = some o) → Q (.ref (s.heap.objs.size + 1)) { s with heap := h' }) :
    wpAny (model prog w) A (call (.type "enumerate") [.ref t]) Q E s := by
  obtain ⟨⟨c, dct, dta, sl⟩, at_t, hc, n, hd⟩ := isT
  cases (show c = .type "tuple" from hc)
  cases (show dta = .seq us n from hd)
  have len1 : (s.heap.push { cls := .type "tuple_iterator", data := .fields #[.ref t, .int 0 0] }).objs.size = s.heap.objs.size + 1 := Heap.size_push ..
  refine callType_new F.called_enumerate (by decide) (F.typeCall_enumerate_1 _) (F.newCall_enumerate_1 _) (fun o => F.args_object_init_2 o _) F.entry_enumerate_new (enumT_new t us n dct sl) ⟨at_t, ?_⟩
  show _ ∧ _
  rw [len1]
  have isE : IsEnum ((s.heap.push { cls := .type "tuple_iterator", data := .fields #[.ref t, .int 0 0] }).push { cls := .type "enumerate", data := .fields #[.none, .bool false, .ref s.heap.objs.size, rawInt 0, .none, .none] })
      (s.heap.objs.size + 1) s.heap.objs.size 0 .none := by
    have z := Heap.get?_push_size (s.heap.push { cls := .type "tuple_iterator", data := .fields #[.ref t, .int 0 0] }) (o := { cls := .type "enumerate", data := .fields #[.none, .bool false, .ref s.heap.objs.size, rawInt 0, .none, .none] }) rfl
    rwa [len1] at z
  exact ⟨⟨_, isE, rfl⟩, k _ isE ⟨_, Heap.get?_push_of_some _ (Heap.get?_push_size _ rfl), rfl, rfl⟩ fun b o e => Heap.get?_push_of_some _ (Heap.get?_push_of_some _ e)⟩
end PySem
namespace Ev
open PySem PySem.Spec L2
open PyProof.Rows hiding St
/-- the tuple at a, of n items, each item in a new pair -/
def Itet (K : PySem.W.Frag) (a : Addr) (n : Nat) : It where
  go i H := ∃ (xs : List V) (x : V), SqT K H a xs ∧ xs.length = n ∧ xs[i]? = some x
  yld i H v H' := ∃ t x, v = .ref t ∧ H t = none ∧ H' = upd H t (.tup [.int (i : Nat), x]) ∧ ∀ xs, SqT K H a xs → xs[i]? = some x
  stop i H := ∃ xs : List V, SqT K H a xs ∧ xs.length = n ∧ n ≤ i
theorem turn_enT {P : Program} {w : World} {K : PySem.W.Frag} {elts : List Expr} {kk : Nat} {tpos : Pos} (a e it : Addr) (n : Nat) :
    Turn P w K (.Tuple elts kk tpos) (Itet K a n) [e, it] e (fun i h => (∃ old, IsEnum h e it ((i : Nat) : Int) old) ∧ h.IsTupleIter it a i ∧ e ≠ it ∧ i ≤ n) where
  mem := List.mem_cons_self
  obj := fun i h st b hb => by
    obtain ⟨⟨_, isE⟩, ⟨o, at_it, _, dat⟩, _, _⟩ := st
    rcases List.mem_cons.mp hb with rfl | hb
    · exact ⟨_, isE, fun v q => nomatch q⟩
    · rw [List.mem_singleton.mp hb]
      exact ⟨o, at_it, fun v q => by rw [dat] at q; cases q⟩
  keep := fun i h h' st k => ⟨let ⟨old, isE⟩ := st.1; ⟨old, k e (by simp) _ isE⟩, st.2.1.at fun o q => k it (by simp) o q, st.2.2⟩
  item := by
    intro X hP hw hK hc i pins s σ H E I fp st going
    subst hP hw hK
    obtain ⟨⟨old, isE⟩, isI, ne, _⟩ := st
    obtain ⟨xs, x, sq, hn, hx⟩ := going
    obtain ⟨us, rv, isT, _⟩ := I.tuple sq
    obtain ⟨u, hu, ru⟩ := rv.get hx
    have le : e < s.heap.objs.size := Heap.lt_size isE
    have li : it < s.heap.objs.size := by obtain ⟨_, q, _⟩ := isI; exact Heap.lt_size q
    have isT : s.heap.IsTuple a us.toArray := isT
    have ae : a ≠ e := by
      rintro rfl
      obtain ⟨o, q, c, _⟩ := isT
      rw [show s.heap.get? a = _ from isE] at q
      cases q
      simp at c
    have ai : a ≠ it := by
      rintro rfl
      obtain ⟨o, q, c, _⟩ := isT
      obtain ⟨o', q', c', _⟩ := isI
      rw [q] at q'
      cases q'
      rw [c] at c'
      simp at c'
    have dr := Draws.tuple (prog := X.prog) (w := X.w) (A := X.A.in1) (I.ok.hd hc) it a ai us.toArray
    have lt : i < us.toArray.size := by
      have := (List.getElem?_eq_some_iff.mp hu).1
      simpa using this
    refine wpAny_pyNext_enum_itemD dr isE ⟨isI, isT⟩ lt ne (by simp [ne, Ne.symm ae]) fun y h' tk hy out st' at_T _ kept => ?_
    have hy : us[i]? = some y := by simpa using hy
    rw [hu] at hy
    cases hy
    refine ⟨_, rfl, wpAny_letOwnedTupleGo_enum (s := { s with heap := h', toks := tk + 1 }) out fun h'' isE' same => ?_⟩
    have at_T' : h''.get? s.heap.objs.size = some { cls := .type "tuple", data := .seq #[.int i tk, u] } := (same.2 _ (Nat.ne_of_gt le)).trans at_T
    have fresh := I.hok.fresh (Nat.le_refl s.heap.objs.size)
    have ok : ObjOk X.prog X.w (upd H s.heap.objs.size (.tup [.int (i : Nat), x])) h'' s.heap.objs.size (.tup [.int (i : Nat), x]) :=
      ⟨by show 2 ≤ sizeLine; decide, [.int i tk, u], .cons ⟨_, rfl⟩ (.cons ru .nil), ⟨_, at_T', rfl, _, rfl⟩⟩
    have I' : L2.Inv X pins σ (upd H s.heap.objs.size (.tup [.int (i : Nat), x])) { s with heap := h'', toks := tk + 1 } := by
      refine I.turnedNew (ch := [e, it]) (fun b o nb at_b => ?_) fp (Nat.le_refl _) ok
      have n1 : b ≠ e := fun z => nb (by simp [z])
      exact (same.2 b n1).trans (kept b o n1 (fun z => nb (by simp [z])) at_b)
    refine ⟨.ref s.heap.objs.size, _, I', rfl, ⟨_, x, rfl, fresh, rfl, fun ys q => by rw [I.tuple_inj q sq]; exact hx⟩, ⟨⟨u, ?_⟩, st'.1.at fun o q => (same.2 it (Ne.symm ne)).trans q, ne, by have := (List.getElem?_eq_some_iff.mp hx).1; omega⟩, fun b hb => ?_⟩
    · rw [show ((i + 1 : Nat) : Int) = (i : Int) + 1 from by omega]
      exact isE'
    · have lb : b < s.heap.objs.size := by
        rcases List.mem_cons.mp hb with rfl | hb
        · exact le
        · rw [List.mem_singleton.mp hb]; exact li
      rw [upd_ne (Nat.ne_of_lt lb)]
      exact (fp b hb).1
  done := by
    intro X hP hw hK hc i pins s σ H E I fp st stops
    subst hP hw hK
    obtain ⟨⟨old, isE⟩, isI, ne, le⟩ := st
    obtain ⟨xs, sq, hn, hx⟩ := stops
    obtain ⟨us, rv, isT, _⟩ := I.tuple sq
    have isT : s.heap.IsTuple a us.toArray := isT
    have ai : a ≠ it := by
      rintro rfl
      obtain ⟨o, q, c, _⟩ := isT
      obtain ⟨o', q', c', _⟩ := isI
      rw [q] at q'
      cases q'
      rw [c] at c'
      simp at c'
    obtain ⟨f0, f1, f2, f3, f4, f5⟩ := fp it (by simp)
    have dr := Draws.tuple (prog := X.prog) (w := X.w) (A := X.A.in1) (I.ok.hd hc) it a ai us.toArray
    have sz : us.toArray.size = i := by
      have := rv.length
      simp
      omega
    exact wpAny_pyNext_enum_endD dr isE (by rw [sz]; exact ⟨isI, isT⟩) fun h' same => ⟨rfl, I.turned (t' := s.toks) (fun b o nb q => same b o nb q) f0 f1 f3 f4 f5⟩
  self := fun _ _ _ _ _ st goal => let ⟨⟨_, isE⟩, _⟩ := st; wpAny_pyIter_enum isE goal
section
variable {X : Cx} {T : Wr}
theorem RI.enm {φ : List Addr} {H : Hp} {S : Store} {a : Addr} {vs : List V} {ds : List D} (r : RepS T φ H S) (at_a : H a = some (.tup vs)) (h : RepVs T.K φ H vs ds) : RI T φ H (Itet T.K a vs.length) (.ds (enumL 0 ds)) := by
  have len : ∀ (ds : List D) (i : Nat), (enumL i ds).length = ds.length := by
    intro ds
    induction ds with
    | nil => intro i; rfl
    | cons d ds ih => intro i; simp [enumL, ih]
  have get : ∀ (ds : List D) (i j : Nat) (d : D), ds[j]? = some d → (enumL i ds)[j]? = some (.tup [.int ((i + j : Nat) : Int), d]) := by
    intro ds
    induction ds with
    | nil => intro i j d e; simp at e
    | cons d ds ih =>
      intro i j e hj
      cases j with
      | zero => simp at hj; subst hj; rfl
      | succ j =>
        have := ih (i + 1) j e (by simpa using hj)
        rw [show i + 1 + j = i + (j + 1) from by omega] at this
        simpa [enumL] using this
  intro φ' H' S' x r' i
  have h' := h.ext r x
  have sq := SqT.ext (K := T.K) r x (SqT.of at_a)
  rw [len]
  have hl := h.length
  refine ⟨fun hi => ⟨vs, sq, rfl, by omega⟩, fun hi => ?_⟩
  obtain ⟨v, e, rv⟩ := h'.get (List.getElem?_eq_getElem hi)
  refine ⟨⟨vs, v, sq, rfl, e⟩, fun y H'' hy => ?_⟩
  obtain ⟨t, z, rfl, ht, rfl, hz⟩ := hy
  have e2 := hz vs sq
  rw [e] at e2
  cases e2
  refine ⟨_, get ds 0 i _ (List.getElem?_eq_getElem hi), .tup upd_same (.cons ?_ (.cons (rv.ext r' (Ext.aside ht)) .nil)), Ext.aside ht, r'.aside ht⟩
  rw [Nat.zero_add]
  exact .int _
theorem pi_enT {e : Expr} {ta : TA} {p pos tpos : Pos} {elts : List Expr} {kk : Nat} (hg : Gl X "enumerate") (hm : X.mg "enumerate" = none) (ha : PA X [e] ta) (hs : starEach [e] X.env = [(false, eval e X.env)]) :
    PI X (.Tuple elts kk tpos) (.Call (.Name "enumerate" p) [e] [] pos) (fun σ H R => ta σ H fun vs H1 => ∃ a xs, vs = [.ref a] ∧ SqT X.K H1 a xs ∧ R (Itet X.K a xs.length) H1) := by
  constructor
  intro pins s σ H R I q
  refine Call_ (ld_blt I hg hm boot_enumerate (PyProof.Rows.callWith_type1 (thn (ha.run pos pins s σ H _ I q) ?_) hs rfl))
  rintro us s1 ⟨vs, H1, I1, rv, a, xs, rfl, sq, q⟩
  cases rv with
  | cons r1 r2 =>
    cases r2
    cases r1
    obtain ⟨its, rits, isT, _⟩ := I1.tuple sq
    refine enumT_call isT fun h' isE isI kept => wpAny_pyIter_enum isE ?_
    have I2 : L2.Inv X pins σ H1 { s1 with heap := h' } := I1.kept (t' := s1.toks) kept
    refine ⟨s1.heap.objs.size + 1, [s1.heap.objs.size + 1, s1.heap.objs.size], _, _, H1, rfl, I2, turn_enT a _ _ xs.length, ⟨⟨.none, isE⟩, isI, Nat.succ_ne_self _, Nat.zero_le _⟩, fun b hb => ?_, q⟩
    have above : s1.heap.objs.size ≤ b := by
      rcases List.mem_cons.mp hb with z | hb
      · rw [z]; exact Nat.le_add_right _ _
      · rw [List.mem_singleton.mp hb]; exact Nat.le_refl _
    exact I1.fpOk above (I1.hok.fresh above)
end
end Ev
end

section
set_option Elab.async false
set_option linter.all false
set_option maxRecDepth 100000
set_option maxHeartbeats 1000000
set_option autoImplicit false
/-! Ev9: the evaluator's word of an expression holds of the model's. -/
namespace Ev
open PySem PySem.Spec L2
open PyProof.Rows hiding St

section
variable {P : Prg} {T : Wr} {X : Cx} {k : Nat} {W : WX}
theorem cxK_glb : (cxK P k).glb = P.glb := by cases k <;> simp only [cxK]
theorem cxK_bty : (cxK P k).bty = P.bty := by cases k <;> simp only [cxK]
theorem cxK_att : (cxK P k).att = P.att := by cases k <;> simp only [cxK]
/-- a test by its value's truth -/
theorem pt_of_pe {e : Expr} {f : EnvD → Store → Res D} (st : Sit P T X k W) (h : PE X e (rdV T W f)) (he : ∀ whole, isTrue e X.env whole = (do let v ← whole; standAt e.pos; holding [v] (truthy v))) : PT X e (rdB T W fun env S => (f env S).bind truR) := by
  refine (pt_truth h he).imp fun σ H Q ⟨φ, env, S, r, p⟩ => ⟨φ, env, S, r, p.bind fun d S1 φ1 H1 x e1 x1 s1 r1 p1 => ?_⟩
  cases ht : truD d S1 with
  | none => unfold truR at p1; rw [ht] at p1; exact p1.elim
  | some b =>
    unfold truR at p1
    rw [ht] at p1
    exact ⟨b, truD_rep st.K s1 r1 ht, p1.ok s1 rfl⟩
theorem cmpD_bl {op : Cm} {d e x : D} {S S' : Store} (h : cmpD op d e S = .ok x S') : ∃ b, x = .bl b ∧ S' = S := by
  have bo : ∀ {o : Option Bool}, boolR o S = .ok x S' → ∃ b, x = .bl b ∧ S' = S := fun {o} h => by
    cases o with
    | none => cases h
    | some b => cases h; exact ⟨b, rfl, rfl⟩
  unfold cmpD at h
  split at h
  all_goals first
    | exact bo h
    | (cases h; exact ⟨_, rfl, rfl⟩)
    | (cases h; done)
    | (split at h <;> first | exact bo h | (cases h; exact ⟨_, rfl, rfl⟩) | (cases h; done))
theorem Post.tru {R : Rl D V} {op : Cm} {d e : D} {S : Store} {φ : List Addr} {H : Hp} {Wk : WXk} {Q : Bool → Hp → Prop} (p : Post T Wk RE φ H ((cmpD op d e S).bind truR) Q) : Post T Wk (RV T) φ H (cmpD op d e S) (fun x H' => ∃ k, x = .bl k ∧ Q k H') := by
  refine p.bind fun a S1 φ1 H1 b e1 x1 s1 r1 p1 => ?_
  obtain ⟨k, rfl, rfl⟩ := cmpD_bl e1
  cases r1
  exact ⟨k, rfl, p1.ok s1 rfl⟩
/-- what stands of an operator's operands -/
theorem two {f g : EnvD → Store → Res D} {h : D → D → Store → Res D} {σ : St} {H : Hp} {β : Type} {R : Rl D β} {Q : β → Hp → Prop} {Q2 : V → V → Hp → Prop}
    (hq : rd T W R (fun env S => (f env S).bind fun x S => (g env S).bind fun y S => h x y S) σ H Q)
    (h2 : ∀ (φ : List Addr) (S : Store) (d e : D) (H2 : Hp) (x y : V), RepS T φ H2 S → RepV T.K φ H2 x d → RepV T.K φ H2 y e → Post T (fun c d H => W c d σ H) R φ H2 (h d e S) Q → Q2 x y H2) :
    rdV T W f σ H fun x H1 => rdV T W g σ H1 fun y H2 => Q2 x y H2 := by
  obtain ⟨φ, env, S, r, p⟩ := hq
  refine ⟨φ, env, S, r, p.bind fun d S1 φ1 H1 x _ x1 s1 r1 p1 => ⟨φ1, env, S1, r.ext x1 s1, p1.bind fun e S2 φ2 H2 y _ x2 s2 r2 p2 => ?_⟩⟩
  exact h2 φ2 S2 d e H2 x y s2 (r1.ext s1 x2) r2 p2
/-- one operand -/
theorem one {f : EnvD → Store → Res D} {h : D → Store → Res D} {σ : St} {H : Hp} {β : Type} {R : Rl D β} {Q : β → Hp → Prop} {Q2 : V → Hp → Prop}
    (hq : rd T W R (fun env S => (f env S).bind h) σ H Q)
    (h2 : ∀ (φ : List Addr) (S : Store) (d : D) (H2 : Hp) (x : V), RepS T φ H2 S → RepV T.K φ H2 x d → Post T (fun c d H => W c d σ H) R φ H2 (h d S) Q → Q2 x H2) :
    rdV T W f σ H Q2 := by
  obtain ⟨φ, env, S, r, p⟩ := hq
  exact ⟨φ, env, S, r, p.bind fun d S1 φ1 H1 x _ x1 s1 r1 p1 => h2 φ1 S1 d H1 x s1 r1 p1⟩

/-- what is shown of an expression -/
def GoE (P : Prg) (T : Wr) (k : Nat) (x : EX) : Prop := ∀ (X : Cx) (W : WX), Sit P T X k W → ∀ e, okE X.N X.env.scope x e = true → PE X e (rdV T W (evE (cxK P k) x)) ∧ PT X e (rdB T W (evTest (cxK P k) x))
def GoEs (P : Prg) (T : Wr) (k : Nat) (xs : EXs) : Prop := ∀ (X : Cx) (W : WX), Sit P T X k W → ∀ es, okEs X.N X.env.scope xs es = true → PA X es (rds T W (evEs (cxK P k) xs)) ∧
  ∀ (isAnd : Bool) (pos : Pos), xs ≠ .nil → PE X (.BoolOp (if isAnd then .And else .Or) es pos) (rdV T W (evBs (cxK P k) isAnd xs)) ∧ PW X (.BoolOp (if isAnd then .And else .Or) es pos) (rdB T W fun env S => (evBs (cxK P k) isAnd xs env S).bind truR)
def rdI (T : Wr) (W : WX) (f : EnvD → Store → Res ItV) : TI := fun σ H R => ∃ (φ : List Addr) (env : EnvD) (S : Store), Rep T φ σ H env S ∧ Post T (fun c d H => W c d σ H) (RI T) φ H (f env S) R
def GoI (P : Prg) (T : Wr) (k : Nat) (x : IT) : Prop := ∀ (X : Cx) (W : WX), Sit P T X k W → ∀ tg e, okI X.N X.env.scope x e = true → enmOk x tg = true → PI X tg e (rdI T W (evIt (cxK P k) x))
def GoL (P : Prg) (T : Wr) (k : Nat) (x : LX) : Prop := ∀ (X : Cx) (W : WX), Sit P T X k W → ∀ e, okL X.N X.env.scope x e = true → PE X e (rdL T W (evL (cxK P k) x))
/-- where the test is the value's truth -/
def truX : Expr → Bool
  | .UnaryOp .Not _ _ => false
  | .BoolOp .. => false
  | .IfExp .. => false
  | .Compare .. => false
  | _ => true
theorem tru_of {e : Expr} (h : truX e = true) {env : PySem.Env} (whole : Sem Value) : isTrue e env whole = (do let v ← whole; standAt e.pos; holding [v] (truthy v)) := by
  cases e <;> first | rfl | (cases h; done) | (rename_i op _ _; cases op <;> first | rfl | cases h)
theorem GoE.of {x : EX} (h : ∀ (X : Cx) (W : WX), Sit P T X k W → ∀ e, okE X.N X.env.scope x e = true → PE X e (rdV T W (evE (cxK P k) x)) ∧ truX e = true) : GoE P T k x := fun X W st e he =>
  ⟨(h X W st e he).1, pt_of_pe st (h X W st e he).1 fun w => tru_of (h X W st e he).2 w⟩

theorem go_const {x : EX} {v : V} {d : D} (hr : ∀ K φ H, RepV K φ H v d) (hev : ∀ env S, evE (cxK P k) x env S = .ok d S) (h : ∀ (X : Cx) e, okE X.N X.env.scope x e = true → PE X e (tC v) ∧ truX e = true) : GoE P T k x :=
  GoE.of fun X W st e he => by
    obtain ⟨h1, h2⟩ := h X e he
    refine ⟨h1.imp fun σ H Q ⟨φ, env, S, r, p⟩ => ?_, h2⟩
    rw [hev] at p
    exact p.ok r.sto (hr _ _ _)
theorem go_var {i : Nat} : GoE P T k (.var i) := GoE.of fun X W st e he => by
  unfold okE at he
  split at he
  · rename_i x pos
    unfold okV at he
    simp only [Bool.and_eq_true, decide_eq_true_eq] at he
    obtain ⟨n1, n2, _⟩ := plainN_ok he.2
    refine ⟨(pe_var he.1.1 (visB_ok he.1.2) n1 n2).imp fun σ H Q ⟨φ, env, S, r, p⟩ => ?_, rfl⟩
    simp only [evE] at p
    split at p
    · rename_i d hd
      obtain ⟨v, e1, e2⟩ := r.env i d hd
      exact ⟨v, e1, p.ok r.sto e2⟩
    · exact p.elim
  · cases he
theorem okG_ok {sc : Scope} {y : String} {x : Str} (h : okG sc y x = true) : x = Str.ofString y ∧ sc.names.lookup x = some .globalImplicit ∧ (x == ("__debug__" : Str)) = false ∧ x ≠ "__name__" := by
  unfold okG at h
  simp only [Bool.and_eq_true, decide_eq_true_eq] at h
  obtain ⟨n1, n2, n3⟩ := plainN_ok h.2
  exact ⟨h.1.1, glB_ok h.1.2, n1, n3⟩
theorem go_glb {y : String} : GoE P T k (.glb y) := GoE.of fun X W st e he => by
  unfold okE at he
  split at he
  · rename_i x pos
    obtain ⟨rfl, hg, n1, _⟩ := okG_ok he
    refine ⟨?_, rfl⟩
    have hgl : (cxK P k).glb = P.glb := cxK_glb
    cases hd : P.glb y with
    | none =>
      refine PE.never.imp fun σ H Q ⟨φ, env, S, r, p⟩ => ?_
      simp only [evE, hgl, hd, okR] at p
      exact p
    | some d =>
      obtain ⟨u, v, hm, rv, hr⟩ := st.fx.glb y d hd
      refine (pe_glob hg hm rv n1).imp fun σ H Q ⟨φ, env, S, r, p⟩ => ?_
      simp only [evE, hgl, hd, okR] at p
      exact p.ok r.sto (hr _ _)
  · cases he
theorem go_bty {y : String} : GoE P T k (.bty y) := GoE.of fun X W st e he => by
  unfold okE at he
  split at he
  · rename_i x pos
    obtain ⟨rfl, hg, n1, n2⟩ := okG_ok he
    refine ⟨?_, rfl⟩
    have hgl : (cxK P k).bty = P.bty := cxK_bty
    cases hd : P.bty y with
    | false =>
      refine PE.never.imp fun σ H Q ⟨φ, env, S, r, p⟩ => ?_
      simp only [evE, hgl, hd] at p
      exact p
    | true =>
      obtain ⟨hm, hv⟩ := st.fx.bty y hd
      refine (pe_bltn (v := .ty y) hg hm hv rfl n2 n1).imp fun σ H Q ⟨φ, env, S, r, p⟩ => ?_
      simp only [evE, hgl, hd] at p
      exact p.ok r.sto (.ty y)
  · cases he
theorem go_tup {xs : EXs} (ih : GoEs P T k xs) : GoE P T k (.tup xs) := GoE.of fun X W st e he => by
  unfold okE at he
  split at he
  · refine ⟨(pe_tup (ih X W st _ he).1).imp fun σ H Q ⟨φ, env, S, r, p⟩ => ?_, rfl⟩
    simp only [evE] at p
    refine ⟨φ, env, S, r, p.bind fun ds S1 φ1 H1 vs _ x1 s1 r1 p1 => ?_⟩
    split at p1
    · rename_i hl
      exact ⟨LIM_le (by rw [RepVs.length r1]; exact hl), fun q hq => p1.tup s1 hq r1⟩
    · exact p1.elim
  · cases he
theorem go_ofl {l : LX} (ih : GoL P T k l) : GoE P T k (.ofl l) := GoE.of fun X W st e he => by
  have he' : okL X.N X.env.scope l e = true := he
  refine ⟨(ih X W st e he').imp fun σ H Q ⟨φ, env, S, r, p⟩ => ?_, ?_⟩
  · simp only [evE] at p
    refine ⟨φ, env, S, r, ?_⟩
    cases hl : evL (cxK P k) l env S with
    | ok ds S' =>
      rw [hl] at p
      intro φ' H' a vs x s ha hn hv rv
      exact p (φ' ++ [a]) H' (.ref a) (x.adopt hn) (s.adopt ha ⟨vs, hv, rv⟩) (.loc (by rw [← s.len]; simp))
    | exc x S' => rw [hl] at p; exact p
    | bad => rw [hl] at p; exact p
  · cases l <;> (unfold okL at he'; split at he' <;> first | rfl | cases he')
theorem go_dk0 : GoE P T k .dk0 := GoE.of fun X W st e he => by
  unfold okE at he
  split at he
  · refine ⟨pe_dnewK.imp fun σ H Q ⟨φ, env, S, r, p⟩ => fun q hq => ?_, rfl⟩
    exact Post.alloc p r.sto hq ⟨[], upd_same, .nil⟩
  · cases he
theorem go_dt0 : GoE P T k .dt0 := GoE.of fun X W st e he => by
  unfold okE at he
  split at he
  · refine ⟨pe_dnewT.imp fun σ H Q ⟨φ, env, S, r, p⟩ => fun q hq => ?_, rfl⟩
    exact Post.alloc p r.sto hq ⟨[], upd_same, .nil⟩
  · cases he
theorem go_bin {op : Op} {a b : EX} (iha : GoE P T k a) (ihb : GoE P T k b) : GoE P T k (.bin op a b) := GoE.of fun X W st e he => by
  unfold okE at he
  split at he
  · simp only [Bool.and_eq_true, decide_eq_true_eq] at he
    obtain ⟨⟨rfl, h1⟩, h2⟩ := he
    refine ⟨(pe_op (op_ok st.K op) (iha X W st _ h1).1 (ihb X W st _ h2).1).imp fun σ H Q hq => ?_, rfl⟩
    exact two (h := binD op) hq fun φ S d e H2 x y s r1 r2 p => ⟨_, φ, S, d, e, s, r1, r2, p⟩
  · cases he
theorem go_neg {a : EX} (iha : GoE P T k a) : GoE P T k (.neg a) := GoE.of fun X W st e he => by
  unfold okE at he
  split at he
  · refine ⟨(pe_un un_neg (iha X W st _ he).1).imp fun σ H Q hq => ?_, rfl⟩
    refine one (Q2 := fun x H1 => rU (fun i => .int (-i)) x H1 Q) hq fun φ S d H2 x s r1 p => ?_
    cases d with
    | int i => cases r1; exact ⟨i, rfl, p.ok s (.int _)⟩
    | _ => exact p.elim
  · cases he
theorem go_cmp {op : Cm} {a b : EX} (iha : GoE P T k a) (ihb : GoE P T k b) : GoE P T k (.cmp op a b) := fun X W st e he => by
  unfold okE at he
  split at he
  · simp only [Bool.and_eq_true, decide_eq_true_eq] at he
    obtain ⟨⟨rfl, h1⟩, h2⟩ := he
    have hm := nomark_plain (op := cmpOf op) (okE_plain h2)
    refine ⟨(pe_cmpR (cmp_ok st.hu st.K op) (iha X W st _ h1).1 (ihb X W st _ h2).1 hm).imp fun σ H Q hq => ?_, (pt_cmpR (cmp_ok st.hu st.K op) (iha X W st _ h1).1 (ihb X W st _ h2).1 hm).imp fun σ H Q hq => ?_⟩
    · exact two (h := cmpD op) hq fun φ S d e H2 x y s r1 r2 p => ⟨_, φ, S, d, e, s, r1, r2, p⟩
    · obtain ⟨φ, env, S, r, p⟩ := hq
      refine ⟨φ, env, S, r, ?_⟩
      simp only [evTest, evE] at p
      have as : ∀ {α β γ : Type} (r : Res α) (f : α → Store → Res β) (g : β → Store → Res γ), (r.bind f).bind g = r.bind fun a S => (f a S).bind g := fun r f g => by cases r <;> rfl
      rw [as] at p
      refine p.bind fun d S1 φ1 H1 x _ x1 s1 r1 p1 => ⟨φ1, env, S1, r.ext x1 s1, ?_⟩
      rw [as] at p1
      refine p1.bind fun e S2 φ2 H2 y _ x2 s2 r2 p2 => ?_
      exact ⟨_, φ2, S2, d, e, s2, r1.ext s1 x2, r2, Post.tru (R := RV T) p2⟩
  · cases he
theorem bind_as {α β γ : Type} (r : Res α) (f : α → Store → Res β) (g : β → Store → Res γ) : (r.bind f).bind g = r.bind fun a S => (f a S).bind g := by cases r <;> rfl
theorem go_nt {a : EX} (iha : GoE P T k a) : GoE P T k (.nt a) := fun X W st e he => by
  unfold okE at he
  split at he
  · obtain ⟨h1, h2⟩ := iha X W st _ he
    refine ⟨(pe_not h1).imp fun σ H Q hq => ?_, (pt_not h2).imp fun σ H Q hq => ?_⟩
    · refine one (Q2 := fun x H1 => ∃ c, x = .bl c ∧ Q (.bl (!c)) H1) hq fun φ S d H2 x s r1 p => ?_
      cases d with
      | bl b => cases r1; exact ⟨b, rfl, p.ok s (.bl _)⟩
      | _ => exact p.elim
    · obtain ⟨φ, env, S, r, p⟩ := hq
      refine ⟨φ, env, S, r, ?_⟩
      simp only [evTest, evE] at p ⊢
      rw [bind_as] at p
      cases hd : evE (cxK P k) a env S with
      | ok d S' =>
        rw [hd] at p
        cases d with
        | bl b => exact fun φ' H' c x s rc => by cases rc; exact p φ' H' (!b) x s rfl
        | _ => exact p.elim
      | exc x S' => rw [hd] at p; exact p
      | bad => rw [hd] at p; exact p
  · cases he
end
end Ev
end

section
set_option Elab.async false
set_option linter.all false
set_option maxRecDepth 100000
set_option maxHeartbeats 1000000
set_option autoImplicit false
/-! Ev10: expressions, further. -/
namespace Ev
open PySem PySem.Spec L2
open PyProof.Rows hiding St

section
variable {P : Prg} {T : Wr} {X : Cx} {k : Nat} {W : WX}
theorem lastMarks_plain {o o' : CmpOp} {c : Expr} (h : plainX c = true) (b : Expr) : lastMarks [o, o'] [b, c] = false := nomark_plain (op := o') h
theorem chn_read {fa fb fc : EnvD → Store → Res D} {op op' : Cm} {σ : St} {H : Hp} {Q : VK} {β : Type} {R : Rl D β} {Qb : β → Hp → Prop}
    (last : ∀ (φ : List Addr) (S : Store) (d : D) (H2 : Hp) (x : V), RepS T φ H2 S → RepV T.K φ H2 x d → (∃ b, d = .bl b) → Post T (fun c d H => W c d σ H) R φ H2 (.ok d S) Qb → Q x H2)
    (lastc : ∀ (φ : List Addr) (S : Store) (H2 : Hp) (d e : D), Post T (fun c d H => W c d σ H) R φ H2 (cmpD op' d e S) Qb → Post T (fun c d H => W c d σ H) (RV T) φ H2 (cmpD op' d e S) Q)
    (hq : rd T W R (fun env S => (fa env S).bind fun x S => (fb env S).bind fun y S => (cmpD op x y S).bind fun r S => match r with
      | .bl true => (fc env S).bind fun z S => cmpD op' y z S
      | .bl false => .ok (.bl false) S
      | _ => .bad) σ H Qb) :
    tChain (rD T (cmpD op)) (rD T (cmpD op')) (rdV T W fa) (rdV T W fb) (rdV T W fc) σ H Q := by
  obtain ⟨φ, env, S, r, p⟩ := hq
  refine ⟨φ, env, S, r, p.bind fun d S1 φ1 H1 x _ x1 s1 r1 p1 => ⟨φ1, env, S1, r.ext x1 s1, p1.bind fun e S2 φ2 H2 y _ x2 s2 r2 p2 => ?_⟩⟩
  refine ⟨_, φ2, S2, d, e, s2, r1.ext s1 x2, r2, p2.bind fun z S3 φ3 H3 w e3 x3 s3 r3 p3 => ?_⟩
  obtain ⟨b, rfl, rfl⟩ := cmpD_bl e3
  cases r3
  refine ⟨b, rfl, ?_⟩
  cases b with
  | false =>
    rw [if_neg Bool.false_ne_true]
    exact last φ3 _ _ H3 _ s3 (.bl false) ⟨_, rfl⟩ p3
  | true =>
    rw [if_pos rfl]
    refine ⟨φ3, env, _, (r.ext (x1.trans (x2.trans x3)) s3), p3.bind fun c S4 φ4 H4 v _ x4 s4 r4 p4 => ?_⟩
    exact ⟨_, φ4, S4, e, c, s4, (r2.ext s2 x3).ext s3 x4, r4, lastc φ4 S4 H4 e c p4⟩
theorem bind_ok_inv {α β : Type} {r : Res α} {f : α → Store → Res β} {b : β} {S' : Store} (h : r.bind f = .ok b S') : ∃ a S1, r = .ok a S1 ∧ f a S1 = .ok b S' := by
  cases r with
  | ok a S1 => exact ⟨a, S1, rfl, h⟩
  | exc x S => cases h
  | bad => cases h
theorem post_bl {r : Res D} {φ : List Addr} {H : Hp} {Wk : WXk} {Q : Bool → Hp → Prop} (h : ∀ d S', r = .ok d S' → ∃ b, d = .bl b) (p : Post T Wk RE φ H (r.bind truR) Q) : Post T Wk (RE : Rl D D) φ H r (fun d H' => ∃ b, d = .bl b ∧ Q b H') := by
  cases r with
  | ok d S' =>
    obtain ⟨b, rfl⟩ := h d S' rfl
    intro φ' H' d' x s rd
    have rd : d' = .bl b := rd
    exact ⟨b, rd, p φ' H' b x s rfl⟩
  | exc x S' => exact p
  | bad => exact p
theorem go_chn {op op' : Cm} {a b c : EX} (iha : GoE P T k a) (ihb : GoE P T k b) (ihc : GoE P T k c) : GoE P T k (.chn op a b op' c) := fun X W st e he => by
  unfold okE at he
  split at he
  · simp only [Bool.and_eq_true, decide_eq_true_eq] at he
    obtain ⟨⟨⟨⟨rfl, rfl⟩, h1⟩, h2⟩, h3⟩ := he
    have hm := lastMarks_plain (o := cmpOf op) (o' := cmpOf op') (okE_plain h3)
    refine ⟨(pe_chain (cmp_ok st.hu st.K op) (cmp_ok st.hu st.K op') (iha X W st _ h1).1 (ihb X W st _ h2).1 (ihc X W st _ h3).1 (hm _)).imp fun σ H Q hq => ?_,
      (pt_chain (cmp_ok st.hu st.K op) (cmp_ok st.hu st.K op') (iha X W st _ h1).1 (ihb X W st _ h2).1 (ihc X W st _ h3).1 (hm _)).imp fun σ H Q hq => ?_⟩
    · exact chn_read (R := RV T) (Qb := Q) (fun φ S d H2 x s r _ p => p.ok s r) (fun φ S H2 d e p => p) hq
    · obtain ⟨φ, env, S, r, p⟩ := hq
      refine chn_read (R := (RE : Rl D D)) (Qb := fun d H' => ∃ b, d = .bl b ∧ Q b H') (fun φ S d H2 x s r ⟨b, e⟩ p => ?_) (fun φ S H2 d e p => ?_) ⟨φ, env, S, r, post_bl (fun d S' hd => ?_) p⟩
      · subst e
        cases r
        obtain ⟨b', e', q⟩ := p.ok s rfl
        cases e'
        exact ⟨_, rfl, q⟩
      · cases hc : cmpD op' d e S with
        | ok z S' =>
          rw [hc] at p
          obtain ⟨b, rfl, _⟩ := cmpD_bl hc
          intro φ' H' v x s rv
          cases rv
          obtain ⟨b', e', q⟩ := p φ' H' _ x s rfl
          cases e'
          exact ⟨_, rfl, q⟩
        | exc x S' => rw [hc] at p; exact p
        | bad => rw [hc] at p; exact p
      · simp only [evE] at hd
        obtain ⟨x1, S1, _, hd⟩ := bind_ok_inv hd
        obtain ⟨x2, S2, _, hd⟩ := bind_ok_inv hd
        obtain ⟨x3, S3, h3, hd⟩ := bind_ok_inv hd
        obtain ⟨b, rfl, _⟩ := cmpD_bl h3
        cases b with
        | true =>
          obtain ⟨x4, S4, _, hd⟩ := bind_ok_inv hd
          obtain ⟨b, rfl, _⟩ := cmpD_bl hd
          exact ⟨b, rfl⟩
        | false => cases hd; exact ⟨false, rfl⟩
  · cases he
/-! ### and, or -/
theorem ge_nil : GoEs P T k .nil := fun X W st es he => by
  have : es = [] := List.isEmpty_iff.mp he
  subst this
  exact ⟨pa_nil.imp fun σ H Q ⟨φ, env, S, r, p⟩ => Post.ok p r.sto .nil, fun _ _ h => absurd rfl h⟩
theorem truR_bl {b : Bool} {S : Store} : truR (.bl b) S = .ok b S := rfl
theorem ge_cons {x : EX} {xs : EXs} (ih : GoE P T k x) (ihs : GoEs P T k xs) : GoEs P T k (.cons x xs) := fun X W st es he => by
  cases es with
  | nil => cases he
  | cons e es =>
    have he : (okE X.N X.env.scope x e && okEs X.N X.env.scope xs es) = true := he
    rw [Bool.and_eq_true] at he
    obtain ⟨h1, h2⟩ := ih X W st e he.1
    obtain ⟨k1, k2⟩ := ihs X W st es he.2
    refine ⟨(pa_cons h1 k1 (starEach_plain (okE_plain he.1))).imp fun σ H Q ⟨φ, env, S, r, p⟩ => ?_, fun isAnd pos _ => ?_⟩
    · simp only [evEs] at p
      refine ⟨φ, env, S, r, p.bind fun d S1 φ1 H1 v _ x1 s1 r1 p1 => ⟨φ1, env, S1, r.ext x1 s1, p1.bind fun ds S2 φ2 H2 vs _ x2 s2 r2 p2 => ?_⟩⟩
      exact p2.ok s2 (.cons (r1.ext s1 x2) r2)
    · cases xs with
      | nil =>
        have : es = [] := List.isEmpty_iff.mp he.2
        subst this
        refine ⟨pe_one h1, ?_⟩
        cases isAnd with
        | true => exact pw_and1 h2
        | false => exact pw_or1 h2
      | cons y ys =>
        cases es with
        | nil => cases he.2
        | cons e' es =>
          obtain ⟨m1, m2⟩ := k2 isAnd pos (fun z => nomatch z)
          have ev : ∀ env S, evBs (cxK P k) isAnd (.cons x (.cons y ys)) env S = (evE (cxK P k) x env S).bind fun x S => match x with
            | .bl b => if b = isAnd then evBs (cxK P k) isAnd (.cons y ys) env S else .ok (.bl b) S
            | _ => .bad := fun env S => by
            simp only [evBs]
            try rfl
          have step : ∀ {σ : St} {H : Hp} {Q : VK}, rdV T W (evBs (cxK P k) isAnd (.cons x (.cons y ys))) σ H Q → rdV T W (evE (cxK P k) x) σ H fun z H1 => ∃ c, z = .bl c ∧ (c = isAnd → rdV T W (evBs (cxK P k) isAnd (.cons y ys)) σ H1 Q) ∧ (c ≠ isAnd → Q (.bl c) H1) := fun {σ H Q} ⟨φ, env, S, r, p⟩ => by
            rw [ev] at p
            refine ⟨φ, env, S, r, p.bind fun d S1 φ1 H1 v _ x1 s1 r1 p1 => ?_⟩
            cases d with
            | bl b =>
              cases r1
              refine ⟨b, rfl, fun hb => ⟨φ1, env, S1, r.ext x1 s1, ?_⟩, fun hb => ?_⟩
              · have p1 : Post T _ (RV T) φ1 H1 (if b = isAnd then evBs (cxK P k) isAnd (.cons y ys) env S1 else .ok (.bl b) S1) Q := p1
                rw [if_pos hb] at p1
                exact p1
              · have p1 : Post T _ (RV T) φ1 H1 (if b = isAnd then evBs (cxK P k) isAnd (.cons y ys) env S1 else .ok (.bl b) S1) Q := p1
                rw [if_neg hb] at p1
                exact p1.ok s1 (.bl b)
            | _ => exact p1.elim
          have stepT : ∀ {σ : St} {H : Hp} {Q : Bool → Hp → Prop}, rdB T W (fun env S => (evBs (cxK P k) isAnd (.cons x (.cons y ys)) env S).bind truR) σ H Q → rdB T W (evTest (cxK P k) x) σ H fun c H1 => (c = isAnd → rdB T W (fun env S => (evBs (cxK P k) isAnd (.cons y ys) env S).bind truR) σ H1 Q) ∧ (c ≠ isAnd → Q c H1) := fun {σ H Q} ⟨φ, env, S, r, p⟩ => by
            dsimp only at p
            rw [ev, bind_as] at p
            refine ⟨φ, env, S, r, ?_⟩
            unfold evTest
            cases hd : evE (cxK P k) x env S with
            | ok d S1 =>
              rw [hd] at p
              cases d with
              | bl b =>
                have p : Post T _ RE φ H ((if b = isAnd then evBs (cxK P k) isAnd (.cons y ys) env S1 else .ok (.bl b) S1).bind truR) Q := p
                intro φ1 H1 c x1 s1 rc
                have rc : c = b := rc
                subst rc
                refine ⟨fun hb => ⟨φ1, env, S1, r.ext x1 s1, ?_⟩, fun hb => ?_⟩
                · rw [if_pos hb] at p
                  exact p.ext x1
                · rw [if_neg hb] at p
                  exact p φ1 H1 c x1 s1 rfl
              | _ => exact p.elim
            | exc x S1 => rw [hd] at p; exact p
            | bad => rw [hd] at p; exact p
          cases isAnd with
          | true =>
            refine ⟨(pe_and h1 m1).imp fun σ H Q hq => ?_, ⟨fun wh pins s σ H Q I hq => (pw_and h2 m2).run wh pins s σ H Q I ?_⟩⟩
            · obtain ⟨φ, env, S, r, p⟩ := step hq
              refine ⟨φ, env, S, r, p.imp fun z H1 ⟨c, e, a, b⟩ => ⟨c, e, ?_⟩⟩
              cases c with
              | true => rw [if_pos rfl]; exact a rfl
              | false => rw [if_neg Bool.false_ne_true]; exact b Bool.false_ne_true
            · obtain ⟨φ, env, S, r, p⟩ := stepT hq
              refine ⟨φ, env, S, r, p.imp fun c H1 ⟨a, b⟩ => ?_⟩
              cases c with
              | true => rw [if_pos rfl]; exact a rfl
              | false => rw [if_neg Bool.false_ne_true]; exact b Bool.false_ne_true
          | false =>
            refine ⟨(pe_or h1 m1).imp fun σ H Q hq => ?_, ⟨fun wh pins s σ H Q I hq => (pw_or h2 m2).run wh pins s σ H Q I ?_⟩⟩
            · obtain ⟨φ, env, S, r, p⟩ := step hq
              refine ⟨φ, env, S, r, p.imp fun z H1 ⟨c, e, a, b⟩ => ⟨c, e, ?_⟩⟩
              cases c with
              | true => rw [if_pos rfl]; exact b (fun z => Bool.false_ne_true z.symm)
              | false => rw [if_neg Bool.false_ne_true]; exact a rfl
            · obtain ⟨φ, env, S, r, p⟩ := stepT hq
              refine ⟨φ, env, S, r, p.imp fun c H1 ⟨a, b⟩ => ?_⟩
              cases c with
              | true => rw [if_pos rfl]; exact b (fun z => Bool.false_ne_true z.symm)
              | false => rw [if_neg Bool.false_ne_true]; exact a rfl
theorem go_bop {isAnd : Bool} {xs : EXs} (ih : GoEs P T k xs) : GoE P T k (.bop isAnd xs) := fun X W st e he => by
  unfold okE at he
  split at he
  · simp only [Bool.and_eq_true, decide_eq_true_eq] at he
    obtain ⟨rfl, h1⟩ := he
    cases xs with
    | nil =>
      refine ⟨PE.never.imp fun σ H Q ⟨φ, env, S, r, p⟩ => p, ⟨fun pins s σ H Q I ⟨φ, env, S, r, p⟩ => False.elim p⟩⟩
    | cons y ys =>
      obtain ⟨m1, m2⟩ := (ih X W st _ h1).2 isAnd ‹_› (fun z => nomatch z)
      exact ⟨m1, m2.pt⟩
  · cases he
/-! ### a if t else b -/
theorem go_ife {t a b : EX} (iht : GoE P T k t) (iha : GoE P T k a) (ihb : GoE P T k b) : GoE P T k (.ife t a b) := fun X W st e he => by
  unfold okE at he
  split at he
  · simp only [Bool.and_eq_true] at he
    obtain ⟨⟨h1, h2⟩, h3⟩ := he
    have ev : ∀ env S, evE (cxK P k) (.ife t a b) env S = (evTest (cxK P k) t env S).bind fun k' S => match k' with
      | true => evE (cxK P k) a env S
      | false => evE (cxK P k) b env S := fun env S => by
      simp only [evE, evTest, bind_as]
      try rfl
    refine ⟨(pe_ifExp (iht X W st _ h1).2 (iha X W st _ h2).1 (ihb X W st _ h3).1).imp fun σ H Q ⟨φ, env, S, r, p⟩ => ?_, ⟨fun pins s σ H Q I ⟨φ, env, S, r, p⟩ => ?_⟩⟩
    · rw [ev] at p
      refine ⟨φ, env, S, r, p.bind fun c S1 φ1 H1 c' e1 x1 s1 r1 p1 => ?_⟩
      have r1 : c' = c := r1
      subst r1
      cases c' with
      | true => rw [if_pos rfl]; exact ⟨φ1, env, S1, r.ext x1 s1, p1⟩
      | false => rw [if_neg Bool.false_ne_true]; exact ⟨φ1, env, S1, r.ext x1 s1, p1⟩
    · unfold evTest at p
      rw [ev, bind_as] at p
      refine isTrue_IfExp ?_
      have q : rdB T W (evTest (cxK P k) t) σ H fun c H1 => if c = true then rdB T W (evTest (cxK P k) a) σ H1 Q else rdB T W (evTest (cxK P k) b) σ H1 Q := by
        refine ⟨φ, env, S, r, p.bind fun c S1 φ1 H1 c' e1 x1 s1 r1 p1 => ?_⟩
        have r1 : c' = c := r1
        subst r1
        cases c' with
        | true => rw [if_pos rfl]; exact ⟨φ1, env, S1, r.ext x1 s1, p1⟩
        | false => rw [if_neg Bool.false_ne_true]; exact ⟨φ1, env, S1, r.ext x1 s1, p1⟩
      refine thn ((iht X W st _ h1).2.run pins s σ H _ I q) fun c s1 ⟨H1, I1, q1⟩ => ?_
      cases c with
      | true =>
        rw [if_pos rfl] at q1
        exact (iha X W st _ h2).2.run pins s1 σ H1 Q I1 q1
      | false =>
        rw [if_neg Bool.false_ne_true] at q1
        exact (ihb X W st _ h3).2.run pins s1 σ H1 Q I1 q1
  · cases he
/-! ### subscripts, slices, fields -/
theorem go_sub {a i : EX} (iha : GoE P T k a) (ihi : GoE P T k i) : GoE P T k (.sub a i) := GoE.of fun X W st e he => by
  unfold okE at he
  split at he
  · rw [Bool.and_eq_true] at he
    refine ⟨(pe_ix (ix_D st.hu st.K) (iha X W st _ he.1).1 (ihi X W st _ he.2).1 (plainIx_of (okE_plain he.2))).imp fun σ H Q hq => ?_, rfl⟩
    exact two (h := subD) hq fun φ S d e H2 x y s r1 r2 p => ⟨_, φ, S, d, e, s, r1, r2, p⟩
  · cases he
theorem partR_some {S : Store} {d : D} {φ : List Addr} {H : Hp} {Wk : WXk} {β : Type} {R : Rl D β} {Q : β → Hp → Prop} {f : Int → Store → Res D} {x : V} (rx : RepV T.K φ H x d) (p : Post T Wk R φ H ((partR d S).bind f) Q) : ∃ i, x = .int i ∧ Post T Wk R φ H (f i S) Q := by
  cases d with
  | int i => cases rx; exact ⟨i, rfl, p⟩
  | _ => exact p.elim
theorem go_slc0 {a : EX} (iha : GoE P T k a) : GoE P T k (.slc0 a) := GoE.of fun X W st e he => by
  unfold okE at he
  split at he
  · refine ⟨(pe_slice (sl_D st.K) (iha X W st _ he).1 po_none po_none).imp fun σ H Q hq => ?_, rfl⟩
    exact one (h := fun x S => slcD x none none S) hq fun φ S d H2 x s r1 p => ⟨_, φ, S, d, s, r1, p⟩
  · cases he
theorem go_slcF {a lo : EX} (iha : GoE P T k a) (ihl : GoE P T k lo) : GoE P T k (.slcF a lo) := GoE.of fun X W st e he => by
  unfold okE at he
  split at he
  · rw [Bool.and_eq_true] at he
    refine ⟨(pe_slice (sl_D st.K) (iha X W st _ he.1).1 (po_some (ihl X W st _ he.2).1) po_none).imp fun σ H Q hq => ?_, rfl⟩
    refine two (Q2 := fun x y H2 => ∃ i, y = .int i ∧ rSl T x (some i) none H2 Q) (h := fun x l S => (partR l S).bind fun l S => slcD x (some l) none S) hq fun φ S d e H2 x y s r1 r2 p => ?_
    obtain ⟨i, rfl, p⟩ := partR_some r2 p
    exact ⟨i, rfl, _, φ, S, d, s, r1, p⟩
  · cases he
theorem go_slcT {a hi : EX} (iha : GoE P T k a) (ihl : GoE P T k hi) : GoE P T k (.slcT a hi) := GoE.of fun X W st e he => by
  unfold okE at he
  split at he
  · rw [Bool.and_eq_true] at he
    refine ⟨(pe_slice (sl_D st.K) (iha X W st _ he.1).1 po_none (po_some (ihl X W st _ he.2).1)).imp fun σ H Q hq => ?_, rfl⟩
    refine two (Q2 := fun x y H2 => ∃ i, y = .int i ∧ rSl T x none (some i) H2 Q) (h := fun x l S => (partR l S).bind fun l S => slcD x none (some l) S) hq fun φ S d e H2 x y s r1 r2 p => ?_
    obtain ⟨i, rfl, p⟩ := partR_some r2 p
    exact ⟨i, rfl, _, φ, S, d, s, r1, p⟩
  · cases he
theorem go_slcB {a lo hi : EX} (iha : GoE P T k a) (ihl : GoE P T k lo) (ihh : GoE P T k hi) : GoE P T k (.slcB a lo hi) := GoE.of fun X W st e he => by
  unfold okE at he
  split at he
  · simp only [Bool.and_eq_true] at he
    obtain ⟨⟨h1, h2⟩, h3⟩ := he
    refine ⟨(pe_slice (sl_D st.K) (iha X W st _ h1).1 (po_some (ihl X W st _ h2).1) (po_some (ihh X W st _ h3).1)).imp fun σ H Q ⟨φ, env, S, r, p⟩ => ?_, rfl⟩
    simp only [evE] at p
    refine ⟨φ, env, S, r, p.bind fun d S1 φ1 H1 x _ x1 s1 r1 p1 => ⟨φ1, env, S1, r.ext x1 s1, p1.bind fun l S2 φ2 H2 y _ x2 s2 r2 p2 => ?_⟩⟩
    obtain ⟨i, rfl, p2⟩ := partR_some r2 p2
    refine ⟨i, rfl, φ2, env, S2, r.ext (x1.trans x2) s2, p2.bind fun h S3 φ3 H3 z _ x3 s3 r3 p3 => ?_⟩
    obtain ⟨j, rfl, p3⟩ := partR_some r3 p3
    exact ⟨j, rfl, _, φ3, S3, d, s3, (r1.ext s1 x2).ext s2 x3, p3⟩
  · cases he
theorem go_fld {a : EX} {f : String} (iha : GoE P T k a) : GoE P T k (.fld a f) := GoE.of fun X W st e he => by
  unfold okE at he
  split at he
  · simp only [Bool.and_eq_true, decide_eq_true_eq] at he
    obtain ⟨⟨rfl, h1⟩, h2⟩ := he
    refine ⟨(pe_fld (iha X W st _ h2).1 (base_rcv h1)).imp fun σ H Q hq => ?_, rfl⟩
    refine one (h := fun x S => match x with
      | .loc l => match S[l]? with
        | some (.ins C fs) => if (cxK P k).att C f then okR (fs.lookup f) S else .bad
        | _ => .bad
      | _ => .bad) (by
        obtain ⟨φ, env, S, r, p⟩ := hq
        simp only [evE] at p
        exact ⟨φ, env, S, r, p⟩) fun φ S d H2 x s r1 p => ?_
    cases d with
    | loc l =>
      cases r1 with
      | loc hl =>
        dsimp only at p
        split at p
        · rename_i C fs hS
          split at p
          · rename_i hatt
            rw [cxK_att] at hatt
            obtain ⟨dx, vfs, e1, e2⟩ := s.ob _ _ _ hS hl
            obtain ⟨g, hg, p⟩ := okR_some p
            obtain ⟨v, l1, l2⟩ := (fs_lookup f e2).2 g hg
            obtain ⟨c1, c2⟩ := st.fx.att C f hatt
            exact ⟨_, _, dx, vfs, v, rfl, e1, by rw [st.K]; exact c1, by rw [st.K]; exact c2, l1, p.ok s l2⟩
          · exact p.elim
        · exact p.elim
    | _ => exact p.elim
  · cases he
end
end Ev
end

section
set_option Elab.async false
set_option linter.all false
set_option maxRecDepth 100000
set_option maxHeartbeats 1000000
set_option autoImplicit false
/-! Ev11: calls, comprehensions; all expressions. -/
namespace Ev
open PySem PySem.Spec L2
open PyProof.Rows hiding St

section
variable {P : Prg} {T : Wr} {X : Cx} {k : Nat} {W : WX}
theorem RepVs.vals {K : PySem.W.Frag} {φ : List Addr} {H : Hp} {vs : List V} {ds : List D} (r : RepVs K φ H vs ds) : vs.length = ds.length := r.length
theorem cxK_defd {y : String} (h : (cxK P k).defd y = true) : ∃ d, P.defs y = some d := by
  cases k with
  | zero => simp only [cxK] at h; cases h
  | succ n => simp only [cxK] at h; exact Option.isSome_iff_exists.mp h
theorem cxK_newd {C : String} (h : (cxK P k).newd C = true) : P.gd = false ∧ ∃ d j, P.meths C "__init__" = some d ∧ k = j + 1 := by
  cases k with
  | zero => simp only [cxK] at h; cases h
  | succ n =>
    simp only [cxK, Bool.and_eq_true, Bool.not_eq_true'] at h
    obtain ⟨d, hd⟩ := Option.isSome_iff_exists.mp h.2
    exact ⟨h.1, d, n, hd, rfl⟩
/-- the arguments, then what is called -/
theorem args_read {xs : EXs} {g : List D → Store → Res D} {σ : St} {H : Hp} {Q : VK} {Q2 : List V → Hp → Prop} (hq : rdV T W (fun env S => (evEs (cxK P k) xs env S).bind g) σ H Q)
    (h : ∀ (φ : List Addr) (S : Store) (ds : List D) (H1 : Hp) (vs : List V), RepS T φ H1 S → RepVs T.K φ H1 vs ds → Post T (fun c d H => W c d σ H) (RV T) φ H1 (g ds S) Q → Q2 vs H1) : rds T W (evEs (cxK P k) xs) σ H Q2 := by
  obtain ⟨φ, env, S, r, p⟩ := hq
  exact ⟨φ, env, S, r, p.bind fun ds S1 φ1 H1 vs _ x1 s1 r1 p1 => h φ1 S1 ds H1 vs s1 r1 p1⟩
theorem call_def {y : String} {d : Def} (st : Sit P T X k W) (hd : P.defs y = some d) : ∃ f, X.mg (Str.ofString y) = some (.ref f) ∧ PySem.W.keepIn X.K (.ref f) = true ∧
    ∀ (pins : List (Addr × Obj)) (s : Shared) (σ : St) (H : Hp) (us : List Value) (vs : List V) (Q : VK), L2.Inv X pins σ H s → L2.Vals vs us → spD T (fun ds S => (cxK P k).call y ds S) vs H Q (WE W σ) → wpAny (model X.prog X.w) X.A (call (.ref f) us) (EP X pins σ Q) X.xe s := by
  obtain ⟨f, fd, ps, h1, h2, h3, h4⟩ := st.fx.fn y d hd
  refine ⟨f, h1, by rw [st.K]; exact h2, fun pins s σ H us vs Q I r hq => ?_⟩
  rw [← st.K] at h3 h4
  exact h4.call st.gd st.room h3 st.tk I r hq
theorem go_call {y : String} {xs : EXs} (ih : GoEs P T k xs) : GoE P T k (.call y xs) := GoE.of fun X W st e he => by
  unfold okE at he
  split at he
  · rename_i x p0 es pos0
    rw [Bool.and_eq_true] at he
    obtain ⟨rfl, hg, n1, _⟩ := okG_ok he.1
    refine ⟨?_, rfl⟩
    cases hdf : (cxK P k).defd y with
    | true =>
      have hq' : ∀ {σ H Q}, rdV T W (evE (cxK P k) (.call y xs)) σ H Q → rdV T W (fun env S => (evEs (cxK P k) xs env S).bind fun ds S => (cxK P k).call y ds S) σ H Q := fun {σ H Q} ⟨φ, env, S, r, p⟩ => ⟨φ, env, S, r, by
        simp only [evE] at p; rw [hdf, if_pos rfl] at p; exact p⟩
      obtain ⟨ha, _⟩ := ih X W st es he.2
      obtain ⟨d, hd⟩ := cxK_defd hdf
      obtain ⟨f, h1, h2, h3⟩ := call_def st hd
      cases es with
      | nil =>
        refine (pe_callFn0 (p := p0) (pos := pos0) (R := fun σ vs H Q => spD T (fun ds S => (cxK P k).call y ds S) vs H Q (WE W σ)) h1 h2 hg n1 h3).imp fun σ H Q hq => ?_
        cases xs with
        | nil =>
          obtain ⟨φ, env, S, r, p⟩ := hq' hq
          exact ⟨φ, S, [], r.sto, .nil, p⟩
        | cons x' xs => cases he.2
      | cons e es =>
        cases xs with
        | nil => cases he.2
        | cons x' xs =>
          have hes : (okE X.N X.env.scope x' e && okEs X.N X.env.scope xs es) = true := he.2
          rw [Bool.and_eq_true] at hes
          refine (pe_callFn (p := p0) (pos := pos0) (R := fun σ vs H Q => spD T (fun ds S => (cxK P k).call y ds S) vs H Q (WE W σ)) h1 h2 hg n1 ha (okE_plain hes.1) hes.2 h3).imp fun σ H Q hq => ?_
          exact args_read (hq' hq) fun φ S ds H1 vs s r p => ⟨φ, S, ds, s, r, p⟩
    | false =>
      refine PE.never.imp fun σ H Q ⟨φ, env, S, r, p⟩ => ?_
      simp only [evE] at p
      rw [hdf, if_neg Bool.false_ne_true] at p
      exact p
  · cases he
/-! ### C(..) -/
def newR (T : Wr) (W : WX) (C : String) (g : List D → Store → Res D) : St → List V → Hp → VK → Prop := fun σ vs H Q => ∃ (φ : List Addr) (S : Store) (ds : List D), RepS T φ H S ∧ RepVs T.K φ H vs ds ∧
  Post T (fun c d H => W c d σ H) (RV T) φ H ((noExc (g (.loc S.length :: ds) (S ++ [.ins C []]))).bind fun r S' => match r with
    | .non => .ok (.loc S.length) S'
    | _ => .bad) Q
theorem new_def {C : String} {d : Def} {j : Nat} (hgd : P.gd = false) (st : Sit P T X k W) (hk : k = j + 1) (hd : P.meths C "__init__" = some d) : X.mg (Str.ofString C) = some (.ref (T.ca C)) ∧ PySem.W.keepIn X.K (.ref (T.ca C)) = true ∧
    ∀ (pins : List (Addr × Obj)) (s : Shared) (σ : St) (H : Hp) (us : List Value) (vs : List V) (Q : VK), L2.Inv X pins σ H s → L2.Vals vs us → newR T W C (fun ds S => (cxK P k).init C ds S) σ vs H Q → wpAny (model X.prog X.w) X.A (call (.ref (T.ca C)) us) (EP X pins σ Q) X.xe s := by
  obtain ⟨f, fd, ps, h1, h2, h3, h4⟩ := st.fx.nw hgd C d hd
  subst hk
  refine ⟨h1, by rw [st.K]; exact h2.kp, fun pins s σ H us vs Q I r ⟨φ, S, ds, s1, rs, p⟩ => ?_⟩
  have hK := st.K
  rw [← hK] at h2 h3 h4
  refine run_make (E := fun _ _ _ => False) (dvs := []) h2 h4 st.room h3 .nil (passes_call st.tk fun _ _ _ _ z => z.elim) I r fun x dx hx hdx hne => ?_
  rw [List.append_nil]
  have s2 : RepS T φ (upd H dx (.own x)) S := s1.aside hdx
  have x1 : Ext φ φ H (upd H dx (.own x)) := Ext.aside hdx
  have hx' : (upd H dx (.own x)) x = none := by rw [upd_ne (Ne.symm hne)]; exact hx
  have hxφ := s2.fresh hx'
  have x2 : Ext φ (φ ++ [x]) (upd H dx (.own x)) (upd (upd H dx (.own x)) x (.ins (T.ca C) dx [])) := Ext.alloc hx' hxφ
  have s3 : RepS T (φ ++ [x]) (upd (upd H dx (.own x)) x (.ins (T.ca C) dx [])) (S ++ [.ins C []]) := s2.alloc hx' ⟨dx, [], upd_same, .nil⟩
  have hloc : (φ ++ [x])[S.length]? = some x := by rw [← s1.len]; simp
  refine ⟨φ ++ [x], S ++ [.ins C []], .loc S.length :: ds, s3, .cons (.loc hloc) ((rs.ext s1 x1).ext s2 x2), ?_⟩
  have p := p.ext (x1.trans x2)
  dsimp only at p ⊢
  cases hr : (cxK P (j + 1)).init C (.loc S.length :: ds) (S ++ [.ins C []]) with
  | ok r S' =>
    rw [hr] at p
    cases r with
    | non =>
      intro φ' H' b x' s' rb
      cases rb
      exact ⟨rfl, p φ' H' (.ref x) x' s' (.loc (pre_at x'.pre hloc))⟩
    | _ => exact p.elim
  | exc y S' => rw [hr] at p; exact p.elim
  | bad => rw [hr] at p; exact p.elim
theorem go_new {y : String} {xs : EXs} (ih : GoEs P T k xs) : GoE P T k (.new y xs) := GoE.of fun X W st e he => by
  unfold okE at he
  split at he
  · rename_i x p0 es pos0
    rw [Bool.and_eq_true] at he
    obtain ⟨rfl, hg, n1, _⟩ := okG_ok he.1
    refine ⟨?_, rfl⟩
    cases hdf : (cxK P k).newd y with
    | true =>
      have hq' : ∀ {σ H Q}, rdV T W (evE (cxK P k) (.new y xs)) σ H Q → rdV T W (fun env S => (evEs (cxK P k) xs env S).bind fun ds S => (noExc ((cxK P k).init y (.loc S.length :: ds) (S ++ [.ins y []]))).bind fun r S' => match r with
        | .non => .ok (.loc S.length) S'
        | _ => .bad) σ H Q := fun {σ H Q} ⟨φ, env, S, r, p⟩ => ⟨φ, env, S, r, by
        simp only [evE] at p; rw [hdf, if_pos rfl] at p; exact p⟩
      obtain ⟨ha, _⟩ := ih X W st es he.2
      obtain ⟨hgd, d, j, hd, hk⟩ := cxK_newd hdf
      obtain ⟨h1, h2, h3⟩ := new_def hgd st hk hd
      cases es with
      | nil =>
        refine (pe_callFn0 (p := p0) (pos := pos0) (R := newR T W y fun ds S => (cxK P k).init y ds S) h1 h2 hg n1 h3).imp fun σ H Q hq => ?_
        cases xs with
        | nil =>
          obtain ⟨φ, env, S, r, p⟩ := hq' hq
          exact ⟨φ, S, [], r.sto, .nil, p⟩
        | cons x' xs => cases he.2
      | cons e es =>
        cases xs with
        | nil => cases he.2
        | cons x' xs =>
          have hes : (okE X.N X.env.scope x' e && okEs X.N X.env.scope xs es) = true := he.2
          rw [Bool.and_eq_true] at hes
          refine (pe_callFn (p := p0) (pos := pos0) (R := newR T W y fun ds S => (cxK P k).init y ds S) h1 h2 hg n1 ha (okE_plain hes.1) hes.2 h3).imp fun σ H Q hq => ?_
          exact args_read (hq' hq) fun φ S ds H1 vs s r p => ⟨φ, S, ds, s, r, p⟩
    | false =>
      refine PE.never.imp fun σ H Q ⟨φ, env, S, r, p⟩ => ?_
      simp only [evE] at p
      rw [hdf, if_neg Bool.false_ne_true] at p
      exact p
  · cases he
/-! ### methods -/
def Mt.id : Mt → String × String
  | .append => ("list", "list.append")
  | .extend => ("list", "list.extend")
  | .pop => ("list", "list.pop")
  | .get => ("dict", "dict.get")
  | .update => ("dict", "dict.update")
  | .index => ("list", "list.index")
  | .own _ => ("", "")
theorem kind_ty {m : Mt} {x : V} {d : D} {φ : List Addr} {S : Store} {H : Hp} (hK : X.K = T.K) (r : RepS T φ H S) (rd : RepV T.K φ H x d) (h : kindOk m d S = true) : tyV X.K m.id.1 x H := by
  cases d with
  | loc l =>
    cases rd with
    | loc hl =>
      cases m with
      | get =>
        simp only [kindOk] at h
        split at h
        · rename_i kvs hS
          obtain ⟨vs, h1, _⟩ := r.ob _ _ _ hS hl
          exact .inr (.inr (.inl ⟨rfl, .inl ⟨vs, h1⟩⟩))
        · rename_i kvs hS
          obtain ⟨vs, h1, _⟩ := r.ob _ _ _ hS hl
          exact .inr (.inr (.inl ⟨rfl, .inr ⟨vs, h1⟩⟩))
        · cases h
      | update =>
        simp only [kindOk] at h
        split at h
        · rename_i kvs hS
          obtain ⟨vs, h1, _⟩ := r.ob _ _ _ hS hl
          exact .inr (.inr (.inl ⟨rfl, .inl ⟨vs, h1⟩⟩))
        · rename_i kvs hS
          obtain ⟨vs, h1, _⟩ := r.ob _ _ _ hS hl
          exact .inr (.inr (.inl ⟨rfl, .inr ⟨vs, h1⟩⟩))
        · cases h
      | own q => cases h
      | _ =>
        simp only [kindOk] at h
        split at h
        · rename_i kvs hS
          obtain ⟨vs, h1, _⟩ := r.ob _ _ _ hS hl
          exact .inl ⟨rfl, vs, SqL.of h1⟩
        · cases h
  | _ => cases m <;> cases h
theorem meth_read {a : EX} {m : Mt} {xs : EXs} (hm : ∀ q, m ≠ .own q) (st : Sit P T X k W) {σ : St} {H : Hp} {Q : VK} (hq : rdV T W (evE (cxK P k) (.meth a m xs)) σ H Q) :
    rdV T W (evE (cxK P k) a) σ H fun x H1 => tyV X.K m.id.1 x H1 ∧ rds T W (evEs (cxK P k) xs) σ H1 fun vs H2 => rMt T m x vs H2 Q := by
  obtain ⟨φ, env, S, r, p⟩ := hq
  have ev : evE (cxK P k) (.meth a m xs) env S = (evE (cxK P k) a env S).bind fun x S => if kindOk m x S then (evEs (cxK P k) xs env S).bind fun ds S => methD x m ds S else .bad := by
    cases m with
    | own q => exact absurd rfl (hm q)
    | _ => simp only [evE]
  rw [ev] at p
  refine ⟨φ, env, S, r, p.bind fun d S1 φ1 H1 x _ x1 s1 r1 p1 => ?_⟩
  split at p1
  · rename_i hk
    refine ⟨kind_ty st.K s1 r1 hk, φ1, env, S1, r.ext x1 s1, p1.bind fun ds S2 φ2 H2 vs _ x2 s2 r2 p2 => ?_⟩
    exact ⟨_, φ2, S2, d, ds, s2, r1.ext s1 x2, r2, p2⟩
  · exact p1.elim
theorem go_bm {a : EX} {m : Mt} {xs : EXs} (hm : ∀ q, m ≠ .own q) {T' id : String} (hid : m.id = (T', id)) (iha : GoE P T k a) (ih : GoEs P T k xs) (pa : PlainAttrs T') (slot : Slot T' (Str.ofString m.nm) id) (hty : typeOf (.builtin id) = pure (.type "method_descriptor"))
    (hmt : ∀ X W, Sit P T X k W → MtR X id (rMt T m)) : GoE P T k (.meth a m xs) := GoE.of fun X W st e he => by
  unfold okE at he
  split at he
  · simp only [Bool.and_eq_true, decide_eq_true_eq] at he
    obtain ⟨⟨⟨⟨⟨rfl, h2⟩, h3⟩, h4⟩, h5⟩, h6⟩ := he
    refine ⟨?_, rfl⟩
    have hid1 : m.id.1 = T' := by rw [hid]
    rename_i l _ apos es pos
    cases es with
    | nil =>
      refine (pe_bm0 pa slot hty (hmt X W st) (iha X W st _ h5).1 (base_rcv h2) h3).imp fun σ H Q hq => ?_
      obtain ⟨φ, env, S, r, p⟩ := meth_read hm st hq
      refine ⟨φ, env, S, r, p.imp fun x H1 ⟨h7, φ', env', S', r', p'⟩ => ⟨by rw [← hid1]; exact h7, ?_⟩⟩
      cases xs with
      | nil => exact p'.ok r'.sto .nil
      | cons _ _ => cases h6
    | cons e es =>
      cases xs with
      | nil => cases h6
      | cons x' xs =>
        have hes : (okE X.N X.env.scope x' e && okEs X.N X.env.scope xs es) = true := h6
        rw [Bool.and_eq_true] at hes
        refine (pe_bm pa slot hty (hmt X W st) (iha X W st _ h5).1 (ih X W st _ h6).1 (base_rcv h2) (few_ok h6 h4) h3 (starEach_plain (okE_plain hes.1)) (starEach_none hes.2 _)).imp fun σ H Q hq => ?_
        obtain ⟨φ, env, S, r, p⟩ := meth_read hm st hq
        exact ⟨φ, env, S, r, p.imp fun x H1 ⟨h7, q⟩ => ⟨by rw [← hid1]; exact h7, q⟩⟩
  · cases he
theorem meth_def {C m : String} {d : Def} (st : Sit P T X k W) (hd : P.meths C m = some d) : ∃ f, ∀ a, rcvOk X (Str.ofString m) (fun a σ vs H Q => spD T (fun ds S => (cxK P k).meth C m ds S) (.ref a :: vs) H Q (WE W σ)) a (T.ca C) f := by
  obtain ⟨c, f, fd, ps, h1, h3, h4⟩ := st.fx.mt C m d hd
  rw [← st.K] at c h1 h3 h4
  refine ⟨f, fun a => ⟨c, h1, fun pins s σ H us vs Q I r hq => ?_⟩⟩
  exact h4.call st.gd st.room h3 st.tk I (.cons (show L2.RelV (.ref a) (.ref a) from rfl) r) hq
theorem cxK_methd {C m : String} (h : (cxK P k).methd C m = true) : ∃ d, P.meths C m = some d := by
  cases k with
  | zero => simp only [cxK] at h; cases h
  | succ n => simp only [cxK] at h; exact Option.isSome_iff_exists.mp h
theorem own_read {a : EX} {m : String} {xs : EXs} (st : Sit P T X k W) {σ : St} {H : Hp} {Q : VK} (hq : rdV T W (evE (cxK P k) (.meth a (.own m) xs)) σ H Q) :
    rdV T W (evE (cxK P k) a) σ H fun x H1 => ∃ a C f dx fs, x = .ref a ∧ H1 a = some (.ins C dx fs) ∧ fs.lookup (Str.ofString m) = none ∧ ∃ C', C = T.ca C' ∧ rcvOk X (Str.ofString m) (fun a σ vs H Q => spD T (fun ds S => (cxK P k).meth C' m ds S) (.ref a :: vs) H Q (WE W σ)) a C f ∧
      rds T W (evEs (cxK P k) xs) σ H1 fun vs H2 => spD T (fun ds S => (cxK P k).meth C' m ds S) (.ref a :: vs) H2 Q (WE W σ) := by
  obtain ⟨φ, env, S, r, p⟩ := hq
  simp only [evE] at p
  refine ⟨φ, env, S, r, p.bind fun d S1 φ1 H1 x _ x1 s1 r1 p1 => ?_⟩
  cases d with
  | loc l =>
    cases r1 with
    | @loc a0 _ hl =>
      dsimp only at p1
      split at p1
      · rename_i C fs hS
        split at p1
        · rename_i hc
          rw [Bool.and_eq_true] at hc
          obtain ⟨d, hd⟩ := cxK_methd hc.2
          obtain ⟨f, hf⟩ := meth_def st hd
          obtain ⟨dx, vfs, e1, e2⟩ := s1.ob _ _ _ hS hl
          refine ⟨a0, _, f, dx, vfs, rfl, e1, (fs_lookup m e2).1 (Option.isNone_iff_eq_none.mp hc.1), C, rfl, hf a0, φ1, env, S1, r.ext x1 s1, p1.bind fun ds S2 φ2 H2 vs _ x2 s2 r2 p2 => ?_⟩
          exact ⟨φ2, S2, .loc l :: ds, s2, .cons (.loc (pre_at x2.pre hl)) r2, p2⟩
        · exact p1.elim
      · exact p1.elim
  | _ => exact p1.elim
theorem go_own {a : EX} {m : String} {xs : EXs} (iha : GoE P T k a) (ih : GoEs P T k xs) : GoE P T k (.meth a (.own m) xs) := GoE.of fun X W st e he => by
  unfold okE at he
  split at he
  · simp only [Bool.and_eq_true, decide_eq_true_eq] at he
    obtain ⟨⟨⟨⟨⟨rfl, h2⟩, h3⟩, h4⟩, h5⟩, h6⟩ := he
    refine ⟨?_, rfl⟩
    rename_i l apos es pos
    cases es with
    | nil =>
      refine ⟨fun pins s σ H Q I hq => ?_⟩
      cases xs with
      | nil =>
        have hq := own_read st hq
        refine PySem.W.methodCall_KW (pl := (do return (← importBound l X.env).getD true)) (thn ((iha X W st _ h5).1.run pins s σ H _ I hq) fun u s1 ⟨x, H1, I1, rx, a, C, f, dx, fs, ex, ea, hl, C', _, ⟨c, hm, run⟩, q⟩ => ?_) (eval_meth (base_rcv h2) rfl h3)
        subst ex
        obtain rfl : u = Value.ref a := rx
        refine getmeth_ok I1 ea c hm hl ?_
        obtain ⟨φ', env', S', r', p'⟩ := q
        exact PySem.W.callWith_K0 (first := [.ref a]) I1.kIn hm.kp (run pins s1 σ H1 [] [] Q I1 .nil (p'.ok r'.sto .nil))
      | cons _ _ => cases h6
    | cons e es =>
      cases xs with
      | nil => cases h6
      | cons x' xs =>
        have hes : (okE X.N X.env.scope x' e && okEs X.N X.env.scope xs es) = true := h6
        rw [Bool.and_eq_true] at hes
        have hlen : (e :: es).length < 20 := of_decide_eq_true h4
        refine ⟨fun pins s σ H Q I hq => ?_⟩
        have hq := own_read st hq
        refine PySem.W.methodCall_KW (pl := (do return (← importBound l X.env).getD true)) (thn ((iha X W st _ h5).1.run pins s σ H _ I hq) fun u s1 ⟨x, H1, I1, rx, a, C, f, dx, fs, ex, ea, hl, C', _, ⟨c, hm, run⟩, q⟩ => ?_) (eval_meth (base_rcv h2) ?_ h3)
        · subst ex
          obtain rfl : u = Value.ref a := rx
          refine getmeth_ok I1 ea c hm hl ?_
          refine PySem.W.callWith_K (first := [.ref a]) (h₀ := X.base) I.ok.mod.kin hm.kp (thn ((ih X W st _ h6).1.run pos pins s1 σ H1 _ I1 q) fun us s2 ⟨vs, H2, I2, r, q2⟩ => ⟨I2.kIn, ?_⟩) (starEach_plain (okE_plain hes.1)) (starEach_none hes.2 pos)
          exact run pins s2 σ H2 us vs Q I2 r q2
        · unfold methodCallForm
          rw [starEach_all h6]
          simp only [Bool.true_and, Bool.and_eq_true, decide_eq_true_eq]
          refine ⟨rfl, ?_⟩
          show (e :: es).length + 0 + 0 < 30
          omega
  · cases he
theorem go_meth {a : EX} {m : Mt} {xs : EXs} (iha : GoE P T k a) (ih : GoEs P T k xs) : GoE P T k (.meth a m xs) := by
  cases m with
  | append => exact go_bm (fun q z => by cases z) rfl iha ih PySem.F.plainAttrs_list PySem.F.slot_list_append PySem.F.type_list_append fun X W st => mt_appendD
  | extend => exact go_bm (fun q z => by cases z) rfl iha ih PySem.F.plainAttrs_list PySem.F.slot_list_extend PySem.F.type_list_extend fun X W st => mt_extendD
  | pop => exact go_bm (fun q z => by cases z) rfl iha ih PySem.F.plainAttrs_list PySem.F.slot_list_pop PySem.F.type_list_pop fun X W st => mt_popD
  | get => exact go_bm (fun q z => by cases z) rfl iha ih PySem.F.plainAttrs_dict PySem.F.slot_dict_get PySem.F.type_dict_get fun X W st => mt_getD st.hu
  | update => exact go_bm (fun q z => by cases z) rfl iha ih PySem.F.plainAttrs_dict PySem.F.slot_dict_update PySem.F.type_dict_update fun X W st => mt_updateD st.hu2
  | index => exact go_bm (fun q z => by cases z) rfl iha ih PySem.F.plainAttrs_list PySem.F.slot_list_index PySem.F.type_list_index fun X W st => mt_indexF st.K
  | own m => exact go_own iha ih
/-! ### built-ins -/
def Bf.val : Bf → Value
  | .int => .type "int"
  | .tuple => .type "tuple"
  | .list => .type "list"
  | f => .builtin f.nm
theorem bf_ok (st : Sit P T X k W) (f : Bf) (ho : okBf f P.gd = true) : CallR X f.val (rBf T (bltD f)) := by
  cases f
  · exact cl_len st.K
  · exact cl_abs
  · exact cl_int
  · exact cl_max st.calm
  · exact cl_min st.calm st.K
  · exact cl_isi st.K
  · exact cl_tuple
  · exact cl_list
  · exact cl_repr st.K st.hu2 (st.gd ho)
theorem bf_boot (f : Bf) : bootBuiltins (Str.ofString f.nm) = some f.val := by cases f <;> decide +kernel
theorem bf_name (f : Bf) : f.nm ∈ bltNames := by cases f <;> decide
theorem go_blt {f : Bf} {xs : EXs} (ih : GoEs P T k xs) : GoE P T k (.blt f xs) := GoE.of fun X W st e he => by
  unfold okE at he
  split at he
  · rename_i x p0 es pos0
    simp only [Bool.and_eq_true] at he
    obtain ⟨⟨h1, h2⟩, h3⟩ := he
    obtain ⟨rfl, hg, n1, n2⟩ := okG_ok h1
    refine ⟨?_, rfl⟩
    cases es with
    | nil => cases h2
    | cons e es =>
      cases xs with
      | nil => cases h3
      | cons x' xs =>
        have hes : (okE X.N X.env.scope x' e && okEs X.N X.env.scope xs es) = true := h3
        rw [Bool.and_eq_true] at hes
        have hm := st.fx.blt _ (bf_name f)
        have hv := bf_boot f
        have hgd : (cxK P k).gd = P.gd := by cases k <;> simp only [cxK]
        cases ho : okBf f P.gd with
        | false =>
          refine PE.never.imp fun σ H Q ⟨φ, env, S, r, p⟩ => ?_
          simp only [evE, hgd, ho, Bool.false_eq_true, if_false] at p
          exact False.elim p
        | true =>
        have hc := bf_ok st f ho
        have main : PE X (.Call (.Name (Str.ofString f.nm) p0) (e :: es) [] pos0) (tCB (rBf T (bltD f)) (rds T W (evEs (cxK P k) (.cons x' xs)))) := by
          cases f with
          | int => exact pe_callTy hc hg hm hv (ih X W st _ h3).1 n2 n1 (starEach_plain (okE_plain hes.1)) (starEach_none hes.2 _)
          | tuple => exact pe_callTy hc hg hm hv (ih X W st _ h3).1 n2 n1 (starEach_plain (okE_plain hes.1)) (starEach_none hes.2 _)
          | list => exact pe_callTy hc hg hm hv (ih X W st _ h3).1 n2 n1 (starEach_plain (okE_plain hes.1)) (starEach_none hes.2 _)
          | _ => exact pe_callB hc hg hm hv (ih X W st _ h3).1 n2 n1 (starEach_plain (okE_plain hes.1)) (starEach_none hes.2 _)
        refine main.imp fun σ H Q hq => ?_
        refine args_read (g := bltD f) ?_ fun φ S ds H1 vs s r p => ⟨_, φ, S, ds, s, r, p⟩
        obtain ⟨φ, env, S, r, p⟩ := hq
        simp only [evE, hgd, ho, if_true] at p
        exact ⟨φ, env, S, r, p⟩
  · cases he
def Bl.val : Bl → Value
  | .tuple => .type "tuple"
  | .dict => .type "dict"
  | f => .builtin f.nm
theorem bl_ok (st : Sit P T X k W) (f : Bl) : CallR X f.val (rBl T (bllD f)) := by
  cases f
  · exact cb_all st.calm
  · exact cb_any st.calm
  · exact cb_tuple
  · exact cb_len
  · exact cb_dict st.hu2 st.calm
  · exact cb_min st.calm st.hu st.K
theorem bl_boot (f : Bl) : bootBuiltins (Str.ofString f.nm) = some f.val := by cases f <;> decide +kernel
theorem bl_name (f : Bl) : f.nm ∈ bltNames := by cases f <;> decide
theorem go_bll {f : Bl} {l : LX} (ih : GoL P T k l) : GoE P T k (.bll f l) := GoE.of fun X W st e he => by
  unfold okE at he
  split at he
  · rename_i x p0 r0 pos0
    rw [Bool.and_eq_true] at he
    obtain ⟨rfl, hg, n1, n2⟩ := okG_ok he.1
    refine ⟨?_, rfl⟩
    have hm := st.fx.blt _ (bl_name f)
    have hv := bl_boot f
    have hc := bl_ok st f
    have hp := okL_plain he.2
    have ha : PA X [r0] (tCons (rdL T W (evL (cxK P k) l)) tNil) := pa_cons (ih X W st _ he.2) pa_nil (starEach_plain hp)
    have main : PE X (.Call (.Name (Str.ofString f.nm) p0) [r0] [] pos0) (tCB (rBl T (bllD f)) (tCons (rdL T W (evL (cxK P k) l)) tNil)) := by
      cases f with
      | tuple => exact pe_callTy hc hg hm hv ha n2 n1 (starEach_plain hp) rfl
      | dict => exact pe_callTy hc hg hm hv ha n2 n1 (starEach_plain hp) rfl
      | _ => exact pe_callB hc hg hm hv ha n2 n1 (starEach_plain hp) rfl
    refine main.imp fun σ H Q ⟨φ, env, S, r, p⟩ => ?_
    simp only [evE] at p
    refine ⟨φ, env, S, r, ?_⟩
    cases hl : evL (cxK P k) l env S with
    | ok ds S' =>
      rw [hl] at p
      intro φ' H' a vs x s ha hn hv rv
      exact ⟨_, φ', S', ds, a, vs, rfl, hv, s, rv, p.ext x⟩
    | exc x S' => rw [hl] at p; exact p
    | bad => rw [hl] at p; exact p
  · cases he
end
end Ev
end

section
set_option Elab.async false
set_option linter.all false
set_option maxRecDepth 100000
set_option maxHeartbeats 1000000
set_option autoImplicit false
/-! Ev11l: f(lambda: e), f a def that calls it and tells a word. -/
namespace Ev
open PySem PySem.Spec L2
open PyProof.Rows hiding St

/-- where the def g runs that got a lambda -/
abbrev inG (X : Cx) (x a : Str) (sg : Scope) (g : Addr) (cdg : Value) (s : Shared) (H : Hp) : Cx := cxOf C8.CX0 X.prog X.w X.K X.mg X.base [a] x sg g cdg X.A X.stack s H C8.E0
section
variable {X : Cx} {pins : List (Addr × Obj)} {σ : L2.St} {H : Hp} {s : Shared}
theorem thunk {x a : Str} {sg scope : Scope} {g f c' : Addr} {cdg pm ctv : Value} {ps : Arguments} {body : Expr} {j : Nat} {pn : List (Addr × Obj)} {xe : Value → Shared → Prop} {V0 : WX} {E : XK} {tb : TE} {p1 p2 : Pos}
    (I : L2.Inv X pins σ H s) (L : LamX.LamS X.env.scope scope)
    (at_f : s.heap.get? f = some (PySem.W.kla_obj "<lambda>" (X.env.qual ++ "<lambda>") ps body scope (cloFrom X.env.cells scope.names []) pm c' ctv))
    (new_f : H f = none) (out_f : f ∉ frs X.stack)
    (bound : bindArgs (PySem.W.kla_fn "<lambda>" (X.env.qual ++ "<lambda>") ps body scope (cloFrom X.env.cells scope.names []) pm (.ref c') ctv) ⟨[], []⟩ = pure [])
    (tk : Takes ((inG X x a sg g cdg s H).tr pn xe) V0) (pass : ∀ c d σ' H', E c d H' → V0 c d σ' H')
    (room : Room (j + 1) (X.A.deeper (envOfC x sg s.heap.objs.size g cdg)))
    (run : ∀ (s1 : Shared) (H1 : Hp), Room j ((X.A.deeper (envOfC x sg s.heap.objs.size g cdg)).deeper (LamX.lamEnv X scope s1.heap.objs.size f c')) →
      PE (LamX.lamCx X (X.A.deeper (envOfC x sg s.heap.objs.size g cdg)) (envOfC x sg s.heap.objs.size g cdg :: X.stack) s1 H1 E scope f c') body tb)
    (vis : okV [a] sg 0 a = true) :
    PE ((inG X x a sg g cdg s H).tr pn xe) (.Call (.Name a p1) [] [] p2) (fun σZ HZ Q => σZ[0]? = some (some (.ref f)) ∧ HZ c' = some (LamX.CodeO c' (X.env.qual ++ "<lambda>")) ∧ tb σ HZ Q) := by
  unfold okV at vis
  simp only [Bool.and_eq_true, decide_eq_true_eq] at vis
  obtain ⟨n1, n2, _⟩ := plainN_ok vis.2
  constructor
  rintro pins2 s2 σ2 H2 Q I2 ⟨slot, code, q⟩
  refine wpAny_Call_Name_kw (thn ((pe_var (pos := p1) (i := 0) rfl (visB_ok vis.1.2) n1 n2).run pins2 s2 σ2 H2 (fun v K => v = .ref f ∧ K = H2) I2 ⟨.ref f, slot, rfl, rfl⟩) ?_)
  rintro u s3 ⟨v, H3, I3, rv, rfl, rfl⟩
  obtain rfl : u = Value.ref f := rv
  have none_in : ∀ {b : Addr}, b ∉ ([] : List Addr) := fun z => nomatch z
  have at3 := I3.base.keep f _ at_f new_f out_f none_in
  refine PySem.W.callWith_F0 ⟨_, _, _, _, at3⟩ ?_
  have un : Un (frs X.stack) [] H H3 s.heap s3.heap := I3.base
  obtain ⟨⟨oc, vs, t, k1, k2, k3⟩, -, -⟩ := I3.hok c' _ code
  have depth := room.depth
  have E0 := I3.env0
  have inner : codeAny (model X.prog X.w) (X.A.deeper (envOfC x sg s.heap.objs.size g cdg)) (.call (.ref f) ⟨[], []⟩) (CR (L2.CX X.prog X.w) (envOfC x sg s.heap.objs.size g cdg :: X.stack) X.prog X.w H3 s3 Q E) s3 := by
    refine PySem.W.kla_callFunE depth at3 rfl L.co L.gen rfl ⟨c', oc, vs, t, rfl, k1, k2, k3⟩ ?_
    rw [bound]
    refine wpAny_pure (wpAny_newFunctionEnv (fun y hy => (L.own y hy).2) (fun y hy => nomatch hy) (fun h1 ns sub => ⟨I3.nolimit.fresh _ sub, ?_⟩) L.kind)
    show codeAny _ _ (.expr body (LamX.lamEnv X scope s3.heap.objs.size f c')) _ _
    have older : ∀ b o, s3.heap.get? b = some o → h1.get? b = some o := fun b o e => by
      have := Heap.lt_size e
      exact sub.extBut b o (Nat.ne_of_lt this) (Heap.get?_push_of_some _ e)
    have J := LamX.lam_start2 (E := E) (f := f) (c' := c') (tk := s3.toks + ([] : List (Str × Value)).length) I L E0 room.hd un ns older
    have go := (run s3 H3 (room.deeper _)).run [] _ _ H3 Q J q
    refine PySem.W.kla_codeExpr (wpAny_mono go ?_ fun e s' z => z)
    rintro v s' ⟨w, H', J', rw', q'⟩
    exact ⟨w, H', J'.os, J'.bare, J'.base, J'.hok, rw', q'⟩
  have out := passes_call tk pass
  refine wpAny_call (codeAny_mono inner ?_)
  intro r s' z
  rcases r with e | fl
  · exact out pins2 σ2 H3 s3 e s' I3 z
  · cases fl with
    | ret u => exact I3.after z
    | next => exact z.elim
    | brk => exact z.elim
    | cont => exact z.elim
/-- the clauses -/
def hdsL (T : Wr) (hs : List (String × Str)) : List (Value × (Addr → Value → Option Addr → TS)) := hs.map fun h => (.ref (T.ca h.1), fun _ _ _ D σ H => D.rt (.str h.2) H)
theorem hds_ok {P : Prg} {T : Wr} {Z : Cx} {sg : Scope} {j : Nat} (fx : Facts P T Z.prog Z.w Z.mg Z.base j) (hsg : Z.env.scope = sg) : ∀ (hs : List (String × Str)) (hds : List ExceptHandler), hdTx sg hs hds = true → (∀ h ∈ hs, P.xc h.1 = true) → HdsOk Z hds (hdsL T hs)
  | [], [], _, _ => .nil
  | [], _ :: _, h, _ => by cases h
  | h :: hs, [], e, _ => by cases e
  | (C, w) :: hs, hd :: hds, e, q => by
    unfold hdTx at e
    split at e
    · rename_i h; cases h
    · rename_i C' w' hs' e' p1 r j' p2 p3 p4 hds' e1 e2
      cases e1; cases e2
      simp only [Bool.and_eq_true, decide_eq_true_eq] at e
      obtain ⟨⟨g1, rfl⟩, g3⟩ := e
      obtain ⟨rfl, hg, d1, d2⟩ := okG_ok g1
      obtain ⟨m1, _⟩ := fx.xc C (q _ List.mem_cons_self)
      refine .cons ⟨by show Z.env.scope.names.lookup _ = _; rw [hsg]; exact hg, d1, .inl m1⟩ (fun a oe cls d pn _ _ => ?_) (hds_ok fx hsg hs hds g3 fun h hh => q h (List.mem_cons_of_mem _ hh))
      exact pss_one (ps_ret pe_str)
    · cases e
/-- what the clauses make of an exception -/
theorem wish_ok {P : Prg} {T : Wr} {K : PySem.W.Frag} {D : Ends} {C : String} {d : Option Addr} {σ : L2.St} {H : Hp} (hx : ∀ C', P.xc C' = true → PySem.W.exmOne K (.ref (T.ca C)) (.ref (T.ca C')) = some (decide (C = C'))) : ∀ (hs : List (String × Str)), (∀ h ∈ hs, P.xc h.1 = true) →
    (∀ h, hs.find? (fun h => decide (h.1 = C)) = some h → D.rt (.str h.2) H) → (hs.find? (fun h => decide (h.1 = C))).isSome = true → wMany K (fun _ _ _ _ => False) D (hdsL T hs) (.ref (T.ca C)) d σ H
  | [], _, _, h => by cases h
  | (C', w') :: hs, q, r, h => by
    refine ⟨decide (C = C'), hx C' (q _ List.mem_cons_self), fun e a _ => ?_, fun e => ?_⟩
    · have e := of_decide_eq_true e
      exact r (C', w') (by rw [List.find?_cons, decide_eq_true e.symm])
    · have e := of_decide_eq_false e
      have e2 : decide (C' = C) = false := decide_eq_false fun z => e z.symm
      rw [List.find?_cons, e2] at h
      exact wish_ok hx hs (fun h hh => q h (List.mem_cons_of_mem _ hh)) (fun g hg => r g (by rw [List.find?_cons, e2]; exact hg)) h
end
/-! ### other names in the slots that nobody sees -/
section
variable {X : Cx} {N' : List Str} {pins : List (Addr × Obj)} {σ : L2.St} {H : Hp} {s : Shared}
theorem Inv_ren (I : L2.Inv X pins σ H s) (len : N'.length = X.N.length) (h : ∀ (i : Nat) (x : Str), N'[i]? = some x → Vis X.env.scope x → X.N[i]? = some x) : L2.Inv { X with N := N' } pins σ H s := by
  obtain ⟨ok, g1, g2, g3, ⟨m, l1, l2⟩, g5, g6, g7, g8, g9, g10⟩ := I
  obtain ⟨k1, k2, k3, k4, k5, k6, k7, k8, k9, k10, k11, k12, k13, k14, k15, k16, k17, k18⟩ := ok
  exact ⟨⟨k1, k2, k3, k4, k5, k6, k7, k8, k9, k10, k11, k12, k13, k14, k15, k16, k17, k18⟩, g1, g2, g3, ⟨m, l1, fun i x v e1 e2 e3 => l2 i x v (h i x e1 e3) e2 e3⟩, g5, g6, g7, g8, g9, g10.trans len.symm⟩
theorem Inv_back (I : L2.Inv { X with N := N' } pins σ H s) (len : N'.length = X.N.length) (h : ∀ (i : Nat) (x : Str), X.N[i]? = some x → Vis X.env.scope x → N'[i]? = some x) : L2.Inv X pins σ H s := by
  obtain ⟨ok, g1, g2, g3, ⟨m, l1, l2⟩, g5, g6, g7, g8, g9, g10⟩ := I
  obtain ⟨k1, k2, k3, k4, k5, k6, k7, k8, k9, k10, k11, k12, k13, k14, k15, k16, k17, k18⟩ := ok
  exact ⟨⟨k1, k2, k3, k4, k5, k6, k7, k8, k9, k10, k11, k12, k13, k14, k15, k16, k17, k18⟩, g1, g2, g3, ⟨m, l1, fun i x v e1 e2 e3 => l2 i x v (h i x e1 e3) e2 e3⟩, g5, g6, g7, g8, g9, g10.trans len⟩
theorem PE_ren {e : Expr} {t : TE} (p : PE { X with N := N' } e t) (len : N'.length = X.N.length) (h1 : ∀ (i : Nat) (x : Str), N'[i]? = some x → Vis X.env.scope x → X.N[i]? = some x) (h2 : ∀ (i : Nat) (x : Str), X.N[i]? = some x → Vis X.env.scope x → N'[i]? = some x) : PE X e t :=
  ⟨fun pins s σ H Q I q => wpAny_mono (p.run pins s σ H Q (Inv_ren I len h1) q) (fun u s' ⟨v, H', I', rv, z⟩ => ⟨v, H', Inv_back I' len h2, rv, z⟩) fun _ _ z => z⟩
end
theorem vis_B {sc : Scope} {x : Str} (h : Vis sc x) : visB sc x = true := by
  unfold visB
  rcases h with h | h | h <;> rw [h]
theorem unmark_vis {N : List Str} {sc : Scope} (h1 : visB sc "<lambda>" = false) (h2 : visB sc "<none>" = false) (i : Nat) (x : Str) (hv : Vis sc x) : (unmark N)[i]? = some x ↔ N[i]? = some x := by
  have hv := vis_B hv
  unfold unmark
  rw [List.getElem?_map]
  cases N[i]? with
  | none => simp
  | some y =>
    simp only [Option.map_some, Option.some.injEq]
    by_cases e : y = "<lambda>"
    · rw [if_pos e, e]
      constructor
      · rintro rfl; rw [h2] at hv; cases hv
      · rintro rfl; rw [h1] at hv; cases hv
    · rw [if_neg e]
section
variable {P : Prg} {T : Wr} {k : Nat}
theorem ext_tabs {φ : List Addr} {H H1 : Hp} {S : Store} (s : RepS T φ H S) (e : LamX.ExtN H H1) (t : LamX.Tabs T.tabs H1) : Ext φ φ H H1 ∧ RepS T φ H1 S := by
  have x : Ext φ φ H H1 := ⟨List.prefix_refl _, fun a h => .inl h, fun b o h _ n => e b o h n⟩
  refine ⟨x, s.len, s.nd, fun l o a e1 e2 => ?_, t⟩
  have h := s.ob l o a e1 e2
  obtain ⟨u, eu, _, hu⟩ := h.mut
  exact h.ext s x ((e a u eu hu).trans eu.symm)
theorem lamP_ok {ps : Arguments} (h : lamP ps = true) : ps = ⟨[], [], none, [], [], none, []⟩ := by
  unfold lamP at h
  split at h
  · rfl
  · cases h
theorem go_lamw {x : String} {b : EX} (ih : ∀ j, GoE P T j b) : GoE P T k (.lamw x b) := GoE.of fun X W st e he => by
  unfold okE at he
  split at he
  · rename_i xn p0 ps body scope lpos pos
    simp only [Bool.and_eq_true] at he
    obtain ⟨⟨⟨⟨⟨h1, h2⟩, h3⟩, h4⟩, ⟨⟨⟨u1, u2⟩, u3⟩, u4⟩⟩, h5⟩ := he
    simp only [decide_eq_true_eq, Bool.not_eq_true'] at u1 u2 u3 u4
    obtain ⟨rfl, hg, n1, _⟩ := okG_ok h1
    refine ⟨?_, rfl⟩
    have never : (∀ env S, evE (cxK P k) (.lamw x b) env S = .bad) → PE X (.Call (.Name (Str.ofString x) p0) [.Lambda ps body scope lpos] [] pos) (rdV T W (evE (cxK P k) (.lamw x b))) := fun z => by
      refine PE.never.imp fun σ H Q ⟨φ, env, S, r, p⟩ => ?_
      rw [z] at p
      exact p
    match k, st with
    | 0, st => exact never fun env S => by simp only [evE, cxK]
    | 1, st => exact never fun env S => by simp only [evE, cxK]
    | j + 2, st =>
      cases hw : P.wrd x with
      | none => exact never fun env S => by simp only [evE, cxK, hw, wordR]
      | some ht =>
        obtain ⟨hs, told⟩ := ht
        obtain ⟨g, fd, pg, bg, sg, a, mg, F, hb, SG, va, tx, xcs⟩ := st.fx.wrd x hs told hw
        obtain ⟨hcode, Pt, hT⟩ := st.lm h2
        have TB := st.fx.tbs (Pt, X.env.qual ++ "<lambda>") (by rw [hT]; exact List.mem_singleton.mpr rfl)
        have L := LamX.lamS_by h4
        obtain rfl := lamP_ok h3
        have low := st.low j (Nat.le_refl _)
        obtain ⟨oc, od, dV, kV, doc, pm0, an, cdv, ct, osl, rfl, lk, hcd, -, -⟩ := F.ex
        rw [← st.K] at lk hcd
        -- the def's text
        unfold wordTx at tx
        split at tx
        rotate_left
        · cases tx
        rename_i b1 q1 q2 q3 hds q4 r1 i1 q5 q6
        simp only [Bool.and_eq_true, decide_eq_true_eq, Bool.not_eq_true'] at tx
        obtain ⟨⟨⟨rfl, rfl⟩, t3⟩, t4⟩ := tx
        cases hds with
        | nil => cases hs with
          | nil => cases t3
          | cons h hs => cases t4
        | cons h0 hds =>
        constructor
        rintro pins s σ H Q I ⟨φ, env, S, r, p⟩
        simp only [evE, cxK, hw] at p
        have hfree := L.has I.ok
        refine wpAny_Call_Name_kw (ld_glob I hg mg ?_ n1)
        refine PySem.W.callWith_K (h₀ := X.base) I.ok.mod.kin (by rw [st.K]; exact F.kp) ?_ (by rfl) (by rfl)
        change wpAny _ _ (spliced [(false, eval (.Lambda ⟨[], [], none, [], [], none, []⟩ body scope lpos) X.env)]) _ _ s
        have sole : ∀ p ∈ T.tabs, p.1 = Pt → p.2 = X.env.qual ++ "<lambda>" := fun p hp _ => by
          rw [hT] at hp
          rw [List.mem_singleton.mp hp]
        refine Calls.spliced_cons (LamX.lam_make2 (T := T.tabs) I TB hcode (by rw [hT]; exact List.mem_singleton.mpr rfl) sole r.sto.tab (by rfl) hfree ?_)
        intro f c' pm ctv H1 s1 I1 eN T1 at_f new_f out_f co
        refine Calls.spliced_nil ⟨I1.kIn, ?_⟩
        obtain ⟨x1, s1'⟩ := ext_tabs r.sto eN T1
        have rr := r.ext x1 s1'
        have pp := p.ext x1
        have inner : codeAny (model X.prog X.w) X.A (.call (.ref g) ⟨[.ref f], []⟩) (CR C8.CX0 X.stack X.prog X.w H1 s1 Q C8.E0) s1 := by
          refine LamX.run_ofS (N := [b1]) (ps := [b1]) (us := [.ref f]) (vs := [.ref f]) lk hcd SG st.room I1.env0 (by have := hb s1 [.ref f] (by rw [← st.K]; exact I1.kIn) rfl; exact this) (.cons rfl .nil) rfl fun room => ?_
          refine ⟨_, PSs.nox (pss_cons (ps_try_many (X := (inG X (Str.ofString x) b1 sg g cdv s1 H1).nox) (Wout := fun _ _ _ _ => False)
            (tb := fun V0 D σ2 H2 => ∃ E : XK, (∀ c d σ' H', E c d H' → V0 c d σ' H') ∧ σ2[0]? = some (some (.ref f)) ∧ H2 c' = some (LamX.CodeO c' (X.env.qual ++ "<lambda>")) ∧ rdV T (fun c d _ H => E c d H) (evE (cxK P j) b) σ H2 fun _ H' => D.nx σ2 H')
            rfl rfl LamX.takes0 (fun V0 pn xe tk _ => ?_) (hds_ok (Z := (inG X (Str.ofString x) b1 sg g cdv s1 H1).nox) (sg := sg) (j := j) low rfl hs (h0 :: hds) t4 xcs)) (pss_one (ps_ret pe_str))), ?_⟩
          · refine ⟨fun pins3 s3 σ3 H3 D I3 ⟨E, pass, g1, g2, g3⟩ => ?_⟩
            have hp := thunk (E := E) (tb := rdV T (fun c d _ H => E c d H) (evE (cxK P j) b)) (p1 := q1) (p2 := q2) (xe := xe) (pn := pn) I1 L at_f new_f out_f (by rfl) tk pass room (fun s4 H4 rm => ?_) va
            · have hq := pss_one (ps_expr (pos := q3) hp (by rfl))
              exact hq.run pins3 s3 σ3 H3 D I3 ⟨g1, g2, g3⟩
            · refine PE_ren (N' := unmark X.N) ?_ (by unfold unmark; rw [List.length_map]; rfl) (fun i y e v => (unmark_vis u3 u4 i y v).mp e) (fun i y e v => (unmark_vis u3 u4 i y v).mpr e)
              refine ((ih j) { LamX.lamCx X (X.A.deeper (envOfC (Str.ofString x) sg s1.heap.objs.size g cdv)) (envOfC (Str.ofString x) sg s1.heap.objs.size g cdv :: X.stack) s4 H4 E scope f c' with N := unmark X.N } (fun c d _ H => E c d H) ⟨rfl, u1, rm, st.gd, takes_of rfl rfl rfl rfl, st.K, low, fun i hi => st.low i (by omega), fun z => ?_⟩ body h5).1
              rw [show lamMark (unmark X.N) = true from z] at u2
              cases u2
          · refine ⟨fun c d H' => ∀ σ', wMany X.K (fun _ _ _ _ => False) { nx := fun _ H' => Q (.str r1) H', rt := Q } (hdsL T hs) c d σ' H', fun c d σ' H' z => z σ', rfl, co, φ, env, S, rr, ?_⟩
            cases he' : evE (cxK P j) b env S with
            | ok d S' =>
              rw [he'] at pp
              intro φ2 H2 v x2 s2 rv
              exact pp φ2 H2 (.str r1) x2 s2 (.str r1)
            | exc y S' =>
              rw [he'] at pp
              unfold wordR at pp
              dsimp only at pp
              split at pp
              · rename_i hy
                split at pp
                · rename_i h hh
                  rintro φ2 H2 cls dx x2 s2 ⟨rfl, _, _⟩ σ'
                  refine wish_ok (P := P) (fun C' hC => by rw [st.K]; exact low.exm _ C' hy hC) hs xcs (fun h' e => ?_) (by rw [hh]; rfl)
                  rw [hh] at e
                  cases e
                  exact pp φ2 H2 (.str h.2) x2 s2 (.str h.2)
                · exact pp.elim
              · exact pp.elim
            | bad => rw [he'] at pp; exact pp
        refine wpAny_call (codeAny_mono inner fun r s2 z => ?_)
        rcases r with e | fl
        · exact (show False from z).elim
        · cases fl with
          | ret u => exact I1.after z
          | next => exact z.elim
          | brk => exact z.elim
          | cont => exact z.elim
  · cases he
end
end Ev
end

section
set_option Elab.async false
set_option linter.all false
set_option maxRecDepth 100000
set_option maxHeartbeats 1000000
set_option autoImplicit false
/-! Ev12: what is walked, lists, comprehensions; every expression. -/
namespace Ev
open PySem PySem.Spec L2
open PyProof.Rows hiding St

section
variable {P : Prg} {T : Wr} {X : Cx} {k : Nat} {W : WX}
theorem gi_val {e : EX} (ih : GoE P T k e) : GoI P T k (.val e) := fun X W st tg pe he _ => by
  refine ⟨fun pins s σ H R I ⟨φ, env, S, r, p⟩ => ?_⟩
  simp only [evIt] at p
  refine thn ((ih X W st pe he).1.run pins s σ H _ I ⟨φ, env, S, r, p.bind fun d S1 φ1 H1 x _ x1 s1 r1 p1 => (⟨_, φ1, S1, d, s1, r1, p1⟩ : rIt T itD x H1 R)⟩) fun v s1 ⟨x, H1, I1, rx, q⟩ => ?_
  exact pyIter_D st.K I1 rx q
theorem PI.imp' {tg e : Expr} {t t' : TI} (h : PI X tg e t) (i : ∀ σ H R, t' σ H R → t σ H R) : PI X tg e t' := ⟨fun pins s σ H R I q => h.run pins s σ H R I (i σ H R q)⟩
theorem small62_ok {i : Int} (h : small62 i = true) : -(2 ^ 62) ≤ i ∧ i < 2 ^ 62 := by
  unfold small62 at h
  have := of_decide_eq_true h
  omega
theorem range_nm : "range" ∈ bltNames := by decide
theorem gi_rng1 {a : EX} (iha : GoE P T k a) : GoI P T k (.rng1 a) := fun X W st tg e he _ => by
  unfold okI at he
  split at he
  · rw [Bool.and_eq_true] at he
    obtain ⟨rfl, hg, n1, n2⟩ := okG_ok he.1
    have hp := okE_plain he.2
    refine PI.imp' (pi_range1 (tg := tg) hg (st.fx.blt _ range_nm) (pa_cons (iha X W st _ he.2).1 pa_nil (starEach_plain hp)) (starEach_plain hp)) fun σ H R ⟨φ, env, S, r, p⟩ => ?_
    simp only [evIt] at p
    refine ⟨φ, env, S, r, p.bind fun d S1 φ1 H1 x _ x1 s1 r1 p1 => ?_⟩
    cases d with
    | int n =>
      cases r1
      dsimp only at p1
      split at p1
      · rename_i hs
        obtain ⟨b1, b2⟩ := small62_ok hs
        exact ⟨n, rfl, b1, b2, p1.ok s1 RI.rng⟩
      · exact p1.elim
    | _ => exact p1.elim
  · cases he
theorem gi_rng2 {a b : EX} (iha : GoE P T k a) (ihb : GoE P T k b) : GoI P T k (.rng2 a b) := fun X W st tg e he _ => by
  unfold okI at he
  split at he
  · simp only [Bool.and_eq_true] at he
    obtain ⟨⟨h1, h2⟩, h3⟩ := he
    obtain ⟨rfl, hg, n1, n2⟩ := okG_ok h1
    have hp := okE_plain h2
    have hp2 := okE_plain h3
    refine PI.imp' (pi_range2 (tg := tg) hg (st.fx.blt _ range_nm) (pa_cons (iha X W st _ h2).1 (pa_cons (ihb X W st _ h3).1 pa_nil (starEach_plain hp2)) (starEach_plain hp)) (by rw [starEach_plain hp, starEach_plain hp2]; rfl) (by rw [starEach_plain hp2]; rfl)) fun σ H R ⟨φ, env, S, r, p⟩ => ?_
    simp only [evIt] at p
    refine ⟨φ, env, S, r, p.bind fun d S1 φ1 H1 x _ x1 s1 r1 p1 => ⟨φ1, env, S1, r.ext x1 s1, p1.bind fun e S2 φ2 H2 y _ x2 s2 r2 p2 => ?_⟩⟩
    cases d with
    | int i =>
      cases e with
      | int j =>
        cases r1; cases r2
        dsimp only at p2
        split at p2
        · rename_i hs
          rw [Bool.and_eq_true] at hs
          obtain ⟨b1, b2⟩ := small62_ok hs.1
          obtain ⟨b3, b4⟩ := small62_ok hs.2
          exact ⟨i, j, rfl, ⟨b1, b2, b3, b4⟩, p2.ok s2 RI.rng⟩
        · exact p2.elim
      | _ => exact p2.elim
    | _ => exact p2.elim
  · cases he
theorem gi_rng3 {a b c : EX} (iha : GoE P T k a) (ihb : GoE P T k b) (ihc : GoE P T k c) : GoI P T k (.rng3 a b c) := fun X W st tg e he _ => by
  unfold okI at he
  split at he
  · simp only [Bool.and_eq_true] at he
    obtain ⟨⟨⟨h1, h2⟩, h3⟩, h4⟩ := he
    obtain ⟨rfl, hg, n1, n2⟩ := okG_ok h1
    have hp := okE_plain h2
    have hp2 := okE_plain h3
    have hp3 := okE_plain h4
    refine PI.imp' (pi_range3 (tg := tg) hg (st.fx.blt _ range_nm) (pa_cons (iha X W st _ h2).1 (pa_cons (ihb X W st _ h3).1 (pa_cons (ihc X W st _ h4).1 pa_nil (starEach_plain hp3)) (starEach_plain hp2)) (starEach_plain hp))
      (starEach_plain hp) (by rw [starEach_plain hp2, starEach_plain hp3]; rfl)) fun σ H R ⟨φ, env, S, r, p⟩ => ?_
    simp only [evIt] at p
    refine ⟨φ, env, S, r, p.bind fun d S1 φ1 H1 x _ x1 s1 r1 p1 => ⟨φ1, env, S1, r.ext x1 s1, p1.bind fun e S2 φ2 H2 y _ x2 s2 r2 p2 => ⟨φ2, env, S2, r.ext (x1.trans x2) s2, p2.bind fun f S3 φ3 H3 z _ x3 s3 r3 p3 => ?_⟩⟩⟩
    cases d with
    | int i =>
      cases e with
      | int j =>
        cases f with
        | int c =>
          cases r1; cases r2; cases r3
          by_cases hc : c = -1
          · subst hc
            have p3 : Post T _ (RI T) φ3 H3 (if small62 i && small62 j then .ok (.ds (rngL i (-1) (i - j).toNat)) S3 else .bad) R := p3
            split at p3
            · rename_i hs
              rw [Bool.and_eq_true] at hs
              obtain ⟨b1, b2⟩ := small62_ok hs.1
              obtain ⟨b3, b4⟩ := small62_ok hs.2
              exact ⟨i, j, -1, (i - j).toNat, rfl, RgC.neg b1 b2 b3 b4, p3.ok s3 RI.rngC⟩
            · exact p3.elim
          · exfalso
            split at p3
            · rename_i heq1 heq2 heq3
              cases heq3
              exact hc rfl
            · exact p3
        | _ => exact p3.elim
      | _ => exact p3.elim
    | _ => exact p3.elim
  · cases he
theorem enum_nm : "enumerate" ∈ bltNames := by decide
theorem gi_enm {a : EX} (iha : GoE P T k a) : GoI P T k (.enm a) := fun X W st tg e he ht => by
  unfold okI at he
  split at he
  · rw [Bool.and_eq_true] at he
    obtain ⟨rfl, hg, n1, n2⟩ := okG_ok he.1
    have hp := okE_plain he.2
    cases tg with
    | Tuple elts kk tpos =>
      refine PI.imp' (pi_enT hg (st.fx.blt _ enum_nm) (pa_cons (iha X W st _ he.2).1 pa_nil (starEach_plain hp)) (starEach_plain hp)) fun σ H R ⟨φ, env, S, r, p⟩ => ?_
      simp only [evIt] at p
      refine ⟨φ, env, S, r, p.bind fun d S1 φ1 H1 x _ x1 s1 r1 p1 => ?_⟩
      cases d with
      | tup ds =>
        cases r1 with
        | tup h1 h2 =>
          refine ⟨_, _, rfl, SqT.of h1, ?_⟩
          rw [st.K]
          exact p1.ok s1 (RI.enm s1 h1 h2)
      | _ => exact p1.elim
    | _ => cases ht
  · cases he
/-! ### lists -/
theorem PostL.ext {φ φ1 : List Addr} {H H1 : Hp} {S1 : Store} {Wk : WXk} {r : Res (List D)} {Q : V → Hp → Prop} (x : Ext φ φ1 H H1) (s : RepS T φ1 H1 S1) (p : PostL T Wk φ H r Q) : PostL T Wk φ1 H1 r Q := by
  cases r with
  | ok ds S' => exact fun φ' H' a vs x' s' ha hn hv rv => p φ' H' a vs (x.trans x') s' ha (x.none s hn) hv rv
  | exc y S' => exact fun φ' H' c d x' => p φ' H' c d (x.trans x')
  | bad => exact p
theorem PostL.bind {α β : Type} {R1 : Rl α β} {r : Res α} {f : α → Store → Res (List D)} {φ : List Addr} {H : Hp} {Wk : WXk} {Q1 : β → Hp → Prop} {Q2 : V → Hp → Prop} (p : PostL T Wk φ H (r.bind f) Q2)
    (h : ∀ a S1 φ1 H1 b, r = .ok a S1 → Ext φ φ1 H H1 → RepS T φ1 H1 S1 → R1 φ1 H1 b a → PostL T Wk φ1 H1 (f a S1) Q2 → Q1 b H1) : Post T Wk R1 φ H r Q1 := by
  cases r with
  | ok a S1 => exact fun φ1 H1 b x s q => h a S1 φ1 H1 b rfl x s q (PostL.ext x s p)
  | exc e S1 => exact p
  | bad => exact p
theorem gl_dis {xs : EXs} (ih : GoEs P T k xs) : GoL P T k (.dis xs) := fun X W st e he => by
  unfold okL at he
  split at he
  · refine (pe_lst (ih X W st _ he).1).imp fun σ H Q ⟨φ, env, S, r, p⟩ => ?_
    simp only [evL] at p
    refine ⟨φ, env, S, r, p.bind fun ds S1 φ1 H1 vs _ x1 s1 r1 p1 => ?_⟩
    split at p1
    · rename_i hl
      refine ⟨LIM_le (by rw [RepVs.length r1]; exact hl), fun q hq => ?_⟩
      exact p1 φ1 _ q vs (Ext.aside hq) (s1.aside hq) (s1.fresh hq) (.of hq) upd_same (RepVs.ext s1 (Ext.aside hq) r1)
    · exact p1.elim
  · cases he
abbrev noW : WX := fun _ _ _ _ => False
theorem takes_no {X : Cx} : Takes X noW := fun u s' x => by
  obtain ⟨_, _, _, _, _, _, _, _, _, _, _, _, _, _, _, _, z⟩ := x
  exact z.elim
theorem Sit.blk (st : Sit P T X k W) (s : Shared) (H : Hp) (scope : Scope) (C : Addr) (cl : List (Str × Addr)) (fp : List Addr) : Sit P T (X.blk s H scope (compEnvC scope cl C X.env) fp) k noW :=
  ⟨st.calm, st.nd, st.room, st.gd, takes_no, st.K, st.fx, st.low, st.lm⟩
/-- a turn's function -/
def lcF (c : Ctx) (own : List Nat) (t : TG) (tst : EnvD → Store → Res Bool) (e : EX) (env : EnvD) : D → List D → Store → Res (List D) := fun d acc S => match bindT t d (wipeE env own) with
  | some env' => (tst env' S).bind fun k S => match k with
    | true => (evE c e env' S).bind fun y S => if acc.length < LIM then .ok (acc ++ [y]) S else .bad
    | false => .ok acc S
  | none => .bad
theorem noExc_ok {r : Res (List D)} {φ : List Addr} {H : Hp} {Wk : WXk} {Q : V → Hp → Prop} (p : PostL T Wk φ H (noExc r) Q) : ∃ ds S', r = .ok ds S' := by
  cases r with
  | ok ds S' => exact ⟨ds, S', rfl⟩
  | exc x S' => exact p.elim
  | bad => exact p.elim
theorem upd_at {H : Hp} {a b : Addr} {o : HO} (h : b ≠ a) : upd H a o b = H b := upd_ne h
/-- the new list beside what stands -/
theorem beside {φ' : List Addr} {H' : Hp} {S' : Store} {D0 : Addr} {u w : HO} (s : RepS T φ' H' S') (hD : D0 ∉ φ') (hw : H' D0 = some w) (ht : ∀ ps, w ≠ .tbl ps) (hm : Mut (some w)) (hu : Mut (some u)) (hx : inSt w := by trivial) : RepS T φ' (upd H' D0 u) S' := by
  refine ⟨s.len, s.nd, fun l o a e1 e2 => ?_, fun q hq => ?_⟩
  rotate_left
  · obtain ⟨ps, g1, g2, g3⟩ := s.tab q hq
    refine ⟨ps, by rw [upd_ne (by rintro e; rw [e, hw] at g1; cases g1; exact ht ps rfl)]; exact g1, g2, fun pos cv hc => ?_⟩
    obtain ⟨c, e1, e2⟩ := g3 pos cv hc
    exact ⟨c, e1, by rw [upd_ne (by rintro rfl; rw [hw] at e2; cases e2; exact hx)]; exact e2⟩
  have hne : a ≠ D0 := by rintro rfl; exact hD (List.mem_of_getElem? e2)
  have h := s.ob l o a e1 e2
  have tups : ∀ b xs, H' b = some (.tup xs) → upd H' D0 u b = some (.tup xs) := fun b xs e => by
    rw [upd_ne (by rintro rfl; rw [hw] at e; cases e; exact hm)]; exact e
  have frzs : ∀ b ob v, H' b = some (.frz ob v) → upd H' D0 u b = some (.frz ob v) := fun b ob v e => by
    rw [upd_ne (by rintro rfl; rw [hw] at e; cases e; exact hm)]; exact e
  have rv : ∀ {v : V} {d : D}, RepV T.K φ' H' v d → RepV T.K φ' (upd H' D0 u) v d := fun {v d} r => RepV.keep tups frzs r
  have rvs : ∀ {v : List V} {d : List D}, RepVs T.K φ' H' v d → RepVs T.K φ' (upd H' D0 u) v d := fun {v d} r => RepVs.keep tups frzs r
  cases o with
  | lst ds => obtain ⟨vs, e1, h1⟩ := h; exact ⟨vs, by rw [upd_ne hne]; exact e1, rvs h1⟩
  | dk ds => obtain ⟨vs, e1, h1⟩ := h; exact ⟨vs, by rw [upd_ne hne]; exact e1, Paired.mapP h1 fun _ _ q => ⟨q.1, rv q.2⟩⟩
  | dt ds => obtain ⟨vs, e1, h1⟩ := h; exact ⟨vs, by rw [upd_ne hne]; exact e1, Paired.mapP h1 fun _ _ q => ⟨q.1, rv q.2⟩⟩
  | ins C fs => obtain ⟨dx, vs, e1, h1⟩ := h; exact ⟨dx, vs, by rw [upd_ne hne]; exact e1, Paired.mapP h1 fun _ _ q => ⟨q.1, rv q.2⟩⟩
/-- a run from H is a run from the heap with the new list beside -/
theorem Ext.beside {φ φ' : List Addr} {H H' : Hp} {D0 : Addr} {u : HO} (x : Ext φ φ' H H') (hn : H D0 = Option.none) : Ext φ φ' H (upd H' D0 u) :=
  ⟨x.pre, x.new, fun b o h hb ht => by rw [upd_ne (ne_of_none h hn)]; exact x.kp b o h hb ht⟩

theorem _root_.L2.PTs.imp {X : Cx} {es : List Expr} {t t' : TT} (h : PTs X es t) (i : ∀ σ H Q, t' σ H Q → t σ H Q) : PTs X es t' := ⟨fun pins s σ H Q I q => h.run pins s σ H Q I (i σ H Q q)⟩
theorem folded_plain {e : Expr} (h : plainX e = true) {env : PySem.Env} (x : Value) : foldedSetIterable e env x = pure x := by
  cases e <;> first | rfl | cases h
theorem okI_plain {N : List Str} {sc : Scope} {x : IT} {e : Expr} (h : okI N sc x e = true) : plainX e = true := by
  cases x with
  | val a => exact okE_plain (show okE N sc a e = true from h)
  | _ => unfold okI at h; split at h <;> first | rfl | cases h
/-- the state of the walk -/
def WkC (T : Wr) (f : D → List D → Store → Res (List D)) (iv : ItV) (φ : List Addr) (H1 : Hp) (D0 : Addr) (r0 : Res (List D)) (i m : Nat) (H : Hp) : Prop :=
  ∃ (φ' : List Addr) (S' : Store) (acc : List V) (accD : List D), Ext φ φ' H1 H ∧ RepS T φ' H S' ∧ D0 ∉ φ' ∧ H D0 = some (.lst acc) ∧ RepVs T.K φ' H acc accD ∧ Wk f iv i m accD S' r0
theorem RepVs.put {φ : List Addr} {H : Hp} {D0 : Addr} {u w : HO} {vs : List V} {ds : List D} (hw : H D0 = some w) (hm : Mut (some w)) (h : RepVs T.K φ H vs ds) : RepVs T.K φ (upd H D0 u) vs ds :=
  RepVs.keep (fun b xs e => by rw [upd_ne (by rintro rfl; rw [hw] at e; cases e; exact hm)]; exact e) (fun b ob v e => by rw [upd_ne (by rintro rfl; rw [hw] at e; cases e; exact hm)]; exact e) h
theorem wipe_in {σ : St} {i : Nat} : ∀ {vs : List Nat}, i ∈ vs → (L2.wipe σ vs)[i]? = σ[i]?.map fun _ => Option.none
  | j :: vs, h => by
    show ((L2.wipe σ vs).set j Option.none)[i]? = _
    by_cases hj : j = i
    · subst hj
      by_cases hl : j < σ.length
      · rw [List.getElem?_set_self (by rw [wipe_length]; exact hl), List.getElem?_eq_getElem hl]; rfl
      · rw [List.getElem?_eq_none (by rw [List.length_set, wipe_length]; omega), List.getElem?_eq_none (by omega)]; rfl
    · rw [List.getElem?_set_ne hj]
      rcases List.mem_cons.mp h with e | e
      · exact absurd e.symm hj
      · exact wipe_in e
theorem wipe_wipe {σ : St} {vs : List Nat} : L2.wipe (L2.wipe σ vs) vs = L2.wipe σ vs := by
  refine List.ext_getElem? fun i => ?_
  by_cases h : i ∈ vs
  · rw [wipe_in h, wipe_in h, Option.map_map]; rfl
  · rw [wipe_out h]
/-- a comprehension's parts -/
def LcP (X : Cx) (T : Wr) (W : WX) (elt tg iter : Expr) (cs : List Expr) (scope : Scope) (f : EnvD → Store → Res (List D)) : Prop :=
  ∃ (own : List (Str × Nat)) (wi : TI) (g : L2.TG) (tt : TT) (te : TE), PI X tg iter wi ∧ BlkOk X.N X.env.scope scope own ∧
    (∀ (s : Shared) (H : Hp) (C : Addr) (cl : List (Str × Addr)) (fp : List Addr), PG (X.blk s H scope (compEnvC scope cl C X.env) fp) tg g) ∧ (∀ (s : Shared) (H : Hp) (C : Addr) (cl : List (Str × Addr)) (fp : List Addr), PTs (X.blk s H scope (compEnvC scope cl C X.env) fp) cs tt) ∧
    (∀ (s : Shared) (H : Hp) (C : Addr) (cl : List (Str × Addr)) (fp : List Addr), PE (X.blk s H scope (compEnvC scope cl C X.env) fp) elt te) ∧ (∀ x, foldedSetIterable iter X.env x = pure x) ∧
    ∀ σ H Q, rdL T W f σ H Q → tLc wi g tt te (own.map (·.2)) σ H Q
theorem LcP.pe {elt tg iter : Expr} {cs : List Expr} {scope : Scope} {pos : Pos} {f : EnvD → Store → Res (List D)} (st : Sit P T X k W) (h : LcP X T W elt tg iter cs scope f) : PE X (.ListComp elt [⟨tg, iter, cs, 0⟩] scope pos) (rdL T W f) := by
  obtain ⟨own, wi, g, tt, te, h1, h2, h3, h4, h5, h6, h7⟩ := h
  exact (pe_lc st.calm st.nd h1 h2 h3 h4 h5 h6).imp h7
theorem gl_lc {own : List (String × Nat)} {t : TG} {it : IT} {e : EX} {tst : EnvD → Store → Res Bool} {f : EnvD → Store → Res (List D)} (ihi : GoI P T k it) (ihe : GoE P T k e) (st : Sit P T X k W)
    {elt tg iter : Expr} {cs : List Expr} {scope : Scope}
    (hf : ∀ env S, f env S = (evIt (cxK P k) it env S).bind fun iv S => noExc (walkI (lcF (cxK P k) (own.map (·.2)) t tst e env) iv [] S))
    (hts : ∀ (X' : Cx), Sit P T X' k noW → X'.N = X.N → X'.env.scope = relS scope X.env.scope → PTs X' cs (rdB T noW tst))
    (hb : blkC X.N X.env.scope scope (own.map fun p => (Str.ofString p.1, p.2)) = true) (ht : okTG X.N (relS scope X.env.scope) t tg = true) (hi : okI X.N X.env.scope it iter = true) (hen : enmOk it tg = true)
    (hsl : (slT t).all (fun i => decide (i ∈ own.map (·.2))) = true) (hown : own.all (fun p => (scope.names.lookup (Str.ofString p.1) == some .cell) || lclB (relS scope X.env.scope) (Str.ofString p.1)) = true) (he : okE X.N (relS scope X.env.scope) e elt = true) :
    LcP X T W elt tg iter cs scope f := by
  have ok := blkOk_by hb
  have hvs : (own.map fun p => (Str.ofString p.1, p.2)).map (·.2) = own.map (·.2) := by rw [List.map_map]; rfl
  refine ⟨_, _, gTG X.K t, _, _, ihi X W st tg iter hi hen, ok,
    (fun s H C cl fp => pg_ok (X := X.blk s H scope (compEnvC scope cl C X.env) fp) (t := t) st.calm st.nd (fun i x hi hx _ => by
      have h1 := List.all_eq_true.mp hsl i hi
      simp only [decide_eq_true_eq] at h1
      obtain ⟨p, hp, rfl⟩ := List.mem_map.mp h1
      have h2 := ok.ix (Str.ofString p.1, p.2) (List.mem_map.mpr ⟨p, hp, rfl⟩)
      have h2 : X.N[p.2]? = some (Str.ofString p.1) := h2
      have hx : X.N[p.2]? = some x := hx
      rw [h2] at hx; cases hx
      have h3 := List.all_eq_true.mp hown p hp
      rw [Bool.or_eq_true] at h3
      rcases h3 with h3 | h3
      · exact .inl h3
      · refine .inr ?_
        unfold lclB at h3
        split at h3
        · assumption
        · cases h3) ht),
    (fun s H C cl fp => hts _ (st.blk s H scope C cl fp) rfl rfl), (fun s H C cl fp => (ihe _ noW (st.blk s H scope C cl fp) elt he).1), (fun x => folded_plain (okI_plain hi) x), fun σ H Q ⟨φ, env, S, r, p⟩ => ?_⟩
  rw [hf] at p
  rw [hvs]
  refine ⟨φ, env, S, r, p.bind fun iv S1 φ1 H1 J _ x1 s1 r1 p1 => ?_⟩
  intro D0 hD
  obtain ⟨ds', S', hw⟩ := noExc_ok p1
  have hwalk : walkI (lcF (cxK P k) (own.map (·.2)) t tst e env) iv [] S1 = .ok ds' S' := by
    generalize walkI (lcF (cxK P k) (own.map (·.2)) t tst e env) iv [] S1 = rr at hw
    cases rr with
    | ok a b => exact hw
    | exc x b => cases hw
    | bad => cases hw
  rw [hwalk] at p1
  have renv : Rep T φ1 σ H1 env S1 := r.ext x1 s1
  have hnD : D0 ∉ φ1 := s1.fresh hD
  refine ⟨WkC T (lcF (cxK P k) (own.map (·.2)) t tst e env) iv φ1 H1 D0 (.ok ds' S'), ?_, ?_⟩
  · obtain ⟨m, hm⟩ := wk_start (f := lcF (cxK P k) (own.map (·.2)) t tst e env) (iv := iv) (a := []) (S := S1)
    rw [hwalk] at hm
    exact ⟨m, φ1, S1, [], [], Ext.aside hD, s1.aside hD, hnD, upd_same, .nil, hm⟩
  · rintro i m Hc ⟨φ2, S2, acc, accD, x2, s2, hn2, hl2, ra2, wk2⟩
    rcases wk_turn wk2 (fun z => by cases z) s2 (RI.ext x2 r1) with ⟨hstop, e0⟩ | ⟨hgo, d, hy, g, e0, nxt⟩
    · cases e0
      exact .inl ⟨hstop, p1 φ2 Hc D0 acc x2 s2 hn2 (.of hD) hl2 ra2⟩
    · refine .inr ⟨hgo, fun H' => ∃ m', m' < m ∧ WkC T (lcF (cxK P k) (own.map (·.2)) t tst e env) iv φ1 H1 D0 (.ok ds' S') (i + 1) m' H', fun H' h => h, fun x H' hyl => ?_⟩
      obtain ⟨rx, x3, s3⟩ := hy x H' hyl
      have hl3 : H' D0 = some (.lst acc) := x3.kp D0 _ hl2 hn2 fun _ z => by cases z
      have ra3 := ra2.ext s2 x3
      have x13 := x2.trans x3
      cases hbt : bindT t d (wipeE env (own.map (·.2))) with
      | none =>
        unfold lcF at e0
        rw [hbt] at e0
        cases e0
      | some env' =>
        have hF : lcF (cxK P k) (own.map (·.2)) t tst e env d accD S2 = (tst env' S2).bind fun k' S => match k' with
          | true => (evE (cxK P k) e env' S).bind fun y S => if accD.length < LIM then .ok (accD ++ [y]) S else .bad
          | false => .ok accD S := by
          unfold lcF; rw [hbt]
        rw [hF] at e0 nxt
        have rw3 : Rep T φ2 (L2.wipe σ (own.map (·.2))) H' (wipeE env (own.map (·.2))) S2 := (renv.ext x13 s3).wipe _
        rw [st.K]
        refine bindT_rep rx rw3 hbt fun σ2 r4 hw4 => ⟨?_, ?_⟩
        · refine (hw4 (own.map (·.2)) fun i hi => ?_).trans ?_
          · have h1 := List.all_eq_true.mp hsl i hi
            simpa using h1
          · exact wipe_wipe
        · refine ⟨φ2, env', S2, r4, ?_⟩
          cases htst : tst env' S2 with
          | bad => rw [htst] at e0; cases e0
          | exc x S => rw [htst] at e0; cases e0
          | ok b S4 =>
            rw [htst] at e0 nxt
            intro φ4 H4 b' x4 s4 eb
            have eb : b' = b := eb
            subst eb
            have hn4 : D0 ∉ φ4 := fun hm => by
              rcases x4.new D0 hm with h | h
              · exact hn2 h
              · obtain ⟨ps, z⟩ := h _ hl3
                cases z
            have hl4 : H4 D0 = some (.lst acc) := x4.kp D0 _ hl3 hn2 fun _ z => by cases z
            cases b' with
            | false =>
              obtain ⟨m', hm', hwk'⟩ := nxt _ _ rfl
              exact ⟨m', hm', φ4, S4, acc, accD, x13.trans x4, s4, hn4, hl4, ra3.ext s3 x4, hwk'⟩
            | true =>
              refine ⟨φ4, env', S4, r4.ext x4 s4, ?_⟩
              have e0 : Res.ok ds' S' = ((evE (cxK P k) e env' S4).bind fun y S => if accD.length < LIM then Res.ok (accD ++ [y]) S else .bad).bind g := e0
              have nxt : ∀ (a' : List D) (S'' : Store), ((evE (cxK P k) e env' S4).bind fun y S => if accD.length < LIM then Res.ok (accD ++ [y]) S else .bad) = .ok a' S'' → ∃ m', m' < m ∧ Wk (lcF (cxK P k) (own.map (·.2)) t tst e env) iv (i + 1) m' a' S'' (.ok ds' S') := nxt
              cases hel : evE (cxK P k) e env' S4 with
              | bad => rw [hel] at e0; cases e0
              | exc x S => rw [hel] at e0; cases e0
              | ok y S5 =>
                rw [hel] at e0 nxt
                intro φ5 H5 v x5 s5 rv
                have hn5 : D0 ∉ φ5 := fun hm => by
                  rcases x5.new D0 hm with h | h
                  · exact hn4 h
                  · obtain ⟨ps, z⟩ := h _ hl4
                    cases z
                have hl5 : H5 D0 = some (.lst acc) := x5.kp D0 _ hl4 hn4 fun _ z => by cases z
                by_cases hlt : accD.length < LIM
                · have ra5 := (ra3.ext s3 x4).ext s4 x5
                  obtain ⟨m', hm', hwk'⟩ := nxt (accD ++ [y]) S5 (by show (if accD.length < LIM then Res.ok (accD ++ [y]) S5 else .bad) = _; rw [if_pos hlt])
                  refine ⟨acc, hl5, LIM_lt (by rw [ra5.length]; exact hlt), m', hm', φ5, S5, acc ++ [v], accD ++ [y], ((x13.trans x4).trans x5).beside hD, ?_, hn5, upd_same, ?_, hwk'⟩
                  · exact Ev.beside s5 hn5 hl5 (fun _ z => by cases z) trivial trivial
                  · exact RepVs.put hl5 trivial (ra5.append (.cons rv .nil))
                · exfalso
                  have e0 : Res.ok ds' S' = (if accD.length < LIM then Res.ok (accD ++ [y]) S5 else .bad).bind g := e0
                  rw [if_neg hlt] at e0
                  cases e0

theorem Res.bind_assoc {α β γ : Type} (r : Res α) (f : α → Store → Res β) (g : β → Store → Res γ) : (r.bind f).bind g = r.bind fun a S => (f a S).bind g := by
  cases r <;> rfl
/-- a comprehension, its text and parts -/
def GoC (P : Prg) (T : Wr) (k : Nat) (l : LX) : Prop := ∀ (X : Cx) (W : WX), Sit P T X k W → ∀ e, okL X.N X.env.scope l e = true → ∃ (elt tg iter : Expr) (cs : List Expr) (scope : Scope) (pos : Pos), e = .ListComp elt [⟨tg, iter, cs, 0⟩] scope pos ∧ LcP X T W elt tg iter cs scope (evL (cxK P k) l)
theorem GoC.gl {l : LX} (h : GoC P T k l) : GoL P T k l := fun X W st x hx => by
  obtain ⟨elt, tg, iter, cs, scope, pos, rfl, q⟩ := h X W st x hx
  exact q.pe st
theorem gc_comp0 {own : List (String × Nat)} {t : TG} {it : IT} {e : EX} (ihi : GoI P T k it) (ihe : GoE P T k e) : GoC P T k (.comp own t it .nil e) := fun X W st x hx => by
  unfold okL at hx
  split at hx
  · rename_i elt tg iter cs scope pos
    simp only [Bool.and_eq_true, decide_eq_true_eq] at hx
    obtain ⟨⟨⟨⟨⟨⟨⟨⟨h1, h2⟩, h3⟩, h3e⟩, h4⟩, h5⟩, h6⟩, h7⟩, h8⟩ := hx
    have hc : cs = [] := List.isEmpty_iff.mp h4
    subst hc
    refine ⟨elt, tg, iter, [], scope, pos, rfl, gl_lc (tst := fun _ S => .ok true S) ihi ihe st (fun env S => ?_) (fun X' st' _ _ => pts_nil.imp fun σ H Q ⟨φ, env, S, r, p⟩ => p.ok r.sto rfl) h1 h2 h3 h3e (by simpa using h6) h7 h8⟩
    simp only [evL]
    rfl
  · cases hx
theorem gc_comp1 {own : List (String × Nat)} {t : TG} {it : IT} {i : EX} {is : EXs} {e : EX} (ihi : GoI P T k it) (ihc : GoE P T k i) (ihe : GoE P T k e) : GoC P T k (.comp own t it (.cons i is) e) := fun X W st x hx => by
  unfold okL at hx
  split at hx
  · rename_i elt tg iter cs scope pos
    simp only [Bool.and_eq_true, decide_eq_true_eq] at hx
    obtain ⟨⟨⟨⟨⟨⟨⟨⟨h1, h2⟩, h3⟩, h3e⟩, h4⟩, h5⟩, h6⟩, h7⟩, h8⟩ := hx
    cases cs with
    | nil => cases h4
    | cons c cs =>
      have h4 : (okE X.N (relS scope X.env.scope) i c && okEs X.N (relS scope X.env.scope) is cs) = true := h4
      rw [Bool.and_eq_true] at h4
      have hc : cs = [] := by
        cases cs with
        | nil => rfl
        | cons _ _ => simp at h5
      subst hc
      refine ⟨elt, tg, iter, [c], scope, pos, rfl, gl_lc (tst := evTest (cxK P k) i) ihi ihe st (fun env S => ?_) (fun X' st' hN hsc => pts_one (ihc X' noW st' c (by rw [hN, hsc]; exact h4.1)).2) h1 h2 h3 h3e (by simpa using h6) h7 h8⟩
      simp only [evL]
      congr 1; funext iv S; congr 2; funext d acc S
      unfold lcF evTest
      generalize bindT t d (wipeE env (own.map (·.2))) = o
      cases o with
      | none => rfl
      | some env' => exact (Res.bind_assoc _ _ _).symm
  · cases hx
/-! ### every expression -/
theorem go_non : GoE P T k .non := go_const (v := .non) (d := .non) (fun _ _ _ => .non) (fun _ _ => by simp only [evE]) fun X e he => by
  unfold okE at he
  split at he
  · exact ⟨pe_non, rfl⟩
  · cases he
theorem go_bl {b : Bool} : GoE P T k (.bl b) := go_const (v := .bl b) (d := .bl b) (fun _ _ _ => .bl b) (fun _ _ => by simp only [evE]) fun X e he => by
  unfold okE at he
  split at he
  · have := eq_of_beq he
    subst this
    exact ⟨pe_bl, rfl⟩
  · cases he
theorem go_int {i : Int} : GoE P T k (.int i) := go_const (v := .int i) (d := .int i) (fun _ _ _ => .int i) (fun _ _ => by simp only [evE]) fun X e he => by
  unfold okE at he
  split at he
  · have := of_decide_eq_true he
    subst this
    exact ⟨pe_int, rfl⟩
  · cases he
theorem go_str {x : Str} : GoE P T k (.str x) := go_const (v := .str x) (d := .str x) (fun _ _ _ => .str x) (fun _ _ => by simp only [evE]) fun X e he => by
  unfold okE at he
  split at he
  · have := of_decide_eq_true he
    subst this
    exact ⟨pe_str, rfl⟩
  · cases he
mutual
theorem goE : ∀ (x : EX) {k : Nat}, GoE P T k x
  | .non => go_non
  | .bl b => go_bl
  | .int i => go_int
  | .str x => go_str
  | .var i => go_var
  | .glb x => go_glb
  | .bty x => go_bty
  | .tup es => go_tup (goEs es)
  | .ofl l => go_ofl (goL l)
  | .dk0 => go_dk0
  | .dt0 => go_dt0
  | .bin op a b => go_bin (goE a) (goE b)
  | .neg a => go_neg (goE a)
  | .cmp op a b => go_cmp (goE a) (goE b)
  | .chn op a b op' c => go_chn (goE a) (goE b) (goE c)
  | .bop isAnd es => go_bop (goEs es)
  | .nt a => go_nt (goE a)
  | .ife t a b => go_ife (goE t) (goE a) (goE b)
  | .sub a i => go_sub (goE a) (goE i)
  | .slc0 a => go_slc0 (goE a)
  | .slcF a lo => go_slcF (goE a) (goE lo)
  | .slcT a hi => go_slcT (goE a) (goE hi)
  | .slcB a lo hi => go_slcB (goE a) (goE lo) (goE hi)
  | .fld a f => go_fld (goE a)
  | .call x es => go_call (goEs es)
  | .new C es => go_new (goEs es)
  | .meth a m es => go_meth (goE a) (goEs es)
  | .blt f es => go_blt (goEs es)
  | .bll f l => go_bll (goL l)
  | .lamw x b => go_lamw fun _ => goE b
theorem goEs : ∀ (xs : EXs) {k : Nat}, GoEs P T k xs
  | .nil => ge_nil
  | .cons x xs => ge_cons (goE x) (goEs xs)
theorem goI : ∀ (x : IT) {k : Nat}, GoI P T k x
  | .val e => gi_val (goE e)
  | .rng1 a => gi_rng1 (goE a)
  | .rng2 a b => gi_rng2 (goE a) (goE b)
  | .rng3 a b c => gi_rng3 (goE a) (goE b) (goE c)
  | .enm a => gi_enm (goE a)
theorem goL : ∀ (x : LX) {k : Nat}, GoL P T k x
  | .dis es => gl_dis (goEs es)
  | .comp own t it .nil e => (gc_comp0 (goI it) (goE e)).gl
  | .comp own t it (.cons i is) e => (gc_comp1 (goI it) (goE i) (goE e)).gl
end
theorem goC {own : List (String × Nat)} {t : TG} {it : IT} {ifs : EXs} {e : EX} : GoC P T k (.comp own t it ifs e) := by
  cases ifs with
  | nil => exact gc_comp0 (goI it) (goE e)
  | cons i is => exact gc_comp1 (goI it) (goE i) (goE e)
end
end Ev
end

section
set_option Elab.async false
set_option linter.all false
set_option maxRecDepth 100000
set_option maxHeartbeats 1000000
set_option autoImplicit false
/-! Ev13: statements. -/
namespace Ev
open PySem PySem.Spec L2
open PyProof.Rows hiding St

/-! ### the text -/
def plainC : Expr → Bool
  | .ListComp .. => false
  | .SetComp .. => false
  | .DictComp .. => false
  | _ => true
/-- is the name stored within the comprehension? -/
def swB (sc : Scope) (x : Str) (py : Pos) : Expr → Bool
  | .ListComp _ _ s pos => (sc.names.lookup x == some .local) && (py.line == pos.line) && !(s.names.any fun (n, k) => n == x && (k == .local || k == .cell))
  | _ => false
def notSet : Expr → Bool
  | .SetComp .. => false
  | .DictComp .. => false
  | _ => true
def okTag (N : List Str) (sc : Scope) : TAG → Expr → Bool
  | .name i, e => match e with
    | .Name x _ => decide (N[i]? = some x) && locB sc x && plainN x
    | _ => false
  | .sub o i, e => match e with
    | .Subscript l r _ => okE N sc o l && okE N sc i r
    | _ => false
def okTags (N : List Str) (sc : Scope) : List TAG → List Expr → Bool
  | [], [] => true
  | t :: ts, e :: es => okTag N sc t e && okTags N sc ts es
  | _, _ => false
/-- a, b = .. with the stores in order -/
def inOrder (sc : Scope) (ts : List Expr) : Expr → Bool
  | .Tuple vs _ _ => decide (ts.length ≠ 2 ∧ ts.length ≠ 3) || (ts.any fun
    | .Name x _ => !(sc.names.lookup x == some .local)
    | _ => true) || vs.all (foldedForSure 8)
  | _ => true
def okPar (N : List Str) (sc : Scope) : List Nat → List Expr → List Expr → Bool
  | [i, j], [.Name x px, .Name y py], [a, b] => decide (N[i]? = some x) && decide (N[j]? = some y) && decide (i ≠ j) && lclB sc x && lclB sc y && (px.line == py.line) && plainX a && plainX b && !([a, b].all (foldedForSure 8)) && !([a, b].all (constantsAlone 8))
  | [i, j, l], [.Name x px, .Name y py, .Name z pz], [a, b, c] => decide (N[i]? = some x) && decide (N[j]? = some y) && decide (N[l]? = some z) && decide (i ≠ j) && decide (i ≠ l) && decide (j ≠ l) && lclB sc x && lclB sc y && lclB sc z && (px.line == py.line) && (px.line == pz.line) && plainX a && plainX b && plainX c && !([a, b, c].all (foldedForSure 8)) && !([a, b, c].all (constantsAlone 8))
  | _, _, _ => false
def augOk : Op → Bool
  | .add => true
  | .sub => true
  | _ => false
mutual
def okS (N : List Str) (sc : Scope) : ST → Stmt → Bool
  | .expr e, s => match s with
    | .Expr x _ => plainC x && okE N sc e x
    | _ => false
  | .set i e, s => match s with
    | .Assign [.Name x py] v _ => decide (N[i]? = some x) && locB sc x && plainN x && notSet v && okE N sc e v
    | _ => false
  | .par ns es, s => match s with
    | .Assign [.Tuple ts _ _] (.Tuple vs _ _) _ => okPar N sc ns ts vs && okEs N sc es vs
    | _ => false
  | .asg t e, s => match s with
    | .Assign [.Subscript l r p] v _ => okTag N sc t (.Subscript l r p) && okE N sc e v
    | _ => false
  | .fst o f e, s => match s with
    | .Assign [.Attribute l y _] v _ => decide (y = Str.ofString f) && okE N sc o l && okE N sc e v
    | _ => false
  | .asgs ts e, s => match s with
    | .Assign [.Tuple us _ _] v _ => okTags N sc ts us && inOrder sc us v && okE N sc e v
    | _ => false
  | .aug i op e, s => match s with
    | .AugAssign (.Name x _) o v _ => decide (N[i]? = some x) && locB sc x && plainN x && decide (o = opOf op) && augOk op && okE N sc e v
    | _ => false
  | .ret e, s => match s with
    | .Return (some v) _ => okE N sc e v
    | _ => false
  | .ret0, s => match s with
    | .Return none _ => true
    | _ => false
  | .ife t a b, s => match s with
    | .If c p q _ => okE N sc t c && okSs N sc a p && okSs N sc b q
    | _ => false
  | .whl t b, s => match s with
    | .While c p [] _ => okE N sc t c && okSs N sc b p
    | _ => false
  | .for_ t it b, s => match s with
    | .For tg iter p [] _ => okTG N sc t tg && (okI N sc it iter && enmOk it tg) && okSs N sc b p
    | _ => false
  | .brk, s => match s with
    | .Break _ => true
    | _ => false
  | .cont, s => match s with
    | .Continue _ => true
    | _ => false
  | .pass, s => match s with
    | .Pass _ => true
    | _ => false
  | .never, _ => true
  | .raise C, s => match s with
    | .Raise (some (.Call (.Name x _) [] [] _)) none _ => okG sc C x
    | _ => false
def okSs (N : List Str) (sc : Scope) : SS → List Stmt → Bool
  | .nil, ss => ss.isEmpty
  | .cons x xs, ss => match ss with
    | s :: ss => okS N sc x s && okSs N sc xs ss
    | [] => false
end

/-! ### readings -/
def PostO (T : Wr) (W : WX) (φ : List Addr) (H : Hp) (o : Out) (D : Ends) : Prop := match o with
  | .nx env S => ∀ φ' σ' H', Ext φ φ' H H' → Rep T φ' σ' H' env S → D.nx σ' H'
  | .bk env S => ∀ φ' σ' H', Ext φ φ' H H' → Rep T φ' σ' H' env S → D.bk σ' H'
  | .ct env S => ∀ φ' σ' H', Ext φ φ' H H' → Rep T φ' σ' H' env S → D.ct σ' H'
  | .rt d S => ∀ φ' H' v, Ext φ φ' H H' → RepS T φ' H' S → RepV T.K φ' H' v d → D.rt v H'
  | .exc x env S => ∀ φ' σ' H' c dx, Ext φ φ' H H' → Rep T φ' σ' H' env S → RepX T φ' H' c dx x → W c dx σ' H'
  | .bad => False
def rdS (T : Wr) (W : WX) (f : EnvD → Store → Out) : TS := fun D σ H => ∃ (φ : List Addr) (env : EnvD) (S : Store), Rep T φ σ H env S ∧ PostO T W φ H (f env S) D
section
variable {P : Prg} {T : Wr} {X : Cx} {k : Nat} {W : WX}
theorem PostO.ext {φ φ1 : List Addr} {H H1 : Hp} {o : Out} {D : Ends} (x : Ext φ φ1 H H1) (p : PostO T W φ H o D) : PostO T W φ1 H1 o D := by
  cases o with
  | nx env S => exact fun φ' σ' H' x' => p φ' σ' H' (x.trans x')
  | bk env S => exact fun φ' σ' H' x' => p φ' σ' H' (x.trans x')
  | ct env S => exact fun φ' σ' H' x' => p φ' σ' H' (x.trans x')
  | rt d S => exact fun φ' H' v x' => p φ' H' v (x.trans x')
  | exc e env S => exact fun φ' σ' H' c dx x' => p φ' σ' H' c dx (x.trans x')
  | bad => exact p
theorem PostO.out {α β : Type} {R : Rl α β} {r : Res α} {env : EnvD} {f : α → Store → Out} {φ : List Addr} {σ : L2.St} {H : Hp} {S : Store} {D : Ends} {Q : β → Hp → Prop} (rp : Rep T φ σ H env S) (p : PostO T W φ H (r.out env f) D)
    (h : ∀ a S1 φ1 H1 b, r = .ok a S1 → Ext φ φ1 H H1 → Rep T φ1 σ H1 env S1 → R φ1 H1 b a → PostO T W φ1 H1 (f a S1) D → Q b H1) : Post T (fun c d H => W c d σ H) R φ H r Q := by
  cases r with
  | ok a S1 => exact fun φ1 H1 b x s q => h a S1 φ1 H1 b rfl x (rp.ext x s) q (PostO.ext x p)
  | exc e S1 => exact fun φ1 H1 c dx x s q => p φ1 σ H1 c dx x (rp.ext x s) q
  | bad => exact p
theorem PostO.nx {φ : List Addr} {σ : L2.St} {H : Hp} {env : EnvD} {S : Store} {D : Ends} (p : PostO T W φ H (.nx env S) D) (r : Rep T φ σ H env S) : D.nx σ H := p φ σ H Ext.refl r
theorem PostO.then {o : Out} {f : EnvD → Store → Out} {φ : List Addr} {H : Hp} {D : Ends} (p : PostO T W φ H (o.then f) D) : PostO T W φ H o { D with nx := rdS T W f D } := by
  cases o with
  | nx env S => exact fun φ' σ' H' x r => ⟨φ', env, S, r, PostO.ext x p⟩
  | bk env S => exact p
  | ct env S => exact p
  | rt d S => exact p
  | exc e env S => exact p
  | bad => exact p
theorem _root_.L2.PS.imp {X : Cx} {st : Stmt} {t t' : TS} (h : PS X st t) (i : ∀ D σ H, t' D σ H → t D σ H) : PS X st t' := ⟨fun pins s σ H D I q => h.run pins s σ H D I (i D σ H q)⟩
theorem _root_.L2.PSs.imp {X : Cx} {st : List Stmt} {t t' : TS} (h : PSs X st t) (i : ∀ D σ H, t' D σ H → t D σ H) : PSs X st t' := ⟨fun pins s σ H D I q => h.run pins s σ H D I (i D σ H q)⟩
theorem _root_.L2.PG.imp {X : Cx} {e : Expr} {t t' : L2.TG} (h : PG X e t) (i : ∀ v σ H Q, t' v σ H Q → t v σ H Q) : PG X e t' := ⟨fun pins s σ H v u Q I r q => h.run pins s σ H v u Q I r (i v σ H Q q)⟩
theorem _root_.L2.PGs.imp {X : Cx} {e : List Expr} {t t' : L2.TGs} (h : PGs X e t) (i : ∀ v σ H Q, t' v σ H Q → t v σ H Q) : PGs X e t' := ⟨fun pins s σ H v u Q I r q => h.run pins s σ H v u Q I r (i v σ H Q q)⟩
structure SitS (P : Prg) (T : Wr) (X : Cx) (k : Nat) (W : WX) : Prop where
  st : Sit P T X k W
  fn : ∀ x, X.fn x = true
  kind : X.env.scope.kind = .function
  pass : PassesOwn (model X.prog X.w) X.A X.env X.xe
def GoS (P : Prg) (T : Wr) (k : Nat) (x : ST) : Prop := ∀ (X : Cx) (W : WX), SitS P T X k W → ∀ s, okS X.N X.env.scope x s = true → PS X s (rdS T W (evS (cxK P k) x))
def GoSs (P : Prg) (T : Wr) (k : Nat) (x : SS) : Prop := ∀ (X : Cx) (W : WX), SitS P T X k W → ∀ s, okSs X.N X.env.scope x s = true → PSs X s (rdS T W (evSs (cxK P k) x))

/-! ### the small ones -/
theorem gs_nil : GoSs P T k .nil := fun X W st ss he => by
  have : ss = [] := List.isEmpty_iff.mp he
  subst this
  refine pss_nil.imp fun D σ H ⟨φ, env, S, r, p⟩ => ?_
  simp only [evSs] at p
  exact p.nx r
theorem gs_cons {x : ST} {xs : SS} (ih : GoS P T k x) (ihs : GoSs P T k xs) : GoSs P T k (.cons x xs) := fun X W st ss he => by
  cases ss with
  | nil => cases he
  | cons s ss =>
    have he : (okS X.N X.env.scope x s && okSs X.N X.env.scope xs ss) = true := he
    rw [Bool.and_eq_true] at he
    refine (pss_cons (ih X W st s he.1) (ihs X W st ss he.2)).imp fun D σ H ⟨φ, env, S, r, p⟩ => ?_
    simp only [evSs] at p
    exact ⟨φ, env, S, r, p.then⟩
theorem gs_pass : GoS P T k .pass := fun X W st s he => by
  unfold okS at he
  split at he
  · refine ps_pass.imp fun D σ H ⟨φ, env, S, r, p⟩ => ?_
    simp only [evS] at p
    exact p.nx r
  · cases he
theorem gs_brk : GoS P T k .brk := fun X W st s he => by
  unfold okS at he
  split at he
  · refine ps_break.imp fun D σ H ⟨φ, env, S, r, p⟩ => ?_
    simp only [evS] at p
    exact p φ σ H Ext.refl r
  · cases he
theorem gs_cont : GoS P T k .cont := fun X W st s he => by
  unfold okS at he
  split at he
  · refine ps_continue.imp fun D σ H ⟨φ, env, S, r, p⟩ => ?_
    simp only [evS] at p
    exact p φ σ H Ext.refl r
  · cases he
theorem gs_never : GoS P T k .never := fun X W st s he => by
  refine ps_never.imp fun D σ H ⟨φ, env, S, r, p⟩ => ?_
  simp only [evS] at p
  exact p
theorem gs_ret0 : GoS P T k .ret0 := fun X W st s he => by
  unfold okS at he
  split at he
  · refine ps_retN.imp fun D σ H ⟨φ, env, S, r, p⟩ => ?_
    simp only [evS] at p
    exact p φ H _ Ext.refl r.sto .non
  · cases he
theorem gs_ret {e : EX} (ih : GoE P T k e) : GoS P T k (.ret e) := fun X W st s he => by
  unfold okS at he
  split at he
  · refine (ps_ret (ih X W st.st _ he).1).imp fun D σ H ⟨φ, env, S, r, p⟩ => ?_
    simp only [evS] at p
    exact ⟨φ, env, S, r, p.out r fun d S1 φ1 H1 x _ x1 r1 rv p1 => p1 φ1 H1 x Ext.refl r1.sto rv⟩
  · cases he
theorem sw_none {e : Expr} {l : Nat} {env : PySem.Env} (h : plainC e = true) : ∀ t, swapsWith e t l env = pure false := by
  intro t
  cases e <;> first | rfl | cases h
theorem gs_expr {e : EX} (ih : GoE P T k e) : GoS P T k (.expr e) := fun X W st s he => by
  unfold okS at he
  split at he
  · rw [Bool.and_eq_true] at he
    refine (ps_expr (ih X W st.st _ he.2).1 (sw_none he.1 _)).imp fun D σ H ⟨φ, env, S, r, p⟩ => ?_
    simp only [evS] at p
    exact ⟨φ, env, S, r, p.out r fun d S1 φ1 H1 x _ x1 r1 rv p1 => p1.nx r1⟩
  · cases he
theorem gs_ife {t : EX} {a b : SS} (iht : GoE P T k t) (iha : GoSs P T k a) (ihb : GoSs P T k b) : GoS P T k (.ife t a b) := fun X W st s he => by
  unfold okS at he
  split at he
  · simp only [Bool.and_eq_true] at he
    refine (ps_if (iht X W st.st _ he.1.1).2 (iha X W st _ he.1.2) (ihb X W st _ he.2)).imp fun D σ H ⟨φ, env, S, r, p⟩ => ?_
    simp only [evS] at p
    refine ⟨φ, env, S, r, p.out r fun d S1 φ1 H1 x _ x1 r1 rv p1 => ?_⟩
    have rv : x = d := rv
    subst rv
    cases x with
    | true => exact ⟨φ1, env, S1, r1, p1⟩
    | false => exact ⟨φ1, env, S1, r1, p1⟩
  · cases he
/-! ### loops -/
theorem gs_whl {t : EX} {b : SS} (iht : GoE P T k t) (ihb : GoSs P T k b) : GoS P T k (.whl t b) := fun X W st s he => by
  unfold okS at he
  split at he
  · simp only [Bool.and_eq_true] at he
    refine (ps_while st.pass (iht X W st.st _ he.1).2 (ihb X W st _ he.2)).imp fun D σ H ⟨φ, env, S, r, p⟩ => ?_
    simp only [evS] at p
    generalize hro : whlT (evTest (cxK P k) t) (fun env S => evSs (cxK P k) b env S) LIM env S = ro at p
    refine ⟨fun m σ' H' => ∃ φ' env' S', Ext φ φ' H H' ∧ Rep T φ' σ' H' env' S' ∧ whlT (evTest (cxK P k) t) (fun env S => evSs (cxK P k) b env S) m env' S' = ro, ⟨LIM, φ, env, S, Ext.refl, r, hro⟩, ?_⟩
    rintro m σ1 H1 ⟨φ1, env1, S1, x1, r1, e1⟩
    have p1 := PostO.ext x1 p
    cases m with
    | zero =>
      unfold whlT at e1
      subst e1
      exact False.elim p1
    | succ n =>
      unfold whlT at e1
      rw [← e1] at p1
      refine ⟨φ1, env1, S1, r1, p1.out r1 fun bb S2 φ2 H2 x e2 x2 r2 rv p2 => ?_⟩
      have rv : x = bb := rv
      subst rv
      rw [e2] at e1
      cases x with
      | false => exact p2.nx r2
      | true =>
        have e1 : (match evSs (cxK P k) b env1 S2 with
          | .nx env S => whlT (evTest (cxK P k) t) (fun env S => evSs (cxK P k) b env S) n env S
          | .ct env S => whlT (evTest (cxK P k) t) (fun env S => evSs (cxK P k) b env S) n env S
          | .bk env S => .nx env S
          | o => o) = ro := e1
        have p2 : PostO T W φ2 H2 (match evSs (cxK P k) b env1 S2 with
          | .nx env S => whlT (evTest (cxK P k) t) (fun env S => evSs (cxK P k) b env S) n env S
          | .ct env S => whlT (evTest (cxK P k) t) (fun env S => evSs (cxK P k) b env S) n env S
          | .bk env S => .nx env S
          | o => o) D := p2
        refine ⟨fun σ' H' => ∃ m', m' < n + 1 ∧ ∃ φ' env' S', Ext φ φ' H H' ∧ Rep T φ' σ' H' env' S' ∧ whlT (evTest (cxK P k) t) (fun env S => evSs (cxK P k) b env S) m' env' S' = ro, fun σ' H' h => h, φ2, env1, S2, r2, ?_⟩
        cases hb : evSs (cxK P k) b env1 S2 with
        | nx env3 S3 => rw [hb] at e1; exact fun φ3 σ3 H3 x3 r3 => ⟨n, Nat.lt_succ_self n, φ3, env3, S3, (x1.trans x2).trans x3, r3, e1⟩
        | ct env3 S3 => rw [hb] at e1; exact fun φ3 σ3 H3 x3 r3 => ⟨n, Nat.lt_succ_self n, φ3, env3, S3, (x1.trans x2).trans x3, r3, e1⟩
        | bk env3 S3 => rw [hb] at p2; exact p2
        | rt d S3 => rw [hb] at p2; exact p2
        | exc x env3 S3 => rw [hb] at p2; exact p2
        | bad => rw [hb] at p2; exact p2
  · cases he
def lpO (o : Out) (g : EnvD → Store → Out) : Out := match o with
  | .nx env S => g env S
  | .ct env S => g env S
  | .bk env S => .nx env S
  | o => o
def loopI (f : D → EnvD → Store → Out) (iv : ItV) (env : EnvD) (S : Store) : Out := match iv with
  | .ds ds => forT f ds env S
  | .lst l => forL f l LIM 0 env S
def WkF (f : D → EnvD → Store → Out) (iv : ItV) (i m : Nat) (env : EnvD) (S : Store) (ro : Out) : Prop := match iv with
  | .ds ds => i ≤ ds.length ∧ m = ds.length - i ∧ forT f (ds.drop i) env S = ro
  | .lst l => forL f l m i env S = ro
theorem wkF_start {f : D → EnvD → Store → Out} {iv : ItV} {env : EnvD} {S : Store} : ∃ m, WkF f iv 0 m env S (loopI f iv env S) := by
  cases iv with
  | ds ds => exact ⟨ds.length, Nat.zero_le _, rfl, by rw [List.drop_zero]; rfl⟩
  | lst l => exact ⟨LIM, rfl⟩
theorem wkF_turn {f : D → EnvD → Store → Out} {iv : ItV} {i m : Nat} {env : EnvD} {S : Store} {ro : Out} {φ : List Addr} {H : Hp} {J : It} (w : WkF f iv i m env S ro) (hb : ro ≠ .bad) (r : RepS T φ H S) (ri : RI T φ H J iv) :
    (J.stop i H ∧ ro = .nx env S) ∨ (J.go i H ∧ ∃ d, (∀ x H', J.yld i H x H' → RepV T.K φ H' x d ∧ Ext φ φ H H' ∧ RepS T φ H' S) ∧ ∃ m' g, m' < m ∧ ro = lpO (f d env S) g ∧ ∀ env' S', g env' S' = ro → WkF f iv (i + 1) m' env' S' ro) := by
  cases iv with
  | ds ds =>
    obtain ⟨hi, hm, hw⟩ := w
    obtain ⟨h1, h2⟩ := ri φ H S Ext.refl r i
    by_cases hlt : i < ds.length
    · obtain ⟨h3, h4⟩ := h2 hlt
      rw [List.drop_eq_getElem_cons hlt] at hw
      refine .inr ⟨h3, ds[i], fun x H' hy => ?_, ds.length - (i + 1), fun env S => forT f (ds.drop (i + 1)) env S, by omega, ?_, fun env' S' e => ⟨hlt, rfl, e⟩⟩
      · obtain ⟨d, e1, e2, e3, e4⟩ := h4 x H' hy
        rw [List.getElem?_eq_getElem hlt] at e1; cases e1
        exact ⟨e2, e3, e4⟩
      · rw [← hw]; rfl
    · have hi2 : i = ds.length := by omega
      subst hi2
      rw [List.drop_length] at hw
      exact .inl ⟨h1 (Nat.le_refl _), hw.symm⟩
  | lst l =>
    obtain ⟨b, hl, rfl⟩ := ri
    have w : forL f l m i env S = ro := w
    cases m with
    | zero => exact absurd w.symm hb
    | succ n =>
      unfold forL at w
      split at w
      · rename_i ds hS
        obtain ⟨vs, h1, h2⟩ := r.ob _ _ _ hS hl
        have hq : SqL T.K H b vs := SqL.of h1
        split at w
        · rename_i d hd
          obtain ⟨v, e1, e2⟩ := h2.get hd
          refine .inr ⟨⟨vs, v, hq, e1⟩, d, fun x H' hy => ?_, n, fun env S => forL f l n (i + 1) env S, Nat.lt_succ_self n, w.symm, fun env' S' e => e⟩
          obtain ⟨rfl, hy⟩ := hy
          have e3 := hy vs hq
          rw [e1] at e3; cases e3
          exact ⟨e2, Ext.refl, r⟩
        · rename_i hd
          refine .inl ⟨⟨vs, hq, ?_⟩, w.symm⟩
          rw [h2.length]
          exact List.getElem?_eq_none_iff.mp hd
      · exact absurd w.symm hb
theorem PostO.notBad {o : Out} {φ : List Addr} {H : Hp} {D : Ends} (p : PostO T W φ H o D) : o ≠ .bad := by rintro rfl; exact p
/-- a turn of a for -/
def bodF (c : Ctx) (t : TG) (b : SS) : D → EnvD → Store → Out := fun d env S => match bindT t d env with
  | some env => evSs c b env S
  | none => .bad
theorem gs_for {t : TG} {it : IT} {b : SS} (ihi : GoI P T k it) (ihb : GoSs P T k b) : GoS P T k (.for_ t it b) := fun X W st s he => by
  unfold okS at he
  split at he
  · simp only [Bool.and_eq_true] at he
    refine (ps_for st.pass st.st.calm (ihi X W st.st _ _ he.1.2.1 he.1.2.2) (pg_ok st.st.calm st.st.nd (fun i x _ _ _ => .inl (st.fn x)) he.1.1) (ihb X W st _ he.2) fun x => folded_plain (okI_plain he.1.2.1) x).imp fun D σ H ⟨φ, env, S, r, p⟩ => ?_
    simp only [evS] at p
    refine ⟨φ, env, S, r, p.out r fun iv S1 φ1 H1 J _ x1 r1 ri p1 => ?_⟩
    have p1 : PostO T W φ1 H1 (loopI (bodF (cxK P k) t b) iv env S1) D := by cases iv <;> exact p1
    generalize hf : bodF (cxK P k) t b = f at p1
    have nb := p1.notBad
    generalize hro : loopI f iv env S1 = ro at p1 nb
    refine ⟨fun i m σ' H' => ∃ φ' env' S', Ext φ1 φ' H1 H' ∧ Rep T φ' σ' H' env' S' ∧ WkF f iv i m env' S' ro, ?_, ?_⟩
    · obtain ⟨m, hm⟩ := wkF_start (f := f) (iv := iv) (env := env) (S := S1)
      rw [hro] at hm
      exact ⟨m, φ1, env, S1, Ext.refl, r1, hm⟩
    · rintro i m σ2 H2 ⟨φ2, env2, S2, x2, r2, w2⟩
      rcases wkF_turn w2 nb r2.sto (ri.ext x2) with ⟨hstop, e0⟩ | ⟨hgo, d, hy, m', g, hm', e0, nxt⟩
      · subst e0
        exact .inl ⟨hstop, (PostO.ext x2 p1).nx r2⟩
      · refine .inr ⟨hgo, fun σ' H' => ∃ m', m' < m ∧ ∃ φ' env' S', Ext φ1 φ' H1 H' ∧ Rep T φ' σ' H' env' S' ∧ WkF f iv (i + 1) m' env' S' ro, fun _ _ h => h, fun x H' hyl => ?_⟩
        obtain ⟨rx, x3, s3⟩ := hy x H' hyl
        cases hbt : bindT t d env2 with
        | none =>
          rw [← hf] at e0
          unfold bodF at e0
          rw [hbt] at e0
          exact absurd e0 nb
        | some env3 =>
          rw [st.st.K]
          refine bindT_rep rx (r2.ext x3 s3) hbt fun σ4 r4 _ => ⟨φ2, env3, S2, r4, ?_⟩
          have e0 : ro = lpO (evSs (cxK P k) b env3 S2) g := by rw [e0, ← hf]; unfold bodF; rw [hbt]
          have p4 := PostO.ext (x2.trans x3) p1
          cases hb : evSs (cxK P k) b env3 S2 with
          | nx env5 S5 => rw [hb] at e0; exact fun φ5 σ5 H5 x5 r5 => ⟨m', hm', φ5, env5, S5, (x2.trans x3).trans x5, r5, nxt _ _ e0.symm⟩
          | ct env5 S5 => rw [hb] at e0; exact fun φ5 σ5 H5 x5 r5 => ⟨m', hm', φ5, env5, S5, (x2.trans x3).trans x5, r5, nxt _ _ e0.symm⟩
          | bk env5 S5 => rw [hb] at e0; rw [e0] at p4; exact p4
          | rt d5 S5 => rw [hb] at e0; rw [e0] at p4; exact p4
          | exc x5 env5 S5 => rw [hb] at e0; rw [e0] at p4; exact p4
          | bad => rw [hb] at e0; exact absurd e0 nb
  · cases he
end
end Ev
end

section
set_option Elab.async false
set_option linter.all false
set_option maxRecDepth 100000
set_option maxHeartbeats 1000000
set_option autoImplicit false
/-! Ev14: stores; every statement. -/
namespace Ev
open PySem PySem.Spec L2
open PyProof.Rows hiding St

section
variable {P : Prg} {T : Wr} {X : Cx} {k : Nat} {W : WX}
/-! ### one target -/
def gTA (T : Wr) (W : WX) (c : Ctx) (t : TAG) : L2.TG := fun v σ H Q => ∃ (φ : List Addr) (env : EnvD) (S : Store) (d : Ev.D), Rep T φ σ H env S ∧ RepV T.K φ H v d ∧ PostO T W φ H (asgT c t d env S) { nx := Q, rt := fun _ _ => False }
theorem asg_sub {o i : Expr} {pos : Pos} {env : PySem.Env} (h : plainX i = true) (v : Value) : assign (.Subscript o i pos) env v = (do
      let ov ← holding [v] (eval o env)
      let iv ← holding [v, ov] (eval i env)
      standAt pos
      holding [v, ov, iv] (setItem ov iv v)
      release [v, ov, iv] []) := by
  cases i <;> first | rfl | cases h
theorem pg_tag {t : TAG} {e : Expr} (st : SitS P T X k W) (iho : ∀ o i, t = .sub o i → GoE P T k o ∧ GoE P T k i) (he : okTag X.N X.env.scope t e = true) : PG X e (gTA T W (cxK P k) t) := by
  cases t with
  | name i =>
    dsimp only [okTag] at he
    split at he
    · simp only [Bool.and_eq_true, decide_eq_true_eq] at he
      refine (pg_name st.st.nd he.1.1 (locB_ok he.1.2) (.inl (st.fn _))).imp fun v σ H Q ⟨φ, env, S, d, r, rv, p⟩ => ?_
      dsimp only [asgT] at p
      split at p
      · rename_i hi
        exact p.nx (r.set rv hi)
      · exact False.elim p
    · cases he
  | sub o i =>
    obtain ⟨go, gi⟩ := iho o i rfl
    dsimp only [okTag] at he
    split at he
    · rename_i l r pos
      rw [Bool.and_eq_true] at he
      refine (pg_sub (go X W st.st _ he.1).1 (gi X W st.st _ he.2).1 (set_D (T := T) st.st.hu) (fun v => asg_sub (okE_plain he.2) v)).imp fun v σ H Q ⟨φ, env, S, d, r, rv, p⟩ => ?_
      dsimp only [asgT] at p
      refine ⟨φ, env, S, r, p.out r fun a S1 φ1 H1 x _ x1 r1 ra p1 => ⟨φ1, env, S1, r1, p1.out r1 fun b S2 φ2 H2 y _ x2 r2 rb p2 => ?_⟩⟩
      refine ⟨fun c d H => W c d σ H, φ2, S2, a, b, d, r2.sto, ra.ext r1.sto x2, rb, (rv.ext r.sto x1).ext r1.sto x2, ?_⟩
      exact p2.out r2 fun _ S3 φ3 H3 z _ x3 r3 _ p3 => p3.nx r3
    · cases he
theorem gs_asg {t : TAG} {e : EX} (iht : ∀ o i, t = .sub o i → GoE P T k o ∧ GoE P T k i) (ih : GoE P T k e) : GoS P T k (.asg t e) := fun X W st s he => by
  unfold okS at he
  split at he
  · rename_i l r p v pos
    rw [Bool.and_eq_true] at he
    refine (ps_asg (ih X W st.st _ he.2).1 (pg_tag st iht he.1) (by cases v <;> rfl) (by rfl) (by rfl)).imp fun D σ H ⟨φ, env, S, r, p⟩ => ?_
    simp only [evS] at p
    refine ⟨φ, env, S, r, p.out r fun d S1 φ1 H1 x _ x1 r1 rv p1 => ⟨φ1, env, S1, d, r1, rv, ?_⟩⟩
    cases t with
    | name i =>
      simp only [asgT] at p1 ⊢
      split at p1
      · rename_i hi; rw [if_pos hi]; exact p1
      · exact False.elim p1
    | sub o i =>
      simp only [asgT] at p1 ⊢
      generalize (evE (cxK P k) o env S1) = ro at p1 ⊢
      cases ro with
      | bad => exact p1
      | exc x S => exact p1
      | ok a S2 =>
        simp only [Res.out_ok] at p1 ⊢
        generalize (evE (cxK P k) i env S2) = ri at p1 ⊢
        cases ri with
        | bad => exact p1
        | exc x S => exact p1
        | ok b S3 =>
          simp only [Res.out_ok] at p1 ⊢
          generalize stoD a b d S3 = rs at p1 ⊢
          cases rs with
          | bad => exact p1
          | exc x S => exact p1
          | ok u S4 => exact p1
  · cases he
/-! ### targets in a row -/
def gTAs (T : Wr) (W : WX) (c : Ctx) (ts : List TAG) : L2.TGs := fun vs σ H Q => ∃ (φ : List Addr) (env : EnvD) (S : Store) (ds : List Ev.D), Rep T φ σ H env S ∧ RepVs T.K φ H vs ds ∧ PostO T W φ H (asgTs c ts ds env S) { nx := Q, rt := fun _ _ => False }
theorem asgT_out {c : Ctx} {t : TAG} {d : Ev.D} {env : EnvD} {S : Store} : (∃ e' S', asgT c t d env S = .nx e' S') ∨ (∃ x e' S', asgT c t d env S = .exc x e' S') ∨ asgT c t d env S = .bad := by
  have ro : ∀ {α : Type} (r : Res α) (f : α → Store → Out), (∀ a S, (∃ e' S', f a S = .nx e' S') ∨ (∃ x e' S', f a S = .exc x e' S') ∨ f a S = .bad) → ((∃ e' S', r.out env f = .nx e' S') ∨ (∃ x e' S', r.out env f = .exc x e' S') ∨ r.out env f = .bad) := fun r f h => by
    cases r with
    | ok a S => exact h a S
    | exc x S => exact .inr (.inl ⟨x, env, S, rfl⟩)
    | bad => exact .inr (.inr rfl)
  cases t with
  | name i =>
    dsimp only [asgT]
    split
    · exact .inl ⟨_, _, rfl⟩
    · exact .inr (.inr rfl)
  | sub o i =>
    dsimp only [asgT]
    exact ro _ _ fun a S => ro _ _ fun b S => ro _ _ fun u S => .inl ⟨_, _, rfl⟩
theorem okTag_plain {N : List Str} {sc : Scope} {t : TAG} {e : Expr} (h : okTag N sc t e = true) : plainX e = true := by
  cases t <;> (dsimp only [okTag] at h; split at h <;> first | rfl | cases h)
theorem okTags_len {N : List Str} {sc : Scope} {env : PySem.Env} : ∀ {ts : List TAG} {es : List Expr}, okTags N sc ts es = true → (assignEach es env).length = ts.length ∧ (assignEach es env).findIdx? (·.1) = none
  | [], [], h => ⟨rfl, rfl⟩
  | [], _ :: _, h => by cases h
  | t :: ts, [], h => by cases h
  | t :: ts, e :: es, h => by
    have h : (okTag N sc t e && okTags N sc ts es) = true := h
    rw [Bool.and_eq_true] at h
    obtain ⟨h1, h2⟩ := okTags_len (env := env) h.2
    rw [assignEach_plain (okTag_plain h.1)]
    refine ⟨by show (assignEach es env).length + 1 = ts.length + 1; rw [h1], ?_⟩
    rw [List.findIdx?_cons]
    simp [h2]
theorem pgs_tags (st : SitS P T X k W) : ∀ {ts : List TAG} {es : List Expr}, (∀ o i, TAG.sub o i ∈ ts → GoE P T k o ∧ GoE P T k i) → okTags X.N X.env.scope ts es = true → PGs X es (gTAs T W (cxK P k) ts)
  | [], [], ih, he => pgs_nil.imp fun vs σ H Q ⟨φ, env, S, ds, r, rv, p⟩ => by
    cases ds with
    | nil => cases rv; exact ⟨rfl, p.nx r⟩
    | cons _ _ => exact False.elim p
  | [], _ :: _, ih, he => by cases he
  | t :: ts, [], ih, he => by cases he
  | t :: ts, e :: es, ih, he => by
    have he : (okTag X.N X.env.scope t e && okTags X.N X.env.scope ts es) = true := he
    rw [Bool.and_eq_true] at he
    refine (pgs_cons (pg_tag st (fun o i h => ih o i (by rw [← h]; exact List.mem_cons_self)) he.1) (pgs_tags st (fun o i h => ih o i (List.mem_cons_of_mem _ h)) he.2) (by rw [assignEach_plain (okTag_plain he.1)]; rfl)).imp fun vs σ H Q ⟨φ, env, S, ds, r, rv, p⟩ => ?_
    cases ds with
    | nil => exact False.elim p
    | cons d ds =>
      cases rv with
      | cons rv rvs =>
        refine ⟨_, _, rfl, φ, env, S, d, r, rv, ?_⟩
        unfold asgTs at p
        rcases asgT_out (c := cxK P k) (t := t) (d := d) (env := env) (S := S) with ⟨e', S', e1⟩ | ⟨x, e', S', e1⟩ | e1
        · rw [e1] at p ⊢
          exact fun φ' σ' H' x' r' => ⟨φ', e', S', ds, r', rvs.ext r.sto x', PostO.ext x' p⟩
        · rw [e1] at p ⊢
          exact p
        · rw [e1] at p
          exact False.elim p
theorem okTags_lenE {N : List Str} {sc : Scope} : ∀ {ts : List TAG} {es : List Expr}, okTags N sc ts es = true → es.length = ts.length
  | [], [], h => rfl
  | [], _ :: _, h => by cases h
  | t :: ts, [], h => by cases h
  | t :: ts, e :: es, h => by
    have h : (okTag N sc t e && okTags N sc ts es) = true := h
    rw [Bool.and_eq_true] at h
    show es.length + 1 = ts.length + 1
    rw [okTags_lenE h.2]
theorem filterMap_lt {α β : Type} (f : α → Option β) : ∀ (l : List α), (l.any fun a => (f a).isNone) = true → (l.filterMap f).length < l.length
  | [], h => by cases h
  | a :: l, h => by
    rw [List.any_cons, Bool.or_eq_true] at h
    have hle := List.length_filterMap_le f l
    cases hfa : f a with
    | none => rw [List.filterMap_cons_none hfa]; show _ < l.length + 1; omega
    | some b =>
      rw [List.filterMap_cons_some hfa]
      rcases h with h | h
      · rw [hfa] at h; cases h
      · have := filterMap_lt f l h
        show (l.filterMap f).length + 1 < l.length + 1
        omega
theorem inOrder_ok {sc : Scope} {ts : List Expr} {v : Expr} {kt : Nat} {pt : Pos} {env : PySem.Env} (hk : env.scope.kind = .function) (hs : env.scope = sc) (h : inOrder sc ts v = true) : swappedStores [.Tuple ts kt pt] v env = pure none := by
  subst hs
  cases v with
  | Tuple vs k2 p2 =>
    have h : (decide (ts.length ≠ 2 ∧ ts.length ≠ 3) || (ts.any fun
      | .Name x _ => !(env.scope.names.lookup x == some .local)
      | _ => true) || vs.all (foldedForSure 8)) = true := h
    unfold swappedStores
    have hb : env.blockKind = .function := by unfold Env.blockKind; rw [hk]; rfl
    simp only [hb]
    split
    · rfl
    rename_i n1
    split
    · rfl
    split
    · rfl
    rename_i n3
    split
    · rfl
    rename_i n4
    exfalso
    rw [Bool.or_eq_true, Bool.or_eq_true] at h
    rcases h with (h | h) | h
    · simp at h n1
      omega
    · apply n3
      rw [Bool.or_eq_true]
      refine .inl ?_
      rw [bne_iff_ne]
      refine Nat.ne_of_lt (filterMap_lt _ _ ?_)
      rw [List.any_eq_true] at h ⊢
      obtain ⟨x, hx, h⟩ := h
      refine ⟨x, hx, ?_⟩
      cases x with
      | Name id pos =>
        have h : (!(env.scope.names.lookup id == some NameKind.local)) = true := h
        have hkk : (env.kindOf id == some NameKind.local) = false := by
          rw [Bool.not_eq_true'] at h
          exact h
        dsimp only
        rw [hkk]
        rfl
      | _ => rfl
    · exact n4 h
  | _ => rfl
theorem lclB_ok {sc : Scope} {x : Str} (h : lclB sc x = true) : sc.names.lookup x = some .local := by
  unfold lclB at h
  split at h
  · assumption
  · cases h
theorem ofNd {N : List Str} {i j : Nat} {x y : Str} (hN : N.Nodup) (hi : N[i]? = some x) (hj : N[j]? = some y) (h : i ≠ j) : x ≠ y := by
  rintro rfl
  obtain ⟨h1, e1⟩ := List.getElem?_eq_some_iff.mp hi
  obtain ⟨h2, e2⟩ := List.getElem?_eq_some_iff.mp hj
  exact h ((List.getElem_inj hN).mp (e1.trans e2.symm))
theorem swp2 {x y : Str} {px py pt p2 : Pos} {a b : Expr} {kt k2 : Nat} {env : PySem.Env} (hk : env.scope.kind = .function) (hx : env.scope.names.lookup x = some .local) (hy : env.scope.names.lookup y = some .local) (hxy : x ≠ y) (hl : (px.line == py.line) = true)
    (pa : plainX a = true) (pb : plainX b = true) (h1 : [a, b].all (foldedForSure 8) = false) (h2 : [a, b].all (constantsAlone 8) = false) : swappedStores [.Tuple [.Name x px, .Name y py] kt pt] (.Tuple [a, b] k2 p2) env = pure (some [x, y]) := by
  unfold swappedStores
  have hb : env.blockKind = .function := by unfold Env.blockKind; rw [hk]; rfl
  have kx : env.kindOf x = some .local := hx
  have ky : env.kindOf y = some .local := hy
  have hl' : (py.line == px.line) = true := by rw [beq_iff_eq] at hl ⊢; exact hl.symm
  have hed : [x, y].eraseDups = [x, y] := by
    rw [List.eraseDups_cons]
    have : ([y].filter fun b => !b == x) = [y] := by
      have : (y == x) = false := by simpa using fun e : y = x => hxy e.symm
      simp [List.filter, this]
    rw [this]
    rfl
  simp only [hb]
  rw [if_neg (by simp), if_neg (by
    simp only [List.any_cons, List.any_nil, Bool.or_false, Bool.or_eq_true]
    rintro (h | h)
    · cases a <;> first | (cases h; done) | cases pa
    · cases b <;> first | (cases h; done) | cases pb)]
  simp only [List.head?_cons, Option.map_some, Option.getD_some, Expr.pos, List.filterMap_cons, List.filterMap_nil, kx, ky, hl', beq_self_eq_true, Bool.and_self, if_true, List.length_cons, List.length_nil, hed, h1, h2, bne_self_eq_false, Bool.or_self, Bool.false_eq_true, if_false]

theorem swp3 {x y z : Str} {px py pz pt p2 : Pos} {a b c : Expr} {kt k2 : Nat} {env : PySem.Env} (hk : env.scope.kind = .function) (hx : env.scope.names.lookup x = some .local) (hy : env.scope.names.lookup y = some .local) (hz : env.scope.names.lookup z = some .local)
    (hxy : x ≠ y) (hxz : x ≠ z) (hyz : y ≠ z) (hl : (px.line == py.line) = true) (hl2 : (px.line == pz.line) = true)
    (pa : plainX a = true) (pb : plainX b = true) (pc : plainX c = true) (h1 : [a, b, c].all (foldedForSure 8) = false) (h2 : [a, b, c].all (constantsAlone 8) = false) : swappedStores [.Tuple [.Name x px, .Name y py, .Name z pz] kt pt] (.Tuple [a, b, c] k2 p2) env = pure (some [x, y, z]) := by
  unfold swappedStores
  have hb : env.blockKind = .function := by unfold Env.blockKind; rw [hk]; rfl
  have kx : env.kindOf x = some .local := hx
  have ky : env.kindOf y = some .local := hy
  have kz : env.kindOf z = some .local := hz
  have hl' : (py.line == px.line) = true := by rw [beq_iff_eq] at hl ⊢; exact hl.symm
  have hl2' : (pz.line == px.line) = true := by rw [beq_iff_eq] at hl2 ⊢; exact hl2.symm
  have hed : [x, y, z].eraseDups = [x, y, z] := by
    have e1 : (y == x) = false := by simpa using fun e : y = x => hxy e.symm
    have e2 : (z == x) = false := by simpa using fun e : z = x => hxz e.symm
    have e3 : (z == y) = false := by simpa using fun e : z = y => hyz e.symm
    rw [List.eraseDups_cons]
    have : ([y, z].filter fun b => !b == x) = [y, z] := by simp [List.filter, e1, e2]
    rw [this, List.eraseDups_cons]
    have : ([z].filter fun b => !b == y) = [z] := by simp [List.filter, e3]
    rw [this]
    rfl
  simp only [hb]
  rw [if_neg (by simp), if_neg (by
    simp only [List.any_cons, List.any_nil, Bool.or_false, Bool.or_eq_true]
    rintro (h | h | h)
    · cases a <;> first | (cases h; done) | cases pa
    · cases b <;> first | (cases h; done) | cases pb
    · cases c <;> first | (cases h; done) | cases pc)]
  simp only [List.head?_cons, Option.map_some, Option.getD_some, Expr.pos, List.filterMap_cons, List.filterMap_nil, kx, ky, kz, hl', hl2', beq_self_eq_true, Bool.and_self, if_true, List.length_cons, List.length_nil, hed, h1, h2, bne_self_eq_false, Bool.or_self, Bool.false_eq_true, if_false]
theorem parE_len : ∀ (ns : List Nat) (ds : List Ev.D) (env : EnvD), (parE ns ds env).length = env.length
  | [], _, _ => by unfold parE; rfl
  | _ :: _, [], _ => by unfold parE; rfl
  | i :: is, d :: ds, env => by unfold parE; rw [parE_len]; simp
theorem Rep.setO {φ : List Addr} {σ : L2.St} {H : Hp} {env : EnvD} {S : Store} {i : Nat} {v : V} {d : Ev.D} (r : Rep T φ σ H env S) (rv : RepV T.K φ H v d) : Rep T φ (σ.set i (some v)) H (env.set i (some d)) S := by
  by_cases hi : i < env.length
  · exact r.set rv hi
  · have hl := r.len
    rw [List.set_eq_of_length_le (by omega), List.set_eq_of_length_le (by omega)]
    exact r
theorem gs_par {ns : List Nat} {es : EXs} (ih : GoEs P T k es) : GoS P T k (.par ns es) := fun X W st s he => by
  unfold okS at he
  split at he
  · rename_i ts kt pt vs k2 p2 pos
    rw [Bool.and_eq_true] at he
    obtain ⟨h1, h2⟩ := he
    have pa := (ih X W st.st _ h2).1
    unfold okPar at h1
    split at h1
    · rename_i i j x px y py a b
      simp only [Bool.and_eq_true, decide_eq_true_eq, Bool.not_eq_true'] at h1
      obtain ⟨⟨⟨⟨⟨⟨⟨⟨⟨hi, hj⟩, hij⟩, hx⟩, hy⟩, hl⟩, qa⟩, qb⟩, f1⟩, f2⟩ := h1
      refine (ps_par st.st.calm st.st.nd hi hj hij (lclB_ok hx) (lclB_ok hy) pa (swp2 st.kind (lclB_ok hx) (lclB_ok hy) (ofNd st.st.nd hi hj hij) hl qa qb f1 f2) rfl).imp fun D σ H ⟨φ, env, S, r, p⟩ => ?_
      simp only [evS] at p
      refine ⟨φ, env, S, r, p.out r fun ds S1 φ1 H1 xs _ x1 r1 rv p1 => ?_⟩
      split at p1
      · rename_i hlen
        match ds, xs, rv, p1, hlen with
        | [d1, d2], [v1, v2], .cons q1 (.cons q2 .nil), p1, _ => exact ⟨v1, v2, rfl, p1.nx ((r1.setO q1).setO q2)⟩
      · exact False.elim p1
    · rename_i i j l x px y py z pz a b c
      simp only [Bool.and_eq_true, decide_eq_true_eq, Bool.not_eq_true'] at h1
      obtain ⟨⟨⟨⟨⟨⟨⟨⟨⟨⟨⟨⟨⟨⟨⟨hi, hj⟩, hk⟩, hij⟩, hik⟩, hjk⟩, hx⟩, hy⟩, hz⟩, hl⟩, hl2⟩, qa⟩, qb⟩, qc⟩, f1⟩, f2⟩ := h1
      refine (ps_par3 st.st.calm st.st.nd hi hj hk hij hik hjk (lclB_ok hx) (lclB_ok hy) (lclB_ok hz) pa (swp3 st.kind (lclB_ok hx) (lclB_ok hy) (lclB_ok hz) (ofNd st.st.nd hi hj hij) (ofNd st.st.nd hi hk hik) (ofNd st.st.nd hj hk hjk) hl hl2 qa qb qc f1 f2) rfl).imp fun D σ H ⟨φ, env, S, r, p⟩ => ?_
      simp only [evS] at p
      refine ⟨φ, env, S, r, p.out r fun ds S1 φ1 H1 xs _ x1 r1 rv p1 => ?_⟩
      split at p1
      · rename_i hlen
        match ds, xs, rv, p1, hlen with
        | [d1, d2, d3], [v1, v2, v3], .cons q1 (.cons q2 (.cons q3 .nil)), p1, _ => exact ⟨v1, v2, v3, rfl, p1.nx (((r1.setO q1).setO q2).setO q3)⟩
      · exact False.elim p1
    · cases h1
  · cases he
theorem gs_asgs {ts : List TAG} {e : EX} (iht : ∀ o i, TAG.sub o i ∈ ts → GoE P T k o ∧ GoE P T k i) (ih : GoE P T k e) : GoS P T k (.asgs ts e) := fun X W st s he => by
  unfold okS at he
  split at he
  · rename_i us kt pt v pos
    simp only [Bool.and_eq_true] at he
    obtain ⟨⟨h1, h2⟩, h3⟩ := he
    obtain ⟨hn, hst⟩ := okTags_len (env := X.env) h1
    refine (ps_asg (ih X W st.st _ h3).1 (pg_tup st.st.calm (pgs_tags st iht h1) hn hst) (by cases v <;> rfl) (inOrder_ok st.kind rfl h2) (by rfl)).imp fun D σ H ⟨φ, env, S, r, p⟩ => ?_
    simp only [evS] at p
    refine ⟨φ, env, S, r, p.out r fun d S1 φ1 H1 x _ x1 r1 rv p1 => ?_⟩
    cases d with
    | tup ds =>
      cases rv with
      | tup g1 g2 =>
        dsimp only at p1
        split at p1
        · rename_i hl
          refine ⟨_, _, rfl, by rw [st.st.K]; exact SqT.of g1, by rw [g2.length]; exact hl, φ1, env, S1, ds, r1, g2, ?_⟩
          have noRt : ∀ (ts : List TAG) (ds : List Ev.D) (env : EnvD) (S : Store) {φ H}, PostO T W φ H (asgTs (cxK P k) ts ds env S) D → PostO T W φ H (asgTs (cxK P k) ts ds env S) { nx := D.nx, rt := fun _ _ => False } := by
            intro ts
            induction ts with
            | nil =>
              intro ds env S φ H p
              cases ds with
              | nil => exact p
              | cons _ _ => exact p
            | cons t ts ih =>
              intro ds env S φ H p
              cases ds with
              | nil => exact p
              | cons d ds =>
                unfold asgTs at p ⊢
                rcases asgT_out (c := cxK P k) (t := t) (d := d) (env := env) (S := S) with ⟨e', S', e1⟩ | ⟨x, e', S', e1⟩ | e1
                · rw [e1] at p ⊢
                  exact ih ds e' S' p
                · rw [e1] at p ⊢
                  exact p
                · rw [e1] at p
                  exact False.elim p
          exact noRt _ _ _ _ p1
        · exact False.elim p1
    | _ => exact False.elim p1
  · cases he
theorem gs_aug {i : Nat} {op : Op} {e : EX} (ih : GoE P T k e) : GoS P T k (.aug i op e) := fun X W st s he => by
  unfold okS at he
  split at he
  · rename_i x pn o v pos
    simp only [Bool.and_eq_true, decide_eq_true_eq] at he
    obtain ⟨⟨⟨⟨⟨hi, hx⟩, hp⟩, rfl⟩, ho⟩, h3⟩ := he
    have run : ∀ {ti : TIp} (hp : PIp X (opOf op) ti) (f : Int → Int → Int), (∀ x y S, augD op x y S = match x, y with
        | .int i, .int j => .ok (.int (f i j)) S
        | _, _ => .bad) → (∀ x y H Q, ipI f x y H Q → ti x y H Q) → PS X (.AugAssign (.Name x pn) (opOf op) v pos) (rdS T W (evS (cxK P k) (.aug i op e))) := by
      intro ti hip f hf hti
      refine (ps_aug st.st.nd hi (locB_ok hx) (ih X W st.st _ h3).1 hip (.inl (st.fn x))).imp fun D σ H ⟨φ, env, S, r, p⟩ => ?_
      simp only [evS] at p
      split at p
      · rename_i d hd
        obtain ⟨v0, e1, e2⟩ := r.env i d hd
        refine ⟨v0, e1, φ, env, S, r, p.out r fun b S1 φ1 H1 y _ x1 r1 rb p1 => hti _ _ _ _ ?_⟩
        rw [hf] at p1
        have e3 := e2.ext r.sto x1
        cases d with
        | int n =>
          cases b with
          | int m =>
            cases e3; cases rb
            exact ⟨n, m, rfl, rfl, p1.nx (r1.setO (.int _))⟩
          | _ => exact False.elim p1
        | _ => exact False.elim p1
      · exact False.elim p
    cases op with
    | add => exact run ip_add (fun i j => i + j) (fun x y S => by cases x <;> first | rfl | (cases y <;> rfl)) fun _ _ _ _ h => h
    | sub => exact run ip_sub (fun i j => i - j) (fun x y S => by cases x <;> first | rfl | (cases y <;> rfl)) fun _ _ _ _ h => h
    | _ => cases ho
  · cases he
/-! ### a name -/
theorem sw_list {elt : Expr} {gs : List Comprehension} {scope : Scope} {pos py : Pos} {y : Str} {l : Nat} {env : PySem.Env} (hk : env.scope.kind = .function) : swapsWith (.ListComp elt gs scope pos) (some (.Name y py)) l env = pure (swB env.scope y py (.ListComp elt gs scope pos)) := by
  have ky : env.kindOf y = env.scope.names.lookup y := rfl
  have hb : env.blockKind = .function := by unfold Env.blockKind; rw [hk]; rfl
  unfold swapsWith swB
  simp only [hb, ky, Expr.pos]
  rfl
theorem sw_other {v : Expr} {py : Pos} {y : Str} {l : Nat} {env : PySem.Env} (h : plainC v = true) : swapsWith v (some (.Name y py)) l env = pure false := sw_none h _
theorem gs_set {i : Nat} {e : EX} : GoS P T k (.set i e) := fun X W st s he => by
  unfold okS at he
  split at he
  · rename_i x py v pos
    simp only [Bool.and_eq_true, decide_eq_true_eq] at he
    obtain ⟨⟨⟨⟨hi, hx⟩, hp⟩, hv⟩, h3⟩ := he
    have rest : swapsWith v (some (.Name x py)) pos.line X.env = pure false → PS X (.Assign [.Name x py] v pos) (rdS T W (evS (cxK P k) (.set i e))) := fun hs => by
      refine (ps_set st.st.nd hi (locB_ok hx) (goE e X W st.st _ h3).1 hs (.inl (st.fn x))).imp fun D σ H ⟨φ, env, S, r, p⟩ => ?_
      simp only [evS] at p
      refine ⟨φ, env, S, r, p.out r fun d S1 φ1 H1 y _ x1 r1 rv p1 => ?_⟩
      split at p1
      · exact p1.nx (r1.setO rv)
      · exact False.elim p1
    cases v with
    | ListComp elt gs scope pos2 =>
      cases hsw : swB X.env.scope x py (.ListComp elt gs scope pos2) with
      | false => exact rest (by rw [sw_list st.kind, hsw])
      | true =>
        have hsw2 : swapsWith (.ListComp elt gs scope pos2) (some (.Name x py)) pos.line X.env = pure true := by rw [sw_list st.kind, hsw]
        have hxl : X.env.scope.names.lookup x = some .local := by
          unfold swB at hsw
          simp only [Bool.and_eq_true] at hsw
          exact eq_of_beq hsw.1.1
        cases e with
        | ofl l =>
          have h3 : okL X.N X.env.scope l (.ListComp elt gs scope pos2) = true := h3
          cases l with
          | dis xs => cases h3
          | comp own t it ifs y =>
            obtain ⟨elt', tg, iter, cs, scope', pos', e0, own', wi, g, tt, te, q1, q2, q3, q4, q5, q6, q7⟩ := goC (P := P) (T := T) (k := k) X W st.st _ h3
            cases e0
            refine (ps_setLc st.st.calm st.st.nd hi hxl hsw2 q1 q2 q3 q4 q5 q6).imp fun D σ H ⟨φ, env, S, r, p⟩ => q7 _ _ _ ⟨φ, env, S, r, ?_⟩
            simp only [evS] at p
            have p : PostO T W φ H (((evL (cxK P k) (.comp own t it ifs y) env S).bind fun ds S => alloc (.lst ds) S).out env fun d S => if i < env.length then .nx (env.set i (some d)) S else .bad) D := by
              simp only [evE] at p
              exact p
            cases hl : evL (cxK P k) (.comp own t it ifs y) env S with
            | bad => rw [hl] at p; exact False.elim p
            | exc x S' =>
              rw [hl] at p
              exact fun φ' H' c dx x' s' rx => p φ' σ H' c dx x' (r.ext x' s') rx
            | ok ds S' =>
              rw [hl] at p
              intro φ' H' a vs x' s' ha hn hv rv
              have p : PostO T W φ H (if i < env.length then .nx (env.set i (some (.loc S'.length))) (S' ++ [.lst ds]) else .bad) D := p
              split at p
              · have xA := x'.adopt hn
                have sA := RepS.adopt (o := .lst ds) s' ha ⟨vs, hv, rv⟩
                exact p (φ' ++ [a]) _ H' xA ((r.ext xA sA).setO (.loc (by rw [← s'.len]; simp)))
              · exact False.elim p
        | _ => exact absurd h3 (by unfold okE; simp)
    | SetComp _ _ _ _ => cases hv
    | DictComp _ _ _ _ _ => cases hv
    | _ => exact rest (sw_other rfl)
  · cases he
theorem gs_fst {o : EX} {f : String} {e : EX} : GoS P T k (.fst o f e) := fun X W st s he => by
  unfold okS at he
  split at he
  · rename_i l y p v pos
    simp only [Bool.and_eq_true, decide_eq_true_eq] at he
    obtain ⟨⟨rfl, h1⟩, h2⟩ := he
    refine (ps_fld (goE o X W st.st _ h1).1 (goE e X W st.st _ h2).1 (by cases v <;> rfl)).imp fun D σ H ⟨φ, env, S, r, p⟩ => ?_
    simp only [evS] at p
    refine ⟨φ, env, S, r, p.out r fun d S1 φ1 H1 y _ x1 r1 rv p1 => ⟨φ1, env, S1, r1, p1.out r1 fun b S2 φ2 H2 z _ x2 r2 rb p2 => ?_⟩⟩
    unfold fldD at p2
    split at p2
    · rename_i l0
      split at p2
      · rename_i C fs hS
        split at p2
        · rename_i hc
          rw [Bool.and_eq_true, decide_eq_true_eq, cxK_att] at hc
          cases rb with
          | loc ha =>
            obtain ⟨dx, vs, e1, e2⟩ := r2.sto.ob _ _ _ hS ha
            obtain ⟨c1, c2⟩ := st.st.fx.att C f hc.1
            refine ⟨_, _, dx, vs, rfl, e1, by rw [st.st.K]; exact c1, by rw [st.st.K]; exact c2, by rw [RepF.length e2]; omega, ?_⟩
            have x3 : Ext φ2 φ2 H2 (upd H2 _ (.ins (T.ca C) dx (L2.putF (Str.ofString f) y vs))) := Ext.write (List.mem_of_getElem? ha) e1 fun _ z => by cases z
            have rv2 := (rv.ext r1.sto x2).ext r2.sto x3
            have s3 := r2.sto.write (u := .ins (T.ca C) dx (L2.putF (Str.ofString f) y vs)) (o' := .ins C (Ev.putF f d fs)) hS ha ⟨dx, _, upd_same, putF_rep rv2 (RepF.ext r2.sto x3 e2)⟩
            exact p2 φ2 σ _ x3 (r2.ext x3 s3)
        · exact False.elim p2
      · exact False.elim p2
    · exact False.elim p2
  · cases he
/-! ### raise C() -/
theorem pmk0 {X : Cx} {C : Addr} {x : Str} {p pos : Pos} (own : PySem.W.excIn X.K C veBases "ValueError.__new__" = true) (at_x : X.mg x = some (.ref C)) (kept : PySem.W.keepIn X.K (.ref C) = true) (r : Raises X (.ref C)) (hg : Gl X x) (hdb : (x == ("__debug__" : Str)) = false) :
    PMk X (.Call (.Name x p) [] [] pos) (fun _ H Q => Q (.ref C) none H) := by
  intro pins s σ H Q I goal
  refine wpAny_Call_Name_kw (ld_glob I hg at_x (PySem.W.callWith_K0 I.kIn kept ?_) hdb)
  show wpAny _ _ (call (.ref C) []) _ _ _
  obtain ⟨_, _, _, _, _, _, _, _, _, _, _, _, _, _, _, _, _, cC, cN, nI, tail⟩ := exc_obj I.kIn own
  exact wpAny_call_exc_subT PySem.F.excBase_ValueError tail cC cN nI (fun h' e made => mk_of I made r goal (I.hok.gone made.new)) (Nat.zero_le _)
theorem cxK_exc : (cxK P k).exc = P.xc := by cases k <;> simp only [cxK]
theorem gs_raise {C : String} : GoS P T k (.raise C) := fun X W st s he => by
  unfold okS at he
  split at he
  · rename_i x p0 p1 p2
    obtain ⟨rfl, hg, n1, _⟩ := okG_ok he
    cases hC : P.xc C with
    | false =>
      refine ps_never.imp fun D σ H ⟨φ, env, S, r, p⟩ => ?_
      simp only [evS, cxK_exc, hC] at p
      exact p
    | true =>
      obtain ⟨m1, m2, m3, m4, m5⟩ := st.st.fx.xc C hC
      rw [← st.st.K] at m2 m3 m4 m5
      refine (ps_raise st.st.calm st.st.tk (pmk0 m2 m1 m3 (raises_own m4 m5) hg n1)).imp fun D σ H ⟨φ, env, S, r, p⟩ => ?_
      simp only [evS, cxK_exc, hC, if_true] at p
      exact p φ σ H _ none Ext.refl r ⟨rfl, rfl, rfl⟩
  · cases he
/-! ### every statement -/
mutual
theorem goS : ∀ x : ST, GoS P T k x
  | .expr e => gs_expr (goE e)
  | .set i e => gs_set
  | .par ns es => gs_par (goEs es)
  | .asg t e => gs_asg (fun o i _ => ⟨goE o, goE i⟩) (goE e)
  | .fst o f e => gs_fst
  | .asgs ts e => gs_asgs (fun o i _ => ⟨goE o, goE i⟩) (goE e)
  | .aug i op e => gs_aug (goE e)
  | .ret e => gs_ret (goE e)
  | .ret0 => gs_ret0
  | .ife t a b => gs_ife (goE t) (goSs a) (goSs b)
  | .whl t b => gs_whl (goE t) (goSs b)
  | .for_ t it b => gs_for (goI it) (goSs b)
  | .brk => gs_brk
  | .cont => gs_cont
  | .pass => gs_pass
  | .never => gs_never
  | .raise C => gs_raise
theorem goSs : ∀ x : SS, GoSs P T k x
  | .nil => gs_nil
  | .cons x xs => gs_cons (goS x) (goSs xs)
end
end
end Ev
end

section
set_option Elab.async false
set_option linter.all false
set_option maxRecDepth 100000
set_option maxHeartbeats 1000000
set_option autoImplicit false
/-! Ev15: defs, the facts of a module. -/
namespace Ev
open PySem PySem.Spec L2
open PyProof.Rows hiding St

/-! ### what is let go -/
section
variable {T : Wr} {φ φ' : List Addr} {H H' : Hp} {S S' : Store}
theorem take_at {n l : Nat} {a : Addr} {φ : List Addr} (h : φ[l]? = some a) (hl : l < n) : (φ.take n)[l]? = some a := by rw [List.getElem?_take_of_lt hl]; exact h
mutual
theorem RepV.cut {K : PySem.W.Frag} {n : Nat} : ∀ {v : V} {d : D}, RepV K φ H v d → d.bd n = true → RepV K (φ.take n) H v d
  | _, _, .non, _ => .non
  | _, _, .bl b, _ => .bl b
  | _, _, .int b, _ => .int b
  | _, _, .str b, _ => .str b
  | _, _, .ty b, _ => .ty b
  | _, _, .tup h hs, e => .tup h (RepVs.cut hs (by simpa [D.bd] using e))
  | _, _, .ktup h1 h2 h3 h4 h5 hs, e => .ktup h1 h2 h3 h4 h5 (RepVs.cut hs (by simpa [D.bd] using e))
  | _, _, .loc h, e => .loc (take_at h (by simpa [D.bd] using e))
  | _, _, .scrF h, _ => .scrF h
  | _, _, .scrK h1 h2 h3 h4 h5 h6, _ => .scrK h1 h2 h3 h4 h5 h6
theorem RepVs.cut {K : PySem.W.Frag} {n : Nat} : ∀ {vs : List V} {ds : List D}, RepVs K φ H vs ds → bds n ds = true → RepVs K (φ.take n) H vs ds
  | _, _, .nil, _ => .nil
  | _, _, .cons h hs, e => by
    have e : (_ && _) = true := e
    rw [Bool.and_eq_true] at e
    exact .cons (RepV.cut h e.1) (RepVs.cut hs e.2)
end
theorem Paired.cutP {α β : Type} {R R' : α → β → Prop} {f : β → Bool} : ∀ {l : List α} {m : List β}, Paired R l m → m.all f = true → (∀ a b, R a b → f b = true → R' a b) → Paired R' l m
  | _, _, .nil, _, _ => .nil
  | _, _, .cons h t, e, k => by
    rw [List.all_cons, Bool.and_eq_true] at e
    exact .cons (k _ _ h e.1) (Paired.cutP t e.2 k)
theorem RepO.cut {n : Nat} {a : Addr} {o : Ob} (h : RepO T φ H a o) (e : o.bd n = true) : RepO T (φ.take n) H a o := by
  cases o with
  | lst ds => obtain ⟨vs, e1, h1⟩ := h; exact ⟨vs, e1, h1.cut e⟩
  | dk ds => obtain ⟨vs, e1, h1⟩ := h; exact ⟨vs, e1, Paired.cutP h1 e fun _ _ q z => ⟨q.1, q.2.cut z⟩⟩
  | dt ds => obtain ⟨vs, e1, h1⟩ := h; exact ⟨vs, e1, Paired.cutP h1 e fun _ _ q z => ⟨q.1, q.2.cut z⟩⟩
  | ins C ds => obtain ⟨dx, vs, e1, h1⟩ := h; exact ⟨dx, vs, e1, Paired.cutP h1 e fun _ _ q z => ⟨q.1, q.2.cut z⟩⟩
theorem RepS.cut {n : Nat} (s : RepS T φ H S) (e : (S.take n).all (Ob.bd n) = true) : RepS T (φ.take n) H (S.take n) := by
  refine ⟨by simp [s.len], s.nd.sublist (List.take_sublist _ _), fun l o a e1 e2 => ?_, s.tab⟩
  have hl : l < n := by
    have := (List.getElem?_eq_some_iff.mp e1).1
    simp at this; omega
  have hm := List.all_eq_true.mp e o (List.mem_of_getElem? e1)
  rw [List.getElem?_take_of_lt hl] at e1 e2
  exact (s.ob l o a e1 e2).cut hm
theorem gc_rep (x : Ext φ φ' H H') (hn : φ.length = S.length) (s' : RepS T φ' H' S') {v : V} {d : D} (rv : RepV T.K φ' H' v d) :
    ∃ φ'', Ext φ φ'' H H' ∧ RepS T φ'' H' (gc d S.length S').2 ∧ RepV T.K φ'' H' v (gc d S.length S').1 := by
  have keep : ∃ φ'', Ext φ φ'' H H' ∧ RepS T φ'' H' S' ∧ RepV T.K φ'' H' v d := ⟨φ', x, s', rv⟩
  have pre : φ'.take S.length = φ := by
    obtain ⟨t, rfl⟩ := x.pre
    rw [← hn, List.take_left]
  have xc : Ext φ φ H H' := ⟨List.prefix_refl _, fun a h => .inl h, x.kp⟩
  unfold gc
  split
  · rename_i hall
    have sc := s'.cut hall
    rw [pre] at sc
    split
    · rename_i hb
      have rc := rv.cut hb
      rw [pre] at rc
      exact ⟨φ, xc, sc, rc⟩
    · rename_i hb
      split
      · rename_i l
        split
        · rename_i o hS
          split
          · rename_i ho
            cases rv with
            | @loc a1 _ ha =>
              have hl : ¬ l < S.length := by simpa [D.bd] using hb
              have hd : a1 ∉ φ := fun hm => by
                obtain ⟨i, hi, e⟩ := List.getElem_of_mem hm
                have e2 : φ'[i]? = some a1 := pre_at x.pre (by rw [List.getElem?_eq_getElem hi, e])
                have hil : i = l := by
                  obtain ⟨h1, q1⟩ := List.getElem?_eq_some_iff.mp e2
                  obtain ⟨h2, q2⟩ := List.getElem?_eq_some_iff.mp ha
                  exact (List.getElem_inj s'.nd).mp (q1.trans q2.symm)
                omega
              have oc := (s'.ob l o _ hS ha).cut ho
              rw [pre] at oc
              refine ⟨φ ++ [a1], ⟨List.prefix_append _ _, fun b hb => ?_, x.kp⟩, sc.adopt hd oc, .loc (by rw [← hn]; simp)⟩
              rcases List.mem_append.mp hb with h | h
              · exact .inl h
              · rw [List.mem_singleton.mp h]
                exact x.new _ (List.mem_of_getElem? ha)
          · exact keep
        · exact keep
      · exact keep
  · exact keep
end

/-! ### defs -/
/-- a def: where it stands, its text, its form here, its names, its parameters -/
structure Tx where
  d : He.DefD
  e : Def
  N : List Str
  ps : List Str
def Tx.ok (t : Tx) : Bool := okSs t.N t.d.scope t.e.body t.d.body && decide (t.e.np = t.ps.length) && decide (t.e.nn = t.N.length) && C8.scC t.N t.ps t.d.scope && t.d.dfl.isEmpty && t.d.kwd.isEmpty
/-- its parameters are what it is called with -/
def Tx.binds (t : Tx) : Prop := ∀ (kV doc pm : Value) (an : Option Addr) (cdv ct : Value) (us : List Value), us.length = t.ps.length → bindArgs (PySem.W.fnOf t.d.name t.d.qual t.d.params t.d.body t.d.scope .none kV doc pm an cdv ct) ⟨us, []⟩ = pure (t.ps.zip us)
section
variable {P : Prg} {T : Wr} {prog : Program} {w : World} {mg : Str → Option Value} {base : Heap} {k : Nat}
theorem rep_start {φ : List Addr} {H : Hp} {S : Store} {N : List Str} {vs : List V} {ds : List D} {nn : Nat} (s : RepS T φ H S) (hn : nn = N.length) (rv : RepVs T.K φ H vs ds) : Rep T φ (L2.start N vs) H (startE nn ds) S := by
  have hl := rv.length
  subst hn
  refine ⟨s, by simp [L2.start, startE, hl], fun i d h => ?_⟩
  unfold startE at h
  by_cases hi : i < ds.length
  · rw [List.getElem?_append_left (by simpa using hi), List.getElem?_map] at h
    cases hd : ds[i]? with
    | none => rw [hd] at h; cases h
    | some e =>
      rw [hd] at h
      cases h
      obtain ⟨v, e1, e2⟩ := rv.get hd
      refine ⟨v, ?_, e2⟩
      unfold L2.start
      rw [List.getElem?_append_left (by simp [hl, hi]), List.getElem?_map, e1]
      rfl
  · rw [List.getElem?_append_right (by simpa using hi)] at h
    rw [List.getElem?_replicate] at h
    split at h <;> cases h
/-- a def's body keeps its promise, whatever stands around (as far as G tells) -/
theorem fnG_of {G : Around → Prop} {Z : CXT} {K : PySem.W.Frag} {x qual : Str} {params : Arguments} {body : List Stmt} {scope : Scope} {N ps : List Str} {f : Addr} {fd : FuncData} {sp : Sp} (F : FunD K x qual params body scope [] [] f fd) (SC : FnScope N ps scope)
    (many : ∀ vs H Q E, sp vs H Q E → vs.length = ps.length)
    (goes : ∀ (cdv : Value) (A : Around) (outer : List PySem.Env) (s : Shared) (H : Hp) (vs : List V) (Q : VK) (E : XK), fd.code = cdv → G A → Room k (A.deeper (envOfC qual scope s.heap.objs.size f cdv)) → sp vs H Q E →
      ∃ t, PSs (cxOf Z prog w K mg base N qual scope f cdv A outer s H E) body t ∧ t { nx := fun _ H' => Q .non H', rt := Q } (L2.start N vs) H) : FnG G prog w K mg base Z (k + 1) f fd ps sp := by
  obtain ⟨oc, od, dV, kV, doc, pm, an, cdv, ct, osl, rfl, at_f, code, -, -⟩ := F.ex
  refine ⟨many, fun A hG room outer s H args us vs Q E e0 hb r q => ?_⟩
  have inH : K.In s.heap := e0.mod.kin.keeps fun b o e => (e0.bs b o e).1
  have noLim : s.heap.NoLimit := e0.mod.nolimit.keeps fun b o e => (e0.bs b o e).1
  refine codeAny_call_function room.depth (inH _ _ at_f) rfl SC.co SC.gen rfl (PySem.W.codeRec_of inH code) (hb _ _ _ _ (wpAny_newFunctionEnv_cells SC.kind (fun y hy => ?_) fun env he s1 new => ?_))
  · obtain ⟨n, v⟩ := y
    exact (SC.par n (List.of_mem_zip hy).1).imp id fun z => ⟨z, PySem.W.cellsFrom_some _ _ _ (.inl z)⟩
  · subst he
    refine ⟨noLim.keeps new.toInCall.keep, codeAny_func ?_⟩
    obtain ⟨t, walk, start⟩ := goes cdv A outer s H vs Q E rfl hG (room.deeper _) q
    have I0 : L2.Inv (cxOf Z prog w K mg base N qual scope f cdv A outer s H E) [] (L2.start N vs) H s1 := inv_start SC room.hd e0 (many _ _ _ _ q) r new
    refine wpAny_mono (walk.run [] s1 _ H _ I0 start) (fun flow s' z => ?_) fun _ _ z => z
    cases flow with
    | ret u => obtain ⟨v, _, H', J, rv, z⟩ := z; exact ⟨v, H', J.os, J.bare, J.base, J.hok, rv, z⟩
    | next => obtain ⟨_, H', J, z⟩ := z; exact ⟨.non, H', J.os, J.bare, J.base, J.hok, rfl, z⟩
    | brk => obtain ⟨_, _, _, z⟩ := z; exact z.elim
    | cont => obtain ⟨_, _, _, z⟩ := z; exact z.elim
/-- what is known of a def that makes lambdas -/
def LamOk (T : Wr) (t : Tx) (fd : FuncData) : Prop := lamMark t.N = true → fd.code = .ref T.lc ∧ ∃ q : Addr, T.tabs = [(q, (envOfC t.d.qual t.d.scope 0 0 fd.code).qual ++ "<lambda>")]
theorem body_ok {t : Tx} {f : Addr} {fd : FuncData} (F : FunD T.K t.d.name t.d.qual t.d.params t.d.body t.d.scope [] [] f fd) (ok : t.ok = true) (lam : LamOk T t fd) (fx : ∀ j, j ≤ k → Facts P T prog w mg base j) :
    FnG (Gd P) prog w T.K mg base (L2.CX prog w) (k + 1) f fd t.ps (spD T fun ds S => runDef (cxK P k) t.e ds S) := by
  unfold Tx.ok at ok
  simp only [Bool.and_eq_true, decide_eq_true_eq] at ok
  obtain ⟨⟨⟨⟨⟨h1, h2⟩, h3⟩, h4⟩, h5⟩, h6⟩ := ok
  have SC := C8.fnScope_by h4
  have len : ∀ vs H Q E, spD T (fun ds S => runDef (cxK P k) t.e ds S) vs H Q E → vs.length = t.ps.length := fun vs H Q E ⟨φ, S, ds, s, rv, p⟩ => by
    unfold runDef at p
    dsimp only at p
    split at p
    · rename_i hl; rw [rv.length, hl, h2]
    · exact False.elim p
  refine fnG_of F SC len fun cdv A outer s H vs Q E hcd hG hr ⟨φ, S, ds, s, rv, p⟩ => ?_
  refine ⟨_, goSs t.e.body _ (fun c d _ H => E c d H) ⟨⟨rfl, SC.nd, hr, hG, takes_of rfl rfl rfl rfl, rfl, fx k (Nat.le_refl _), fun j hj => fx j (by omega), fun z => by subst hcd; exact lam z⟩, fun _ => rfl, SC.kind, passes_of (K := fun e s'' => L2.CX prog w outer H _ E e s'') rfl⟩ _ h1, φ, startE t.e.nn ds, S, rep_start s h3 rv, ?_⟩
  unfold runDef at p
  dsimp only at p
  split at p
  · cases ho : evSs (cxK P k) t.e.body (startE t.e.nn ds) S with
    | nx env S' =>
      rw [ho] at p
      intro φ' σ' H' x r
      obtain ⟨φ'', x2, s2, rv2⟩ := gc_rep x s.len r.sto (v := .non) (d := .non) .non
      exact p φ'' H' .non x2 s2 rv2
    | rt d S' =>
      rw [ho] at p
      intro φ' H' v x s' rv'
      obtain ⟨φ'', x2, s2, rv2⟩ := gc_rep x s.len s' rv'
      exact p φ'' H' v x2 s2 rv2
    | exc e env S' =>
      rw [ho] at p
      exact fun φ' σ' H' c dx x r rx => p φ' H' c dx x r.sto rx
    | bk env S' => rw [ho] at p; exact False.elim p
    | ct env S' => rw [ho] at p; exact False.elim p
    | bad => rw [ho] at p; exact False.elim p
  · exact False.elim p
/-- what is known of a module, whatever the depth -/
structure FactsB (P : Prg) (T : Wr) (mg : Str → Option Value) : Prop where
  glb : ∀ x d, P.glb x = some d → ∃ u v, mg (Str.ofString x) = some u ∧ L2.RelV v u ∧ ∀ φ H, RepV T.K φ H v d
  bty : ∀ x, P.bty x = true → mg (Str.ofString x) = none ∧ bootBuiltins (Str.ofString x) = some (.type x)
  blt : ∀ x ∈ bltNames, mg (Str.ofString x) = none
  att : ∀ C f, P.att C f = true → Cls T.K (T.ca C) ∧ NoAttr T.K (T.ca C) (Str.ofString f)
  fn : ∀ x d, P.defs x = some d → ∃ (f : Addr) (fd : FuncData) (t : Tx), mg (Str.ofString x) = some (.ref f) ∧ t.e = d ∧ t.ok = true ∧ t.binds ∧ FunD T.K t.d.name t.d.qual t.d.params t.d.body t.d.scope [] [] f fd ∧ LamOk T t fd
  mt : ∀ C m d, P.meths C m = some d → Cls T.K (T.ca C) ∧ ∃ (f : Addr) (fd : FuncData) (t : Tx), Meth T.K (T.ca C) (Str.ofString m) f ∧ t.e = d ∧ t.ok = true ∧ t.binds ∧ FunD T.K t.d.name t.d.qual t.d.params t.d.body t.d.scope [] [] f fd ∧ LamOk T t fd
  nw : ∀ C d, P.meths C "__init__" = some d → ∃ (f : Addr) (fd : FuncData) (t : Tx), mg (Str.ofString C) = some (.ref (T.ca C)) ∧ Mk T.K (T.ca C) f ∧ t.e = d ∧ t.ok = true ∧ t.binds ∧ FunD T.K t.d.name t.d.qual t.d.params t.d.body t.d.scope [] [] f fd ∧ LamOk T t fd
structure FactsX (P : Prg) (T : Wr) (mg : Str → Option Value) : Prop where
  xc : ∀ C, P.xc C = true → mg (Str.ofString C) = some (.ref (T.ca C)) ∧ PySem.W.excIn T.K (T.ca C) veBases "ValueError.__new__" = true ∧ PySem.W.keepIn T.K (.ref (T.ca C)) = true ∧ PySem.W.subIn T.K (.ref (T.ca C)) (.type "BaseException") = some true ∧ PySem.W.typeIn T.K (.ref (T.ca C)) = some (.type "type")
  exm : ∀ C C', P.xc C = true → P.xc C' = true → PySem.W.exmOne T.K (.ref (T.ca C)) (.ref (T.ca C')) = some (decide (C = C'))
  wrd : ∀ x hs told, P.wrd x = some (hs, told) → ∃ (g : Addr) (fd : FuncData) (pg : Arguments) (bg : List Stmt) (sg : Scope) (a : Str), mg (Str.ofString x) = some (.ref g) ∧ FunD T.K (Str.ofString x) (Str.ofString x) pg bg sg [] [] g fd ∧ Binds T.K fd [a] [] ∧ FnScope [a] [a] sg ∧ okV [a] sg 0 a = true ∧ wordTx sg a hs told bg = true ∧ ∀ h ∈ hs, P.xc h.1 = true
theorem fn_bad {G : Around → Prop} {f : Addr} {fd : FuncData} {ps : List Str} {j : Nat} {g : List D → Store → Res D} (h : ∀ ds S, g ds S = .bad) : FnG G prog w T.K mg base (L2.CX prog w) j f fd ps (spD T g) :=
  ⟨fun vs H Q E ⟨φ, S, ds, s, rv, p⟩ => by rw [h] at p; exact False.elim p, fun A _ _ outer s H args us vs Q E _ _ _ ⟨φ, S, ds, s, rv, p⟩ => by rw [h] at p; exact False.elim p⟩
theorem facts_next (B : FactsB P T mg) (BX : FactsX P T mg) (tb : ∀ p ∈ T.tabs, LamX.TabB base mg T.lc p.1) : ∀ k, (∀ j, j < k → Facts P T prog w mg base j) → Facts P T prog w mg base k
  | 0, _ => ⟨B.glb, B.bty, B.blt, B.att,
      fun x d h => by
        obtain ⟨f, fd, t, h1, h2, h3, hb, h4, _⟩ := B.fn x d h
        exact ⟨f, fd, t.ps, h1, h4.kp, h4.bindsN hb, fn_bad fun _ _ => rfl⟩,
      fun C m d h => by
        obtain ⟨h0, f, fd, t, h1, h2, h3, hb, h4, _⟩ := B.mt C m d h
        exact ⟨h0, f, fd, t.ps, h1, h4.bindsN hb, fn_bad fun _ _ => rfl⟩,
      fun hgd C d h => by
        obtain ⟨f, fd, t, h0, h1, h2, h3, hb, h4, _⟩ := B.nw C d h
        exact ⟨f, fd, t.ps, h0, h1, h4.bindsN hb, (fn_bad (G := Gd P) fun _ _ => rfl).all fun A z => by rw [hgd] at z; cases z⟩,
      BX.xc, BX.exm, BX.wrd, tb⟩
  | k + 1, low => ⟨B.glb, B.bty, B.blt, B.att,
      fun x d h => by
        obtain ⟨f, fd, t, h1, h2, h3, hb, h4, h5⟩ := B.fn x d h
        have e : (fun ds S => (cxK P (k + 1)).call x ds S) = fun ds S => runDef (cxK P k) t.e ds S := by
          funext ds S
          simp only [cxK, h, h2]
        refine ⟨f, fd, t.ps, h1, h4.kp, h4.bindsN hb, ?_⟩
        rw [e]
        exact body_ok h4 h3 h5 fun j hj => low j (by omega),
      fun C m d h => by
        obtain ⟨h0, f, fd, t, h1, h2, h3, hb, h4, h5⟩ := B.mt C m d h
        have e : (fun ds S => (cxK P (k + 1)).meth C m ds S) = fun ds S => runDef (cxK P k) t.e ds S := by
          funext ds S
          simp only [cxK, h, h2]
        refine ⟨h0, f, fd, t.ps, h1, h4.bindsN hb, ?_⟩
        rw [e]
        exact body_ok h4 h3 h5 fun j hj => low j (by omega),
      fun hgd C d h => by
        obtain ⟨f, fd, t, h0, h1, h2, h3, hb, h4, h5⟩ := B.nw C d h
        have all : ∀ A, Gd P A := fun A z => by rw [hgd] at z; cases z
        refine ⟨f, fd, t.ps, h0, h1, h4.bindsN hb, ?_⟩
        cases k with
        | zero => exact (fn_bad fun _ _ => rfl).all all
        | succ j =>
          have e : (fun ds S => (cxK P (j + 1 + 1)).init C ds S) = fun ds S => runDef (cxK P j) t.e ds S := by
            funext ds S
            simp only [cxK, h, h2]
          rw [e]
          exact (body_ok h4 h3 h5 fun i hi => low i (by omega)).all all,
      BX.xc, BX.exm, BX.wrd, tb⟩
theorem facts_all (B : FactsB P T mg) (BX : FactsX P T mg) (tb : ∀ p ∈ T.tabs, LamX.TabB base mg T.lc p.1) (k : Nat) : Facts P T prog w mg base k := by
  induction k using Nat.strongRecOn with
  | _ k ih => exact facts_next B BX tb k ih
end
end Ev
end

section
set_option Elab.async false
set_option linter.all false
set_option maxRecDepth 100000
set_option maxHeartbeats 1000000
set_option autoImplicit false
/-! Ev16: the head's facts; the law's end. -/
namespace Ev
open PySem PySem.Spec L2
open PyProof.Rows hiding St

/-! ### a module's data, as the head leaves them -/
mutual
def datB (K : PySem.W.Frag) : D → Value → Bool
  | .non, .none => true
  | .bl b, .bool c => b == c
  | .int i, .int j _ => decide (i = j)
  | .str x, .str y _ => decide (x = y)
  | .ktup ds, .ref a => match K.lookup a with
    | some ⟨.type t, _, .seq its _, _⟩ => decide (t = "tuple") && decide (its.size ≤ sizeLine) && datsB K ds its.toList
    | _ => false
  | _, _ => false
def datsB (K : PySem.W.Frag) : List D → List Value → Bool
  | [], [] => true
  | d :: ds, u :: us => datB K d u && datsB K ds us
  | _, _ => false
end
mutual
theorem datB_ok {K : PySem.W.Frag} : ∀ {d : D} {u : Value}, datB K d u = true → ∃ v, L2.RelV v u ∧ ∀ φ H, RepV K φ H v d
  | .non, u, h => by
    cases u <;> first | (cases h; done) | exact ⟨.non, rfl, fun _ _ => .non⟩
  | .bl b, u, h => by
    cases u with
    | bool c =>
      have e : b = c := eq_of_beq h
      subst e
      exact ⟨.bl b, rfl, fun _ _ => .bl b⟩
    | _ => cases h
  | .int i, u, h => by
    cases u with
    | int j t =>
      have e : i = j := of_decide_eq_true h
      subst e
      exact ⟨.int i, ⟨t, rfl⟩, fun _ _ => .int i⟩
    | _ => cases h
  | .str x, u, h => by
    cases u with
    | str y t =>
      have e : x = y := of_decide_eq_true h
      subst e
      exact ⟨.str x, ⟨t, rfl⟩, fun _ _ => .str x⟩
    | _ => cases h
  | .ktup ds, u, h => by
    cases u with
    | ref a =>
      have h : (match K.lookup a with
        | some ⟨.type t, _, .seq its _, _⟩ => decide (t = "tuple") && decide (its.size ≤ sizeLine) && datsB K ds its.toList
        | _ => false) = true := by unfold datB at h; exact h
      split at h
      · rename_i t od its n sl hl
        simp only [Bool.and_eq_true, decide_eq_true_eq] at h
        obtain ⟨⟨rfl, h2⟩, h3⟩ := h
        obtain ⟨vs, h4, h5⟩ := datsB_ok h3
        exact ⟨.ref a, rfl, fun φ H => .ktup hl rfl rfl h2 h4 (h5 φ H)⟩
      · cases h
    | _ => unfold datB at h; cases h
  | .tup _, u, h => by cases u <;> (unfold datB at h; cases h)
  | .loc _, u, h => by cases u <;> cases h
  | .scr _, u, h => by cases u <;> cases h
  | .ty _, u, h => by cases u <;> cases h
theorem datsB_ok {K : PySem.W.Frag} : ∀ {ds : List D} {us : List Value}, datsB K ds us = true → ∃ vs, Vals vs us ∧ ∀ φ H, RepVs K φ H vs ds
  | [], [], h => ⟨[], .nil, fun _ _ => .nil⟩
  | [], _ :: _, h => by cases h
  | _ :: _, [], h => by cases h
  | d :: ds, u :: us, h => by
    have h : (datB K d u && datsB K ds us) = true := by unfold datsB at h; exact h
    rw [Bool.and_eq_true] at h
    obtain ⟨v, h1, h2⟩ := datB_ok h.1
    obtain ⟨vs, h3, h4⟩ := datsB_ok h.2
    exact ⟨v :: vs, .cons h1 h3, fun φ H => .cons (h2 φ H) (h4 φ H)⟩
end
def glbB (gl : List (String × D)) (K : PySem.W.Frag) : Bool := gl.all fun p => match PySem.W.nsIn K mainGlobals (Str.ofString p.1) with
  | some (some u) => datB K p.2 u
  | _ => false

/-! ### a module -/
/-- a def that tells a word of a call's end: its text (names, parameters: one alone), the words of what is raised, of none -/
structure Wx where
  t : Tx
  a : Str
  hs : List (String × Str)
  told : Str
structure Md where
  fs : List (String × Tx)
  ms : List (String × List (String × Tx)) := []
  fl : List (String × List String) := []
  gl : List (String × D) := []
  bt : List String := []
  gd : Bool := false
  lam : Bool := false      -- law makes lambdas
  xc : List String := []   -- classes of what is raised
  wr : List (String × Wx) := []
def Md.P (M : Md) : Prg where
  defs x := (M.fs.lookup x).map (·.e)
  meths C m := ((M.ms.lookup C).bind (·.lookup m)).map (·.e)
  glb x := M.gl.lookup x
  bty x := M.bt.contains x
  att C f := ((M.fl.lookup C).getD []).contains f
  gd := M.gd
  wrd x := (M.wr.lookup x).map fun w => (w.hs, w.told)
  xc x := M.xc.contains x
def Md.fa0 (M : Md) : List He.Fa := M.fs.map (fun p => .glo (Str.ofString p.1)) ++ bltNames.map (fun x => .free (Str.ofString x)) ++ M.bt.map (fun x => .free (Str.ofString x)) ++ (M.fl.map fun p => .cls (Str.ofString p.1)) ++ (M.fl.map fun p => p.2.map fun f => .noat (Str.ofString p.1) (Str.ofString f)).flatten ++
  (M.ms.map fun p => [.cls (Str.ofString p.1), .glo (Str.ofString p.1)] ++ p.2.map fun q => .meth (Str.ofString p.1) (Str.ofString q.1)).flatten ++ (M.ms.map fun p => if (p.2.lookup "__init__").isSome then [.mkr (Str.ofString p.1)] else []).flatten
def Md.fa (M : Md) : List He.Fa := M.xc.map (fun x => .glo (Str.ofString x)) ++ (M.wr.map (fun p => .glo (Str.ofString p.1)) ++ M.fa0)
theorem Md.fa0_sub (M : Md) {f : He.Fa} (h : f ∈ M.fa0) : f ∈ M.fa := List.mem_append_right _ (List.mem_append_right _ h)
def Md.fn (M : Md) : List He.DefD := M.fs.map (·.2.d) ++ (M.ms.map fun p => p.2.map (·.2.d)).flatten ++ M.wr.map (·.2.t.d)
def Md.tf (M : Md) : List He.Defn := if M.lam then [(Str.ofString "law", none)] else []
def okWx (M : Md) (x : String) (w : Wx) : Bool := decide (w.t.d.at_ = (Str.ofString x, none)) && decide (w.t.d.name = Str.ofString x) && decide (w.t.d.qual = Str.ofString x) && w.t.d.dfl.isEmpty && w.t.d.kwd.isEmpty && decide (w.t.ps = [w.a]) && C8.scC [w.a] [w.a] w.t.d.scope && okV [w.a] w.t.d.scope 0 w.a && wordTx w.t.d.scope w.a w.hs w.told w.t.d.body && w.hs.all fun h => M.xc.contains h.1
def btNames : List String := ["int", "bool", "str", "tuple", "list", "dict"]
def Md.ok (M : Md) : Bool := (M.fs.all fun p => (p.2.ok && decide (p.2.d.at_ = (Str.ofString p.1, none))) && (!lamMark p.2.N || (M.lam && decide (p.1 = "law")))) && (M.ms.all fun p => p.2.all fun q => (q.2.ok && decide (q.2.d.at_ = (Str.ofString p.1, some (Str.ofString q.1)))) && !lamMark q.2.N) && (M.bt.all fun x => btNames.contains x) && (M.wr.all fun p => okWx M p.1 p.2)
def Md.binds (M : Md) : Prop := ((∀ p ∈ M.fs, p.2.binds) ∧ ∀ p ∈ M.ms, ∀ q ∈ p.2, q.2.binds) ∧ ∀ p ∈ M.wr, p.2.t.binds
/-- the classes of what is raised, as the head leaves them -/
def xcB (xs : List String) (K : PySem.W.Frag) : Bool := xs.all fun C => PySem.W.excIn K (He.ga K (Str.ofString C)) veBases "ValueError.__new__" && PySem.W.keepIn K (.ref (He.ga K (Str.ofString C))) && (PySem.W.subIn K (.ref (He.ga K (Str.ofString C))) (.type "BaseException") == some true) &&
  (match PySem.W.typeIn K (.ref (He.ga K (Str.ofString C))) with
    | some (.type t) => t == "type"
    | _ => false) && xs.all fun D => PySem.W.exmOne K (.ref (He.ga K (Str.ofString C))) (.ref (He.ga K (Str.ofString D))) == some (decide (C = D))
def exB (M : Md) (K : PySem.W.Frag) : Bool := glbB M.gl K && xcB M.xc K
abbrev Md.hk (M : Md) (n : Nat) : PySem.W.Hook := He.hookX n M.fa M.fn [] M.tf (exB M)
theorem boot_bt : ∀ x ∈ btNames, bootBuiltins (Str.ofString x) = some (.type x) := by
  intro x hx
  simp only [btNames, List.mem_cons, List.not_mem_nil, or_false] at hx
  rcases hx with rfl | rfl | rfl | rfl | rfl | rfl <;> decide +kernel
theorem lookup_mem {α : Type} {x : String} {a : α} : ∀ {l : List (String × α)}, l.lookup x = some a → (x, a) ∈ l
  | [], h => by cases h
  | (y, b) :: r, h => by
    rw [List.lookup_cons] at h
    cases q : x == y with
    | true =>
      rw [q] at h
      cases h
      rw [eq_of_beq q]
      exact List.mem_cons_self
    | false =>
      rw [q] at h
      exact List.mem_cons_of_mem _ (lookup_mem h)
/-- what lambdas of a def are called -/
def Tx.lq (t : Tx) : Str := (envOfC t.d.qual t.d.scope 0 0 .none).qual ++ "<lambda>"
def Md.tabs (M : Md) (K : PySem.W.Frag) : List (Addr × Str) := if M.lam then match M.fs.lookup "law" with
  | some t => [((He.cT K (Str.ofString "law", none)).2, t.lq)]
  | none => [] else []
def Wr.of (M : Md) (K : PySem.W.Frag) : Wr := ⟨K, fun C => He.ga K (Str.ofString C), M.tabs K, (He.cT K (Str.ofString "law", none)).1⟩
theorem Tx.noDfl {t : Tx} (h : t.ok = true) (K : PySem.W.Frag) : t.d.dvs K = [] ∧ t.d.kws K = [] := by
  unfold Tx.ok at h
  simp only [Bool.and_eq_true, List.isEmpty_iff] at h
  exact ⟨by unfold He.DefD.dvs; rw [h.1.2]; rfl, by unfold He.DefD.kws; rw [h.2]; rfl⟩
theorem factsB_of {M : Md} {K : PySem.W.Frag} {h : Heap} {mg : Str → Option Value} {w : World} (X : K.In h) (G : h.Ns mainGlobals mg) (hok : M.ok = true) (hb : M.binds) (c : He.SaysX M.fa M.fn [] M.tf (exB M) w h K) : FactsB M.P (Wr.of M K) mg := by
  have sd := c.t.d
  have fact : ∀ f ∈ M.fa0, f.ok K = true := fun f hf => sd.facts (M.fa0_sub hf)
  unfold Md.ok at hok
  simp only [Bool.and_eq_true] at hok
  obtain ⟨⟨⟨k1, k2⟩, k3⟩, k4⟩ := hok
  obtain ⟨hb, hbw⟩ := hb
  have lamOk : ∀ (x : String) (t : Tx) (fd : FuncData), M.fs.lookup x = some t → (∃ oc od osl, K.lookup (He.fAd K (Str.ofString x, none)) = some ⟨oc, od, .func fd, osl⟩) → (∃ q, PySem.W.codeIn K fd.code q = true) → LamOk (Wr.of M K) t fd := fun x t fd hl ⟨oc, od, osl, lk⟩ ⟨q, hc⟩ mark => by
    have hm := lookup_mem hl
    have h3 := List.all_eq_true.mp k1 _ hm
    simp only [Bool.and_eq_true, Bool.or_eq_true, Bool.not_eq_true', decide_eq_true_eq] at h3
    rcases h3.2 with z | ⟨z1, rfl⟩
    · rw [mark] at z; cases z
    · obtain ⟨c0, e0⟩ := He.codeIn_ref hc
      have e1 := He.codeOf_eq lk e0
      refine ⟨?_, (He.cT K (Str.ofString "law", none)).2, ?_⟩
      · rw [e0, ← e1]; rfl
      · show M.tabs K = _
        unfold Md.tabs
        rw [if_pos z1, hl]
        rfl
  have meth : ∀ C m d, M.P.meths C m = some d → ∃ ts t, (C, ts) ∈ M.ms ∧ (m, t) ∈ ts ∧ t.e = d ∧ t.ok = true ∧ t.binds ∧ t.d.at_ = (Str.ofString C, some (Str.ofString m)) ∧ (ts.lookup m).isSome = true ∧ lamMark t.N = false := fun C m d hd => by
    obtain ⟨t, h1, h2⟩ := Option.map_eq_some_iff.mp (show ((M.ms.lookup C).bind (·.lookup m)).map (·.e) = some d from hd)
    obtain ⟨ts, h3, h4⟩ := Option.bind_eq_some_iff.mp h1
    have m1 := lookup_mem h3
    have m2 := lookup_mem h4
    have h5 := List.all_eq_true.mp (List.all_eq_true.mp k2 _ m1) _ m2
    simp only [Bool.and_eq_true, decide_eq_true_eq, Bool.not_eq_true'] at h5
    exact ⟨ts, t, m1, m2, h2, h5.1.1, hb.2 _ m1 _ m2, h5.1.2, by rw [h4]; rfl, h5.2⟩
  have funD : ∀ t : Tx, t.ok = true → t.d ∈ M.fn → ∃ fd, FunD K t.d.name t.d.qual t.d.params t.d.body t.d.scope [] [] (He.fAd K t.d.at_) fd := fun t ht hm => by
    obtain ⟨fd, F⟩ := sd.defs hm
    obtain ⟨e1, e2⟩ := t.noDfl ht K
    rw [e1, e2] at F
    exact ⟨fd, F⟩
  have mfn : ∀ {C m ts t}, (C, ts) ∈ M.ms → (m, t) ∈ ts → t.d ∈ M.fn := fun {C m ts t} m1 m2 => List.mem_append_left _ (List.mem_append_right _ (List.mem_flatten.mpr ⟨_, List.mem_map.mpr ⟨_, m1, rfl⟩, List.mem_map.mpr ⟨_, m2, rfl⟩⟩))
  have mfa : ∀ {C ts f}, (C, ts) ∈ M.ms → f ∈ ([.cls (Str.ofString C), .glo (Str.ofString C)] ++ ts.map fun q => .meth (Str.ofString C) (Str.ofString q.1) : List He.Fa) → f ∈ M.fa0 := fun {C ts f} m1 hf => by
    unfold Md.fa0
    exact List.mem_append_left _ (List.mem_append_right _ (List.mem_flatten.mpr ⟨_, List.mem_map.mpr ⟨_, m1, rfl⟩, hf⟩))
  have more : glbB M.gl K = true ∧ xcB M.xc K = true := by
    have := c.more
    unfold exB at this
    rwa [Bool.and_eq_true] at this
  refine ⟨fun x d hd => ?_, fun x hx => ?_, fun x hx => ?_, fun C f hf => ?_, fun x d hd => ?_, fun C m d hd => ?_, fun C d hd => ?_⟩
  · have hm := lookup_mem (show M.gl.lookup x = some d from hd)
    have h2 : (match PySem.W.nsIn K mainGlobals (Str.ofString x) with
      | some (some u) => datB K d u
      | _ => false) = true := List.all_eq_true.mp (show M.gl.all _ = true from more.1) _ hm
    split at h2
    · rename_i u hu
      obtain ⟨v, h3, h4⟩ := datB_ok h2
      exact ⟨u, v, PySem.W.mg_of X G hu, h3, h4⟩
    · cases h2
  · have hx : M.bt.contains x = true := hx
    have hx := List.contains_iff_mem.mp hx
    refine ⟨He.free_ok X G (fact (.free _) ?_), boot_bt x (List.contains_iff_mem.mp (List.all_eq_true.mp k3 x hx))⟩
    unfold Md.fa0
    simp only [List.mem_append, List.mem_map]
    exact .inl (.inl (.inl (.inl (.inr ⟨x, hx, rfl⟩))))
  · refine He.free_ok X G (fact (.free _) ?_)
    unfold Md.fa0
    simp only [List.mem_append, List.mem_map]
    exact .inl (.inl (.inl (.inl (.inl (.inr ⟨x, hx, rfl⟩)))))
  · have hf : ((M.fl.lookup C).getD []).contains f = true := hf
    cases hl : M.fl.lookup C with
    | none => rw [hl] at hf; cases hf
    | some l =>
      rw [hl] at hf
      have hm := lookup_mem hl
      have hf := List.contains_iff_mem.mp (show l.contains f = true from hf)
      refine ⟨He.cls_ok (fact (.cls _) ?_), He.noat_ok (fact (.noat _ _) ?_)⟩
      · unfold Md.fa0
        simp only [List.mem_append, List.mem_map]
        exact .inl (.inl (.inl (.inr ⟨_, hm, rfl⟩)))
      · unfold Md.fa0
        simp only [List.mem_append, List.mem_flatten, List.mem_map]
        exact .inl (.inl (.inr ⟨_, ⟨_, hm, rfl⟩, List.mem_map.mpr ⟨f, hf, rfl⟩⟩))
  · obtain ⟨t, h1, h2⟩ := Option.map_eq_some_iff.mp (show (M.fs.lookup x).map (·.e) = some d from hd)
    have hm := lookup_mem h1
    have h3 := List.all_eq_true.mp k1 _ hm
    simp only [Bool.and_eq_true, decide_eq_true_eq] at h3
    obtain ⟨fd, F⟩ := funD t h3.1.1 (List.mem_append_left _ (List.mem_append_left _ (List.mem_map.mpr ⟨_, hm, rfl⟩)))
    rw [h3.1.2] at F
    have lam : LamOk (Wr.of M K) t fd := by
      obtain ⟨oc, od, dV, kV, doc, pm, an, cdv, ct, osl, e, lk, hc, -, -⟩ := F.ex
      exact lamOk x t fd h1 ⟨oc, od, osl, lk⟩ ⟨_, by rw [e]; exact hc⟩
    refine ⟨_, fd, t, He.glo_ok X G (fact (.glo _) ?_), h2, h3.1.1, hb.1 _ hm, F, lam⟩
    unfold Md.fa0
    simp only [List.mem_append, List.mem_map]
    exact .inl (.inl (.inl (.inl (.inl (.inl ⟨_, hm, rfl⟩)))))
  · obtain ⟨ts, t, m1, m2, h2, h3, h4, h5, _, h7⟩ := meth C m d hd
    obtain ⟨fd, F⟩ := funD t h3 (mfn m1 m2)
    rw [h5] at F
    exact ⟨He.cls_ok (fact (.cls _) (mfa m1 (by simp))), _, fd, t, He.meth_ok (fact (.meth _ _) (mfa m1 (List.mem_append_right _ (List.mem_map.mpr ⟨_, m2, rfl⟩)))), h2, h3, h4, F, fun z => by rw [h7] at z; cases z⟩
  · obtain ⟨ts, t, m1, m2, h2, h3, h4, h5, h6, h7⟩ := meth C "__init__" d hd
    obtain ⟨fd, F⟩ := funD t h3 (mfn m1 m2)
    rw [h5] at F
    refine ⟨_, fd, t, He.glo_ok X G (fact (.glo _) (mfa m1 (by simp))), He.mkr_ok (fact (.mkr _) ?_), h2, h3, h4, F, fun z => by rw [h7] at z; cases z⟩
    unfold Md.fa0
    refine List.mem_append_right _ (List.mem_flatten.mpr ⟨_, List.mem_map.mpr ⟨_, m1, rfl⟩, ?_⟩)
    rw [if_pos h6]
    exact List.mem_cons_self
theorem factsX_of {M : Md} {K : PySem.W.Frag} {h : Heap} {mg : Str → Option Value} {w : World} (X : K.In h) (G : h.Ns mainGlobals mg) (hok : M.ok = true) (hb : M.binds) (c : He.SaysX M.fa M.fn [] M.tf (exB M) w h K) : FactsX M.P (Wr.of M K) mg := by
  have sd := c.t.d
  have more : xcB M.xc K = true := by
    have := c.more
    unfold exB at this
    rw [Bool.and_eq_true] at this
    exact this.2
  unfold Md.ok at hok
  rw [Bool.and_eq_true] at hok
  have k4 := hok.2
  have one : ∀ C, M.P.xc C = true → C ∈ M.xc := fun C hC => List.contains_iff_mem.mp (show M.xc.contains C = true from hC)
  refine ⟨fun C hC => ?_, fun C C' hC hC' => ?_, fun x hs told hw => ?_⟩
  · have hm := one C hC
    have h1 := List.all_eq_true.mp more _ hm
    simp only [Bool.and_eq_true, beq_iff_eq] at h1
    obtain ⟨⟨⟨⟨g1, g2⟩, g3⟩, g4⟩, g5⟩ := h1
    refine ⟨He.glo_ok X G (sd.facts (f := .glo (Str.ofString C)) ?_), g1, g2, g3, ?_⟩
    · unfold Md.fa
      exact List.mem_append_left _ (List.mem_map.mpr ⟨_, hm, rfl⟩)
    · split at g4
      · rename_i t ht
        rw [show (Wr.of M K).ca C = He.ga K (Str.ofString C) from rfl, show (Wr.of M K).K = K from rfl, ht, eq_of_beq g4]
      · cases g4
  · have h1 := List.all_eq_true.mp more _ (one C hC)
    simp only [Bool.and_eq_true, beq_iff_eq] at h1
    have h2 := List.all_eq_true.mp h1.2 _ (one C' hC')
    exact eq_of_beq h2
  · obtain ⟨w0, h1, h2⟩ := Option.map_eq_some_iff.mp (show (M.wr.lookup x).map (fun w => (w.hs, w.told)) = some (hs, told) from hw)
    cases h2
    have hm := lookup_mem h1
    have h3 := List.all_eq_true.mp k4 _ hm
    unfold okWx at h3
    simp only [Bool.and_eq_true, decide_eq_true_eq, List.isEmpty_iff] at h3
    obtain ⟨⟨⟨⟨⟨⟨⟨⟨⟨e1, e2⟩, e3⟩, e4⟩, e5⟩, e6⟩, e7⟩, e8⟩, e9⟩, e10⟩ := h3
    obtain ⟨fd, F⟩ := sd.defs (d := w0.t.d) (List.mem_append_right _ (List.mem_map.mpr ⟨_, hm, rfl⟩))
    have d1 : w0.t.d.dvs K = [] := by unfold He.DefD.dvs; rw [e4]; rfl
    have d2 : w0.t.d.kws K = [] := by unfold He.DefD.kws; rw [e5]; rfl
    rw [d1, d2, e1, e2, e3] at F
    have bd := hb.2 _ hm
    unfold Tx.binds at bd
    rw [e2, e3, e6] at bd
    refine ⟨_, fd, _, _, _, w0.a, He.glo_ok X G (sd.facts (f := .glo (Str.ofString x)) ?_), F, F.bindsN bd, C8.fnScope_by e7, e8, e9, fun h hh => ?_⟩
    · unfold Md.fa
      exact List.mem_append_right _ (List.mem_append_left _ (List.mem_map.mpr ⟨_, hm, rfl⟩))
    · exact List.all_eq_true.mp e10 h hh
/-! ### the law -/
/-- a law that is true at every script -/
def Md.Law (M : Md) (k n : Nat) : Prop := ∀ ns : List Int, ns.length ≤ n → ∃ S, (cxK M.P k).call "law" [.scr ns] [] = .ok (.bl true) S
/-- where a law's call begins: an abstract heap in which at most the script stands, and empty tables of code objects -/
structure Begin (prog : Program) (w : World) (K : PySem.W.Frag) (mg : Str → Option Value) (s : Shared) (a : Addr) (ns : List Int) (cs : List Addr) (H : Hp) (base : Heap) : Prop where
  env : Env0 prog w K mg base callerA [] s H
  only : ∀ b, H b = none ∨ (b = a ∧ ∃ o, H b = some (.frz o (.lst (ns.map V.int)))) ∨ (b ∈ cs ∧ H b = some (.tbl #[]))
  scr : SqL K H a (ns.map V.int)
  tab : ∀ b ∈ cs, H b = some (.tbl #[])
  old : ∀ b o, s.heap.get? b = some o → (∀ vs n, o.data ≠ .seq vs n) → o.data ≠ .fields #[] → base.get? b = some o
theorem begin_of {prog : Program} {w : World} {K : PySem.W.Frag} {mg mb : Str → Option Value} {s : Shared} {a : Addr} {cs : List Addr} {vs : List Value} {ns : List Int} (X : K.In s.heap) (G : s.heap.Ns mainGlobals mg) (B : s.heap.Ns builtinsNs mb) (hB : ∀ x : Str, x ≠ "__name__" → mb x = bootBuiltins x)
    (lim : s.heap.NoLimit) (gens : s.gens = #[]) (at_a : s.heap.get? a = some { cls := .type "list", data := .seq vs.toArray }) (are : IntsAre vs ns) (short : ns.length ≤ sizeLine)
    (at_c : ∀ b ∈ cs, s.heap.get? b = some { cls := .none, data := .fields #[] }) (out_c : ∀ b ∈ cs, K.lookup b = none) : ∃ H base, Begin prog w K mg s a ns cs H base := by
  have vals := vals_ints are
  have a_cs : a ∉ cs := fun z => by
    have e := at_c a z
    rw [at_a] at e
    have e2 : Data.seq vs.toArray _ = Data.fields #[] := congrArg Obj.data (Option.some.inj e)
    cases e2
  have gen : ∀ H : Hp, (∀ b, H b = none ∨ (b = a ∧ K.lookup a = none ∧ ∃ o, H b = some (.frz o (.lst (ns.map V.int)))) ∨ (b ∈ cs ∧ H b = some (.tbl #[]))) → (∀ b ∈ cs, H b = some (.tbl #[])) → SqL K H a (ns.map V.int) → HOk prog w H s.heap → ∃ H base, Begin prog w K mg s a ns cs H base := fun H one tb sq ok => by
    have old : ∀ b o, s.heap.get? b = some o → (∀ vs n, o.data ≠ .seq vs n) → o.data ≠ .fields #[] → (hidT s.heap H).get? b = some o := fun b o e d1 d2 => by
      refine hidT_get e ?_
      rcases one b with z | ⟨rfl, _⟩ | ⟨z, _⟩
      · exact z
      · rw [at_a] at e
        cases e
        exact absurd rfl (d1 _ _)
      · rw [at_c b z] at e
        cases e
        exact absurd rfl d2
    have spaces : ∀ {b : Addr} {m : Str → Option Value}, s.heap.Ns b m → (hidT s.heap H).Ns b m := fun {b m} ⟨o, es, ep, e1, e2, e3⟩ =>
      ⟨o, es, ep, old b o e1 (fun vs n z => by rw [e2] at z; cases z) (fun z => by rw [e2] at z; cases z), e2, e3⟩
    have inB : K.In (hidT s.heap H) := fun b o e => by
      refine hidT_get (X b o e) ?_
      rcases one b with z | ⟨rfl, z, _⟩ | ⟨z, _⟩
      · exact z
      · rw [z] at e
        cases e
      · rw [out_c b z] at e
        cases e
    refine ⟨H, hidT s.heap H, ⟨rfl, ⟨inB, spaces G, ⟨mb, spaces B, hB⟩, ?_⟩, fun b o e => of_hidT e, Nat.le_of_eq (hidT_size _ _), trivial, fun b hb => by simp [frs] at hb, ok, .of_eq gens⟩, fun b => (one b).imp id fun z => z.imp (fun z => ⟨z.1, z.2.2⟩) id, sq, tb, old⟩
    obtain ⟨mc, l1, l2⟩ := lim
    exact ⟨mc, spaces l1, l2⟩
  have tabOk : ∀ {H : Hp} b, b ∈ cs → ObjOk prog w H s.heap b (.tbl #[]) := fun b hb => at_c b hb
  cases known : K.lookup a with
  | some o =>
    have same := X a o known
    rw [at_a] at same
    cases same
    refine gen (fun b => if b ∈ cs then some (.tbl #[]) else none) (fun b => ?_) (fun b hb => if_pos hb) (.inr ⟨_, vs.toArray, _, known, rfl, rfl, rfl, by rw [List.size_toArray, are.length]; exact short, by simpa using vals⟩) fun b u z => ?_
    · by_cases hb : b ∈ cs
      · exact .inr (.inr ⟨hb, if_pos hb⟩)
      · exact .inl (if_neg hb)
    · have z : (if b ∈ cs then some (HO.tbl #[]) else none) = some u := z
      split at z
      · rename_i hb
        cases z
        exact tabOk b hb
      · cases z
  | none =>
    have at_H : ∀ b, b ∉ cs → b ≠ a → (if b = a then some (HO.frz { cls := .type "list", data := .seq vs.toArray } (.lst (ns.map V.int))) else if b ∈ cs then some (.tbl #[]) else none) = none := fun b h1 h2 => by rw [if_neg h2, if_neg h1]
    refine gen (fun b => if b = a then some (.frz { cls := .type "list", data := .seq vs.toArray } (.lst (ns.map V.int))) else if b ∈ cs then some (.tbl #[]) else none) (fun b => ?_) (fun b hb => ?_) (.inl (.inr ⟨_, if_pos rfl⟩)) fun b u z => ?_
    · by_cases e : b = a
      · exact .inr (.inl ⟨e, known, _, if_pos e⟩)
      · by_cases hb : b ∈ cs
        · exact .inr (.inr ⟨hb, by rw [if_neg e, if_pos hb]⟩)
        · exact .inl (at_H b hb e)
    · have e : b ≠ a := fun z => a_cs (z ▸ hb)
      show (if b = a then _ else _) = _
      rw [if_neg e, if_pos hb]
    · have z : (if b = a then some (HO.frz { cls := .type "list", data := .seq vs.toArray } (.lst (ns.map V.int))) else if b ∈ cs then some (.tbl #[]) else none) = some u := z
      split at z
      · rename_i e
        cases z
        rw [e]
        exact ⟨at_a, by rw [List.length_map]; exact short, vs, _, vals, at_a⟩
      · split at z
        · rename_i hb
          cases z
          exact tabOk b hb
        · cases z
theorem law_end {M : Md} {t : Tx} {x : String} {n k m : Nat} (hl : M.fs.lookup "law" = some t) (hps : t.ps = [Str.ofString x]) (hok : M.ok = true) (hb : M.binds) (law : M.Law (k + 1) n) (room : Room (k + 1) callerA) {l : PySem.W.OpenLaw} {q : Program} {loose : List Str} {XP : (Str → Option Value) → Heap → Prop} {d : DefRec}
    (hn : l.most = some n) (hn2 : n ≤ sizeLine) (hdf : d.params.defaults = []) (hname : d.name = Str.ofString "law") : PySem.W.WalkO q loose XP (M.hk m).says l.row.toRowW d [] (fun f vs => PySem.call f vs) := by
  refine Att.attach_call hn hdf fun w s₀ s₁ mg mb fa o pm cd doc a vs ns G Y ho hd hcd hmg hobj hints hlen hg => ?_
  obtain ⟨K, X, c⟩ := Y
  have GT := G.T.g
  have hok1 : ∀ p ∈ M.fs, p.2.ok = true ∧ p.2.d.at_ = (Str.ofString p.1, none) := fun p hp => by
    unfold Md.ok at hok
    simp only [Bool.and_eq_true] at hok
    have h3 := List.all_eq_true.mp hok.1.1.1 p hp
    simp only [Bool.and_eq_true, decide_eq_true_eq] at h3
    exact h3.1
  have hm := lookup_mem hl
  have h3 := hok1 _ hm
  obtain ⟨fd, F⟩ := c.t.d.defs (d := t.d) (List.mem_append_left _ (List.mem_append_left _ (List.mem_map.mpr ⟨_, hm, rfl⟩)))
  obtain ⟨e1, e2⟩ := t.noDfl h3.1 K
  rw [e1, e2, h3.2] at F
  have hgl : mg (Str.ofString "law") = some (.ref (He.ga K (Str.ofString "law"))) := by
    refine He.glo_ok X GT (c.t.d.facts (M.fa0_sub ?_))
    unfold Md.fa0
    simp only [List.mem_append, List.mem_map]
    exact .inl (.inl (.inl (.inl (.inl (.inl ⟨_, hm, rfl⟩)))))
  rw [hname, hgl] at hmg
  cases hmg
  obtain ⟨H, base, b⟩ := begin_of (prog := l.prog) (w := w) (cs := M.tf.map fun p => (He.cT K p).2) X GT G.T.b G.T.builtins G.T.nolimit hg hobj hints (Nat.le_trans hlen hn2)
    (fun b hb => by obtain ⟨p, hp, rfl⟩ := List.mem_map.mp hb; exact c.empty p hp) (fun b hb => by obtain ⟨p, hp, rfl⟩ := List.mem_map.mp hb; exact c.out p hp)
  have FB : FactsB M.P (Wr.of M K) mg := factsB_of X GT hok hb c
  have FX : FactsX M.P (Wr.of M K) mg := factsX_of X GT hok hb c
  have heads : ∀ p ∈ M.tf, PySem.W.CodeHd s₁.heap (He.cT K p).1 (He.cT K p).2 := fun p hp => PySem.W.codeHd_of_K X (c.hd p hp)
  have tabs : ∀ p ∈ (Wr.of M K).tabs, ∃ q ∈ M.tf, p.1 = (He.cT K q).2 ∧ (Wr.of M K).lc = (He.cT K q).1 := fun p hp => by
    have hp : p ∈ M.tabs K := hp
    unfold Md.tabs at hp
    split at hp
    · rename_i hlam
      rw [hl] at hp
      refine ⟨(Str.ofString "law", none), by unfold Md.tf; rw [if_pos hlam]; simp, ?_, rfl⟩
      rw [List.mem_singleton.mp hp]
    · cases hp
  have tb : ∀ p ∈ (Wr.of M K).tabs, LamX.TabB base mg (Wr.of M K).lc p.1 := fun p hp => by
    obtain ⟨q, hq, z1, z2⟩ := tabs p hp
    rw [z1, z2]
    have empty := c.empty q hq
    refine ⟨?_, ?_, fun z => ?_⟩
    · obtain ⟨o, us, f1, f2, f3, f4, f5, f6, f7, g1, g2, g3, g4, g5, g6, g7, g8, g9, g10⟩ := heads q hq
      refine ⟨o, us, f1, f2, f3, f4, f5, f6, f7, b.old _ _ g1 (fun vs n z => by rw [g3] at z; cases z) (fun z => ?_), g2, g3, g4, g5, g6, g7, g8, g9, g10⟩
      rw [g3] at z
      cases z
      simp at g4
    · obtain ⟨bm, ob, b1, b2, b3, b4, b5, b6⟩ := G.T.bmain
      refine ⟨bm, ob, b1, b2, fun z => ?_, fun z => ?_, b.old _ _ b3 (fun vs n z => by rw [b6] at z; cases z) (fun z => by rw [b6] at z; cases z), b4, b5, b6⟩
      · obtain ⟨o2, es, ep, g1, g2, _⟩ := GT
        rw [z, g1] at b3
        cases b3
        rw [g2] at b6
        cases b6
      · rw [z, empty] at b3
        cases b3
        cases b6
    · obtain ⟨o2, es, ep, g1, g2, _⟩ := GT
      rw [z, empty] at g1
      cases g1
      cases g2
  have lamF : LamOk (Wr.of M K) t fd := by
    obtain ⟨f', fd', t', m1, m2, m3, m4, F', lam'⟩ := FB.fn "law" t.e (by show (M.fs.lookup "law").map (·.e) = _; rw [hl]; rfl)
    intro mark
    unfold Md.ok at hok
    simp only [Bool.and_eq_true] at hok
    have h5 := List.all_eq_true.mp hok.1.1.1 _ hm
    simp only [Bool.and_eq_true, Bool.or_eq_true, Bool.not_eq_true', decide_eq_true_eq] at h5
    rcases h5.2 with z | ⟨z1, _⟩
    · rw [mark] at z; cases z
    · obtain ⟨oc, od, dV, kV, doc, pm, an, cdv, ct, osl, e, lk, hc, -, -⟩ := F.ex
      have hc : PySem.W.codeIn K fd.code t.d.qual = true := by rw [e]; exact hc
      obtain ⟨c0, e0⟩ := He.codeIn_ref hc
      have e1 := He.codeOf_eq lk e0
      refine ⟨by rw [e0, ← e1]; rfl, (He.cT K (Str.ofString "law", none)).2, ?_⟩
      show M.tabs K = _
      unfold Md.tabs
      rw [if_pos z1, hl]
      rfl
  have run := body_ok (T := Wr.of M K) (prog := l.prog) (w := w) (mg := mg) (base := base) (P := M.P) (k := k) F h3.1 lamF fun j _ => facts_all FB FX tb j
  have bind := FunD.bindsA (ps := t.ps) F (fun kV doc pm an cdv ct us hl => hb.1.1 _ hm kV doc pm an cdv ct us hl) s₁ [.ref a] (by rw [hps]; rfl)
  have hdef : M.P.defs "law" = some t.e := by show (M.fs.lookup "law").map (·.e) = _; rw [hl]; rfl
  obtain ⟨S, hS⟩ := law ns hlen
  have hS : runDef (cxK M.P k) t.e [.scr ns] [] = .ok (.bl true) S := by simpa only [cxK, hdef] using hS
  have sp : spD (Wr.of M K) (fun ds S => runDef (cxK M.P k) t.e ds S) [.ref a] H (fun v _ => v = .bl true) fun _ _ _ => False := by
    refine ⟨[], [], [.scr ns], ⟨rfl, List.nodup_nil, fun l o a e => by simp at e, fun p hp => ?_⟩, .cons ?_ .nil, ?_⟩
    · obtain ⟨q, hq, z1, _⟩ := tabs p hp
      refine LamX.TabS.nil ?_
      rw [z1]
      exact b.tab _ (List.mem_map.mpr ⟨q, hq, rfl⟩)
    · rcases b.scr with (z | ⟨o, z⟩) | ⟨o, its, m, q1, q2, q3, q4, q5, q6⟩
      · rcases b.only a with y | ⟨_, o, y⟩ | ⟨_, y⟩ <;> (rw [y] at z; cases z)
      · exact .scrF z
      · exact .scrK q1 q2 q3 q4 q5 q6
    · dsimp only
      rw [hS]
      intro φ' H' b x s rb
      have rb : RepV K φ' H' b (.bl true) := rb
      cases rb
      rfl
  refine codeAny_mono (run.goes callerA (fun _ => rfl) room [] s₁ H ⟨[.ref a], []⟩ [.ref a] [.ref a] _ _ b.env bind (.cons rfl .nil) sp) fun r s' z => ?_
  cases r with
  | error e => exact (show False from by obtain ⟨_, _, _, _, _, _, _, _, _, _, _, _, z⟩ := z; exact z).elim
  | ok fl =>
    cases fl with
    | ret u =>
      obtain ⟨v, H', os, bare, un, ok', rel, rfl⟩ := z
      cases (show u = Value.bool true from rel)
      have same : ∀ c o, c ∉ (M.tf.map fun p => (He.cT K p).2) → s₁.heap.get? c = some o → s'.heap.get? c = some o := fun c o nc e => by
        rcases b.only c with y | ⟨_, o2, y⟩ | ⟨y, _⟩
        · exact un.keep c o e y (by simp [frs]) (by simp)
        · obtain ⟨k1, _⟩ := b.env.hok c _ y
          obtain ⟨k2, _⟩ := ok' c _ (un.frzs c o2 _ y)
          rw [e] at k1
          cases k1
          exact k2
        · exact absurd y nc
      have grown : ∀ p ∈ M.tf, ∃ more : Array Value, s'.heap.get? (He.cT K p).2 = some { cls := .none, data := .fields more } := fun p hp => by
        obtain ⟨more, z⟩ := un.tbls _ #[] (b.tab _ (List.mem_map.mpr ⟨p, hp, rfl⟩))
        exact ⟨_, ok' _ _ z⟩
      refine ⟨rfl, ⟨fun c' o e => ?_, fun c' o e => ?_⟩, os, bare⟩
      · by_cases hc : c' ∈ M.tf.map fun p => (He.cT K p).2
        · obtain ⟨p, hp, rfl⟩ := List.mem_map.mp hc
          obtain ⟨more, hmore⟩ := grown p hp
          rw [c.empty p hp] at e
          cases e
          exact .inr (.inl ⟨((heads p hp).tab (c.empty p hp)).isCodeTable, rfl, #[], more, rfl, by rw [Array.empty_append]; exact hmore⟩)
        · exact .inl (same c' o hc e)
      · by_cases hc : c' ∈ M.tf.map fun p => (He.cT K p).2
        · obtain ⟨p, hp, rfl⟩ := List.mem_map.mp hc
          obtain ⟨more, hmore⟩ := grown p hp
          exact ⟨_, hmore⟩
        · exact ⟨o, same c' o hc e⟩
    | next => exact z.elim
    | brk => exact z.elim
    | cont => exact z.elim
end Ev
end

section
set_option Elab.async false
set_option linter.all false
set_option maxRecDepth 100000
set_option maxHeartbeats 1000000
set_option autoImplicit false
/-! Ev17: the evaluator's rows for simp; loops. -/
namespace Ev
open PySem
section
variable {P : Prg} {k : Nat} {c : Ctx} {env : EnvD} {S : Store}
@[simp] theorem evE_non : evE c .non env S = .ok .non S := by simp only [evE]
@[simp] theorem evE_bl {b : Bool} : evE c (.bl b) env S = .ok (.bl b) S := by simp only [evE]
@[simp] theorem evE_int {i : Int} : evE c (.int i) env S = .ok (.int i) S := by simp only [evE]
@[simp] theorem evE_str {x : Str} : evE c (.str x) env S = .ok (.str x) S := by simp only [evE]
def varR (o : Option (Option D)) (S : Store) : Res D := match o with
  | some (some d) => .ok d S
  | _ => .bad
@[simp] theorem varR_some {d : D} : varR (some (some d)) S = .ok d S := rfl
@[simp] theorem evE_var {i : Nat} : evE c (.var i) env S = varR env[i]? S := by simp only [evE]; rfl
@[simp] theorem evE_glb {x : String} : evE c (.glb x) env S = okR (c.glb x) S := by simp only [evE]
@[simp] theorem evE_bty {x : String} : evE c (.bty x) env S = if c.bty x then .ok (.ty x) S else .bad := by simp only [evE]
def tupR (ds : List D) (S : Store) : Res D := if ds.length ≤ LIM then .ok (.tup ds) S else .bad
@[simp] theorem evE_tup {es : EXs} : evE c (.tup es) env S = (evEs c es env S).bind tupR := by simp only [evE]; rfl
@[simp] theorem evE_ofl {l : LX} : evE c (.ofl l) env S = (evL c l env S).bind fun ds S => alloc (.lst ds) S := by simp only [evE]
@[simp] theorem evE_dk0 : evE c .dk0 env S = alloc (.dk []) S := by simp only [evE]
@[simp] theorem evE_dt0 : evE c .dt0 env S = alloc (.dt []) S := by simp only [evE]
@[simp] theorem evE_bin {op : Op} {a b : EX} : evE c (.bin op a b) env S = (evE c a env S).bind fun x S => (evE c b env S).bind fun y S => binD op x y S := by simp only [evE]
def negR (x : D) (S : Store) : Res D := match x with
  | .int i => .ok (.int (-i)) S
  | _ => .bad
@[simp] theorem negR_int {i : Int} : negR (.int i) S = .ok (.int (-i)) S := rfl
@[simp] theorem evE_neg {a : EX} : evE c (.neg a) env S = (evE c a env S).bind negR := by simp only [evE]; rfl
@[simp] theorem evE_cmp {op : Cm} {a b : EX} : evE c (.cmp op a b) env S = (evE c a env S).bind fun x S => (evE c b env S).bind fun y S => cmpD op x y S := by simp only [evE]
def bothR (r : D) (S : Store) (f : Store → Res D) : Res D := match r with
  | .bl true => f S
  | .bl false => .ok (.bl false) S
  | _ => .bad
@[simp] theorem bothR_true {f : Store → Res D} : bothR (.bl true) S f = f S := rfl
@[simp] theorem bothR_false {f : Store → Res D} : bothR (.bl false) S f = .ok (.bl false) S := rfl
@[simp] theorem evE_chn {op op' : Cm} {a b z : EX} : evE c (.chn op a b op' z) env S = (evE c a env S).bind fun x S => (evE c b env S).bind fun y S => (cmpD op x y S).bind fun r S => bothR r S fun S => (evE c z env S).bind fun z S => cmpD op' y z S := by simp only [evE]; rfl
@[simp] theorem evE_bop {b : Bool} {es : EXs} : evE c (.bop b es) env S = evBs c b es env S := by simp only [evE]
def ntR (x : D) (S : Store) : Res D := match x with
  | .bl b => .ok (.bl (!b)) S
  | _ => .bad
@[simp] theorem ntR_bl {b : Bool} : ntR (.bl b) S = .ok (.bl (!b)) S := rfl
@[simp] theorem evE_nt {a : EX} : evE c (.nt a) env S = (evE c a env S).bind ntR := by simp only [evE]; rfl
@[simp] theorem evE_ife {t a b : EX} : evE c (.ife t a b) env S = (evE c t env S).bind fun x S => (truR x S).bind fun k S => bif k then evE c a env S else evE c b env S := by
  simp only [evE]
  congr 1
@[simp] theorem evE_sub {a i : EX} : evE c (.sub a i) env S = (evE c a env S).bind fun x S => (evE c i env S).bind fun y S => subD x y S := by simp only [evE]
@[simp] theorem evE_slc0 {a : EX} : evE c (.slc0 a) env S = (evE c a env S).bind fun x S => slcD x none none S := by simp only [evE]
@[simp] theorem evE_slcF {a l : EX} : evE c (.slcF a l) env S = (evE c a env S).bind fun x S => (evE c l env S).bind fun l S => (partR l S).bind fun l S => slcD x (some l) none S := by simp only [evE]
@[simp] theorem evE_slcT {a h : EX} : evE c (.slcT a h) env S = (evE c a env S).bind fun x S => (evE c h env S).bind fun h S => (partR h S).bind fun h S => slcD x none (some h) S := by simp only [evE]
@[simp] theorem evE_slcB {a l h : EX} : evE c (.slcB a l h) env S = (evE c a env S).bind fun x S => (evE c l env S).bind fun l S => (partR l S).bind fun l S => (evE c h env S).bind fun h S => (partR h S).bind fun h S => slcD x (some l) (some h) S := by simp only [evE]
@[simp] theorem evE_call {x : String} {es : EXs} : evE c (.call x es) env S = if c.defd x then (evEs c es env S).bind fun ds S => c.call x ds S else .bad := by simp only [evE]
@[simp] theorem evE_append {a : EX} {es : EXs} : evE c (.meth a .append es) env S = (evE c a env S).bind fun x S => if kindOk .append x S then (evEs c es env S).bind fun ds S => methD x .append ds S else .bad := by simp only [evE]
@[simp] theorem evE_extend {a : EX} {es : EXs} : evE c (.meth a .extend es) env S = (evE c a env S).bind fun x S => if kindOk .extend x S then (evEs c es env S).bind fun ds S => methD x .extend ds S else .bad := by simp only [evE]
@[simp] theorem evE_pop {a : EX} {es : EXs} : evE c (.meth a .pop es) env S = (evE c a env S).bind fun x S => if kindOk .pop x S then (evEs c es env S).bind fun ds S => methD x .pop ds S else .bad := by simp only [evE]
@[simp] theorem evE_get {a : EX} {es : EXs} : evE c (.meth a .get es) env S = (evE c a env S).bind fun x S => if kindOk .get x S then (evEs c es env S).bind fun ds S => methD x .get ds S else .bad := by simp only [evE]
@[simp] theorem evE_update {a : EX} {es : EXs} : evE c (.meth a .update es) env S = (evE c a env S).bind fun x S => if kindOk .update x S then (evEs c es env S).bind fun ds S => methD x .update ds S else .bad := by simp only [evE]
@[simp] theorem evE_blt {f : Bf} {es : EXs} : evE c (.blt f es) env S = if okBf f c.gd then (evEs c es env S).bind fun ds S => bltD f ds S else .bad := by simp only [evE]
@[simp] theorem evE_bll {f : Bl} {l : LX} : evE c (.bll f l) env S = (evL c l env S).bind fun ds S => bllD f ds S := by simp only [evE]
@[simp] theorem evE_index {a : EX} {es : EXs} : evE c (.meth a .index es) env S = (evE c a env S).bind fun x S => if kindOk .index x S then (evEs c es env S).bind fun ds S => methD x .index ds S else .bad := by simp only [evE]
@[simp] theorem evE_lamw {x : String} {b : EX} : evE c (.lamw x b) env S = c.lam x b env S := by simp only [evE]
@[simp] theorem evIt_enm {a : EX} : evIt c (.enm a) env S = (evE c a env S).bind enmD := by simp only [evIt]
@[simp] theorem enmD_tup {ds : List D} : enmD (.tup ds) S = .ok (.ds (enumL 0 ds)) S := rfl
@[simp] theorem evEs_nil : evEs c .nil env S = .ok [] S := by simp only [evEs]
@[simp] theorem evEs_cons {e : EX} {es : EXs} : evEs c (.cons e es) env S = (evE c e env S).bind fun d S => (evEs c es env S).bind fun ds S => .ok (d :: ds) S := by simp only [evEs]
@[simp] theorem evBs_one {b : Bool} {e : EX} : evBs c b (.cons e .nil) env S = evE c e env S := by simp only [evBs]
def stepB (x : D) (isAnd : Bool) (S : Store) (f : Store → Res D) : Res D := match x with
  | .bl b => if b = isAnd then f S else .ok (.bl b) S
  | _ => .bad
@[simp] theorem stepB_tt {f : Store → Res D} : stepB (.bl true) true S f = f S := rfl
@[simp] theorem stepB_ft {f : Store → Res D} : stepB (.bl false) true S f = .ok (.bl false) S := rfl
@[simp] theorem stepB_tf {f : Store → Res D} : stepB (.bl true) false S f = .ok (.bl true) S := rfl
@[simp] theorem stepB_ff {f : Store → Res D} : stepB (.bl false) false S f = f S := rfl
@[simp] theorem evBs_two {b : Bool} {e e' : EX} {es : EXs} : evBs c b (.cons e (.cons e' es)) env S = (evE c e env S).bind fun x S => stepB x b S fun S => evBs c b (.cons e' es) env S := by simp only [evBs]; rfl
@[simp] theorem evIt_val {e : EX} : evIt c (.val e) env S = (evE c e env S).bind itD := by simp only [evIt]
def rng1R (x : D) (S : Store) : Res ItV := match x with
  | .int n => if small62 n then .ok (.ds (rngL 0 1 n.toNat)) S else .bad
  | _ => .bad
@[simp] theorem evIt_rng1 {a : EX} : evIt c (.rng1 a) env S = (evE c a env S).bind fun x S => rng1R x S := by simp only [evIt]; rfl
def rng2R (x y : D) (S : Store) : Res ItV := match x, y with
  | .int i, .int j => if small62 i && small62 j then .ok (.ds (rngL i 1 (j - i).toNat)) S else .bad
  | _, _ => .bad
@[simp] theorem evIt_rng2 {a b : EX} : evIt c (.rng2 a b) env S = (evE c a env S).bind fun x S => (evE c b env S).bind fun y S => rng2R x y S := by simp only [evIt]; rfl
def rng3R (x y z : D) (S : Store) : Res ItV := match x, y, z with
  | .int i, .int j, .int (-1) => if small62 i && small62 j then .ok (.ds (rngL i (-1) (i - j).toNat)) S else .bad
  | _, _, _ => .bad
@[simp] theorem evIt_rng3 {a b d : EX} : evIt c (.rng3 a b d) env S = (evE c a env S).bind fun x S => (evE c b env S).bind fun y S => (evE c d env S).bind fun z S => rng3R x y z S := by simp only [evIt]; rfl
@[simp] theorem rng1R_int {n : Int} (h : small62 n = true) : rng1R (.int n) S = .ok (.ds (rngL 0 1 n.toNat)) S := by unfold rng1R; simp [h]
@[simp] theorem rng2R_int {i j : Int} (h : small62 i = true) (h2 : small62 j = true) : rng2R (.int i) (.int j) S = .ok (.ds (rngL i 1 (j - i).toNat)) S := by unfold rng2R; simp [h, h2]
@[simp] theorem rng3R_int {i j : Int} (h : small62 i = true) (h2 : small62 j = true) : rng3R (.int i) (.int j) (.int (-1)) S = .ok (.ds (rngL i (-1) (i - j).toNat)) S := by unfold rng3R; simp [h, h2]
def disR (ds : List D) (S : Store) : Res (List D) := if ds.length ≤ LIM then .ok ds S else .bad
@[simp] theorem evL_dis {es : EXs} : evL c (.dis es) env S = (evEs c es env S).bind disR := by simp only [evL]; rfl
/-- a turn of a comprehension -/
def turnC (c : Ctx) (own : List Nat) (t : TG) (tst : EnvD → Store → Res Bool) (e : EX) (env : EnvD) : D → List D → Store → Res (List D) := fun d acc S => match bindT t d (wipeE env own) with
  | some env' => (tst env' S).bind fun k S => match k with
    | true => (evE c e env' S).bind fun y S => if acc.length < LIM then .ok (acc ++ [y]) S else .bad
    | false => .ok acc S
  | none => .bad
theorem bind_assocR {α β γ : Type} (r : Res α) (f : α → Store → Res β) (g : β → Store → Res γ) : (r.bind f).bind g = r.bind fun a S => (f a S).bind g := by
  cases r <;> rfl
@[simp] theorem evL_comp0 {own : List (String × Nat)} {t : TG} {it : IT} {e : EX} : evL c (.comp own t it .nil e) env S = (evIt c it env S).bind fun iv S => noExc (walkI (turnC c (own.map (·.2)) t (fun _ S => .ok true S) e env) iv [] S) := by
  simp only [evL]; rfl
@[simp] theorem evL_comp1 {own : List (String × Nat)} {t : TG} {it : IT} {i e : EX} {is : EXs} : evL c (.comp own t it (.cons i is) e) env S = (evIt c it env S).bind fun iv S => noExc (walkI (turnC c (own.map (·.2)) t (fun env S => (evE c i env S).bind truR) e env) iv [] S) := by
  simp only [evL]
  congr 1; funext iv S; congr 2; funext d acc S
  unfold turnC
  generalize bindT t d (wipeE env (own.map (·.2))) = o
  cases o with
  | none => rfl
  | some env' => exact (bind_assocR _ _ _).symm
/-! ### statements -/
@[simp] theorem evS_expr {e : EX} : evS c (.expr e) env S = (evE c e env S).out env fun _ S => .nx env S := by simp only [evS]
def setR (env : EnvD) (i : Nat) (d : D) (S : Store) : Out := if i < env.length then .nx (env.set i (some d)) S else .bad
@[simp] theorem evS_set {i : Nat} {e : EX} : evS c (.set i e) env S = (evE c e env S).out env (setR env i) := by simp only [evS]; rfl
def parR (ns : List Nat) (env : EnvD) (ds : List D) (S : Store) : Out := if ds.length = ns.length then .nx (parE ns ds env) S else .bad
@[simp] theorem evS_par {ns : List Nat} {es : EXs} : evS c (.par ns es) env S = (evEs c es env S).out env (parR ns env) := by simp only [evS]; rfl
@[simp] theorem evS_asg {t : TAG} {e : EX} : evS c (.asg t e) env S = (evE c e env S).out env fun d S => asgT c t d env S := by simp only [evS]
def asgsR (c : Ctx) (ts : List TAG) (env : EnvD) (d : D) (S : Store) : Out := match d with
  | .tup ds => if ds.length = ts.length then asgTs c ts ds env S else .bad
  | _ => .bad
@[simp] theorem evS_asgs {ts : List TAG} {e : EX} : evS c (.asgs ts e) env S = (evE c e env S).out env (asgsR c ts env) := by simp only [evS]; rfl
def augR (o : Option (Option D)) (f : D → Out) : Out := match o with
  | some (some x) => f x
  | _ => .bad
@[simp] theorem augR_some {d : D} {f : D → Out} : augR (some (some d)) f = f d := rfl
@[simp] theorem evS_aug {i : Nat} {op : Op} {e : EX} : evS c (.aug i op e) env S = augR env[i]? fun x => (evE c e env S).out env fun y S => (augD op x y S).out env fun z S => .nx (env.set i (some z)) S := by simp only [evS]; rfl
@[simp] theorem evS_ret {e : EX} : evS c (.ret e) env S = (evE c e env S).out env fun d S => .rt d S := by simp only [evS]
@[simp] theorem evS_ret0 : evS c .ret0 env S = .rt .non S := by simp only [evS]
@[simp] theorem evS_ife {t : EX} {a b : SS} : evS c (.ife t a b) env S = ((evE c t env S).bind truR).out env fun k S => bif k then evSs c a env S else evSs c b env S := by
  simp only [evS]; unfold evTest
  congr 1
@[simp] theorem evS_whl {t : EX} {b : SS} : evS c (.whl t b) env S = whlT (evTest c t) (fun env S => evSs c b env S) LIM env S := by simp only [evS]
/-- a turn of a for -/
def turnF (c : Ctx) (t : TG) (b : SS) : D → EnvD → Store → Out := fun d env S => match bindT t d env with
  | some env => evSs c b env S
  | none => .bad
def forI (f : D → EnvD → Store → Out) (iv : ItV) (env : EnvD) (S : Store) : Out := match iv with
  | .ds ds => forT f ds env S
  | .lst l => forL f l LIM 0 env S
@[simp] theorem evS_for {t : TG} {it : IT} {b : SS} : evS c (.for_ t it b) env S = (evIt c it env S).out env fun iv S => forI (turnF c t b) iv env S := by
  simp only [evS]; rfl
@[simp] theorem evS_brk : evS c .brk env S = .bk env S := by simp only [evS]
@[simp] theorem evS_cont : evS c .cont env S = .ct env S := by simp only [evS]
@[simp] theorem evS_pass : evS c .pass env S = .nx env S := by simp only [evS]
def raiseR (b : Bool) (C : String) (env : EnvD) (S : Store) : Out := if b then .exc ⟨C, []⟩ env S else .bad
@[simp] theorem raiseR_true {C : String} : raiseR true C env S = .exc ⟨C, []⟩ env S := rfl
@[simp] theorem evS_raise {C : String} : evS c (.raise C) env S = raiseR (c.exc C) C env S := by simp only [evS]; rfl
@[simp] theorem evSs_nil : evSs c .nil env S = .nx env S := by simp only [evSs]
@[simp] theorem evSs_cons {x : ST} {xs : SS} : evSs c (.cons x xs) env S = (evS c x env S).then fun env S => evSs c xs env S := by simp only [evSs]
/-! ### calls -/
@[simp] theorem cxK_glb' : (cxK P k).glb = P.glb := by cases k <;> simp only [cxK]
@[simp] theorem cxK_bty' : (cxK P k).bty = P.bty := by cases k <;> simp only [cxK]
@[simp] theorem cxK_exc' : (cxK P k).exc = P.xc := by cases k <;> simp only [cxK]
theorem lam_eq {x : String} {b : EX} : (cxK P (k + 2)).lam x b env S = wordR P.xc (P.wrd x) (evE (cxK P k) b env S) := by simp only [cxK]
@[simp] theorem cxK_gd' : (cxK P k).gd = P.gd := by cases k <;> simp only [cxK]
@[simp] theorem cxK_defd' {x : String} : (cxK P (k + 1)).defd x = (P.defs x).isSome := by simp only [cxK]
theorem call_eq {x : String} {d : Def} (h : P.defs x = some d) {ds : List D} : (cxK P (k + 1)).call x ds S = runDef (cxK P k) d ds S := by simp only [cxK, h]
end
end Ev
namespace Ev
open PySem
/-! ### what is let go -/
def wf (S : Store) : Prop := S.all (Ob.bd S.length) = true
section
variable {S S' : Store} {d : D}
@[simp] theorem endO_rt : endO (.rt d S) = .ok d S := rfl
@[simp] theorem endO_nx {env : EnvD} : endO (.nx env S) = .ok .non S := rfl
theorem gc_cut {n : Nat} (h : (S'.take n).all (Ob.bd n) = true) (hd : d.bd n = true) : gc d n S' = (d, S'.take n) := by
  unfold gc; rw [if_pos h, if_pos hd]
theorem gcR_ok (hS : wf S) (hd : d.bd S.length = true) (ht : S'.take S.length = S) : gcR S (.ok d S') = .ok d S := by
  unfold gcR
  have := gc_cut (d := d) (n := S.length) (S' := S') (by rw [ht]; exact hS) hd
  simp only [this, ht]
theorem gcR_same (hS : wf S) (hd : d.bd S.length = true) : gcR S (.ok d S) = .ok d S := gcR_ok hS hd List.take_length
/-- a list laid anew -/
theorem gcR_new {l : Nat} {o : Ob} (hS : wf S) (ht : S'.take S.length = S) (hl : S.length ≤ l) (ho : S'[l]? = some o) (hb : o.bd S.length = true) : gcR S (.ok (.loc l) S') = .ok (.loc S.length) (S ++ [o]) := by
  have h : S.all (Ob.bd S.length) = true := hS
  have hnb : D.bd S.length (.loc l) = false := by simp [D.bd]; omega
  have e : gc (.loc l) S.length S' = (.loc S.length, S ++ [o]) := by
    unfold gc
    rw [ht]
    simp only [h, if_true, hnb, Bool.false_eq_true, if_false, ho, hb]
  unfold gcR
  simp only [e]
theorem wf_nil : wf [] := rfl
@[simp] theorem bd_non {n : Nat} : D.bd n .non = true := rfl
@[simp] theorem bd_bl {n : Nat} {b : Bool} : D.bd n (.bl b) = true := rfl
@[simp] theorem bd_int {n : Nat} {b : Int} : D.bd n (.int b) = true := rfl
@[simp] theorem bd_str {n : Nat} {b : Str} : D.bd n (.str b) = true := rfl
@[simp] theorem bd_scr {n : Nat} {b : List Int} : D.bd n (.scr b) = true := rfl
@[simp] theorem bd_tup {n : Nat} {b : List D} : D.bd n (.tup b) = bds n b := by simp only [D.bd]
@[simp] theorem bd_ktup {n : Nat} {b : List D} : D.bd n (.ktup b) = bds n b := by simp only [D.bd]
@[simp] theorem bd_loc {n l : Nat} : D.bd n (.loc l) = decide (l < n) := by simp only [D.bd]
@[simp] theorem bds_nil {n : Nat} : bds n [] = true := rfl
@[simp] theorem bds_cons {n : Nat} {d : D} {ds : List D} : bds n (d :: ds) = (d.bd n && bds n ds) := rfl
@[simp] theorem bd_lst {n : Nat} {b : List D} : Ob.bd n (.lst b) = bds n b := rfl
theorem run_exc {c : Ctx} {f : Def} {ds : List D} {x : Xc} {env : EnvD} (hl : ds.length = f.np) (h : evSs c f.body (startE f.nn ds) S = .exc x env S') : runDef c f ds S = .exc x S' := by
  unfold runDef
  rw [if_pos hl, h]
  rfl
theorem run_same {c : Ctx} {f : Def} {ds : List D} (hl : ds.length = f.np) (hS : wf S) (hb : d.bd S.length = true) (h : evSs c f.body (startE f.nn ds) S = .rt d S) : runDef c f ds S = .ok d S := by
  unfold runDef
  rw [if_pos hl, h]
  exact gcR_same hS hb
theorem run_cut {c : Ctx} {f : Def} {ds : List D} (hl : ds.length = f.np) (hS : wf S) (hb : d.bd S.length = true) (ht : S'.take S.length = S) (h : evSs c f.body (startE f.nn ds) S = .rt d S') : runDef c f ds S = .ok d S := by
  unfold runDef
  rw [if_pos hl, h]
  exact gcR_ok hS hb ht
theorem run_new {c : Ctx} {f : Def} {ds : List D} {l : Nat} {o : Ob} (hl : ds.length = f.np) (hS : wf S) (ht : S'.take S.length = S) (hll : S.length ≤ l) (ho : S'[l]? = some o) (hb : o.bd S.length = true) (h : evSs c f.body (startE f.nn ds) S = .rt (.loc l) S') : runDef c f ds S = .ok (.loc S.length) (S ++ [o]) := by
  unfold runDef
  rw [if_pos hl, h]
  exact gcR_new hS ht hll ho hb
theorem run_nx {c : Ctx} {f : Def} {ds : List D} {env : EnvD} (hl : ds.length = f.np) (hS : wf S) (ht : S'.take S.length = S) (h : evSs c f.body (startE f.nn ds) S = .nx env S') : runDef c f ds S = .ok .non S := by
  unfold runDef
  rw [if_pos hl, h]
  exact gcR_ok hS rfl ht
theorem gcR_len (hl : S'.length = S.length) (hS : wf S') (hd : d.bd S.length = true) : gcR S (.ok d S') = .ok d S' := by
  have g : gc d S.length S' = (d, S') := by
    have q := gc_cut (d := d) (n := S.length) (S' := S') (by rw [← hl, List.take_length]; exact hS) hd
    rw [q, ← hl, List.take_length]
  unfold gcR
  simp only [g]
/-- changed, nothing new -/
theorem run_nxW {c : Ctx} {f : Def} {ds : List D} {env : EnvD} (hn : ds.length = f.np) (hl : S'.length = S.length) (hS : wf S') (h : evSs c f.body (startE f.nn ds) S = .nx env S') : runDef c f ds S = .ok .non S' := by
  unfold runDef
  rw [if_pos hn, h]
  exact gcR_len hl hS rfl
theorem run_rtW {c : Ctx} {f : Def} {ds : List D} (hn : ds.length = f.np) (hl : S'.length = S.length) (hS : wf S') (hd : d.bd S.length = true) (h : evSs c f.body (startE f.nn ds) S = .rt d S') : runDef c f ds S = .ok d S' := by
  unfold runDef
  rw [if_pos hn, h]
  exact gcR_len hl hS hd
/-- a list of places above stays as it is -/
theorem run_keep {c : Ctx} {f : Def} {ds : List D} {l : Nat} {o : Ob} (hl : ds.length = f.np) (hll : S.length ≤ l) (ho : S'[l]? = some o) (hb : o.bd S.length = false) (h : evSs c f.body (startE f.nn ds) S = .rt (.loc l) S') : runDef c f ds S = .ok (.loc l) S' := by
  unfold runDef
  rw [if_pos hl, h]
  have hnb : D.bd S.length (.loc l) = false := by simp; omega
  have e : gc (.loc l) S.length S' = (.loc l, S') := by
    unfold gc
    simp only [hnb, Bool.false_eq_true, if_false, ho, hb]
    split <;> rfl
  show gcR S (.ok (.loc l) S') = _
  unfold gcR
  simp only [e]
/-- what changed below stays, what was laid above goes -/
theorem run_low {c : Ctx} {f : Def} {ds : List D} {S2 : Store} (hl : ds.length = f.np) (hS : S2.all (Ob.bd S.length) = true) (hb : d.bd S.length = true) (ht : S'.take S.length = S2) (h : evSs c f.body (startE f.nn ds) S = .rt d S') : runDef c f ds S = .ok d S2 := by
  unfold runDef
  rw [if_pos hl, h]
  show gcR S (.ok d S') = _
  unfold gcR
  have := gc_cut (d := d) (n := S.length) (S' := S') (by rw [ht]; exact hS) hb
  simp only [this, ht]
mutual
theorem D.bd_mono {n m : Nat} (h : n ≤ m) : ∀ {d : D}, d.bd n = true → d.bd m = true
  | .non, _ => rfl
  | .bl _, _ => rfl
  | .int _, _ => rfl
  | .str _, _ => rfl
  | .scr _, _ => rfl
  | .ty _, _ => rfl
  | .tup ds, e => by
    have e : bds n ds = true := by simpa [D.bd] using e
    show D.bd m (.tup ds) = true
    simpa [D.bd] using bds_mono h e
  | .ktup ds, e => by
    have e : bds n ds = true := by simpa [D.bd] using e
    show D.bd m (.ktup ds) = true
    simpa [D.bd] using bds_mono h e
  | .loc l, e => by
    simp [D.bd] at e ⊢
    omega
theorem bds_mono {n m : Nat} (h : n ≤ m) : ∀ {ds : List D}, bds n ds = true → bds m ds = true
  | [], _ => rfl
  | d :: ds, e => by
    have e : (d.bd n && bds n ds) = true := e
    rw [Bool.and_eq_true] at e
    show (d.bd m && bds m ds) = true
    rw [D.bd_mono h e.1, bds_mono h e.2]; rfl
end
theorem Ob.bd_mono {n m : Nat} (h : n ≤ m) {o : Ob} (e : o.bd n = true) : o.bd m = true := by
  cases o with
  | lst ds => exact bds_mono h e
  | dk kvs => exact List.all_eq_true.mpr fun p hp => D.bd_mono h (List.all_eq_true.mp e p hp)
  | dt kvs => exact List.all_eq_true.mpr fun p hp => D.bd_mono h (List.all_eq_true.mp e p hp)
  | ins C fs => exact List.all_eq_true.mpr fun p hp => D.bd_mono h (List.all_eq_true.mp e p hp)
theorem wf_add {o : Ob} (hS : wf S) (h : o.bd (S.length + 1) = true) : wf (S ++ [o]) := by
  unfold wf at hS ⊢
  rw [List.all_append, List.length_append, Bool.and_eq_true]
  refine ⟨List.all_eq_true.mpr fun x hx => Ob.bd_mono (by simp) (List.all_eq_true.mp hS x hx), ?_⟩
  simpa using h
theorem wf_set {l : Nat} {o : Ob} (hS : wf S) (h : o.bd S.length = true) : wf (S.set l o) := by
  unfold wf at hS ⊢
  rw [List.length_set]
  refine List.all_eq_true.mpr fun x hx => ?_
  rcases List.mem_or_eq_of_mem_set hx with hx | rfl
  · exact List.all_eq_true.mp hS x hx
  · exact h
end
/-! ### loops -/
theorem whlT_run {t : EnvD → Store → Res Bool} {f : EnvD → Store → Out} {Q : Out → Prop} (I : Nat → EnvD → Store → Prop)
    (step : ∀ m env S, I m env S → (∃ S', t env S = .ok false S' ∧ Q (.nx env S')) ∨ (∃ S', t env S = .ok true S' ∧ ((∃ env' S'' m', m' < m ∧ (f env S' = .nx env' S'' ∨ f env S' = .ct env' S'') ∧ I m' env' S'') ∨ (∃ d S'', f env S' = .rt d S'' ∧ Q (.rt d S''))))) :
    ∀ (fuel m : Nat) (env : EnvD) (S : Store), m < fuel → I m env S → Q (whlT t f fuel env S)
  | 0, m, env, S, h, _ => absurd h (Nat.not_lt_zero _)
  | fuel + 1, m, env, S, h, hi => by
    unfold whlT
    rcases step m env S hi with ⟨S', e, q⟩ | ⟨S', e, ⟨env', S'', m', hm, e2, i2⟩ | ⟨d, S'', e2, q⟩⟩
    · rw [e]; exact q
    · rw [e]
      have r := whlT_run I step fuel m' env' S'' (by omega) i2
      rcases e2 with e2 | e2 <;> (show Q (match f env S' with | .nx env S => _ | .ct env S => _ | .bk env S => _ | o => o); rw [e2]; exact r)
    · rw [e]
      show Q (match f env S' with | .nx env S => _ | .ct env S => _ | .bk env S => _ | o => o)
      rw [e2]; exact q
theorem forT_run {f : D → EnvD → Store → Out} {Q : Out → Prop} (I : List D → EnvD → Store → Prop)
    (step : ∀ d ds env S, I (d :: ds) env S → (∃ env' S', (f d env S = .nx env' S' ∨ f d env S = .ct env' S') ∧ I ds env' S') ∨ (∃ r S', f d env S = .rt r S' ∧ Q (.rt r S'))) (fin : ∀ env S, I [] env S → Q (.nx env S)) :
    ∀ (ds : List D) (env : EnvD) (S : Store), I ds env S → Q (forT f ds env S)
  | [], env, S, h => fin env S h
  | d :: ds, env, S, h => by
    unfold forT
    rcases step d ds env S h with ⟨env', S', e, i⟩ | ⟨r, S', e, q⟩
    · have r := forT_run I step fin ds env' S' i
      rcases e with e | e <;> (rw [e]; exact r)
    · rw [e]; exact q
theorem forL_run {f : D → EnvD → Store → Out} {Q : Out → Prop} {l : Nat} {xs : List D} (I : List D → EnvD → Store → Prop) (hl : ∀ ds env S, I ds env S → S[l]? = some (.lst xs))
    (step : ∀ d ds env S, I (d :: ds) env S → (∃ env' S', (f d env S = .nx env' S' ∨ f d env S = .ct env' S') ∧ I ds env' S') ∨ (∃ r S', f d env S = .rt r S' ∧ Q (.rt r S'))) (fin : ∀ env S, I [] env S → Q (.nx env S)) :
    ∀ (n i : Nat) (env : EnvD) (S : Store), i ≤ xs.length → xs.length < n + i → I (xs.drop i) env S → Q (forL f l n i env S)
  | 0, i, env, S, h1, h2, _ => by omega
  | n + 1, i, env, S, h1, h2, h => by
    unfold forL
    rw [hl _ _ _ h]
    dsimp only
    by_cases hi : i < xs.length
    · rw [List.drop_eq_getElem_cons hi] at h
      rw [List.getElem?_eq_getElem hi]
      dsimp only
      rcases step _ _ env S h with ⟨env', S', e, q⟩ | ⟨r, S', e, q⟩
      · have r := forL_run I hl step fin n (i + 1) env' S' hi (by omega) q
        rcases e with e | e <;> (rw [e]; exact r)
      · rw [e]; exact q
    · have e : i = xs.length := by omega
      subst e
      rw [List.drop_length] at h
      rw [List.getElem?_eq_none (Nat.le_refl _)]
      exact fin env S h
theorem walkT_run {α : Type} {f : D → α → Store → Res α} {Q : Res α → Prop} (I : List D → α → Store → Prop) (step : ∀ d ds a S, I (d :: ds) a S → ∃ a' S', f d a S = .ok a' S' ∧ I ds a' S') (fin : ∀ a S, I [] a S → Q (.ok a S)) :
    ∀ (ds : List D) (a : α) (S : Store), I ds a S → Q (walkT f ds a S)
  | [], a, S, h => fin a S h
  | d :: ds, a, S, h => by
    obtain ⟨a', S', e, i⟩ := step d ds a S h
    unfold walkT
    rw [e]
    exact walkT_run I step fin ds a' S' i
/-- a comprehension whose element is worked out without the store -/
theorem walkT_map {f : D → List D → Store → Res (List D)} {g : D → D} {S : Store} : ∀ {ds : List D} {acc : List D}, (∀ d ∈ ds, ∀ acc, acc.length < LIM → f d acc S = .ok (acc ++ [g d]) S) → acc.length + ds.length ≤ LIM → walkT f ds acc S = .ok (acc ++ ds.map g) S
  | [], acc, _, _ => by unfold walkT; simp
  | d :: ds, acc, h, hl => by
    unfold walkT
    rw [h d List.mem_cons_self acc (by simp at hl; omega)]
    show walkT f ds (acc ++ [g d]) S = _
    rw [walkT_map (fun e he => h e (List.mem_cons_of_mem _ he)) (by simp at hl ⊢; omega)]
    simp
/-- over a list of the store that stays -/
theorem walkL_map {f : D → List D → Store → Res (List D)} {g : D → D} {S : Store} {l : Nat} {ds : List D} (hS : S[l]? = some (.lst ds)) (h : ∀ d ∈ ds, ∀ acc, acc.length < LIM → f d acc S = .ok (acc ++ [g d]) S) : ∀ (n i : Nat) (acc : List D), acc.length = i → i ≤ ds.length → ds.length ≤ LIM → ds.length < n + i → walkL f l n i acc S = .ok (acc ++ (ds.drop i).map g) S
  | 0, i, acc, _, hi, _, hn => by omega
  | n + 1, i, acc, ha, hi, hl, hn => by
    unfold walkL
    rw [hS]
    dsimp only
    by_cases hlt : i < ds.length
    · rw [List.getElem?_eq_getElem hlt]
      dsimp only
      rw [h _ (List.getElem_mem hlt) acc (by omega)]
      show walkL f l n (i + 1) (acc ++ [g ds[i]]) S = _
      rw [walkL_map hS h n (i + 1) _ (by simp [ha]) hlt hl (by omega), List.drop_eq_getElem_cons hlt, List.map_cons, List.append_assoc]
      rfl
    · have : i = ds.length := by omega
      rw [List.getElem?_eq_none (by omega), List.drop_of_length_le (by omega)]
      simp

/-! ### rows by shapes -/
section
variable {S : Store} {d e : D} {c : Ctx} {env : EnvD}
@[simp] theorem alloc_ok {o : Ob} : Ev.alloc o S = .ok (.loc S.length) (S ++ [o]) := rfl
@[simp] theorem okR_some' : okR (some d) S = .ok d S := rfl
@[simp] theorem boolR_some' {b : Bool} : boolR (some b) S = .ok (.bl b) S := rfl
@[simp] theorem truRbl {b : Bool} : truR (.bl b) S = .ok b S := rfl
@[simp] theorem truR_non : truR .non S = .ok false S := rfl
@[simp] theorem truR_int {i : Int} : truR (.int i) S = .ok (i != 0) S := rfl
@[simp] theorem truR_tup {ds : List D} : truR (.tup ds) S = .ok (!ds.isEmpty) S := rfl
@[simp] theorem okBf_len {b : Bool} : okBf .len b = true := rfl
@[simp] theorem okBf_abs {b : Bool} : okBf .abs b = true := rfl
@[simp] theorem okBf_int {b : Bool} : okBf .int b = true := rfl
@[simp] theorem okBf_max {b : Bool} : okBf .max b = true := rfl
@[simp] theorem okBf_min {b : Bool} : okBf .min b = true := rfl
@[simp] theorem okBf_isi {b : Bool} : okBf .isi b = true := rfl
@[simp] theorem okBf_tuple {b : Bool} : okBf .tuple b = true := rfl
@[simp] theorem okBf_list {b : Bool} : okBf .list b = true := rfl
@[simp] theorem okBf_repr {b : Bool} : okBf .repr b = b := rfl
@[simp] theorem len_tup {ds : List D} : bltD .len [.tup ds] S = .ok (.int ds.length) S := rfl
@[simp] theorem len_ktup {ds : List D} : bltD .len [.ktup ds] S = .ok (.int ds.length) S := rfl
theorem len_loc {l : Nat} {ds : List D} (h : S[l]? = some (.lst ds)) : bltD .len [.loc l] S = .ok (.int ds.length) S := by simp only [bltD, h]
theorem len_str {x : Str} (h : x.length ≤ LIM) : bltD .len [.str x] S = .ok (.int x.length) S := by simp only [bltD, h, if_true]
@[simp] theorem abs_int {i : Int} : bltD .abs [.int i] S = .ok (.int (if i < 0 then -i else i)) S := rfl
@[simp] theorem int_int {i : Int} : bltD .int [.int i] S = .ok (.int i) S := rfl
@[simp] theorem int_bl {b : Bool} : bltD .int [.bl b] S = .ok (.int (if b then 1 else 0)) S := rfl
@[simp] theorem max_int {i j : Int} : bltD .max [.int i, .int j] S = .ok (.int (if j > i then j else i)) S := rfl
@[simp] theorem min_int {i j : Int} : bltD .min [.int i, .int j] S = .ok (.int (if j < i then j else i)) S := rfl
@[simp] theorem tuple_tup {ds : List D} : bltD .tuple [.tup ds] S = .ok (.tup ds) S := rfl
theorem tuple_loc {l : Nat} {ds : List D} (h : S[l]? = some (.lst ds)) : bltD .tuple [.loc l] S = .ok (.tup ds) S := by simp only [bltD, h]
@[simp] theorem list_tup {ds : List D} : bltD .list [.tup ds] S = .ok (.loc S.length) (S ++ [.lst ds]) := rfl
theorem list_loc {l : Nat} {ds : List D} (h : S[l]? = some (.lst ds)) : bltD .list [.loc l] S = .ok (.loc S.length) (S ++ [.lst ds]) := by simp only [bltD, h]; rfl
@[simp] theorem isi_int {i : Int} {u : String} : bltD .isi [.int i, .ty u] S = boolR (isiB "int" u) S := rfl
@[simp] theorem isi_bl {i : Bool} {u : String} : bltD .isi [.bl i, .ty u] S = boolR (isiB "bool" u) S := rfl
@[simp] theorem isi_str {i : Str} {u : String} : bltD .isi [.str i, .ty u] S = boolR (isiB "str" u) S := rfl
@[simp] theorem isi_tup {i : List D} {u : String} : bltD .isi [.tup i, .ty u] S = boolR (isiB "tuple" u) S := rfl
@[simp] theorem isi_ktup {i : List D} {u : String} : bltD .isi [.ktup i, .ty u] S = boolR (isiB "tuple" u) S := rfl
@[simp] theorem isi_non {u : String} : bltD .isi [.non, .ty u] S = boolR (isiB "NoneType" u) S := rfl
@[simp] theorem isiB_ii : isiB "int" "int" = some true := by decide
@[simp] theorem isiB_ib : isiB "int" "bool" = some false := by decide
@[simp] theorem isiB_is : isiB "int" "str" = some false := by decide
@[simp] theorem isiB_it : isiB "int" "tuple" = some false := by decide
@[simp] theorem isiB_bi : isiB "bool" "int" = some true := by decide
@[simp] theorem isiB_bb : isiB "bool" "bool" = some true := by decide
@[simp] theorem isiB_bs : isiB "bool" "str" = some false := by decide
@[simp] theorem isiB_bt : isiB "bool" "tuple" = some false := by decide
@[simp] theorem isiB_si : isiB "str" "int" = some false := by decide
@[simp] theorem isiB_sb : isiB "str" "bool" = some false := by decide
@[simp] theorem isiB_ss : isiB "str" "str" = some true := by decide
@[simp] theorem isiB_st : isiB "str" "tuple" = some false := by decide
@[simp] theorem isiB_ti : isiB "tuple" "int" = some false := by decide
@[simp] theorem isiB_tb : isiB "tuple" "bool" = some false := by decide
@[simp] theorem isiB_ts : isiB "tuple" "str" = some false := by decide
@[simp] theorem isiB_tt : isiB "tuple" "tuple" = some true := by decide
@[simp] theorem cmp_eq : cmpD .eq d e S = boolR (eqD S d e) S := by cases d <;> cases e <;> rfl
@[simp] theorem cmp_ne : cmpD .ne d e S = boolR ((eqD S d e).map not) S := by cases d <;> cases e <;> rfl
@[simp] theorem cmp_lt {i j : Int} : cmpD .lt (.int i) (.int j) S = .ok (.bl (decide (i < j))) S := rfl
@[simp] theorem cmp_le {i j : Int} : cmpD .le (.int i) (.int j) S = .ok (.bl (decide (i ≤ j))) S := rfl
@[simp] theorem cmp_gt {i j : Int} : cmpD .gt (.int i) (.int j) S = .ok (.bl (decide (j < i))) S := rfl
@[simp] theorem cmp_ge {i j : Int} : cmpD .ge (.int i) (.int j) S = .ok (.bl (decide (j ≤ i))) S := rfl
@[simp] theorem cmp_is_non : cmpD .is .non .non S = .ok (.bl true) S := rfl
@[simp] theorem cmp_is_loc {l : Nat} : cmpD .is (.loc l) .non S = .ok (.bl false) S := rfl
@[simp] theorem cmp_is_tup {l : List D} : cmpD .is (.tup l) .non S = .ok (.bl false) S := rfl
@[simp] theorem cmp_in_tup {ds : List D} : cmpD .isin d (.tup ds) S = boolR (inDs d ds) S := by cases d <;> rfl
@[simp] theorem cmp_in_ktup {ds : List D} : cmpD .isin d (.ktup ds) S = boolR (inDs d ds) S := by cases d <;> rfl
@[simp] theorem eqD_str {x y : Str} : eqD S (.str x) (.str y) = some (x == y) := rfl
@[simp] theorem eqD_int {i j : Int} : eqD S (.int i) (.int j) = some (decide (i = j)) := by
  show (if 0 ≤ 60 ∧ 0 ≤ 60 then some (i == j) else none) = _
  simp; rfl
@[simp] theorem bin_add {i j : Int} : binD .add (.int i) (.int j) S = .ok (.int (i + j)) S := rfl
@[simp] theorem bin_sub {i j : Int} : binD .sub (.int i) (.int j) S = .ok (.int (i - j)) S := rfl
theorem bin_tup {xs ys : List D} (h : xs.length + ys.length ≤ LIM) : binD .add (.tup xs) (.tup ys) S = .ok (.tup (xs ++ ys)) S := by simp only [binD, h, if_true]
@[simp] theorem aug_add {i j : Int} : augD .add (.int i) (.int j) S = .ok (.int (i + j)) S := rfl
@[simp] theorem aug_sub {i j : Int} : augD .sub (.int i) (.int j) S = .ok (.int (i - j)) S := rfl
@[simp] theorem sub_tup {ds : List D} {i : Int} : subD (.tup ds) (.int i) S = okR (L2.atI ds i) S := rfl
@[simp] theorem sub_ktup {ds : List D} {i : Int} : subD (.ktup ds) (.int i) S = okR (L2.atI ds i) S := rfl
theorem sub_loc {l : Nat} {ds : List D} {i : Int} (h : S[l]? = some (.lst ds)) : subD (.loc l) (.int i) S = okR (L2.atI ds i) S := by simp only [subD, h]
theorem atI_nat {α : Type} {xs : List α} {i : Nat} (h : i < xs.length) : L2.atI xs (i : Int) = xs[i]? := by
  unfold L2.atI L2.ixN
  have h1 : ((i : Nat) : Int) < (xs.length : Int) := by omega
  simp [h]
theorem sto_loc {l : Nat} {xs : List D} {i : Nat} (h : S[l]? = some (.lst xs)) (hi : i < xs.length) : stoD (.loc l) (.int (i : Int)) d S = .ok () (S.set l (.lst (xs.set i d))) := by
  have e : L2.ixN xs.length (i : Int) = some i := by
    unfold L2.ixN
    simp [hi]
  simp only [stoD, h, e]
@[simp] theorem it_tup {ds : List D} : itD (.tup ds) S = .ok (.ds ds) S := rfl
@[simp] theorem it_ktup {ds : List D} : itD (.ktup ds) S = .ok (.ds ds) S := rfl
theorem it_loc {l : Nat} {ds : List D} (h : S[l]? = some (.lst ds)) : itD (.loc l) S = .ok (.lst l) S := by simp only [itD, h]
@[simp] theorem walkI_ds {α : Type} {f : D → α → Store → Res α} {ds : List D} {a : α} : walkI f (.ds ds) a S = walkT f ds a S := rfl
@[simp] theorem walkI_lst {α : Type} {f : D → α → Store → Res α} {l : Nat} {a : α} : walkI f (.lst l) a S = walkL f l LIM 0 a S := rfl
@[simp] theorem forI_ds {f : D → EnvD → Store → Out} {ds : List D} : forI f (.ds ds) env S = forT f ds env S := rfl
@[simp] theorem forI_lst {f : D → EnvD → Store → Out} {l : Nat} : forI f (.lst l) env S = forL f l LIM 0 env S := rfl
@[simp] theorem noExc_ok' {α : Type} {a : α} : noExc (.ok a S) = .ok a S := rfl
@[simp] theorem noExc_bad' {α : Type} : noExc (.bad : Res α) = .bad := rfl
theorem bll_all {ds : List D} {bs : List Bool} (h : blsOf ds = some bs) : bllD .all ds S = .ok (.bl (bs.all id)) S := by simp only [bllD, h]
@[simp] theorem bll_tuple {ds : List D} : bllD .tuple ds S = .ok (.tup ds) S := rfl
@[simp] theorem bll_len {ds : List D} : bllD .len ds S = .ok (.int ds.length) S := rfl
theorem kind_append {l : Nat} {ds : List D} (h : S[l]? = some (.lst ds)) : kindOk .append (.loc l) S = true := by simp only [kindOk, h]
theorem kind_extend {l : Nat} {ds : List D} (h : S[l]? = some (.lst ds)) : kindOk .extend (.loc l) S = true := by simp only [kindOk, h]
theorem kind_index {l : Nat} {ds : List D} (h : S[l]? = some (.lst ds)) : kindOk .index (.loc l) S = true := by simp only [kindOk, h]
theorem kind_pop {l : Nat} {ds : List D} (h : S[l]? = some (.lst ds)) : kindOk .pop (.loc l) S = true := by simp only [kindOk, h]
theorem m_append {l : Nat} {ds : List D} (h : S[l]? = some (.lst ds)) (hl : ds.length < LIM) : methD (.loc l) .append [d] S = .ok .non (S.set l (.lst (ds ++ [d]))) := by simp only [methD, h, hl, if_true]
theorem m_extend {l b : Nat} {ds es : List D} (h : S[l]? = some (.lst ds)) (h2 : S[b]? = some (.lst es)) (hl : ds.length + es.length ≤ LIM) : methD (.loc l) .extend [.loc b] S = .ok .non (S.set l (.lst (ds ++ es))) := by simp only [methD, h, h2, hl, if_true]
theorem m_pop {l : Nat} {ds : List D} (h : S[l]? = some (.lst (ds ++ [d]))) : methD (.loc l) .pop [] S = .ok d (S.set l (.lst ds)) := by simp [methD, h]
theorem tupR_ok {ds : List D} (h : ds.length ≤ LIM) : tupR ds S = .ok (.tup ds) S := by simp only [tupR, h, if_true]
@[simp] theorem tupR0 : tupR [] S = .ok (.tup []) S := rfl
@[simp] theorem tupR1 {a : D} : tupR [a] S = .ok (.tup [a]) S := by simp [tupR, LIM]
@[simp] theorem tupR2 {a b : D} : tupR [a, b] S = .ok (.tup [a, b]) S := by simp [tupR, LIM]
@[simp] theorem tupR3 {a b c : D} : tupR [a, b, c] S = .ok (.tup [a, b, c]) S := by simp [tupR, LIM]
@[simp] theorem tupR4 {a b c d : D} : tupR [a, b, c, d] S = .ok (.tup [a, b, c, d]) S := by simp [tupR, LIM]
@[simp] theorem disR0 : disR [] S = .ok [] S := rfl
@[simp] theorem disR1 {a : D} : disR [a] S = .ok [a] S := by simp [disR, LIM]
@[simp] theorem disR2 {a b : D} : disR [a, b] S = .ok [a, b] S := by simp [disR, LIM]
@[simp] theorem disR5 {a b c d e : D} : disR [a, b, c, d, e] S = .ok [a, b, c, d, e] S := by simp [disR, LIM]
theorem disR_ok {ds : List D} (h : ds.length ≤ LIM) : disR ds S = .ok ds S := by simp only [disR, h, if_true]
end

section
variable {α : Type} {a b c d e : α} {l : List α}
@[simp] theorem atI_0 : L2.atI (a :: l) 0 = some a := by have := atI_nat (xs := a :: l) (i := 0) (by simp); simpa using this
@[simp] theorem atI_1 : L2.atI (a :: b :: l) 1 = some b := by have := atI_nat (xs := a :: b :: l) (i := 1) (by simp); simpa using this
@[simp] theorem atI_2 : L2.atI (a :: b :: c :: l) 2 = some c := by have := atI_nat (xs := a :: b :: c :: l) (i := 2) (by simp); simpa using this
@[simp] theorem atI_3 : L2.atI (a :: b :: c :: d :: l) 3 = some d := by have := atI_nat (xs := a :: b :: c :: d :: l) (i := 3) (by simp); simpa using this
@[simp] theorem atI_4 : L2.atI (a :: b :: c :: d :: e :: l) 4 = some e := by have := atI_nat (xs := a :: b :: c :: d :: e :: l) (i := 4) (by simp); simpa using this
theorem atI_last : L2.atI (l ++ [a]) (-1) = some a := by
  unfold L2.atI L2.ixN
  have h : (-1 + ((l.length : Int) + 1)).toNat = l.length := by omega
  have h2 : (1 : Int) ≤ (l.length : Int) + 1 := by omega
  simp [h, h2]
end
end Ev
end

section
set_option Elab.async false
set_option linter.all false
set_option maxRecDepth 100000
set_option maxHeartbeats 0
namespace K89
open PySem PySem.Spec PyProof.Rows L2 Ev
abbrev top (i : Nat) : Stmt := PySem.Challenge.pw_pilewords_k89_whole_nearest_programs_and.main.body.getD i (.Pass ⟨0, 0, 0, 0⟩)
def b_is_integer : Ev.SS := (.cons (.ret (.bop true (.cons (.blt .isi (.cons (.var 0) (.cons (.bty "int") .nil))) (.cons (.nt (.blt .isi (.cons (.var 0) (.cons (.bty "bool") .nil)))) .nil)))) .nil)
def t_is_integer : Tx := ⟨⟨("is_integer", none), "is_integer", "is_integer", defArgs (top 15), defBody (top 15), defScope (top 15), [], []⟩, ⟨1, 1, b_is_integer⟩, ["thing"], ["thing"]⟩
def b_is_within : Ev.SS := (.cons (.ret (.bop true (.cons (.call "is_integer" (.cons (.var 0) .nil)) (.cons (.chn .le (.var 1) (.var 0) .le (.var 2)) .nil)))) .nil)
def t_is_within : Tx := ⟨⟨("is_within", none), "is_within", "is_within", defArgs (top 16), defBody (top 16), defScope (top 16), [], []⟩, ⟨3, 3, b_is_within⟩, ["thing", "low", "high"], ["thing", "low", "high"]⟩
def b_check_number : Ev.SS := (.cons (.ife (.nt (.call "is_within" (.cons (.var 0) (.cons (.var 1) (.cons (.var 2) .nil))))) (.cons (.raise "NoNumber") .nil) .nil) .nil)
def t_check_number : Tx := ⟨⟨("check_number", none), "check_number", "check_number", defArgs (top 17), defBody (top 17), defScope (top 17), [], []⟩, ⟨3, 3, b_check_number⟩, ["thing", "low", "high"], ["thing", "low", "high"]⟩
def b_is_name : Ev.SS := (.cons (.ife (.bop false (.cons (.nt (.blt .isi (.cons (.var 0) (.cons (.bty "str") .nil)))) (.cons (.nt (.chn .le (.int 1) (.blt .len (.cons (.var 0) .nil)) .le (.glb "MOST_NAME"))) (.cons (.cmp .isin (.var 0) (.glb "KEPT")) .nil)))) (.cons (.ret (.bl false)) .nil) .nil) (.cons (.ret (.bll .all (.comp [("sign", 1)] (.name 1) (.val (.var 0)) .nil (.cmp .isin (.var 1) (.glb "LETTERS"))))) .nil))
def t_is_name : Tx := ⟨⟨("is_name", none), "is_name", "is_name", defArgs (top 18), defBody (top 18), defScope (top 18), [], []⟩, ⟨1, 2, b_is_name⟩, ["thing", "sign"], ["thing"]⟩
def b_is_told : Ev.SS := (.cons (.ife (.bop false (.cons (.nt (.blt .isi (.cons (.var 0) (.cons (.bty "tuple") .nil)))) (.cons (.cmp .ne (.blt .len (.cons (.var 0) .nil)) (.int 2)) (.cons (.nt (.blt .isi (.cons (.sub (.var 0) (.int 0)) (.cons (.bty "str") .nil)))) (.cons (.cmp .ne (.sub (.var 0) (.int 0)) (.var 1)) .nil))))) (.cons (.ret (.bl false)) .nil) .nil) (.cons (.ret (.blt .isi (.cons (.sub (.var 0) (.int 1)) (.cons (.bty "tuple") .nil)))) .nil))
def t_is_told : Tx := ⟨⟨("is_told", none), "is_told", "is_told", defArgs (top 19), defBody (top 19), defScope (top 19), [], []⟩, ⟨2, 2, b_is_told⟩, ["thing", "word"], ["thing", "word"]⟩
def b_is_number_value : Ev.SS := (.cons (.ret (.bop false (.cons (.blt .isi (.cons (.var 0) (.cons (.bty "bool") .nil))) (.cons (.bop true (.cons (.call "is_integer" (.cons (.var 0) .nil)) (.cons (.cmp .le (.blt .abs (.cons (.var 0) .nil)) (.glb "MOST_INTEGER")) .nil))) .nil)))) .nil)
def t_is_number_value : Tx := ⟨⟨("is_number_value", none), "is_number_value", "is_number_value", defArgs (top 20), defBody (top 20), defScope (top 20), [], []⟩, ⟨1, 1, b_is_number_value⟩, ["thing"], ["thing"]⟩
def b_inner_rows : Ev.SS := (.cons (.ife (.call "is_number_value" (.cons (.var 0) .nil)) (.cons (.ret (.ofl (.dis .nil))) .nil) .nil) (.cons (.ife (.bop true (.cons (.var 1) (.cons (.call "is_name" (.cons (.var 0) .nil)) .nil))) (.cons (.ret (.ofl (.dis .nil))) .nil) .nil) (.cons (.ife (.call "is_told" (.cons (.var 0) (.cons (.glb "QUOTE") .nil))) (.cons (.ret (.ofl (.comp [("one", 2)] (.name 2) (.val (.sub (.var 0) (.int 1))) .nil (.tup (.cons (.var 2) (.cons (.bl true) .nil)))))) .nil) .nil) (.cons (.ife (.nt (.var 1)) (.cons (.ret (.ife (.call "is_told" (.cons (.var 0) (.cons (.glb "LIST") .nil))) (.ofl (.comp [("one", 2)] (.name 2) (.val (.sub (.var 0) (.int 1))) .nil (.tup (.cons (.var 2) (.cons (.bl false) .nil))))) .non)) .nil) .nil) (.cons (.ife (.bop true (.cons (.blt .isi (.cons (.var 0) (.cons (.bty "tuple") .nil))) (.cons (.cmp .eq (.blt .len (.cons (.var 0) .nil)) (.int 2)) (.cons (.blt .isi (.cons (.sub (.var 0) (.int 0)) (.cons (.bty "str") .nil))) (.cons (.cmp .eq (.sub (.var 0) (.int 0)) (.glb "PUT")) .nil))))) (.cons (.ret (.ofl (.dis (.cons (.tup (.cons (.sub (.var 0) (.int 1)) (.cons (.bl false) .nil))) .nil)))) .nil) .nil) (.cons (.ret .non) .nil))))))
def t_inner_rows : Tx := ⟨⟨("inner_rows", none), "inner_rows", "inner_rows", defArgs (top 21), defBody (top 21), defScope (top 21), [], []⟩, ⟨2, 3, b_inner_rows⟩, ["thing", "is_item", "one"], ["thing", "is_item"]⟩
def l_is_bounded_0 : Ev.SS := (.cons (.asgs [(.name 3), (.name 4), (.name 5)] (.meth (.var 2) .pop .nil)) (.cons (.aug 1 .add (.int 1)) (.cons (.set 6 (.call "inner_rows" (.cons (.var 3) (.cons (.var 4) .nil)))) (.cons (.ife (.bop false (.cons (.cmp .is (.var 6) .non) (.cons (.cmp .gt (.var 1) (.glb "MOST_ITEMS")) (.cons (.cmp .gt (.var 5) (.glb "MOST_DEEP")) .nil)))) (.cons (.ret (.bl false)) .nil) .nil) (.cons (.expr (.meth (.var 2) .extend (.cons (.ofl (.comp [("one", 7), ("its", 8)] (.tup (.cons (.name 7) (.cons (.name 8) .nil))) (.val (.var 6)) .nil (.tup (.cons (.var 7) (.cons (.var 8) (.cons (.bin .add (.var 5) (.int 1)) .nil)))))) .nil))) .nil)))))
def b_is_bounded : Ev.SS := (.cons (.par [1, 2] (.cons (.int 0) (.cons (.ofl (.comp [("thing", 3), ("is_item", 4)] (.tup (.cons (.name 3) (.cons (.name 4) .nil))) (.val (.var 0)) .nil (.tup (.cons (.var 3) (.cons (.var 4) (.cons (.int 1) .nil)))))) .nil))) (.cons (.whl (.cmp .gt (.blt .len (.cons (.var 2) .nil)) (.int 0)) l_is_bounded_0) (.cons (.ret (.bl true)) .nil)))
def t_is_bounded : Tx := ⟨⟨("is_bounded", none), "is_bounded", "is_bounded", defArgs (top 22), defBody (top 22), defScope (top 22), [], []⟩, ⟨1, 9, b_is_bounded⟩, ["rows", "many", "waiting", "thing", "is_item", "depth", "inner", "one", "its"], ["rows"]⟩
def b_is_program : Ev.SS := (.cons (.ret (.bop true (.cons (.blt .isi (.cons (.var 0) (.cons (.bty "tuple") .nil))) (.cons (.call "is_bounded" (.cons (.ofl (.comp [("one", 1)] (.name 1) (.val (.var 0)) .nil (.tup (.cons (.var 1) (.cons (.bl true) .nil))))) .nil)) .nil)))) .nil)
def t_is_program : Tx := ⟨⟨("is_program", none), "is_program", "is_program", defArgs (top 23), defBody (top 23), defScope (top 23), [], []⟩, ⟨1, 2, b_is_program⟩, ["thing", "one"], ["thing"]⟩
def b_check_program : Ev.SS := (.cons (.ife (.nt (.call "is_program" (.cons (.var 0) .nil))) (.cons (.raise "NoProgram") .nil) .nil) .nil)
def t_check_program : Tx := ⟨⟨("check_program", none), "check_program", "check_program", defArgs (top 24), defBody (top 24), defScope (top 24), [], []⟩, ⟨1, 1, b_check_program⟩, ["thing"], ["thing"]⟩
def l_tails_table_0 : Ev.SS := (.cons (.ife (.cmp .eq (.sub (.var 0) (.var 4)) (.sub (.var 1) (.var 5))) (.cons (.asg (.sub (.sub (.var 2) (.var 4)) (.var 5)) (.bin .add (.sub (.sub (.var 2) (.bin .add (.var 4) (.int 1))) (.bin .add (.var 5) (.int 1))) (.int 1))) .nil) (.cons (.asg (.sub (.sub (.var 2) (.var 4)) (.var 5)) (.blt .max (.cons (.sub (.sub (.var 2) (.bin .add (.var 4) (.int 1))) (.var 5)) (.cons (.sub (.sub (.var 2) (.var 4)) (.bin .add (.var 5) (.int 1))) .nil)))) .nil)) .nil)
def l_tails_table_1 : Ev.SS := (.cons (.for_ (.name 5) (.rng3 (.bin .sub (.blt .len (.cons (.var 1) .nil)) (.int 1)) (.neg (.int 1)) (.neg (.int 1))) l_tails_table_0) .nil)
def b_tails_table : Ev.SS := (.cons (.set 2 (.ofl (.comp [("row", 3)] (.name 3) (.rng1 (.bin .add (.blt .len (.cons (.var 0) .nil)) (.int 1))) .nil (.bin .mul (.ofl (.dis (.cons (.int 0) .nil))) (.bin .add (.blt .len (.cons (.var 1) .nil)) (.int 1)))))) (.cons (.for_ (.name 4) (.rng3 (.bin .sub (.blt .len (.cons (.var 0) .nil)) (.int 1)) (.neg (.int 1)) (.neg (.int 1))) l_tails_table_1) (.cons (.ret (.var 2)) .nil)))
def t_tails_table : Tx := ⟨⟨("tails_table", none), "tails_table", "tails_table", defArgs (top 30), defBody (top 30), defScope (top 30), [], []⟩, ⟨2, 6, b_tails_table⟩, ["one", "other", "table", "row", "a", "b"], ["one", "other"]⟩
def b_put_edit : Ev.SS := (.cons (.ife (.bop true (.cons (.cmp .gt (.blt .len (.cons (.var 0) .nil)) (.int 0)) (.cons (.cmp .eq (.sub (.sub (.var 0) (.neg (.int 1))) (.int 0)) (.var 1)) .nil))) (.cons (.asg (.sub (.var 0) (.neg (.int 1))) (.tup (.cons (.var 1) (.cons (.bin .add (.sub (.sub (.var 0) (.neg (.int 1))) (.int 1)) (.var 2)) .nil)))) .nil) (.cons (.expr (.meth (.var 0) .append (.cons (.tup (.cons (.var 1) (.cons (.var 2) .nil))) .nil))) .nil)) .nil)
def t_put_edit : Tx := ⟨⟨("put_edit", none), "put_edit", "put_edit", defArgs (top 31), defBody (top 31), defScope (top 31), [], []⟩, ⟨3, 3, b_put_edit⟩, ["found", "word", "told"], ["found", "word", "told"]⟩
def l_raw_difference_0 : Ev.SS := (.cons (.ife (.bop true (.cons (.cmp .lt (.var 7) (.blt .len (.cons (.var 0) .nil))) (.cons (.cmp .lt (.var 8) (.blt .len (.cons (.var 1) .nil))) (.cons (.cmp .eq (.sub (.var 2) (.var 7)) (.sub (.var 3) (.var 8))) .nil)))) (.cons (.expr (.call "put_edit" (.cons (.var 6) (.cons (.glb "KEEP") (.cons (.int 1) .nil))))) (.cons (.par [7, 8] (.cons (.bin .add (.var 7) (.int 1)) (.cons (.bin .add (.var 8) (.int 1)) .nil))) .nil)) (.cons (.ife (.bop false (.cons (.cmp .eq (.var 8) (.blt .len (.cons (.var 1) .nil))) (.cons (.bop true (.cons (.cmp .lt (.var 7) (.blt .len (.cons (.var 0) .nil))) (.cons (.cmp .ge (.sub (.sub (.var 5) (.bin .add (.var 7) (.int 1))) (.var 8)) (.sub (.sub (.var 5) (.var 7)) (.bin .add (.var 8) (.int 1)))) .nil))) .nil))) (.cons (.expr (.call "put_edit" (.cons (.var 6) (.cons (.glb "OUT") (.cons (.int 1) .nil))))) (.cons (.aug 7 .add (.int 1)) .nil)) (.cons (.expr (.call "put_edit" (.cons (.var 6) (.cons (.glb "IN") (.cons (.tup (.cons (.sub (.var 1) (.var 8)) .nil)) .nil))))) (.cons (.aug 8 .add (.int 1)) .nil))) .nil)) .nil)
def b_raw_difference : Ev.SS := (.cons (.par [2, 3] (.cons (.ofl (.comp [("item", 4)] (.name 4) (.val (.var 0)) .nil (.blt .repr (.cons (.var 4) .nil)))) (.cons (.ofl (.comp [("item", 4)] (.name 4) (.val (.var 1)) .nil (.blt .repr (.cons (.var 4) .nil)))) .nil))) (.cons (.asgs [(.name 5), (.name 6), (.name 7), (.name 8)] (.tup (.cons (.call "tails_table" (.cons (.var 2) (.cons (.var 3) .nil))) (.cons (.ofl (.dis .nil)) (.cons (.int 0) (.cons (.int 0) .nil)))))) (.cons (.whl (.bop false (.cons (.cmp .lt (.var 7) (.blt .len (.cons (.var 0) .nil))) (.cons (.cmp .lt (.var 8) (.blt .len (.cons (.var 1) .nil))) .nil))) l_raw_difference_0) (.cons (.ret (.var 6)) .nil))))
def t_raw_difference : Tx := ⟨⟨("raw_difference", none), "raw_difference", "raw_difference", defArgs (top 32), defBody (top 32), defScope (top 32), [], []⟩, ⟨2, 9, b_raw_difference⟩, ["one", "other", "rows", "more", "item", "table", "found", "a", "b"], ["one", "other"]⟩
def b_difference : Ev.SS := (.cons (.expr (.call "check_program" (.cons (.var 0) .nil))) (.cons (.expr (.call "check_program" (.cons (.var 1) .nil))) (.cons (.ret (.blt .tuple (.cons (.call "raw_difference" (.cons (.var 0) (.cons (.var 1) .nil))) .nil))) .nil)))
def t_difference : Tx := ⟨⟨("difference", none), "difference", "difference", defArgs (top 33), defBody (top 33), defScope (top 33), [], []⟩, ⟨2, 2, b_difference⟩, ["one", "other"], ["one", "other"]⟩
def b_is_edit : Ev.SS := (.cons (.ife (.bop false (.cons (.nt (.blt .isi (.cons (.var 0) (.cons (.bty "tuple") .nil)))) (.cons (.cmp .ne (.blt .len (.cons (.var 0) .nil)) (.int 2)) (.cons (.nt (.blt .isi (.cons (.sub (.var 0) (.int 0)) (.cons (.bty "str") .nil)))) .nil)))) (.cons (.ret (.bl false)) .nil) .nil) (.cons (.ife (.cmp .isin (.sub (.var 0) (.int 0)) (.tup (.cons (.glb "KEEP") (.cons (.glb "OUT") .nil)))) (.cons (.ret (.call "is_within" (.cons (.sub (.var 0) (.int 1)) (.cons (.int 1) (.cons (.glb "MOST_EDITS") .nil))))) .nil) .nil) (.cons (.ret (.bop true (.cons (.cmp .eq (.sub (.var 0) (.int 0)) (.glb "IN")) (.cons (.call "is_program" (.cons (.sub (.var 0) (.int 1)) .nil)) (.cons (.cmp .gt (.blt .len (.cons (.sub (.var 0) (.int 1)) .nil)) (.int 0)) .nil))))) .nil)))
def t_is_edit : Tx := ⟨⟨("is_edit", none), "is_edit", "is_edit", defArgs (top 34), defBody (top 34), defScope (top 34), [], []⟩, ⟨1, 1, b_is_edit⟩, ["thing"], ["thing"]⟩
def b_are_edits : Ev.SS := (.cons (.ret (.bop true (.cons (.blt .isi (.cons (.var 0) (.cons (.bty "tuple") .nil))) (.cons (.cmp .le (.blt .len (.cons (.var 0) .nil)) (.glb "MOST_EDITS")) (.cons (.bll .all (.comp [("one", 1)] (.name 1) (.val (.var 0)) .nil (.call "is_edit" (.cons (.var 1) .nil)))) .nil))))) .nil)
def t_are_edits : Tx := ⟨⟨("are_edits", none), "are_edits", "are_edits", defArgs (top 35), defBody (top 35), defScope (top 35), [], []⟩, ⟨1, 2, b_are_edits⟩, ["thing", "one"], ["thing"]⟩
def l_raw_patched_0 : Ev.SS := (.cons (.ife (.cmp .eq (.var 4) (.glb "IN")) (.cons (.set 2 (.bin .add (.var 2) (.var 5))) (.cons .cont .nil)) .nil) (.cons (.ife (.cmp .gt (.bin .add (.var 3) (.var 5)) (.blt .len (.cons (.var 0) .nil))) (.cons (.ret .non) .nil) .nil) (.cons (.set 2 (.bin .add (.var 2) (.ife (.cmp .eq (.var 4) (.glb "KEEP")) (.slcB (.var 0) (.var 3) (.bin .add (.var 3) (.var 5))) (.tup .nil)))) (.cons (.aug 3 .add (.var 5)) .nil))))
def b_raw_patched : Ev.SS := (.cons (.asgs [(.name 2), (.name 3)] (.tup (.cons (.tup .nil) (.cons (.int 0) .nil)))) (.cons (.for_ (.tup (.cons (.name 4) (.cons (.name 5) .nil))) (.val (.var 1)) l_raw_patched_0) (.cons (.ret (.ife (.cmp .eq (.var 3) (.blt .len (.cons (.var 0) .nil))) (.var 2) .non)) .nil)))
def t_raw_patched : Tx := ⟨⟨("raw_patched", none), "raw_patched", "raw_patched", defArgs (top 36), defBody (top 36), defScope (top 36), [], []⟩, ⟨2, 6, b_raw_patched⟩, ["program", "edits", "found", "at", "word", "told"], ["program", "edits"]⟩
def b_patched : Ev.SS := (.cons (.expr (.call "check_program" (.cons (.var 0) .nil))) (.cons (.set 2 (.ife (.call "are_edits" (.cons (.var 1) .nil)) (.call "raw_patched" (.cons (.var 0) (.cons (.var 1) .nil))) .non)) (.cons (.ife (.cmp .is (.var 2) .non) (.cons (.raise "NoEdits") .nil) .nil) (.cons (.ife (.nt (.call "is_program" (.cons (.var 2) .nil))) (.cons (.raise "NoProgram") .nil) .nil) (.cons (.ret (.var 2)) .nil)))))
def t_patched : Tx := ⟨⟨("patched", none), "patched", "patched", defArgs (top 37), defBody (top 37), defScope (top 37), [], []⟩, ⟨2, 3, b_patched⟩, ["program", "edits", "found"], ["program", "edits"]⟩
def l_edits_back_0 : Ev.SS := (.cons (.ife (.cmp .eq (.var 4) (.glb "IN")) (.cons (.expr (.call "put_edit" (.cons (.var 2) (.cons (.glb "OUT") (.cons (.blt .len (.cons (.var 5) .nil)) .nil))))) .nil) (.cons (.ife (.cmp .eq (.var 4) (.glb "OUT")) (.cons (.expr (.call "put_edit" (.cons (.var 2) (.cons (.glb "IN") (.cons (.slcB (.var 0) (.var 3) (.bin .add (.var 3) (.var 5))) .nil))))) (.cons (.aug 3 .add (.var 5)) .nil)) (.cons (.expr (.call "put_edit" (.cons (.var 2) (.cons (.glb "KEEP") (.cons (.var 5) .nil))))) (.cons (.aug 3 .add (.var 5)) .nil))) .nil)) .nil)
def b_edits_back : Ev.SS := (.cons (.expr (.call "patched" (.cons (.var 0) (.cons (.var 1) .nil)))) (.cons (.par [2, 3] (.cons (.ofl (.dis .nil)) (.cons (.int 0) .nil))) (.cons (.for_ (.tup (.cons (.name 4) (.cons (.name 5) .nil))) (.val (.var 1)) l_edits_back_0) (.cons (.ret (.blt .tuple (.cons (.var 2) .nil))) .nil))))
def t_edits_back : Tx := ⟨⟨("edits_back", none), "edits_back", "edits_back", defArgs (top 38), defBody (top 38), defScope (top 38), [], []⟩, ⟨2, 6, b_edits_back⟩, ["program", "edits", "found", "at", "word", "told"], ["program", "edits"]⟩
def b_distance : Ev.SS := (.cons (.expr (.call "check_program" (.cons (.var 0) .nil))) (.cons (.expr (.call "check_program" (.cons (.var 1) .nil))) (.cons (.par [2, 3] (.cons (.ofl (.comp [("item", 4)] (.name 4) (.val (.var 0)) .nil (.blt .repr (.cons (.var 4) .nil)))) (.cons (.ofl (.comp [("item", 4)] (.name 4) (.val (.var 1)) .nil (.blt .repr (.cons (.var 4) .nil)))) .nil))) (.cons (.ret (.bin .sub (.bin .add (.blt .len (.cons (.var 0) .nil)) (.blt .len (.cons (.var 1) .nil))) (.bin .mul (.int 2) (.sub (.sub (.call "tails_table" (.cons (.var 2) (.cons (.var 3) .nil))) (.int 0)) (.int 0))))) .nil))))
def t_distance : Tx := ⟨⟨("distance", none), "distance", "distance", defArgs (top 39), defBody (top 39), defScope (top 39), [], []⟩, ⟨2, 5, b_distance⟩, ["one", "other", "rows", "more", "item"], ["one", "other"]⟩
def l_nearest_0 : Ev.SS := (.cons (.expr (.call "check_program" (.cons (.var 2) .nil))) .nil)
def b_nearest : Ev.SS := (.cons (.expr (.call "check_program" (.cons (.var 0) .nil))) (.cons (.ife (.nt (.blt .isi (.cons (.var 1) (.cons (.bty "tuple") .nil)))) (.cons (.raise "NoProgram") .nil) .nil) (.cons (.for_ (.name 2) (.val (.var 1)) l_nearest_0) (.cons (.ife (.cmp .eq (.blt .len (.cons (.var 1) .nil)) (.int 0)) (.cons (.ret .non) .nil) .nil) (.cons (.ret (.sub (.bll .min (.comp [("number", 3), ("one", 2)] (.tup (.cons (.name 3) (.cons (.name 2) .nil))) (.enm (.var 1)) .nil (.tup (.cons (.call "distance" (.cons (.var 0) (.cons (.var 2) .nil))) (.cons (.var 3) .nil))))) (.int 1))) .nil)))))
def t_nearest : Tx := ⟨⟨("nearest", none), "nearest", "nearest", defArgs (top 40), defBody (top 40), defScope (top 40), [], []⟩, ⟨2, 4, b_nearest⟩, ["program", "programs", "one", "number"], ["program", "programs"]⟩
def b_within : Ev.SS := (.cons (.expr (.call "check_number" (.cons (.var 2) (.cons (.int 0) (.cons (.glb "MOST_EDITS") .nil))))) (.cons (.ret (.cmp .le (.call "distance" (.cons (.var 0) (.cons (.var 1) .nil))) (.var 2))) .nil))
def t_within : Tx := ⟨⟨("within", none), "within", "within", defArgs (top 41), defBody (top 41), defScope (top 41), [], []⟩, ⟨3, 3, b_within⟩, ["one", "other", "most"], ["one", "other", "most"]⟩
def b__law_bag : Ev.SS := (.cons (.set 1 (.ofl (.comp [("cell", 2)] (.name 2) (.val (.slcT (.var 0) (.int 63))) .nil (.bin .mod (.blt .int (.cons (.blt .abs (.cons (.blt .int (.cons (.var 2) .nil)) .nil)) .nil)) (.bin .pow (.int 10) (.int 36)))))) (.cons (.ret (.ofl (.dis (.cons (.var 1) (.cons (.int 0) (.cons (.int 0) (.cons (.bin .add (.int 8009) (.bin .mul (.int 5) (.blt .len (.cons (.var 1) .nil)))) (.cons (.int 0) .nil)))))))) .nil))
def t__law_bag : Tx := ⟨⟨("_law_bag", none), "_law_bag", "_law_bag", defArgs (top 43), defBody (top 43), defScope (top 43), [], []⟩, ⟨1, 3, b__law_bag⟩, ["script", "cells", "cell"], ["script"]⟩
def b__law_pick : Ev.SS := (.cons (.ife (.bop true (.cons (.cmp .eq (.sub (.var 0) (.int 2)) (.int 0)) (.cons (.cmp .lt (.sub (.var 0) (.int 1)) (.blt .len (.cons (.sub (.var 0) (.int 0)) .nil))) .nil))) (.cons (.set 2 (.sub (.sub (.var 0) (.int 0)) (.sub (.var 0) (.int 1)))) (.cons (.asg (.sub (.var 0) (.int 1)) (.bin .add (.sub (.var 0) (.int 1)) (.int 1))) (.cons (.asg (.sub (.var 0) (.int 3)) (.bin .mod (.blt .int (.cons (.bin .add (.bin .add (.bin .mul (.sub (.var 0) (.int 3)) (.int 69621)) (.bin .mul (.var 2) (.int 40692))) (.int 37)) .nil)) (.int 2147483629))) (.cons (.ife (.cmp .ge (.var 2) (.bin .pow (.int 10) (.int 18))) (.cons (.asg (.sub (.var 0) (.int 2)) (.var 2)) .nil) .nil) .nil)))) .nil) (.cons (.ife (.cmp .gt (.sub (.var 0) (.int 2)) (.int 0)) (.cons (.set 3 (.bin .mod (.blt .int (.cons (.sub (.var 0) (.int 2)) .nil)) (.var 1))) (.cons (.asg (.sub (.var 0) (.int 2)) (.bin .fdiv (.sub (.var 0) (.int 2)) (.var 1))) (.cons (.ret (.var 3)) .nil))) .nil) (.cons (.asg (.sub (.var 0) (.int 4)) (.bin .add (.sub (.var 0) (.int 4)) (.int 1))) (.cons (.set 4 (.bin .mod (.blt .int (.cons (.bin .mul (.blt .int (.cons (.bin .add (.sub (.var 0) (.int 3)) (.bin .mul (.int 7919) (.sub (.var 0) (.int 4)))) .nil)) (.int 48271)) .nil)) (.int 2147483647))) (.cons (.set 4 (.bin .mod (.blt .int (.cons (.bin .mul (.var 4) (.bin .add (.bin .fdiv (.var 4) (.int 1009)) (.int 69621))) .nil)) (.int 2147483647))) (.cons (.set 4 (.bin .mod (.blt .int (.cons (.bin .mul (.var 4) (.bin .add (.bin .fdiv (.var 4) (.int 2003)) (.int 40014))) .nil)) (.int 2147483563))) (.cons (.ret (.bin .mod (.blt .int (.cons (.bin .fdiv (.var 4) (.int 16)) .nil)) (.var 1))) .nil)))))))
def t__law_pick : Tx := ⟨⟨("_law_pick", none), "_law_pick", "_law_pick", defArgs (top 44), defBody (top 44), defScope (top 44), [], []⟩, ⟨2, 5, b__law_pick⟩, ["bag", "width", "cell", "digit", "number"], ["bag", "width"]⟩
def b__law_some : Ev.SS := (.cons (.ret (.sub (.var 1) (.call "_law_pick" (.cons (.var 0) (.cons (.blt .len (.cons (.var 1) .nil)) .nil))))) .nil)
def t__law_some : Tx := ⟨⟨("_law_some", none), "_law_some", "_law_some", defArgs (top 45), defBody (top 45), defScope (top 45), [], []⟩, ⟨2, 2, b__law_some⟩, ["bag", "things"], ["bag", "things"]⟩
def b__law_item : Ev.SS := (.cons (.ret (.call "_law_some" (.cons (.var 0) (.cons (.ofl (.dis (.cons (.int 2) (.cons (.int 3) (.cons (.int 2) (.cons (.int 3) (.cons (.str "dup") (.cons (.str "add") (.cons (.str "dup") (.cons (.tup (.cons (.str "quote") (.cons (.tup (.cons (.int 4) .nil)) .nil))) (.cons (.tup (.cons (.str "put") (.cons (.int 5) .nil))) .nil))))))))))) .nil)))) .nil)
def t__law_item : Tx := ⟨⟨("_law_item", none), "_law_item", "_law_item", defArgs (top 46), defBody (top 46), defScope (top 46), [], []⟩, ⟨1, 1, b__law_item⟩, ["bag"], ["bag"]⟩
def b__law_row : Ev.SS := (.cons (.ret (.bll .tuple (.comp [("turn", 2)] (.name 2) (.rng1 (.call "_law_pick" (.cons (.var 0) (.cons (.bin .add (.var 1) (.int 1)) .nil)))) .nil (.call "_law_item" (.cons (.var 0) .nil))))) .nil)
def t__law_row : Tx := ⟨⟨("_law_row", none), "_law_row", "_law_row", defArgs (top 47), defBody (top 47), defScope (top 47), [], []⟩, ⟨2, 3, b__law_row⟩, ["bag", "most", "turn"], ["bag", "most"]⟩
def l__law_near_0 : Ev.SS := (.cons (.set 4 (.call "_law_pick" (.cons (.var 0) (.cons (.int 6) .nil)))) (.cons (.ife (.cmp .gt (.var 4) (.int 0)) (.cons (.expr (.meth (.var 2) .append (.cons (.var 3) .nil))) .nil) .nil) (.cons (.ife (.cmp .eq (.var 4) (.int 1)) (.cons (.expr (.meth (.var 2) .append (.cons (.call "_law_item" (.cons (.var 0) .nil)) .nil))) .nil) .nil) .nil)))
def b__law_near : Ev.SS := (.cons (.set 2 (.ofl (.dis .nil))) (.cons (.for_ (.name 3) (.val (.var 1)) l__law_near_0) (.cons (.ret (.blt .tuple (.cons (.var 2) .nil))) .nil)))
def t__law_near : Tx := ⟨⟨("_law_near", none), "_law_near", "_law_near", defArgs (top 48), defBody (top 48), defScope (top 48), [], []⟩, ⟨2, 5, b__law_near⟩, ["bag", "program", "found", "item", "way"], ["bag", "program"]⟩
def l__law_kept_0 : Ev.SS := (.cons (.ife (.cmp .eq (.sub (.var 0) (.var 4)) (.sub (.var 1) (.var 3))) (.cons (.asg (.sub (.var 2) (.tup (.cons (.var 4) (.cons (.var 3) .nil)))) (.bin .add (.int 1) (.sub (.var 2) (.tup (.cons (.bin .add (.var 4) (.int 1)) (.cons (.bin .add (.var 3) (.int 1)) .nil)))))) .nil) (.cons (.asg (.sub (.var 2) (.tup (.cons (.var 4) (.cons (.var 3) .nil)))) (.blt .max (.cons (.sub (.var 2) (.tup (.cons (.bin .add (.var 4) (.int 1)) (.cons (.var 3) .nil)))) (.cons (.sub (.var 2) (.tup (.cons (.var 4) (.cons (.bin .add (.var 3) (.int 1)) .nil)))) .nil)))) .nil)) .nil)
def l__law_kept_1 : Ev.SS := (.cons (.for_ (.name 3) (.rng3 (.bin .sub (.blt .len (.cons (.var 1) .nil)) (.int 1)) (.neg (.int 1)) (.neg (.int 1))) l__law_kept_0) .nil)
def b__law_kept : Ev.SS := (.cons (.set 2 (.bll .dict (.comp [("to", 3)] (.name 3) (.rng1 (.bin .add (.blt .len (.cons (.var 1) .nil)) (.int 1))) .nil (.tup (.cons (.tup (.cons (.blt .len (.cons (.var 0) .nil)) (.cons (.var 3) .nil))) (.cons (.int 0) .nil)))))) (.cons (.expr (.meth (.var 2) .update (.cons (.bll .dict (.comp [("at", 4)] (.name 4) (.rng1 (.bin .add (.blt .len (.cons (.var 0) .nil)) (.int 1))) .nil (.tup (.cons (.tup (.cons (.var 4) (.cons (.blt .len (.cons (.var 1) .nil)) .nil))) (.cons (.int 0) .nil))))) .nil))) (.cons (.for_ (.name 4) (.rng3 (.bin .sub (.blt .len (.cons (.var 0) .nil)) (.int 1)) (.neg (.int 1)) (.neg (.int 1))) l__law_kept_1) (.cons (.ret (.var 2)) .nil))))
def t__law_kept : Tx := ⟨⟨("_law_kept", none), "_law_kept", "_law_kept", defArgs (top 49), defBody (top 49), defScope (top 49), [], []⟩, ⟨2, 5, b__law_kept⟩, ["one", "other", "table", "to", "at"], ["one", "other"]⟩
def l__law_moves_0 : Ev.SS := (.cons (.ife (.bop true (.cons (.cmp .lt (.var 3) (.blt .len (.cons (.var 0) .nil))) (.cons (.cmp .lt (.var 4) (.blt .len (.cons (.var 1) .nil))) (.cons (.cmp .eq (.sub (.var 0) (.var 3)) (.sub (.var 1) (.var 4))) .nil)))) (.cons (.expr (.meth (.var 5) .append (.cons (.tup (.cons (.str "keep") (.cons (.sub (.var 0) (.var 3)) .nil))) .nil))) (.cons (.par [3, 4] (.cons (.bin .add (.var 3) (.int 1)) (.cons (.bin .add (.var 4) (.int 1)) .nil))) .nil)) (.cons (.ife (.bop true (.cons (.cmp .lt (.var 3) (.blt .len (.cons (.var 0) .nil))) (.cons (.cmp .ge (.sub (.var 2) (.tup (.cons (.bin .add (.var 3) (.int 1)) (.cons (.var 4) .nil)))) (.meth (.var 2) .get (.cons (.tup (.cons (.var 3) (.cons (.bin .add (.var 4) (.int 1)) .nil))) (.cons (.neg (.int 1)) .nil)))) .nil))) (.cons (.expr (.meth (.var 5) .append (.cons (.tup (.cons (.str "out") (.cons (.sub (.var 0) (.var 3)) .nil))) .nil))) (.cons (.set 3 (.bin .add (.var 3) (.int 1))) .nil)) (.cons (.ife (.cmp .lt (.var 4) (.blt .len (.cons (.var 1) .nil))) (.cons (.expr (.meth (.var 5) .append (.cons (.tup (.cons (.str "in") (.cons (.sub (.var 1) (.var 4)) .nil))) .nil))) (.cons (.set 4 (.bin .add (.var 4) (.int 1))) .nil)) .nil) .nil)) .nil)) .nil)
def b__law_moves : Ev.SS := (.cons (.asgs [(.name 2), (.name 3), (.name 4), (.name 5)] (.tup (.cons (.call "_law_kept" (.cons (.var 0) (.cons (.var 1) .nil))) (.cons (.int 0) (.cons (.int 0) (.cons (.ofl (.dis .nil)) .nil)))))) (.cons (.for_ (.name 6) (.rng1 (.bin .add (.blt .len (.cons (.var 0) .nil)) (.blt .len (.cons (.var 1) .nil)))) l__law_moves_0) (.cons (.ret (.var 5)) .nil)))
def t__law_moves : Tx := ⟨⟨("_law_moves", none), "_law_moves", "_law_moves", defArgs (top 50), defBody (top 50), defScope (top 50), [], []⟩, ⟨2, 7, b__law_moves⟩, ["one", "other", "table", "at", "to", "found", "turn"], ["one", "other"]⟩
def l__law_edits_0 : Ev.SS := (.cons (.ife (.bop true (.cons (.cmp .gt (.blt .len (.cons (.var 2) .nil)) (.int 0)) (.cons (.cmp .eq (.sub (.sub (.var 2) (.neg (.int 1))) (.int 0)) (.var 3)) .nil))) (.cons (.expr (.meth (.sub (.sub (.var 2) (.neg (.int 1))) (.int 1)) .append (.cons (.var 4) .nil))) .nil) (.cons (.expr (.meth (.var 2) .append (.cons (.tup (.cons (.var 3) (.cons (.ofl (.dis (.cons (.var 4) .nil))) .nil))) .nil))) .nil)) .nil)
def b__law_edits : Ev.SS := (.cons (.set 2 (.ofl (.dis .nil))) (.cons (.for_ (.tup (.cons (.name 3) (.cons (.name 4) .nil))) (.val (.call "_law_moves" (.cons (.var 0) (.cons (.var 1) .nil)))) l__law_edits_0) (.cons (.ret (.bll .tuple (.comp [("word", 3), ("items", 5)] (.tup (.cons (.name 3) (.cons (.name 5) .nil))) (.val (.var 2)) .nil (.tup (.cons (.var 3) (.cons (.ife (.cmp .eq (.var 3) (.str "in")) (.blt .tuple (.cons (.var 5) .nil)) (.blt .len (.cons (.var 5) .nil))) .nil)))))) .nil)))
def t__law_edits : Tx := ⟨⟨("_law_edits", none), "_law_edits", "_law_edits", defArgs (top 51), defBody (top 51), defScope (top 51), [], []⟩, ⟨2, 6, b__law_edits⟩, ["one", "other", "found", "word", "item", "items"], ["one", "other"]⟩
def t__law_word_of : Tx := ⟨⟨("_law_word_of", none), "_law_word_of", "_law_word_of", defArgs (top 52), defBody (top 52), defScope (top 52), [], []⟩, ⟨1, 1, .nil⟩, ["ask"], ["ask"]⟩
def b__law_far : Ev.SS := (.cons (.ret (.bin .sub (.bin .add (.blt .len (.cons (.var 0) .nil)) (.blt .len (.cons (.var 1) .nil))) (.bin .mul (.int 2) (.sub (.call "_law_kept" (.cons (.var 0) (.cons (.var 1) .nil))) (.tup (.cons (.int 0) (.cons (.int 0) .nil))))))) .nil)
def t__law_far : Tx := ⟨⟨("_law_far", none), "_law_far", "_law_far", defArgs (top 53), defBody (top 53), defScope (top 53), [], []⟩, ⟨2, 2, b__law_far⟩, ["one", "other"], ["one", "other"]⟩
def l_law_0 : Ev.SS := (.cons (.ife (.nt (.bll .all (.comp [("third", 8)] (.name 8) (.val (.var 2)) .nil (.cmp .le (.call "_law_far" (.cons (.var 4) (.cons (.var 7) .nil))) (.bin .add (.call "distance" (.cons (.var 4) (.cons (.var 8) .nil))) (.call "distance" (.cons (.var 8) (.cons (.var 7) .nil)))))))) (.cons (.ret (.bl false)) .nil) .nil) (.cons (.ife (.cmp .ne (.cmp .eq (.call "distance" (.cons (.var 4) (.cons (.var 7) .nil))) (.int 0)) (.cmp .eq (.var 4) (.var 7))) (.cons (.ret (.bl false)) .nil) .nil) .nil))
def b_law : Ev.SS := (.cons (.set 1 (.call "_law_bag" (.cons (.var 0) .nil))) (.cons (.ife (.bop false (.cons (.cmp .ne (.call "nearest" (.cons (.tup (.cons (.int 2) (.cons (.int 3) .nil))) (.cons (.tup (.cons (.tup (.cons (.int 2) .nil)) (.cons (.tup (.cons (.int 3) .nil)) (.cons (.tup (.cons (.int 2) (.cons (.int 3) (.cons (.int 3) .nil)))) .nil)))) .nil))) (.int 0)) (.cons (.cmp .isn (.call "nearest" (.cons (.tup (.cons (.int 2) .nil)) (.cons (.tup .nil) .nil))) .non) .nil))) (.cons (.ret (.bl false)) .nil) .nil) (.cons (.set 2 (.bll .tuple (.comp [("turn", 3)] (.name 3) (.rng1 (.bin .add (.int 1) (.call "_law_pick" (.cons (.var 1) (.cons (.int 4) .nil))))) .nil (.call "_law_row" (.cons (.var 1) (.cons (.int 9) .nil)))))) (.cons (.set 4 (.call "_law_some" (.cons (.var 1) (.cons (.ofl (.dis (.cons (.call "_law_row" (.cons (.var 1) (.cons (.int 9) .nil))) (.cons (.call "_law_near" (.cons (.var 1) (.cons (.sub (.var 2) (.int 0)) .nil))) .nil)))) .nil)))) (.cons (.set 5 (.ofl (.comp [("row", 6)] (.name 6) (.val (.var 2)) .nil (.call "_law_far" (.cons (.var 4) (.cons (.var 6) .nil)))))) (.cons (.ife (.bop false (.cons (.cmp .ne (.call "nearest" (.cons (.var 4) (.cons (.var 2) .nil))) (.meth (.var 5) .index (.cons (.blt .min (.cons (.var 5) .nil)) .nil))) (.cons (.cmp .ne (.ofl (.comp [("row", 6)] (.name 6) (.val (.var 2)) .nil (.call "distance" (.cons (.var 4) (.cons (.var 6) .nil))))) (.var 5)) .nil))) (.cons (.ret (.bl false)) .nil) .nil) (.cons (.for_ (.name 7) (.val (.var 2)) l_law_0) (.cons (.set 9 (.call "difference" (.cons (.var 4) (.cons (.sub (.var 2) (.int 0)) .nil)))) (.cons (.set 10 (.call "_law_some" (.cons (.var 1) (.cons (.ofl (.dis (.cons .non (.cons (.blt .list (.cons (.var 9) .nil)) (.cons (.tup (.cons (.tup (.cons (.str "keep") (.cons (.int 0) .nil))) .nil)) (.cons (.tup (.cons (.tup (.cons (.str "in") (.cons (.tup .nil) .nil))) .nil)) (.cons (.tup (.cons (.tup (.cons (.str "out") (.cons (.bl true) .nil))) .nil)) (.cons (.tup (.cons (.tup (.cons (.str "put") (.cons (.int 1) .nil))) .nil)) (.cons (.int 5) .nil))))))))) .nil)))) (.cons (.set 10 (.call "_law_some" (.cons (.var 1) (.cons (.ofl (.dis (.cons (.var 10) (.cons (.tup (.cons (.tup (.cons (.str "in") (.cons (.int 5) .nil))) .nil)) (.cons (.tup (.cons (.tup (.cons (.str "in") (.cons (.tup (.cons .non .nil)) .nil))) .nil)) (.cons (.tup (.cons (.tup (.cons (.str "keep") (.cons (.int 2001) .nil))) .nil)) (.cons (.tup (.cons (.tup (.cons (.str "keep") (.cons (.int 1) (.cons (.int 1) .nil)))) .nil)) (.cons (.tup (.cons (.str "keep") .nil)) .nil)))))))) .nil)))) (.cons (.ife (.bop false (.cons (.cmp .isn (.call "are_edits" (.cons (.var 10) .nil)) (.bl false)) (.cons (.cmp .ne (.lamw "_law_word_of" (.call "patched" (.cons (.var 4) (.cons (.var 10) .nil)))) (.str "edits")) .nil))) (.cons (.ret (.bl false)) .nil) .nil) (.cons (.set 11 (.tup (.cons (.tup (.cons (.str "keep") (.cons (.bin .add (.blt .len (.cons (.var 4) .nil)) (.int 1)) .nil))) .nil))) (.cons (.ife (.bop false (.cons (.cmp .isn (.call "are_edits" (.cons (.var 11) .nil)) (.bl true)) (.cons (.cmp .ne (.lamw "_law_word_of" (.call "patched" (.cons (.var 4) (.cons (.var 11) .nil)))) (.str "edits")) .nil))) (.cons (.ret (.bl false)) .nil) .nil) (.cons (.ife (.cmp .ne (.lamw "_law_word_of" (.call "edits_back" (.cons (.var 4) (.cons (.bin .add (.var 11) (.tup (.cons (.tup (.cons (.str "out") (.cons (.int 1) .nil))) .nil))) .nil)))) (.str "edits")) (.cons (.ret (.bl false)) .nil) .nil) (.cons (.set 12 (.call "_law_some" (.cons (.var 1) (.cons (.ofl (.dis (.cons .non (.cons (.ofl (.dis (.cons (.int 2) .nil))) (.cons (.tup (.cons (.str "Dup") .nil)) (.cons (.tup (.cons (.str "") .nil)) (.cons (.tup (.cons (.tup (.cons (.str "quote") .nil)) .nil)) (.cons (.int 5) .nil)))))))) .nil)))) (.cons (.ife (.cmp .ne (.lamw "_law_word_of" (.call "nearest" (.cons (.var 4) (.cons (.bin .add (.var 2) (.tup (.cons (.var 12) .nil))) .nil)))) (.str "program")) (.cons (.ret (.bl false)) .nil) .nil) (.cons (.ife (.cmp .ne (.lamw "_law_word_of" (.call "difference" (.cons (.var 4) (.cons (.var 12) .nil)))) (.str "program")) (.cons (.ret (.bl false)) .nil) .nil) (.cons (.ret (.cmp .eq (.lamw "_law_word_of" (.call "within" (.cons (.var 4) (.cons (.sub (.var 2) (.int 0)) (.cons (.call "_law_some" (.cons (.var 1) (.cons (.ofl (.dis (.cons (.neg (.int 1)) (.cons (.int 2001) (.cons (.bl true) (.cons .non .nil)))))) .nil))) .nil))))) (.str "number"))) .nil))))))))))))))))))
def t_law : Tx := ⟨⟨("law", none), "law", "law", defArgs (top 54), defBody (top 54), defScope (top 54), [], []⟩, ⟨1, 14, b_law⟩, ["script", "bag", "rows", "turn", "one", "far", "row", "other", "third", "edits", "odd", "more", "none", "<lambda>"], ["script"]⟩
def md : Md where
  fs := [("is_integer", t_is_integer), ("is_within", t_is_within), ("check_number", t_check_number), ("is_name", t_is_name), ("is_told", t_is_told), ("is_number_value", t_is_number_value), ("inner_rows", t_inner_rows), ("is_bounded", t_is_bounded), ("is_program", t_is_program), ("check_program", t_check_program), ("tails_table", t_tails_table), ("put_edit", t_put_edit), ("raw_difference", t_raw_difference), ("difference", t_difference), ("is_edit", t_is_edit), ("are_edits", t_are_edits), ("raw_patched", t_raw_patched), ("patched", t_patched), ("edits_back", t_edits_back), ("distance", t_distance), ("nearest", t_nearest), ("within", t_within), ("_law_bag", t__law_bag), ("_law_pick", t__law_pick), ("_law_some", t__law_some), ("_law_item", t__law_item), ("_law_row", t__law_row), ("_law_near", t__law_near), ("_law_kept", t__law_kept), ("_law_moves", t__law_moves), ("_law_edits", t__law_edits), ("_law_far", t__law_far), ("law", t_law)]
  gl := [("LETTERS", .str "abcdefghijklmnopqrstuvwxyz"), ("MOST_NAME", .int 12), ("MOST_INTEGER", .int (1000000000000000000)), ("MOST_ITEMS", .int 1000), ("MOST_DEEP", .int 30), ("QUOTE", .str "quote"), ("PUT", .str "put"), ("LIST", .str "list"), ("KEPT", .ktup [.str "true", .str "false", .str "list", .str "put"]), ("KEEP", .str "keep"), ("OUT", .str "out"), ("IN", .str "in"), ("MOST_EDITS", .int 2000)]
  bt := ["int", "bool", "str", "tuple", "list", "dict"]
  gd := true
  lam := true
  xc := ["NoNumber", "NoProgram", "NoEdits"]
  wr := [("_law_word_of", ⟨t__law_word_of, "ask", [("NoEdits", "edits"), ("NoProgram", "program"), ("NoNumber", "number")], "told"⟩)]
theorem md_binds : md.binds := by
  refine ⟨⟨fun p hp => ?_, fun p hp => nomatch hp⟩, fun p hp => ?_⟩
  · simp only [md, List.mem_cons, List.not_mem_nil, or_false] at hp
    rcases hp with rfl | rfl | rfl | rfl | rfl | rfl | rfl | rfl | rfl | rfl | rfl | rfl | rfl | rfl | rfl | rfl | rfl | rfl | rfl | rfl | rfl | rfl | rfl | rfl | rfl | rfl | rfl | rfl | rfl | rfl | rfl | rfl | rfl
    · exact fun _ _ _ _ _ _ us hl => match us, hl with | [_], _ => rfl
    · exact fun _ _ _ _ _ _ us hl => match us, hl with | [_, _, _], _ => rfl
    · exact fun _ _ _ _ _ _ us hl => match us, hl with | [_, _, _], _ => rfl
    · exact fun _ _ _ _ _ _ us hl => match us, hl with | [_], _ => rfl
    · exact fun _ _ _ _ _ _ us hl => match us, hl with | [_, _], _ => rfl
    · exact fun _ _ _ _ _ _ us hl => match us, hl with | [_], _ => rfl
    · exact fun _ _ _ _ _ _ us hl => match us, hl with | [_, _], _ => rfl
    · exact fun _ _ _ _ _ _ us hl => match us, hl with | [_], _ => rfl
    · exact fun _ _ _ _ _ _ us hl => match us, hl with | [_], _ => rfl
    · exact fun _ _ _ _ _ _ us hl => match us, hl with | [_], _ => rfl
    · exact fun _ _ _ _ _ _ us hl => match us, hl with | [_, _], _ => rfl
    · exact fun _ _ _ _ _ _ us hl => match us, hl with | [_, _, _], _ => rfl
    · exact fun _ _ _ _ _ _ us hl => match us, hl with | [_, _], _ => rfl
    · exact fun _ _ _ _ _ _ us hl => match us, hl with | [_, _], _ => rfl
    · exact fun _ _ _ _ _ _ us hl => match us, hl with | [_], _ => rfl
    · exact fun _ _ _ _ _ _ us hl => match us, hl with | [_], _ => rfl
    · exact fun _ _ _ _ _ _ us hl => match us, hl with | [_, _], _ => rfl
    · exact fun _ _ _ _ _ _ us hl => match us, hl with | [_, _], _ => rfl
    · exact fun _ _ _ _ _ _ us hl => match us, hl with | [_, _], _ => rfl
    · exact fun _ _ _ _ _ _ us hl => match us, hl with | [_, _], _ => rfl
    · exact fun _ _ _ _ _ _ us hl => match us, hl with | [_, _], _ => rfl
    · exact fun _ _ _ _ _ _ us hl => match us, hl with | [_, _, _], _ => rfl
    · exact fun _ _ _ _ _ _ us hl => match us, hl with | [_], _ => rfl
    · exact fun _ _ _ _ _ _ us hl => match us, hl with | [_, _], _ => rfl
    · exact fun _ _ _ _ _ _ us hl => match us, hl with | [_, _], _ => rfl
    · exact fun _ _ _ _ _ _ us hl => match us, hl with | [_], _ => rfl
    · exact fun _ _ _ _ _ _ us hl => match us, hl with | [_, _], _ => rfl
    · exact fun _ _ _ _ _ _ us hl => match us, hl with | [_, _], _ => rfl
    · exact fun _ _ _ _ _ _ us hl => match us, hl with | [_, _], _ => rfl
    · exact fun _ _ _ _ _ _ us hl => match us, hl with | [_, _], _ => rfl
    · exact fun _ _ _ _ _ _ us hl => match us, hl with | [_, _], _ => rfl
    · exact fun _ _ _ _ _ _ us hl => match us, hl with | [_, _], _ => rfl
    · exact fun _ _ _ _ _ _ us hl => match us, hl with | [_], _ => rfl
  · simp only [md, List.mem_cons, List.not_mem_nil, or_false] at hp
    rcases hp with rfl
    · exact fun _ _ _ _ _ _ us hl => match us, hl with | [_], _ => rfl
theorem md_ok : md.ok = true := by decide +kernel
end K89
end

section
set_option Elab.async false
set_option linter.all false
set_option maxRecDepth 100000
set_option maxHeartbeats 1000000
set_option autoImplicit false
namespace K89
open PySem Ev
/-! ### the items that the law draws -/
inductive It where
  | i2 | i3 | dup | add | quo | put
  deriving DecidableEq
def It.d : It → D
  | .i2 => .int 2
  | .i3 => .int 3
  | .dup => .str "dup"
  | .add => .str "add"
  | .quo => .tup [.str "quote", .tup [.int 4]]
  | .put => .tup [.str "put", .int 5]
theorem one_le {n k : Nat} (h : n + 1 ≤ k) : ∃ j, k = j + 1 ∧ n ≤ j := ⟨k - 1, by omega, by omega⟩
theorem df_is_integer : md.P.defs "is_integer" = some ⟨1, 1, b_is_integer⟩ := by rfl
theorem df_is_name : md.P.defs "is_name" = some ⟨1, 2, b_is_name⟩ := by rfl
theorem df_is_told : md.P.defs "is_told" = some ⟨2, 2, b_is_told⟩ := by rfl
theorem df_is_number_value : md.P.defs "is_number_value" = some ⟨1, 1, b_is_number_value⟩ := by rfl
theorem df_inner_rows : md.P.defs "inner_rows" = some ⟨2, 3, b_inner_rows⟩ := by rfl
theorem bt_int : md.P.bty "int" = true := by rfl
theorem bt_bool : md.P.bty "bool" = true := by rfl
theorem bt_str : md.P.bty "str" = true := by rfl
theorem bt_tuple : md.P.bty "tuple" = true := by rfl
theorem gl_MOST_INTEGER : md.P.glb "MOST_INTEGER" = some (.int 1000000000000000000) := by rfl
theorem gl_MOST_NAME : md.P.glb "MOST_NAME" = some (.int 12) := by rfl
theorem gl_QUOTE : md.P.glb "QUOTE" = some (.str "quote") := by rfl
theorem gl_PUT : md.P.glb "PUT" = some (.str "put") := by rfl
theorem gl_LIST : md.P.glb "LIST" = some (.str "list") := by rfl
theorem gl_LETTERS : md.P.glb "LETTERS" = some (.str "abcdefghijklmnopqrstuvwxyz") := by rfl
theorem gl_KEPT : md.P.glb "KEPT" = some (.ktup [.str "true", .str "false", .str "list", .str "put"]) := by rfl
section
variable {k : Nat} {S : Store}
theorem is_integer_int (i : Int) (hS : wf S) : (cxK md.P (k + 1)).call "is_integer" [.int i] S = .ok (.bl true) S := by
  rw [call_eq df_is_integer]
  refine run_same rfl hS rfl ?_
  simp [b_is_integer, bt_int, bt_bool, startE, setR, parR, parE, asgT, asgTs, asgsR, bindT, bindTs, wipeE]
theorem is_integer_str (i : Str) (hS : wf S) : (cxK md.P (k + 1)).call "is_integer" [.str i] S = .ok (.bl false) S := by
  rw [call_eq df_is_integer]
  refine run_same rfl hS rfl ?_
  simp [b_is_integer, bt_int, bt_bool, startE, setR, parR, parE, asgT, asgTs, asgsR, bindT, bindTs, wipeE]
theorem is_integer_tup (i : List D) (hS : wf S) : (cxK md.P (k + 1)).call "is_integer" [.tup i] S = .ok (.bl false) S := by
  rw [call_eq df_is_integer]
  refine run_same rfl hS rfl ?_
  simp [b_is_integer, bt_int, bt_bool, startE, setR, parR, parE, asgT, asgTs, asgsR, bindT, bindTs, wipeE]
theorem is_number_int (i : Int) (h0 : 0 ≤ i) (h1 : i ≤ 10) (hS : wf S) : (cxK md.P (k + 2)).call "is_number_value" [.int i] S = .ok (.bl true) S := by
  rw [call_eq df_is_number_value]
  refine run_same rfl hS rfl ?_
  have h2 : (if i < 0 then -i else i) = i := by rw [if_neg (by omega)]
  have h3 : i ≤ 1000000000000000000 := by omega
  simp [b_is_number_value, bt_int, bt_bool, gl_MOST_INTEGER, df_is_integer, startE, setR, parR, parE, asgT, asgTs, asgsR, bindT, bindTs, wipeE, is_integer_int i hS, h2, h3]
theorem is_number_str (i : Str) (hS : wf S) : (cxK md.P (k + 2)).call "is_number_value" [.str i] S = .ok (.bl false) S := by
  rw [call_eq df_is_number_value]
  refine run_same rfl hS rfl ?_
  simp [b_is_number_value, bt_int, bt_bool, gl_MOST_INTEGER, df_is_integer, startE, setR, parR, parE, asgT, asgTs, asgsR, bindT, bindTs, wipeE, is_integer_str i hS]
theorem is_number_tup (i : List D) (hS : wf S) : (cxK md.P (k + 2)).call "is_number_value" [.tup i] S = .ok (.bl false) S := by
  rw [call_eq df_is_number_value]
  refine run_same rfl hS rfl ?_
  simp [b_is_number_value, bt_int, bt_bool, gl_MOST_INTEGER, df_is_integer, startE, setR, parR, parE, asgT, asgTs, asgsR, bindT, bindTs, wipeE, is_integer_tup i hS]
theorem is_name_tup (i : List D) (hS : wf S) : (cxK md.P (k + 1)).call "is_name" [.tup i] S = .ok (.bl false) S := by
  rw [call_eq df_is_name]
  refine run_same rfl hS rfl ?_
  simp [b_is_name, bt_str, startE, setR, parR, parE, asgT, asgTs, asgsR, bindT, bindTs, wipeE]
theorem is_name_body : evSs (cxK md.P k) b_is_name (startE 2 [.str "dup"]) S = .rt (.bl true) S ∧ evSs (cxK md.P k) b_is_name (startE 2 [.str "add"]) S = .rt (.bl true) S := by
  cases k <;> exact ⟨by kernel_rfl, by kernel_rfl⟩
theorem is_name_dup (hS : wf S) : (cxK md.P (k + 1)).call "is_name" [.str "dup"] S = .ok (.bl true) S := by
  rw [call_eq df_is_name]
  exact run_same rfl hS rfl is_name_body.1
theorem is_name_add (hS : wf S) : (cxK md.P (k + 1)).call "is_name" [.str "add"] S = .ok (.bl true) S := by
  rw [call_eq df_is_name]
  exact run_same rfl hS rfl is_name_body.2
theorem is_told_body : evSs (cxK md.P k) b_is_told (startE 2 [It.quo.d, .str "quote"]) S = .rt (.bl true) S ∧ evSs (cxK md.P k) b_is_told (startE 2 [It.put.d, .str "quote"]) S = .rt (.bl false) S := by
  cases k <;> exact ⟨by kernel_rfl, by kernel_rfl⟩
theorem is_told_quo (hS : wf S) : (cxK md.P (k + 1)).call "is_told" [It.quo.d, .str "quote"] S = .ok (.bl true) S := by
  rw [call_eq df_is_told]
  exact run_same rfl hS rfl is_told_body.1
theorem is_told_put (hS : wf S) : (cxK md.P (k + 1)).call "is_told" [It.put.d, .str "quote"] S = .ok (.bl false) S := by
  rw [call_eq df_is_told]
  exact run_same rfl hS rfl is_told_body.2
/-- what stands within an item -/
def It.inn : It → List D
  | .quo => [.tup [.int 4, .bl true]]
  | .put => [.tup [.int 5, .bl false]]
  | _ => []
theorem inner_int (i : Int) (b : Bool) (h0 : 0 ≤ i) (h1 : i ≤ 10) (hS : wf S) : (cxK md.P (k + 3)).call "inner_rows" [.int i, .bl b] S = .ok (.loc S.length) (S ++ [.lst []]) := by
  rw [call_eq df_inner_rows]
  refine run_new (S' := S ++ [.lst []]) (l := S.length) rfl hS (by simp) (Nat.le_refl _) (by simp) rfl ?_
  simp [b_inner_rows, df_is_number_value, startE, setR, parR, parE, asgT, asgTs, asgsR, bindT, bindTs, wipeE, is_number_int i h0 h1 hS]
theorem inner_rows_it (x : It) (hS : wf S) : (cxK md.P (k + 3)).call "inner_rows" [x.d, .bl true] S = .ok (.loc S.length) (S ++ [.lst x.inn]) := by
  cases x with
  | i2 => exact inner_int 2 true (by decide) (by decide) hS
  | i3 => exact inner_int 3 true (by decide) (by decide) hS
  | dup =>
    rw [call_eq df_inner_rows]
    refine run_new (S' := S ++ [.lst It.dup.inn]) (l := S.length) rfl hS (by simp) (Nat.le_refl _) (by simp) rfl ?_
    simp [b_inner_rows, It.d, It.inn, df_is_number_value, df_is_name, startE, setR, parR, parE, asgT, asgTs, asgsR, bindT, bindTs, wipeE, is_number_str _ hS, is_name_dup hS]
  | add =>
    rw [call_eq df_inner_rows]
    refine run_new (S' := S ++ [.lst It.add.inn]) (l := S.length) rfl hS (by simp) (Nat.le_refl _) (by simp) rfl ?_
    simp [b_inner_rows, It.d, It.inn, df_is_number_value, df_is_name, startE, setR, parR, parE, asgT, asgTs, asgsR, bindT, bindTs, wipeE, is_number_str _ hS, is_name_add hS]
  | quo =>
    rw [call_eq df_inner_rows]
    refine run_new (S' := S ++ [.lst It.quo.inn]) (l := S.length) rfl hS (by simp) (Nat.le_refl _) (by simp) rfl ?_
    have h := is_told_quo (k := k + 1) hS
    simp only [It.d] at h
    simp [b_inner_rows, It.d, It.inn, df_is_number_value, df_is_name, df_is_told, gl_QUOTE, startE, setR, parR, parE, asgT, asgTs, asgsR, bindT, bindTs, wipeE, walkT, turnC, is_number_tup _ hS, is_name_tup _ hS, h]
  | put =>
    rw [call_eq df_inner_rows]
    refine run_new (S' := S ++ [.lst It.put.inn]) (l := S.length) rfl hS (by simp) (Nat.le_refl _) (by simp) rfl ?_
    have h := is_told_put (k := k + 1) hS
    simp only [It.d] at h
    simp [b_inner_rows, It.d, It.inn, df_is_number_value, df_is_name, df_is_told, gl_QUOTE, gl_PUT, bt_tuple, bt_str, startE, setR, parR, parE, asgT, asgTs, asgsR, bindT, bindTs, wipeE, is_number_tup _ hS, is_name_tup _ hS, h]

/-! ### what waits in is_bounded -/
inductive Wt where
  | it (x : It) | four | five
def Wt.a : Wt → D
  | .it x => x.d
  | .four => .int 4
  | .five => .int 5
def Wt.b : Wt → Bool
  | .five => false
  | _ => true
def Wt.c : Wt → Int
  | .it _ => 1
  | _ => 2
def Wt.d (t : Wt) : D := .tup [t.a, .bl t.b, .int t.c]
def Wt.next : Wt → List Wt
  | .it .quo => [.four]
  | .it .put => [.five]
  | _ => []
def Wt.inn : Wt → List D
  | .it x => x.inn
  | _ => []
def Wt.w : Wt → Nat
  | .it .quo => 2
  | .it .put => 2
  | _ => 1
def wts (W : List Wt) : Nat := (W.map Wt.w).sum
theorem inner_wt (t : Wt) (hS : wf S) : (cxK md.P (k + 3)).call "inner_rows" [t.a, .bl t.b] S = .ok (.loc S.length) (S ++ [.lst t.inn]) := by
  cases t with
  | it x => exact inner_rows_it x hS
  | four => exact inner_int 4 true (by decide) (by decide) hS
  | five => exact inner_int 5 false (by decide) (by decide) hS
theorem It.bd (x : It) (n : Nat) : x.d.bd n = true := by cases x <;> simp [It.d]
theorem Wt.bd (x : Wt) (n : Nat) : x.d.bd n = true := by
  cases x with
  | it x => simp [Wt.d, Wt.a, x.bd]
  | _ => simp [Wt.d, Wt.a]
theorem bds_map {α : Type} {f : α → D} {n : Nat} (h : ∀ x, (f x).bd n = true) : ∀ l : List α, bds n (l.map f) = true
  | [] => rfl
  | x :: l => by rw [List.map_cons, bds_cons, h, bds_map h l]; rfl
theorem df_is_bounded : md.P.defs "is_bounded" = some ⟨1, 9, b_is_bounded⟩ := by rfl
theorem gl_MOST_ITEMS : md.P.glb "MOST_ITEMS" = some (.int 1000) := by rfl
theorem gl_MOST_DEEP : md.P.glb "MOST_DEEP" = some (.int 30) := by rfl
theorem set_app {α : Type} {l : List α} {i : Nat} {x y : α} (h : i < l.length) : (l ++ [y]).set i x = l.set i x ++ [y] := by
  rw [List.set_append_left _ _ h]
theorem take_set' {α : Type} {l : List α} {i n : Nat} {x : α} (h : n ≤ i) : (l.set i x).take n = l.take n := by
  rw [List.take_set_of_le h]
theorem take_app' {α : Type} {l m : List α} {n : Nat} (h : n ≤ l.length) : (l ++ m).take n = l.take n := List.take_append_of_le_length h
theorem bounded_turn (t : Wt) (W : List Wt) (r w : Nat) (many : Nat) (x3 x4 x5 x6 : Option D) (hS : wf S) (hw : w < S.length) (h : S[w]? = some (.lst (W.map Wt.d ++ [t.d]))) (hm : many < 1000) (hl : W.length < 5000) :
    evSs (cxK md.P (k + 3)) l_is_bounded_0 [some (.loc r), some (.int many), some (.loc w), x3, x4, x5, x6, none, none] S =
      .nx [some (.loc r), some (.int (many + 1)), some (.loc w), some t.a, some (.bl t.b), some (.int t.c), some (.loc S.length), none, none]
        (S.set w (.lst (W.map Wt.d ++ t.next.map Wt.d)) ++ [.lst t.inn, .lst (t.next.map Wt.d)]) := by
  have hS1 : wf (S.set w (.lst (W.map Wt.d))) := wf_set hS (bds_map (fun x => Wt.bd x _) W)
  have e1 := inner_wt (k := k) t hS1
  have l1 : (S.set w (.lst (W.map Wt.d))).length = S.length := List.length_set
  rw [l1] at e1
  have g2 : (S.set w (.lst (W.map Wt.d)) ++ [.lst t.inn])[S.length]? = some (.lst t.inn) := by
    rw [← l1, List.getElem?_append_right (Nat.le_refl _)]; simp
  have e2 : walkL (turnC (cxK md.P (k + 3)) [7, 8] (.tup (.cons (.name 7) (.cons (.name 8) .nil))) (fun _ S => .ok true S) (.tup (.cons (.var 7) (.cons (.var 8) (.cons (.bin .add (.var 5) (.int 1)) .nil))))
      [some (.loc r), some (.int (many + 1)), some (.loc w), some t.a, some (.bl t.b), some (.int t.c), some (.loc S.length), none, none]) S.length LIM 0 [] (S.set w (.lst (W.map Wt.d)) ++ [.lst t.inn]) = .ok (t.next.map Wt.d) (S.set w (.lst (W.map Wt.d)) ++ [.lst t.inn]) := by
    have q := walkL_map (f := turnC (cxK md.P (k + 3)) [7, 8] (.tup (.cons (.name 7) (.cons (.name 8) .nil))) (fun _ S => .ok true S) (.tup (.cons (.var 7) (.cons (.var 8) (.cons (.bin .add (.var 5) (.int 1)) .nil))))
      [some (.loc r), some (.int (many + 1)), some (.loc w), some t.a, some (.bl t.b), some (.int t.c), some (.loc S.length), none, none]) (g := fun d => match d with | .tup [a, b] => .tup [a, b, .int 2] | d => d) g2 (fun d hd acc ha => ?_) LIM 0 [] rfl (Nat.zero_le _) ?_ ?_
    · rw [q]
      cases t with
      | it x => cases x <;> rfl
      | _ => rfl
    · cases t with
      | it x => cases x <;> simp [Wt.inn, It.inn] at hd <;> (subst hd; simp [startE, setR, parR, parE, asgT, asgTs, asgsR, bindT, bindTs, wipeE, turnC, Wt.c, ha])
      | _ => simp [Wt.inn] at hd
    · cases t with
      | it x => cases x <;> simp [Wt.inn, It.inn, LIM]
      | _ => simp [Wt.inn, LIM]
    · cases t with
      | it x => cases x <;> simp [Wt.inn, It.inn, LIM]
      | _ => simp [Wt.inn, LIM]
  have g3 : (S.set w (.lst (W.map Wt.d)) ++ [.lst t.inn, .lst (t.next.map Wt.d)])[w]? = some (.lst (W.map Wt.d)) := by
    rw [List.getElem?_append_left (by rw [l1]; exact hw), List.getElem?_set_self hw]
  have g4 : (S.set w (.lst (W.map Wt.d)) ++ [.lst t.inn, .lst (t.next.map Wt.d)])[S.length + 1]? = some (.lst (t.next.map Wt.d)) := by
    rw [← l1, List.getElem?_append_right (by omega)]; simp
  have hn : t.next.length ≤ 1 := by
    cases t with
    | it x => cases x <;> simp [Wt.next]
    | _ => simp [Wt.next]
  have hc : ¬ (30 : Int) < t.c := by
    cases t <;> simp [Wt.c]
  have hm2 : ¬ (1000 : Int) < (many : Int) + 1 := by omega
  have p1 := m_pop h
  simp only [Wt.d] at p1
  have g5 : (S.set w (.lst (W.map Wt.d)) ++ [.lst t.inn])[w]? = some (.lst (W.map Wt.d)) := by
    rw [List.getElem?_append_left (by rw [l1]; exact hw), List.getElem?_set_self hw]
  have m1 := m_extend g3 g4 (by simp [LIM]; omega)
  have s1 : (S.set w (Ob.lst (W.map Wt.d)) ++ [Ob.lst t.inn, Ob.lst (t.next.map Wt.d)]).set w (Ob.lst (W.map Wt.d ++ t.next.map Wt.d)) = S.set w (Ob.lst (W.map Wt.d ++ t.next.map Wt.d)) ++ [Ob.lst t.inn, Ob.lst (t.next.map Wt.d)] := by
    rw [List.set_append_left _ _ (by rw [l1]; exact hw), List.set_set]
  rw [s1] at m1
  simp [l_is_bounded_0, startE, setR, parR, parE, asgT, asgTs, asgsR, bindT, bindTs, wipeE, kind_pop h, p1, df_inner_rows, e1, gl_MOST_ITEMS, gl_MOST_DEEP, hc, hm2, kind_extend g5, it_loc g2, e2, m1]
theorem wts_app (W V : List Wt) : wts (W ++ V) = wts W + wts V := by simp [wts]
theorem wt_next (t : Wt) : wts t.next < t.w := by
  cases t with
  | it x => cases x <;> simp [Wt.next, wts, Wt.w]
  | _ => simp [Wt.next, wts, Wt.w]
theorem wt_pos (t : Wt) : 1 ≤ t.w := by
  cases t with
  | it x => cases x <;> simp [Wt.w]
  | _ => simp [Wt.w]
theorem wts_len (W : List Wt) : W.length ≤ wts W := by
  induction W with
  | nil => simp
  | cons t W ih =>
    have := wt_pos t
    have e : wts (t :: W) = t.w + wts W := by simp [wts]
    rw [e, List.length_cons]
    omega
theorem split_last {α : Type} (l : List α) : l = [] ∨ ∃ m a, l = m ++ [a] := by
  rcases List.eq_nil_or_concat l with h | ⟨m, a, h⟩
  · exact .inl h
  · exact .inr ⟨m, a, by rw [h, List.concat_eq_append]⟩
/-- the loop of is_bounded -/
theorem bounded_loop (r w n : Nat) (S0 : Store) (hw : n ≤ w) (W : List Wt) (many : Nat) (x3 x4 x5 x6 : Option D) (S : Store) (hS : wf S) (hwl : w < S.length) (h : S[w]? = some (.lst (W.map Wt.d))) (ht : S.take n = S0) (hn : n ≤ S.length) (hm : many + wts W ≤ 1000) :
    ∃ env S', whlT (evTest (cxK md.P (k + 3)) (.cmp .gt (.blt .len (.cons (.var 2) .nil)) (.int 0))) (fun env S => evSs (cxK md.P (k + 3)) l_is_bounded_0 env S) LIM [some (.loc r), some (.int many), some (.loc w), x3, x4, x5, x6, none, none] S = .nx env S' ∧ S'.take n = S0 := by
  refine whlT_run (Q := fun o => ∃ env S', o = .nx env S' ∧ S'.take n = S0) (fun m env S => ∃ (W : List Wt) (many : Nat) (x3 x4 x5 x6 : Option D), env = [some (.loc r), some (.int many), some (.loc w), x3, x4, x5, x6, none, none] ∧ wf S ∧ w < S.length ∧ S[w]? = some (.lst (W.map Wt.d)) ∧ S.take n = S0 ∧ n ≤ S.length ∧ many + wts W ≤ 1000 ∧ m = wts W) ?_ LIM (wts W) _ S (by simp only [LIM]; omega) ⟨W, many, x3, x4, x5, x6, rfl, hS, hwl, h, ht, hn, hm, rfl⟩
  rintro m env S ⟨W, many, x3, x4, x5, x6, rfl, hS, hwl, h, ht, hn, hm, rfl⟩
  rcases split_last W with rfl | ⟨W, t, rfl⟩
  · refine .inl ⟨S, ?_, _, S, rfl, ht⟩
    simp [evTest, len_loc h]
  · refine .inr ⟨S, ?_, .inl ?_⟩
    · simp [evTest, len_loc h]
    · rw [List.map_append, List.map_cons, List.map_nil] at h
      rw [wts_app] at hm
      have e1 : wts [t] = t.w := by simp [wts]
      have hp := wt_pos t
      have hnx := wt_next t
      have hlen := wts_len W
      refine ⟨_, _, wts (W ++ t.next), by rw [wts_app, wts_app]; omega, .inl (bounded_turn t W r w many x3 x4 x5 x6 hS hwl h (by omega) (by omega)), W ++ t.next, many + 1, _, _, _, _, rfl, ?_, ?_, ?_, ?_, ?_, ?_, rfl⟩
      · have := wf_set (l := w) (o := .lst (W.map Wt.d ++ t.next.map Wt.d)) hS (by rw [← List.map_append]; exact bds_map (fun x => Wt.bd x _) _)
        have e : ∀ (a b : Ob) (S : Store), S ++ [a, b] = (S ++ [a]) ++ [b] := fun a b S => by simp
        rw [e]
        refine wf_add (wf_add this ?_) (bds_map (fun x => Wt.bd x _) _)
        cases t with
        | it x => cases x <;> simp [Wt.inn, It.inn]
        | _ => simp [Wt.inn]
      · simp; omega
      · rw [List.getElem?_append_left (by simpa using hwl), List.getElem?_set_self hwl, List.map_append]
      · rw [take_app' (by simpa using hn), take_set' hw, ht]
      · simp; omega
      · rw [wts_app]; omega

theorem is_bounded_ok (l : List It) (r : Nat) (hS : wf S) (hl : l.length ≤ 400) (h : S[r]? = some (.lst (l.map fun x => .tup [x.d, .bl true]))) : (cxK md.P (k + 4)).call "is_bounded" [.loc r] S = .ok (.bl true) S := by
  rw [call_eq df_is_bounded]
  have e1 := walkL_map (f := turnC (cxK md.P (k + 3)) [3, 4] (.tup (.cons (.name 3) (.cons (.name 4) .nil))) (fun _ S => .ok true S) (.tup (.cons (.var 3) (.cons (.var 4) (.cons (.int 1) .nil))))
      [some (.loc r), none, none, none, none, none, none, none, none]) (g := fun d => match d with | .tup [a, b] => .tup [a, b, .int 1] | d => d) h (fun d hd acc ha => ?_) LIM 0 [] rfl (Nat.zero_le _) (by simp [LIM]; omega) (by simp [LIM]; omega)
  · obtain ⟨env, S', w1, w2⟩ := bounded_loop (k := k) r S.length S.length S (Nat.le_refl _) (l.map Wt.it) 0 none none none none (S ++ [.lst (l.map fun x => (Wt.it x).d)]) (wf_add (o := .lst (l.map fun x => (Wt.it x).d)) hS (bds_map (fun x => Wt.bd (.it x) _) l)) (by simp) (by simp) (by simp) (by simp) (by
      have : ∀ l : List It, wts (l.map Wt.it) ≤ 2 * l.length := by
        intro l
        induction l with
        | nil => simp [wts]
        | cons x l ih =>
          have e : wts ((x :: l).map Wt.it) = (Wt.it x).w + wts (l.map Wt.it) := by simp [wts]
          have : (Wt.it x).w ≤ 2 := by cases x <;> simp [Wt.w]
          rw [e, List.length_cons]
          omega
      have := this l
      omega)
    refine run_cut rfl hS rfl w2 ?_
    have e2 : ((l.map fun x => D.tup [x.d, .bl true]).drop 0).map (fun d => match d with | .tup [a, b] => D.tup [a, b, .int 1] | d => d) = l.map fun x => (Wt.it x).d := by
      simp [Wt.d, Wt.a, Wt.b, Wt.c]
    rw [e2, List.nil_append] at e1
    have w1 : whlT (evTest (cxK md.P (k + 3)) (.cmp .gt (.blt .len (.cons (.var 2) .nil)) (.int 0))) (fun env S => evSs (cxK md.P (k + 3)) l_is_bounded_0 env S) LIM [some (.loc r), some (.int 0), some (.loc S.length), none, none, none, none, none, none] (S ++ [.lst (l.map fun x => (Wt.it x).d)]) = .nx env S' := by simpa using w1
    simp [b_is_bounded, startE, setR, parR, parE, asgT, asgTs, asgsR, bindT, bindTs, wipeE, it_loc h, e1, w1]
  · obtain ⟨x, _, rfl⟩ := List.mem_map.mp hd
    simp [startE, setR, parR, parE, asgT, asgTs, asgsR, bindT, bindTs, wipeE, turnC, ha]
theorem df_is_program : md.P.defs "is_program" = some ⟨1, 2, b_is_program⟩ := by rfl
theorem df_check_program : md.P.defs "check_program" = some ⟨1, 1, b_check_program⟩ := by rfl
abbrev pr (l : List It) : D := .tup (l.map It.d)
theorem bds_its (l : List It) (n : Nat) : bds n (l.map It.d) = true := bds_map (fun x => It.bd x n) l
theorem is_program_ok (l : List It) (hS : wf S) (hl : l.length ≤ 400) : (cxK md.P (k + 5)).call "is_program" [pr l] S = .ok (.bl true) S := by
  rw [call_eq df_is_program]
  have e1 := walkT_map (f := turnC (cxK md.P (k + 4)) [1] (.name 1) (fun _ S => .ok true S) (.tup (.cons (.var 1) (.cons (.bl true) .nil))) [some (pr l), none]) (g := fun d => .tup [d, .bl true]) (S := S) (ds := l.map It.d) (acc := []) (fun d _ acc ha => by simp [startE, setR, parR, parE, asgT, asgTs, asgsR, bindT, bindTs, wipeE, turnC, ha]) (by simp [LIM]; omega)
  have e2 := is_bounded_ok (k := k) l S.length (S := S ++ [.lst (l.map fun x => .tup [x.d, .bl true])]) (wf_add (o := .lst (l.map fun x => .tup [x.d, .bl true])) hS (bds_map (fun x => by simp [It.bd]) l)) hl (by simp)
  refine run_cut (S' := S ++ [.lst (l.map fun x => .tup [x.d, .bl true])]) rfl hS rfl (by simp) ?_
  have e3 : ([] : List D) ++ (l.map It.d).map (fun d => D.tup [d, .bl true]) = l.map fun x => .tup [x.d, .bl true] := by simp
  rw [e3] at e1
  simp [b_is_program, startE, setR, parR, parE, asgT, asgTs, asgsR, bindT, bindTs, wipeE, bt_tuple, df_is_bounded, e1, e2]
theorem check_program_ok (l : List It) (hS : wf S) (hl : l.length ≤ 400) : (cxK md.P (k + 6)).call "check_program" [pr l] S = .ok .non S := by
  rw [call_eq df_check_program]
  refine run_nx (S' := S) (env := [some (pr l)]) rfl hS List.take_length ?_
  simp [b_check_program, startE, setR, parR, parE, asgT, asgTs, asgsR, bindT, bindTs, wipeE, df_is_program, is_program_ok (k := k) l hS hl]
end
end K89
end

section
set_option Elab.async false
set_option linter.all false
set_option maxRecDepth 100000
set_option maxHeartbeats 1000000
set_option autoImplicit false
namespace K89
open PySem Ev
section
variable {k : Nat} {S : Store}
/-! ### the longest common part -/
def lcs {α : Type} [DecidableEq α] : List α → List α → Nat
  | [], _ => 0
  | _ :: _, [] => 0
  | a :: as, b :: bs => if a = b then lcs as bs + 1 else max (lcs as (b :: bs)) (lcs (a :: as) bs)
termination_by a b => a.length + b.length
theorem lcs_nil {α : Type} [DecidableEq α] (a : List α) : lcs a [] = 0 := by cases a <;> simp [lcs]
/-! ### down a range -/
def dn : Nat → List D
  | 0 => []
  | m + 1 => .int (m : Nat) :: dn m
theorem rngL_dn : ∀ m : Nat, rngL ((m : Int) - 1) (-1) m = dn m
  | 0 => rfl
  | m + 1 => by
    unfold rngL dn
    have e : ((m + 1 : Nat) : Int) - 1 = (m : Int) := by omega
    rw [e, ← rngL_dn m]
    rfl
theorem small_nat {m : Nat} (h : m ≤ 100000) : small62 ((m : Int) - 1) = true := by
  unfold small62
  simp
  omega
theorem small_nat0 {m : Nat} (h : m ≤ 100000) : small62 (m : Int) = true := by
  unfold small62
  simp
  omega
theorem small_nat1 {m : Nat} (h : m ≤ 100000) : small62 ((m : Int) + 1) = true := by
  unfold small62
  simp
  omega
theorem small_m1 : small62 (-1) = true := by decide
theorem atI_s {α : Type} {xs : List α} {i : Nat} (h : i + 1 < xs.length) : L2.atI xs ((i : Int) + 1) = xs[i + 1]? := by
  have := atI_nat (xs := xs) (i := i + 1) h
  simpa using this
/-! ### a table of rows -/
structure Tab (n R C : Nat) (S0 S : Store) (f : Nat → Nat → Int) : Prop where
  w : wf S
  pre : S.take n = S0
  n0 : S0.length = n
  len : S.length = n + 2 * R + 1
  row : ∀ i, i < R → S[n + 2 * i + 1]? = some (.lst ((List.range C).map fun b => .int (f i b)))
  tab : S[n + 2 * R]? = some (.lst ((List.range R).map fun i => .loc (n + 2 * i + 1)))
theorem Tab.at {n R C : Nat} {S0 S : Store} {f : Nat → Nat → Int} (t : Tab n R C S0 S f) {l : Nat} (h : l < n) : S[l]? = S0[l]? := by
  rw [← t.pre, List.getElem?_take_of_lt h]
theorem Tab.congr {n R C : Nat} {S0 S : Store} {f g : Nat → Nat → Int} (t : Tab n R C S0 S f) (h : ∀ i, i < R → ∀ j, j < C → f i j = g i j) : Tab n R C S0 S g := by
  refine ⟨t.w, t.pre, t.n0, t.len, fun i hi => ?_, t.tab⟩
  rw [t.row i hi]
  congr 2
  refine List.map_congr_left fun j hj => ?_
  rw [h i hi j (List.mem_range.mp hj)]
theorem Tab.rowAt {n R C : Nat} {S0 S : Store} {f : Nat → Nat → Int} (t : Tab n R C S0 S f) {i : Nat} (h : i < R) : subD (.loc (n + 2 * R)) (.int (i : Int)) S = .ok (.loc (n + 2 * i + 1)) S := by
  rw [sub_loc t.tab, atI_nat (by simpa using h)]
  simp [h]
theorem Tab.rowS {n R C : Nat} {S0 S : Store} {f : Nat → Nat → Int} (t : Tab n R C S0 S f) {i : Nat} (h : i + 1 < R) : subD (.loc (n + 2 * R)) (.int ((i : Int) + 1)) S = .ok (.loc (n + 2 * (i + 1) + 1)) S := by
  rw [sub_loc t.tab, atI_s (by simpa using h)]
  simp [h]
theorem Tab.cell {n R C : Nat} {S0 S : Store} {f : Nat → Nat → Int} (t : Tab n R C S0 S f) {i j : Nat} (h : i < R) (hj : j < C) : subD (.loc (n + 2 * i + 1)) (.int (j : Int)) S = .ok (.int (f i j)) S := by
  rw [sub_loc (t.row i h), atI_nat (by simpa using hj)]
  simp [hj]
theorem Tab.cellS {n R C : Nat} {S0 S : Store} {f : Nat → Nat → Int} (t : Tab n R C S0 S f) {i j : Nat} (h : i < R) (hj : j + 1 < C) : subD (.loc (n + 2 * i + 1)) (.int ((j : Int) + 1)) S = .ok (.int (f i (j + 1))) S := by
  rw [sub_loc (t.row i h), atI_s (by simpa using hj)]
  simp [hj]
theorem set_range {C j : Nat} (g : Nat → Int) (v : Int) (h : j < C) : ((List.range C).map fun b => D.int (g b)).set j (.int v) = (List.range C).map fun b => .int (if b = j then v else g b) := by
  refine List.ext_getElem? fun i => ?_
  by_cases e : i = j
  · subst e
    rw [List.getElem?_set_self (by simpa using h)]
    simp [h]
  · rw [List.getElem?_set_ne (Ne.symm e)]
    simp
    by_cases hi : i < C
    · simp [hi, e]
    · simp [hi]
theorem Tab.put {n R C : Nat} {S0 S : Store} {f : Nat → Nat → Int} (t : Tab n R C S0 S f) {a b : Nat} (ha : a < R) (hb : b < C) (v : Int) :
    ∃ S', stoD (.loc (n + 2 * a + 1)) (.int (b : Int)) (.int v) S = .ok () S' ∧ Tab n R C S0 S' fun i j => if i = a ∧ j = b then v else f i j := by
  refine ⟨_, sto_loc (t.row a ha) (by simpa using hb), ?_, ?_, t.n0, by rw [List.length_set]; exact t.len, fun i hi => ?_, ?_⟩
  · refine wf_set t.w ?_
    rw [set_range _ _ hb]
    exact bds_map (fun x => rfl) _
  · rw [take_set' (by omega)]; exact t.pre
  · by_cases e : i = a
    · subst e
      have hl := t.len
      rw [List.getElem?_set_self (by omega), set_range _ _ hb]
      simp
    · rw [List.getElem?_set_ne (by omega), t.row i hi]
      simp [e]
  · rw [List.getElem?_set_ne (by omega)]
    exact t.tab
/-! ### tails_table -/
/-- rows from p on are done, of the row ahead the columns from q on -/
def fin (X Y : List Str) (p q i j : Nat) : Int := if p ≤ i ∨ (i + 1 = p ∧ q ≤ j) then (lcs (X.drop i) (Y.drop j) : Nat) else 0
theorem fin_row {X Y : List Str} {p i j : Nat} (hj : j < Y.length + 1) : fin X Y (p + 1) 0 i j = fin X Y p (Y.length + 1) i j := by
  unfold fin
  by_cases h : p ≤ i
  · rw [if_pos, if_pos (.inl h)]
    omega
  · rw [if_neg (by omega), if_neg (by omega)]
theorem fin_col {X Y : List Str} {p i j : Nat} (hj : j < Y.length + 1) : fin X Y p (Y.length + 1) i j = fin X Y p Y.length i j := by
  unfold fin
  by_cases h : p ≤ i
  · rw [if_pos (.inl h), if_pos (.inl h)]
  · by_cases h2 : i + 1 = p ∧ Y.length ≤ j
    · rw [if_neg (by omega), if_pos (.inr h2), List.drop_eq_nil_of_le h2.2, lcs_nil]
      rfl
    · rw [if_neg (by omega), if_neg (by omega)]
theorem cell_turn {X Y : List Str} {o1 o2 n : Nat} {x3 : Option D} {S0 St : Store} {a b : Nat} (ha : a < X.length) (hb : b < Y.length) (h1 : S0[o1]? = some (.lst (X.map D.str))) (h2 : S0[o2]? = some (.lst (Y.map D.str))) (l1 : o1 < n) (l2 : o2 < n)
    (t : Tab n (X.length + 1) (Y.length + 1) S0 St (fin X Y (a + 1) (b + 1))) :
    ∃ St', evSs (cxK md.P k) l_tails_table_0 [some (.loc o1), some (.loc o2), some (.loc (n + 2 * (X.length + 1))), x3, some (.int (a : Nat)), some (.int (b : Nat))] St = .nx [some (.loc o1), some (.loc o2), some (.loc (n + 2 * (X.length + 1))), x3, some (.int (a : Nat)), some (.int (b : Nat))] St' ∧
      Tab n (X.length + 1) (Y.length + 1) S0 St' (fin X Y (a + 1) b) := by
  have g1 : St[o1]? = some (.lst (X.map D.str)) := by rw [t.at l1, h1]
  have g2 : St[o2]? = some (.lst (Y.map D.str)) := by rw [t.at l2, h2]
  have r1 : subD (.loc o1) (.int (a : Nat)) St = .ok (.str X[a]) St := by rw [sub_loc g1, atI_nat (by simpa using ha)]; simp [ha]
  have r2 : subD (.loc o2) (.int (b : Nat)) St = .ok (.str Y[b]) St := by rw [sub_loc g2, atI_nat (by simpa using hb)]; simp [hb]
  have t0 := t.rowAt (i := a) (by omega)
  have t1 := t.rowS (i := a) (by omega)
  have c11 := t.cellS (i := a + 1) (j := b) (by omega) (by omega)
  have c10 := t.cell (i := a + 1) (j := b) (by omega) (by omega)
  have c01 := t.cellS (i := a) (j := b) (by omega) (by omega)
  have f11 : fin X Y (a + 1) (b + 1) (a + 1) (b + 1) = (lcs (X.drop (a + 1)) (Y.drop (b + 1)) : Nat) := if_pos (.inl (Nat.le_refl _))
  have f10 : fin X Y (a + 1) (b + 1) (a + 1) b = (lcs (X.drop (a + 1)) (Y.drop b) : Nat) := if_pos (.inl (Nat.le_refl _))
  have f01 : fin X Y (a + 1) (b + 1) a (b + 1) = (lcs (X.drop a) (Y.drop (b + 1)) : Nat) := if_pos (.inr ⟨rfl, Nat.le_refl _⟩)
  rw [f11] at c11; rw [f10] at c10; rw [f01] at c01
  have dX := List.drop_eq_getElem_cons ha
  have dY := List.drop_eq_getElem_cons hb
  have fins : ∀ v : Int, v = (lcs (X.drop a) (Y.drop b) : Nat) → ∀ i, i < X.length + 1 → ∀ j, j < Y.length + 1 → (if i = a ∧ j = b then v else fin X Y (a + 1) (b + 1) i j) = fin X Y (a + 1) b i j := by
    rintro v rfl i _ j _
    by_cases e : i = a ∧ j = b
    · obtain ⟨rfl, rfl⟩ := e
      rw [if_pos ⟨rfl, rfl⟩]
      unfold fin
      rw [if_pos (.inr ⟨rfl, Nat.le_refl _⟩)]
    · rw [if_neg e]
      unfold fin
      by_cases h : a + 1 ≤ i ∨ i + 1 = a + 1 ∧ b + 1 ≤ j
      · rw [if_pos h, if_pos (by omega)]
      · rw [if_neg h, if_neg (by omega)]
  by_cases e : X[a] = Y[b]
  · obtain ⟨St', p1, p2⟩ := t.put (a := a) (b := b) (by omega) (by omega) ((lcs (X.drop (a + 1)) (Y.drop (b + 1)) : Nat) + 1 : Int)
    refine ⟨St', ?_, p2.congr (fins _ ?_)⟩
    · simp [l_tails_table_0, startE, setR, parR, parE, asgT, asgTs, asgsR, bindT, bindTs, wipeE, r1, r2, e, t0, t1, c11, p1]
    · rw [dX, dY, lcs, if_pos e]; rfl
  · obtain ⟨St', p1, p2⟩ := t.put (a := a) (b := b) (by omega) (by omega) ((max (lcs (X.drop (a + 1)) (Y.drop b)) (lcs (X.drop a) (Y.drop (b + 1))) : Nat) : Int)
    refine ⟨St', ?_, p2.congr (fins _ ?_)⟩
    · have hm : (if (lcs (X.drop a) (Y.drop (b + 1)) : Nat) > (lcs (X.drop (a + 1)) (Y.drop b) : Nat) then ((lcs (X.drop a) (Y.drop (b + 1)) : Nat) : Int) else (lcs (X.drop (a + 1)) (Y.drop b) : Nat)) = max (lcs (X.drop (a + 1)) (Y.drop b) : Nat) (lcs (X.drop a) (Y.drop (b + 1)) : Nat) := by
        split <;> omega
      have e2 : (X[a] == Y[b]) = false := by simpa using e
      simp [l_tails_table_0, startE, setR, parR, parE, asgT, asgTs, asgsR, bindT, bindTs, wipeE, r1, r2, e2, e, t0, t1, c10, c01, hm, p1]
    · rw [dX, dY, lcs, if_neg e, ← dX, ← dY]

theorem row_walk {X Y : List Str} {o1 o2 n : Nat} {x3 : Option D} {S0 : Store} {a : Nat} (ha : a < X.length) (h1 : S0[o1]? = some (.lst (X.map D.str))) (h2 : S0[o2]? = some (.lst (Y.map D.str))) (l1 : o1 < n) (l2 : o2 < n) : ∀ (m : Nat) (x5 : Option D) (St : Store), m ≤ Y.length →
    Tab n (X.length + 1) (Y.length + 1) S0 St (fin X Y (a + 1) m) →
    ∃ x5' St', forT (turnF (cxK md.P k) (.name 5) l_tails_table_0) (dn m) [some (.loc o1), some (.loc o2), some (.loc (n + 2 * (X.length + 1))), x3, some (.int (a : Nat)), x5] St = .nx [some (.loc o1), some (.loc o2), some (.loc (n + 2 * (X.length + 1))), x3, some (.int (a : Nat)), x5'] St' ∧
      Tab n (X.length + 1) (Y.length + 1) S0 St' (fin X Y (a + 1) 0)
  | 0, x5, St, _, t => ⟨x5, St, rfl, t⟩
  | m + 1, x5, St, hm, t => by
    obtain ⟨St1, e1, t1⟩ := cell_turn (k := k) (x3 := x3) ha (b := m) (by omega) h1 h2 l1 l2 t
    obtain ⟨x', St2, e2, t2⟩ := row_walk ha h1 h2 l1 l2 m (some (.int (m : Nat))) St1 (by omega) t1
    refine ⟨x', St2, ?_, t2⟩
    unfold dn forT
    have e : turnF (cxK md.P k) (.name 5) l_tails_table_0 (.int (m : Nat)) [some (.loc o1), some (.loc o2), some (.loc (n + 2 * (X.length + 1))), x3, some (.int (a : Nat)), x5] St = .nx [some (.loc o1), some (.loc o2), some (.loc (n + 2 * (X.length + 1))), x3, some (.int (a : Nat)), some (.int (m : Nat))] St1 := by
      unfold turnF
      simp [startE, setR, parR, parE, asgT, asgTs, asgsR, bindT, bindTs, wipeE, e1]
    rw [e]
    exact e2
theorem row_turn {X Y : List Str} {o1 o2 n : Nat} {x3 x5 : Option D} {S0 St : Store} {a : Nat} (ha : a < X.length) (h1 : S0[o1]? = some (.lst (X.map D.str))) (h2 : S0[o2]? = some (.lst (Y.map D.str))) (l1 : o1 < n) (l2 : o2 < n) (hy : Y.length ≤ 1000)
    (t : Tab n (X.length + 1) (Y.length + 1) S0 St (fin X Y (a + 1) (Y.length + 1))) :
    ∃ x5' St', evSs (cxK md.P k) l_tails_table_1 [some (.loc o1), some (.loc o2), some (.loc (n + 2 * (X.length + 1))), x3, some (.int (a : Nat)), x5] St = .nx [some (.loc o1), some (.loc o2), some (.loc (n + 2 * (X.length + 1))), x3, some (.int (a : Nat)), x5'] St' ∧
      Tab n (X.length + 1) (Y.length + 1) S0 St' (fin X Y a (Y.length + 1)) := by
  obtain ⟨x', St', e, t'⟩ := row_walk (k := k) (x3 := x3) ha h1 h2 l1 l2 Y.length x5 St (Nat.le_refl _) (t.congr fun i _ j hj => fin_col hj)
  refine ⟨x', St', ?_, t'.congr fun i _ j hj => fin_row hj⟩
  have g2 : St[o2]? = some (.lst (Y.map D.str)) := by rw [t.at l2, h2]
  have len := len_loc g2
  rw [List.length_map] at len
  have r3 := rng3R_int (S := St) (i := (Y.length : Int) - 1) (j := -1) (small_nat (by omega)) small_m1
  have ec : ((Y.length : Int) - 1 - -1).toNat = Y.length := by omega
  rw [ec, rngL_dn] at r3
  simp [l_tails_table_1, startE, setR, parR, parE, asgT, asgTs, asgsR, bindT, bindTs, wipeE, len, r3, e]
theorem table_walk {X Y : List Str} {o1 o2 n : Nat} {x3 : Option D} {S0 : Store} (h1 : S0[o1]? = some (.lst (X.map D.str))) (h2 : S0[o2]? = some (.lst (Y.map D.str))) (l1 : o1 < n) (l2 : o2 < n) (hy : Y.length ≤ 1000) : ∀ (m : Nat) (x4 x5 : Option D) (St : Store), m ≤ X.length →
    Tab n (X.length + 1) (Y.length + 1) S0 St (fin X Y m (Y.length + 1)) →
    ∃ x4' x5' St', forT (turnF (cxK md.P k) (.name 4) l_tails_table_1) (dn m) [some (.loc o1), some (.loc o2), some (.loc (n + 2 * (X.length + 1))), x3, x4, x5] St = .nx [some (.loc o1), some (.loc o2), some (.loc (n + 2 * (X.length + 1))), x3, x4', x5'] St' ∧
      Tab n (X.length + 1) (Y.length + 1) S0 St' (fin X Y 0 (Y.length + 1))
  | 0, x4, x5, St, _, t => ⟨x4, x5, St, rfl, t⟩
  | m + 1, x4, x5, St, hm, t => by
    obtain ⟨y5, St1, e1, t1⟩ := row_turn (k := k) (x3 := x3) (x5 := x5) (a := m) (by omega) h1 h2 l1 l2 hy t
    obtain ⟨z4, z5, St2, e2, t2⟩ := table_walk h1 h2 l1 l2 hy m (some (.int (m : Nat))) y5 St1 (by omega) t1
    refine ⟨z4, z5, St2, ?_, t2⟩
    unfold dn forT
    have e : turnF (cxK md.P k) (.name 4) l_tails_table_1 (.int (m : Nat)) [some (.loc o1), some (.loc o2), some (.loc (n + 2 * (X.length + 1))), x3, x4, x5] St = .nx [some (.loc o1), some (.loc o2), some (.loc (n + 2 * (X.length + 1))), x3, some (.int (m : Nat)), y5] St1 := by
      unfold turnF
      simp [startE, setR, parR, parE, asgT, asgTs, asgsR, bindT, bindTs, wipeE, e1]
    rw [e]
    exact e2

theorem rep_flat {α : Type} (C : Nat) (x : α) : (List.replicate C [x]).flatten = (List.range C).map fun _ => x := by
  rw [show ((List.range C).map fun _ => x) = List.replicate C x from by simp [List.map_const']]
  induction C with
  | zero => rfl
  | succ C ih => rw [List.replicate_succ, List.flatten_cons, ih, List.replicate_succ]; rfl
theorem bd_places (n m : Nat) : Ob.bd n (.lst ((List.range (m + 1)).map fun i => .loc (n + 2 * i + 1))) = false := by
  rw [List.range_succ_eq_map, List.map_cons, bd_lst, bds_cons, bd_loc]
  have : decide (n + 2 * 0 + 1 < n) = false := decide_eq_false (by omega)
  rw [this]
  rfl
theorem rng1_nat {m : Nat} (h : m ≤ 900) : rng1R (.int ((m : Int) + 1)) S = .ok (.ds (rngL 0 1 (m + 1))) S := by
  have r1 := rng1R_int (S := S) (n := (m : Int) + 1) (small_nat1 (by omega))
  have ec : ((m : Int) + 1).toNat = m + 1 := by omega
  rw [ec] at r1
  exact r1
/-- the rows laid one by one -/
theorem rows_walk {o1 o2 n C : Nat} {Y : List Str} {S0 : Store} (h2 : S0[o2]? = some (.lst (Y.map D.str))) (l2 : o2 < n) (hC : C = Y.length + 1) (hC2 : C ≤ 1000) : ∀ (m i : Nat) (lo : Int) (acc : List D) (St : Store), acc.length + m < LIM → wf St → St.take n = S0 → St.length = n + 2 * i → (∀ j, j < i → St[n + 2 * j + 1]? = some (.lst ((List.range C).map fun _ => .int 0))) →
    ∃ St', walkT (turnC (cxK md.P k) [3] (.name 3) (fun _ S => .ok true S) (.bin .mul (.ofl (.dis (.cons (.int 0) .nil))) (.bin .add (.blt .len (.cons (.var 1) .nil)) (.int 1))) [some (.loc o1), some (.loc o2), none, none, none, none]) (rngL lo 1 m) acc St = .ok (acc ++ (List.range' i m).map fun j => .loc (n + 2 * j + 1)) St' ∧
      wf St' ∧ St'.take n = S0 ∧ St'.length = n + 2 * (i + m) ∧ ∀ j, j < i + m → St'[n + 2 * j + 1]? = some (.lst ((List.range C).map fun _ => .int 0))
  | 0, i, lo, acc, St, _, hw, h, hl, hr => ⟨St, by simp [rngL, walkT], hw, h, hl, hr⟩
  | m + 1, i, lo, acc, St, ha, hw, h, hl, hr => by
    have g2 : St[o2]? = some (.lst (Y.map D.str)) := by rw [← List.getElem?_take_of_lt l2, h, h2]
    have g3 : (St ++ [.lst [.int 0]])[o2]? = some (.lst (Y.map D.str)) := by
      rw [List.getElem?_append_left (by omega), g2]
    have len := len_loc g3
    rw [List.length_map] at len
    have g4 : (St ++ [.lst [.int 0]])[St.length]? = some (.lst [.int 0]) := by simp
    have mul : binD .mul (.loc St.length) (.int ((Y.length : Int) + 1)) (St ++ [.lst [.int 0]]) = .ok (.loc (St.length + 1)) (St ++ [.lst [.int 0], .lst ((List.range C).map fun _ => .int 0)]) := by
      have c1 : ((Y.length : Int) + 1 ≤ 1000 ∧ -1000 ≤ (Y.length : Int) + 1 ∧ ([D.int 0] : List D).length ≤ 1000) := ⟨by omega, by omega, by simp⟩
      have c2 : ((Y.length : Int) + 1).toNat = C := by omega
      have c3 : (List.replicate C [D.int 0]).flatten = (List.range C).map fun _ => .int 0 := by
        exact rep_flat C _
      simp only [binD, g4, c1, and_self, if_true, c2, c3, alloc_ok]
      simp
    obtain ⟨St', e1, ew, e2, e3, e4⟩ := rows_walk h2 l2 hC hC2 m (i + 1) (lo + 1) (acc ++ [.loc (n + 2 * i + 1)]) (St ++ [.lst [.int 0], .lst ((List.range C).map fun _ => .int 0)]) (by simp; omega) (by
      have e : St ++ [Ob.lst [.int 0], Ob.lst ((List.range C).map fun _ => .int 0)] = (St ++ [Ob.lst [.int 0]]) ++ [Ob.lst ((List.range C).map fun _ => .int 0)] := by simp
      rw [e]
      exact wf_add (wf_add hw rfl) (bds_map (fun x => rfl) _)) (by rw [take_app' (by omega)]; exact h) (by simp; omega) (fun j hj => by
      by_cases e : j = i
      · subst e
        rw [List.getElem?_append_right (by omega)]
        have : n + 2 * j + 1 - St.length = 1 := by omega
        rw [this]
        rfl
      · rw [List.getElem?_append_left (by omega)]
        exact hr j (by omega))
    refine ⟨St', ?_, ew, e2, by omega, fun j hj => e4 j (by omega)⟩
    unfold rngL walkT
    have ht : turnC (cxK md.P k) [3] (.name 3) (fun _ S => .ok true S) (.bin .mul (.ofl (.dis (.cons (.int 0) .nil))) (.bin .add (.blt .len (.cons (.var 1) .nil)) (.int 1))) [some (.loc o1), some (.loc o2), none, none, none, none] (.int lo) acc St = .ok (acc ++ [.loc (n + 2 * i + 1)]) (St ++ [.lst [.int 0], .lst ((List.range C).map fun _ => .int 0)]) := by
      have ha2 : acc.length < LIM := by omega
      rw [hl] at mul
      simp [startE, setR, parR, parE, asgT, asgTs, asgsR, bindT, bindTs, wipeE, turnC, len, hl, mul, ha2]
    rw [ht]
    show walkT _ _ _ _ = _
    rw [e1, List.range'_succ]
    simp
theorem df_tails_table : md.P.defs "tails_table" = some ⟨2, 6, b_tails_table⟩ := by rfl
theorem tails_table_ok {X Y : List Str} {o1 o2 : Nat} (hS : wf S) (h1 : S[o1]? = some (.lst (X.map D.str))) (h2 : S[o2]? = some (.lst (Y.map D.str))) (hx : X.length ≤ 900) (hy : Y.length ≤ 900) :
    ∃ S', (cxK md.P (k + 1)).call "tails_table" [.loc o1, .loc o2] S = .ok (.loc (S.length + 2 * (X.length + 1))) S' ∧ Tab S.length (X.length + 1) (Y.length + 1) S S' (fun i j => (lcs (X.drop i) (Y.drop j) : Nat)) := by
  have l1 : o1 < S.length := (List.getElem?_eq_some_iff.mp h1).1
  have l2 : o2 < S.length := (List.getElem?_eq_some_iff.mp h2).1
  rw [call_eq df_tails_table]
  obtain ⟨St1, e1, ew, e2, e3, e4⟩ := rows_walk (k := k) (o1 := o1) (n := S.length) h2 l2 rfl (by omega) (X.length + 1) 0 0 [] S (by simp [LIM]; omega) hS List.take_length (by simp) (fun j hj => absurd hj (Nat.not_lt_zero _))
  have t0 : Tab S.length (X.length + 1) (Y.length + 1) S (St1 ++ [.lst ((List.range (X.length + 1)).map fun i => .loc (S.length + 2 * i + 1))]) (fin X Y X.length (Y.length + 1)) := by
    refine ⟨wf_add ew ?_, by rw [take_app' (by omega)]; exact e2, rfl, by simp; omega, fun i hi => ?_, ?_⟩
    · rw [bd_lst]
      have gen : ∀ (l : List Nat) (N : Nat), (∀ i ∈ l, S.length + 2 * i + 1 < N) → bds N (l.map fun i => .loc (S.length + 2 * i + 1)) = true := by
        intro l N
        induction l with
        | nil => intro _; rfl
        | cons i l ih => intro h; rw [List.map_cons, bds_cons, ih fun j hj => h j (List.mem_cons_of_mem _ hj), bd_loc, decide_eq_true (h i List.mem_cons_self)]; rfl
      exact gen _ _ fun i hi => by have := List.mem_range.mp hi; omega
    · rw [List.getElem?_append_left (by omega), e4 i (by omega)]
      congr 2
      refine List.map_congr_left fun j hj => ?_
      unfold fin
      split
      · rename_i h
        have hj := List.mem_range.mp hj
        have : X.length ≤ i := by omega
        rw [List.drop_eq_nil_of_le this]
        simp [lcs]
      · rfl
    · rw [List.getElem?_append_right (by omega)]
      have : S.length + 2 * (X.length + 1) - St1.length = 0 := by omega
      rw [this]
      rfl
  obtain ⟨x4, x5, St2, w1, w2⟩ := table_walk (k := k) (x3 := none) h1 h2 l1 l2 (by omega) X.length none none _ (Nat.le_refl _) t0
  refine ⟨St2, run_keep rfl (by omega) w2.tab ?_ ?_, w2.congr fun i hi j hj => ?_⟩
  · exact bd_places _ _
  · have len1 := len_loc h1
    rw [List.length_map] at len1
    have g1 : (St1 ++ [.lst ((List.range (X.length + 1)).map fun i => .loc (S.length + 2 * i + 1))])[o1]? = some (.lst (X.map D.str)) := by rw [t0.at l1, h1]
    have len2 := len_loc g1
    rw [List.length_map] at len2
    have r3 := rng3R_int (S := St1 ++ [.lst ((List.range (X.length + 1)).map fun i => .loc (S.length + 2 * i + 1))]) (i := (X.length : Int) - 1) (j := -1) (small_nat (by omega)) small_m1
    have ec : ((X.length : Int) - 1 - -1).toNat = X.length := by omega
    rw [ec, rngL_dn] at r3
    have l3 : St1.length = S.length + 2 * (X.length + 1) := by omega
    rw [List.nil_append, ← List.range_eq_range'] at e1
    have s1 : evE (cxK md.P k) (.ofl (.comp [("row", 3)] (.name 3) (.rng1 (.bin .add (.blt .len (.cons (.var 0) .nil)) (.int 1))) .nil (.bin .mul (.ofl (.dis (.cons (.int 0) .nil))) (.bin .add (.blt .len (.cons (.var 1) .nil)) (.int 1))))) [some (.loc o1), some (.loc o2), none, none, none, none] S = .ok (.loc (S.length + 2 * (X.length + 1))) (St1 ++ [.lst ((List.range (X.length + 1)).map fun i => .loc (S.length + 2 * i + 1))]) := by
      have s0 : evIt (cxK md.P k) (.rng1 (.bin .add (.blt .len (.cons (.var 0) .nil)) (.int 1))) [some (.loc o1), some (.loc o2), none, none, none, none] S = .ok (.ds (rngL 0 1 (X.length + 1))) S := by
        have q : evE (cxK md.P k) (.blt .len (.cons (.var 0) .nil)) [some (.loc o1), some (.loc o2), none, none, none, none] S = .ok (.int X.length) S := by
          simp only [evE_blt, evEs_cons, evE_var, evEs_nil, List.getElem?_cons_zero, varR_some, Res.bind_ok, len1, cxK_gd', okBf_len, if_true]
        rw [evIt_rng1, evE_bin, q]
        rw [Res.bind_ok, evE_int, Res.bind_ok, bin_add, Res.bind_ok]
        exact rng1_nat hx
      rw [evE_ofl, evL_comp0, s0]
      show (noExc (walkT (turnC (cxK md.P k) [3] (.name 3) (fun _ S => .ok true S) (.bin .mul (.ofl (.dis (.cons (.int 0) .nil))) (.bin .add (.blt .len (.cons (.var 1) .nil)) (.int 1))) [some (.loc o1), some (.loc o2), none, none, none, none]) (rngL 0 1 (X.length + 1)) [] S)).bind _ = _
      rw [e1]
      show Ev.alloc _ _ = _
      rw [alloc_ok, l3]
    have s2 : evIt (cxK md.P k) (.rng3 (.bin .sub (.blt .len (.cons (.var 0) .nil)) (.int 1)) (.neg (.int 1)) (.neg (.int 1))) [some (.loc o1), some (.loc o2), some (.loc (S.length + 2 * (X.length + 1))), none, none, none] (St1 ++ [.lst ((List.range (X.length + 1)).map fun i => .loc (S.length + 2 * i + 1))]) = .ok (.ds (dn X.length)) (St1 ++ [.lst ((List.range (X.length + 1)).map fun i => .loc (S.length + 2 * i + 1))]) := by
      rw [evIt_rng3]
      simp only [evE_bin, evE_blt, evEs_cons, evE_var, evEs_nil, evE_int, List.getElem?_cons_zero, varR_some, Res.bind_ok, len2, bin_sub, r3, cxK_gd', okBf_len, if_true, evE_neg, negR_int]
    show evSs (cxK md.P k) b_tails_table [some (.loc o1), some (.loc o2), none, none, none, none] S = _
    unfold b_tails_table
    rw [evSs_cons, evS_set, s1]
    show ((evS (cxK md.P k) _ [some (.loc o1), some (.loc o2), some (.loc (S.length + 2 * (X.length + 1))), none, none, none] _).then _) = _
    rw [evS_for, s2]
    show ((forT _ _ _ _).then _) = _
    rw [w1]
    rfl
  · unfold fin
    rw [if_pos (.inl (Nat.zero_le _))]
end
end K89
end

section
set_option Elab.async false
set_option linter.all false
set_option maxRecDepth 100000
set_option maxHeartbeats 1000000
set_option autoImplicit false
namespace K89
open PySem Ev
section
variable {k : Nat} {S : Store}
/-! ### texts of items -/
def sh : It → Str
  | .i2 => "2"
  | .i3 => "3"
  | .dup => "'dup'"
  | .add => "'add'"
  | .quo => "('quote', (4,))"
  | .put => "('put', 5)"
theorem repr_it (x : It) : bltD .repr [x.d] S = .ok (.str (sh x)) S := by
  cases x <;> kernel_rfl
theorem sh_all : ∀ x y : It, (sh x == sh y) = decide (x = y) := by
  intro x y
  cases x <;> cases y <;> decide +kernel
theorem sh_inj {x y : It} (h : sh x = sh y) : x = y := by
  have := sh_all x y
  rw [h] at this
  simpa using this.symm
theorem lcs_sh : ∀ (l m : List It), lcs (l.map sh) (m.map sh) = lcs l m := by
  intro l m
  fun_induction lcs l m with
  | case1 m => simp [lcs]
  | case2 => simp [lcs]
  | case3 => simp [lcs, *]
  | case4 x l y m h ih1 ih2 =>
    have : ¬ sh x = sh y := fun e => h (sh_inj e)
    simp only [List.map_cons] at ih1 ih2 ⊢
    rw [lcs, if_neg this, ih1, ih2]
theorem lcs_drop (l m : List It) (a b : Nat) : lcs ((l.map sh).drop a) ((m.map sh).drop b) = lcs (l.drop a) (m.drop b) := by
  rw [← List.map_drop, ← List.map_drop, lcs_sh]
/-! ### moves, edits -/
inductive Mv where
  | keep (x : It) | out (x : It) | inn (x : It)
def moves : List It → List It → List Mv
  | [], [] => []
  | [], y :: ys => .inn y :: moves [] ys
  | x :: xs, [] => .out x :: moves xs []
  | x :: xs, y :: ys => if x = y then .keep x :: moves xs ys else if lcs xs (y :: ys) ≥ lcs (x :: xs) ys then .out x :: moves xs (y :: ys) else .inn y :: moves (x :: xs) ys
termination_by a b => a.length + b.length
inductive Ed where
  | keep (n : Nat) | out (n : Nat) | inn (l : List It)
def Ed.d : Ed → D
  | .keep n => .tup [.str "keep", .int n]
  | .out n => .tup [.str "out", .int n]
  | .inn l => .tup [.str "in", pr l]
/-- one more move -/
def addE (e : Ed) : Mv → Option Ed
  | .keep _ => match e with
    | .keep n => some (.keep (n + 1))
    | _ => none
  | .out _ => match e with
    | .out n => some (.out (n + 1))
    | _ => none
  | .inn x => match e with
    | .inn l => some (.inn (l ++ [x]))
    | _ => none
def Mv.ed : Mv → Ed
  | .keep _ => .keep 1
  | .out _ => .out 1
  | .inn x => .inn [x]
def push (E : List Ed) (m : Mv) : List Ed := match E.getLast? with
  | some e => match addE e m with
    | some e' => E.dropLast ++ [e']
    | none => E ++ [m.ed]
  | none => E ++ [m.ed]
def Mv.word : Mv → Str
  | .keep _ => "keep"
  | .out _ => "out"
  | .inn _ => "in"
def Mv.told : Mv → D
  | .keep _ => .int 1
  | .out _ => .int 1
  | .inn x => .tup [x.d]
theorem df_put_edit : md.P.defs "put_edit" = some ⟨3, 3, b_put_edit⟩ := by rfl
theorem Ed.bd (x : Ed) (n : Nat) : x.d.bd n = true := by
  cases x with
  | keep m => simp [Ed.d]
  | out m => simp [Ed.d]
  | inn l => simp [Ed.d, bds_its]
theorem len_pos_test {l : Nat} {ds : List D} (h : S[l]? = some (.lst ds)) : bltD .len [.loc l] S = .ok (.int ds.length) S := len_loc h
theorem sub_last {l : Nat} {ds : List D} {d : D} (h : S[l]? = some (.lst (ds ++ [d]))) : subD (.loc l) (.int (-1)) S = .ok d S := by
  rw [sub_loc h, atI_last]; rfl
theorem sto_last {l : Nat} {ds : List D} {d e : D} (h : S[l]? = some (.lst (ds ++ [d]))) : stoD (.loc l) (.int (-1)) e S = .ok () (S.set l (.lst (ds ++ [e]))) := by
  have e1 : L2.ixN (ds ++ [d]).length (-1) = some ds.length := by
    unfold L2.ixN
    have h : (-1 + ((ds.length : Int) + 1)).toNat = ds.length := by omega
    have h2 : (1 : Int) ≤ (ds.length : Int) + 1 := by omega
    simp [h, h2]
  simp only [stoD, h, e1]
  rw [List.set_append_right _ _ (Nat.le_refl _)]
  simp
theorem w_keep_out : ((Str.ofString "keep") == (Str.ofString "out")) = false := by decide +kernel
theorem w_keep_inn : ((Str.ofString "keep") == (Str.ofString "in")) = false := by decide +kernel
theorem w_out_keep : ((Str.ofString "out") == (Str.ofString "keep")) = false := by decide +kernel
theorem w_out_inn : ((Str.ofString "out") == (Str.ofString "in")) = false := by decide +kernel
theorem w_inn_keep : ((Str.ofString "in") == (Str.ofString "keep")) = false := by decide +kernel
theorem w_inn_out : ((Str.ofString "in") == (Str.ofString "out")) = false := by decide +kernel
theorem put_edit_body (E : List Ed) (m : Mv) (f : Nat) (h : S[f]? = some (.lst (E.map Ed.d))) (hl : E.length < 5000) (hi : ∀ l, Ed.inn l ∈ E → l.length < 5000) :
    evSs (cxK md.P k) b_put_edit (startE 3 [.loc f, m.word |> D.str, m.told]) S = .nx [some (.loc f), some (.str m.word), some m.told] (S.set f (.lst ((push E m).map Ed.d))) := by
  rcases split_last E with rfl | ⟨E, e, rfl⟩
  · have p1 := m_append (d := .tup [.str m.word, m.told]) h (by simp [LIM])
    have e1 : (push [] m).map Ed.d = [.tup [.str m.word, m.told]] := by cases m <;> rfl
    rw [e1]
    simp at p1
    simp [b_put_edit, startE, setR, parR, parE, asgT, asgTs, asgsR, bindT, bindTs, wipeE, len_loc h, kind_append h, p1]
  · rw [List.map_append, List.map_cons, List.map_nil] at h
    have len := len_loc h
    have sl := sub_last h
    have p1 := m_append (d := .tup [.str m.word, m.told]) h (by simp [LIM]; simp at hl; omega)
    have p2 : ∀ d, _ := fun d => sto_last (e := d) h
    cases e with
    | keep n =>
      cases m with
      | keep x =>
        have e1 : (push (E ++ [.keep n]) (.keep x)).map Ed.d = E.map Ed.d ++ [.tup [.str "keep", .int ((n : Int) + 1)]] := by simp [push, addE, Ed.d]
        rw [e1]
        simp [b_put_edit, startE, setR, parR, parE, asgT, asgTs, asgsR, bindT, bindTs, wipeE, len, sl, Ed.d, Mv.word, Mv.told, p2]
      | out x =>
        have e1 : (push (E ++ [.keep n]) (.out x)).map Ed.d = E.map Ed.d ++ [.tup [.str "keep", .int n], .tup [.str "out", .int 1]] := by simp [push, addE, Ed.d, Mv.ed]
        rw [e1]
        simp [Ed.d, Mv.word, Mv.told] at p1
        simp [b_put_edit, startE, setR, parR, parE, asgT, asgTs, asgsR, bindT, bindTs, wipeE, len, sl, Ed.d, Mv.word, Mv.told, kind_append h, p1, w_keep_out]
      | inn x =>
        have e1 : (push (E ++ [.keep n]) (.inn x)).map Ed.d = E.map Ed.d ++ [.tup [.str "keep", .int n], .tup [.str "in", .tup [x.d]]] := by simp [push, addE, Ed.d, Mv.ed]
        rw [e1]
        simp [Ed.d, Mv.word, Mv.told] at p1
        simp [b_put_edit, startE, setR, parR, parE, asgT, asgTs, asgsR, bindT, bindTs, wipeE, len, sl, Ed.d, Mv.word, Mv.told, kind_append h, p1, w_keep_inn]
    | out n =>
      cases m with
      | keep x =>
        have e1 : (push (E ++ [.out n]) (.keep x)).map Ed.d = E.map Ed.d ++ [.tup [.str "out", .int n], .tup [.str "keep", .int 1]] := by simp [push, addE, Ed.d, Mv.ed]
        rw [e1]
        simp [Ed.d, Mv.word, Mv.told] at p1
        simp [b_put_edit, startE, setR, parR, parE, asgT, asgTs, asgsR, bindT, bindTs, wipeE, len, sl, Ed.d, Mv.word, Mv.told, kind_append h, p1, w_out_keep]
      | out x =>
        have e1 : (push (E ++ [.out n]) (.out x)).map Ed.d = E.map Ed.d ++ [.tup [.str "out", .int ((n : Int) + 1)]] := by simp [push, addE, Ed.d]
        rw [e1]
        simp [b_put_edit, startE, setR, parR, parE, asgT, asgTs, asgsR, bindT, bindTs, wipeE, len, sl, Ed.d, Mv.word, Mv.told, p2]
      | inn x =>
        have e1 : (push (E ++ [.out n]) (.inn x)).map Ed.d = E.map Ed.d ++ [.tup [.str "out", .int n], .tup [.str "in", .tup [x.d]]] := by simp [push, addE, Ed.d, Mv.ed]
        rw [e1]
        simp [Ed.d, Mv.word, Mv.told] at p1
        simp [b_put_edit, startE, setR, parR, parE, asgT, asgTs, asgsR, bindT, bindTs, wipeE, len, sl, Ed.d, Mv.word, Mv.told, kind_append h, p1, w_out_inn]
    | inn l =>
      cases m with
      | keep x =>
        have e1 : (push (E ++ [.inn l]) (.keep x)).map Ed.d = E.map Ed.d ++ [.tup [.str "in", pr l], .tup [.str "keep", .int 1]] := by simp [push, addE, Ed.d, Mv.ed]
        rw [e1]
        simp [Ed.d, Mv.word, Mv.told] at p1
        simp [b_put_edit, startE, setR, parR, parE, asgT, asgTs, asgsR, bindT, bindTs, wipeE, len, sl, Ed.d, Mv.word, Mv.told, kind_append h, p1, w_inn_keep]
      | out x =>
        have e1 : (push (E ++ [.inn l]) (.out x)).map Ed.d = E.map Ed.d ++ [.tup [.str "in", pr l], .tup [.str "out", .int 1]] := by simp [push, addE, Ed.d, Mv.ed]
        rw [e1]
        simp [Ed.d, Mv.word, Mv.told] at p1
        simp [b_put_edit, startE, setR, parR, parE, asgT, asgTs, asgsR, bindT, bindTs, wipeE, len, sl, Ed.d, Mv.word, Mv.told, kind_append h, p1, w_inn_out]
      | inn x =>
        have e1 : (push (E ++ [.inn l]) (.inn x)).map Ed.d = E.map Ed.d ++ [.tup [.str "in", .tup (l.map It.d ++ [x.d])]] := by simp [push, addE, Ed.d]
        rw [e1]
        have bt : binD .add (pr l) (.tup [x.d]) S = .ok (.tup (l.map It.d ++ [x.d])) S := bin_tup (by have := hi l (by simp); simp [LIM]; omega)
        simp [b_put_edit, startE, setR, parR, parE, asgT, asgTs, asgsR, bindT, bindTs, wipeE, len, sl, Ed.d, Mv.word, Mv.told, p2, bt]
theorem put_edit_ok (E : List Ed) (m : Mv) (f : Nat) (hS : wf S) (h : S[f]? = some (.lst (E.map Ed.d))) (hl : E.length < 5000) (hi : ∀ l, Ed.inn l ∈ E → l.length < 5000) :
    (cxK md.P (k + 1)).call "put_edit" [.loc f, .str m.word, m.told] S = .ok .non (S.set f (.lst ((push E m).map Ed.d))) := by
  rw [call_eq df_put_edit]
  exact run_nxW rfl List.length_set (wf_set hS (bds_map (fun x => Ed.bd x _) _)) (put_edit_body (k := k) E m f h hl hi)
/-! ### raw_difference -/
structure TabR (n R C : Nat) (S : Store) (f : Nat → Nat → Int) : Prop where
  row : ∀ i, i < R → S[n + 2 * i + 1]? = some (.lst ((List.range C).map fun b => .int (f i b)))
  tab : S[n + 2 * R]? = some (.lst ((List.range R).map fun i => .loc (n + 2 * i + 1)))
theorem TabR.rowAt {n R C : Nat} {S : Store} {f : Nat → Nat → Int} (t : TabR n R C S f) {i : Nat} (h : i < R) : subD (.loc (n + 2 * R)) (.int (i : Int)) S = .ok (.loc (n + 2 * i + 1)) S := by
  rw [sub_loc t.tab, atI_nat (by simpa using h)]
  simp [h]
theorem TabR.rowS {n R C : Nat} {S : Store} {f : Nat → Nat → Int} (t : TabR n R C S f) {i : Nat} (h : i + 1 < R) : subD (.loc (n + 2 * R)) (.int ((i : Int) + 1)) S = .ok (.loc (n + 2 * (i + 1) + 1)) S := by
  rw [sub_loc t.tab, atI_s (by simpa using h)]
  simp [h]
theorem TabR.cell {n R C : Nat} {S : Store} {f : Nat → Nat → Int} (t : TabR n R C S f) {i j : Nat} (h : i < R) (hj : j < C) : subD (.loc (n + 2 * i + 1)) (.int (j : Int)) S = .ok (.int (f i j)) S := by
  rw [sub_loc (t.row i h), atI_nat (by simpa using hj)]
  simp [hj]
theorem TabR.cellS {n R C : Nat} {S : Store} {f : Nat → Nat → Int} (t : TabR n R C S f) {i j : Nat} (h : i < R) (hj : j + 1 < C) : subD (.loc (n + 2 * i + 1)) (.int ((j : Int) + 1)) S = .ok (.int (f i (j + 1))) S := by
  rw [sub_loc (t.row i h), atI_s (by simpa using hj)]
  simp [hj]
theorem TabR.set {n R C x : Nat} {S : Store} {f : Nat → Nat → Int} {o : Ob} (t : TabR n R C S f) (h : n + 2 * R < x) : TabR n R C (S.set x o) f :=
  ⟨fun i hi => by rw [List.getElem?_set_ne (by omega)]; exact t.row i hi, by rw [List.getElem?_set_ne (by omega)]; exact t.tab⟩
/-- where the loop of raw_difference stands -/
structure RD (l m : List It) (r1 r2 n f a b : Nat) (E : List Ed) (S : Store) : Prop where
  w : wf S
  one : S[r1]? = some (.lst (l.map fun x => .str (sh x)))
  two : S[r2]? = some (.lst (m.map fun x => .str (sh x)))
  t : TabR n (l.length + 1) (m.length + 1) S fun i j => (lcs (l.drop i) (m.drop j) : Nat)
  found : S[f]? = some (.lst (E.map Ed.d))
  la : a ≤ l.length
  lb : b ≤ m.length
theorem gl_KEEP : md.P.glb "KEEP" = some (.str "keep") := by rfl
theorem gl_OUT : md.P.glb "OUT" = some (.str "out") := by rfl
theorem gl_IN : md.P.glb "IN" = some (.str "in") := by rfl
theorem RD.step {l m : List It} {r1 r2 n f a b : Nat} {E : List Ed} (R : RD l m r1 r2 n f a b E S) (h1 : r1 < f) (h2 : r2 < f) (hn : n + 2 * (l.length + 1) < f) (hf : f < S.length) (v : Mv) (a' b' : Nat) (ha : a' ≤ l.length) (hb : b' ≤ m.length) : RD l m r1 r2 n f a' b' (push E v) (S.set f (.lst ((push E v).map Ed.d))) :=
  ⟨wf_set R.w (bds_map (fun x => Ed.bd x _) _), by rw [List.getElem?_set_ne (by omega)]; exact R.one, by rw [List.getElem?_set_ne (by omega)]; exact R.two, R.t.set hn, by rw [List.getElem?_set_self hf], ha, hb⟩
abbrev rdEnv (l m : List It) (r1 r2 n f : Nat) (a b : Nat) (x4 : Option D) : EnvD := [some (pr l), some (pr m), some (.loc r1), some (.loc r2), x4, some (.loc (n + 2 * (l.length + 1))), some (.loc f), some (.int (a : Nat)), some (.int (b : Nat))]
theorem rd_turn {l m : List It} {r1 r2 n f a b : Nat} {E : List Ed} {x4 : Option D} (R : RD l m r1 r2 n f a b E S) (h1 : r1 < f) (h2 : r2 < f) (hn : n + 2 * (l.length + 1) < f) (hf : f < S.length) (hE : E.length < 5000) (hi : ∀ l, Ed.inn l ∈ E → l.length < 5000) (more : a < l.length ∨ b < m.length) :
    ∃ v a' b', (a' + b' > a + b) ∧ moves (l.drop a) (m.drop b) = v :: moves (l.drop a') (m.drop b') ∧ RD l m r1 r2 n f a' b' (push E v) (S.set f (.lst ((push E v).map Ed.d))) ∧
      evSs (cxK md.P (k + 1)) l_raw_difference_0 (rdEnv l m r1 r2 n f a b x4) S = .nx (rdEnv l m r1 r2 n f a' b' x4) (S.set f (.lst ((push E v).map Ed.d))) := by
  have la := R.la
  have lb := R.lb
  have pe := fun v => put_edit_ok (k := k) E v f R.w R.found hE hi
  by_cases ha : a < l.length
  · have rA : subD (.loc r1) (.int (a : Nat)) S = .ok (.str (sh l[a])) S := by rw [sub_loc R.one, atI_nat (by simpa using ha)]; simp [ha]
    have dA := List.drop_eq_getElem_cons ha
    by_cases hb : b < m.length
    · have rB : subD (.loc r2) (.int (b : Nat)) S = .ok (.str (sh m[b])) S := by rw [sub_loc R.two, atI_nat (by simpa using hb)]; simp [hb]
      have dB := List.drop_eq_getElem_cons hb
      by_cases e : l[a] = m[b]
      · refine ⟨.keep l[a], a + 1, b + 1, by omega, ?_, R.step h1 h2 hn hf _ _ _ ha hb, ?_⟩
        · rw [dA, dB, moves, if_pos e]
        · have p := pe (.keep l[a])
          have hsh : (sh l[a] == sh m[b]) = true := by rw [e]; simp
          simp only [Mv.word, Mv.told] at p
          simp [l_raw_difference_0, startE, setR, parR, parE, asgT, asgTs, asgsR, bindT, bindTs, wipeE, rdEnv, ha, hb, rA, rB, hsh, e, df_put_edit, gl_KEEP, p]
      · have hsh : (sh l[a] == sh m[b]) = false := by rw [sh_all]; simpa using e
        have hbm : ¬ ((b : Int) = (m.length : Int)) := by omega
        have c10 := R.t.cell (i := a + 1) (j := b) (by omega) (by omega)
        have c01 := R.t.cellS (i := a) (j := b) (by omega) (by omega)
        have t0 := R.t.rowAt (i := a) (by omega)
        have t1 := R.t.rowS (i := a) (by omega)
        by_cases ge : lcs (l.drop a) (m.drop (b + 1)) ≤ lcs (l.drop (a + 1)) (m.drop b)
        · refine ⟨.out l[a], a + 1, b, by omega, ?_, R.step h1 h2 hn hf _ _ _ ha lb, ?_⟩
          · rw [dA, dB, moves, if_neg e, ← dA, ← dB, if_pos ge]
          · have p := pe (.out l[a])
            simp only [Mv.word, Mv.told] at p
            simp [l_raw_difference_0, startE, setR, parR, parE, asgT, asgTs, asgsR, bindT, bindTs, wipeE, rdEnv, ha, hb, rA, rB, hsh, hbm, c10, c01, t0, t1, ge, df_put_edit, gl_OUT, p]
        · refine ⟨.inn m[b], a, b + 1, by omega, ?_, R.step h1 h2 hn hf _ _ _ la hb, ?_⟩
          · rw [dA, dB, moves, if_neg e, ← dA, ← dB, if_neg ge]
          · have p := pe (.inn m[b])
            have sb : subD (.tup (m.map It.d)) (.int (b : Nat)) S = .ok m[b].d S := by rw [sub_tup, atI_nat (by simpa using hb)]; simp [hb]
            simp only [sub_tup] at sb
            simp only [Mv.word, Mv.told] at p
            simp [l_raw_difference_0, startE, setR, parR, parE, asgT, asgTs, asgsR, bindT, bindTs, wipeE, rdEnv, ha, hb, rA, rB, hsh, hbm, c10, c01, t0, t1, ge, df_put_edit, gl_IN, sb, p]
    · have hbm : b = m.length := by omega
      subst hbm
      refine ⟨.out l[a], a + 1, m.length, by omega, ?_, R.step h1 h2 hn hf _ _ _ ha (Nat.le_refl _), ?_⟩
      · rw [dA, List.drop_length, moves]
      · have p := pe (.out l[a])
        simp only [Mv.word, Mv.told] at p
        simp [l_raw_difference_0, startE, setR, parR, parE, asgT, asgTs, asgsR, bindT, bindTs, wipeE, rdEnv, ha, df_put_edit, gl_OUT, p]
  · have ham : a = l.length := by omega
    have hb : b < m.length := by omega
    have hbm : ¬ ((b : Int) = (m.length : Int)) := by omega
    have dB := List.drop_eq_getElem_cons hb
    subst ham
    refine ⟨.inn m[b], l.length, b + 1, by omega, ?_, R.step h1 h2 hn hf _ _ _ (Nat.le_refl _) hb, ?_⟩
    · rw [dB, List.drop_length, moves]
    · have p := pe (.inn m[b])
      have sb : subD (.tup (m.map It.d)) (.int (b : Nat)) S = .ok m[b].d S := by rw [sub_tup, atI_nat (by simpa using hb)]; simp [hb]
      simp only [sub_tup] at sb
      simp only [Mv.word, Mv.told] at p
      simp [l_raw_difference_0, startE, setR, parR, parE, asgT, asgTs, asgsR, bindT, bindTs, wipeE, rdEnv, hb, hbm, df_put_edit, gl_IN, sb, p]

def Ed.sz : Ed → Nat
  | .inn l => 1 + l.length
  | _ => 1
def szs (E : List Ed) : Nat := (E.map Ed.sz).sum
theorem szs_app (E F : List Ed) : szs (E ++ F) = szs E + szs F := by simp [szs]
theorem szs_one (e : Ed) : szs [e] = e.sz := by simp [szs]
theorem szs_len : ∀ E : List Ed, E.length ≤ szs E
  | [] => by simp
  | e :: E => by
    have := szs_len E
    have h : 1 ≤ e.sz := by cases e <;> simp [Ed.sz]
    have e2 : szs (e :: E) = e.sz + szs E := by simp [szs]
    rw [e2, List.length_cons]
    omega
theorem szs_mem : ∀ {E : List Ed} {l : List It}, Ed.inn l ∈ E → l.length < szs E
  | e :: E, l, h => by
    have e2 : szs (e :: E) = e.sz + szs E := by simp [szs]
    rcases List.mem_cons.mp h with rfl | h
    · rw [e2]; simp [Ed.sz]; omega
    · have := szs_mem h
      omega
theorem szs_push (E : List Ed) (v : Mv) : szs (push E v) ≤ szs E + 2 := by
  rcases split_last E with rfl | ⟨E, e, rfl⟩
  · cases v <;> simp [push, szs, Mv.ed, Ed.sz]
  · cases e <;> cases v <;> simp [push, addE, szs, Mv.ed, Ed.sz] <;> omega
def edits (E : List Ed) (M : List Mv) : List Ed := M.foldl push E
theorem rd_loop {l m : List It} {r1 r2 n f n0 : Nat} {x4 : Option D} {S0 : Store} (h1 : r1 < f) (h2 : r2 < f) (hn : n + 2 * (l.length + 1) < f) (h0 : n0 ≤ f) (hlm : l.length + m.length ≤ 1000) (E : List Ed) (St : Store) (R : RD l m r1 r2 n f 0 0 E St) (hf : f < St.length) (hE : szs E + 2 * (l.length + m.length) ≤ 4000) (ht : St.take n0 = S0) :
    ∃ a b S', whlT (evTest (cxK md.P (k + 1)) (.bop false (.cons (.cmp .lt (.var 7) (.blt .len (.cons (.var 0) .nil))) (.cons (.cmp .lt (.var 8) (.blt .len (.cons (.var 1) .nil))) .nil)))) (fun env S => evSs (cxK md.P (k + 1)) l_raw_difference_0 env S) LIM (rdEnv l m r1 r2 n f 0 0 x4) St = .nx (rdEnv l m r1 r2 n f a b x4) S' ∧
      S'.take n0 = S0 ∧ S'[f]? = some (.lst ((edits E (moves l m)).map Ed.d)) := by
  have key := whlT_run (t := evTest (cxK md.P (k + 1)) (.bop false (.cons (.cmp .lt (.var 7) (.blt .len (.cons (.var 0) .nil))) (.cons (.cmp .lt (.var 8) (.blt .len (.cons (.var 1) .nil))) .nil)))) (f := fun env S => evSs (cxK md.P (k + 1)) l_raw_difference_0 env S)
    (Q := fun o => ∃ a b S', o = .nx (rdEnv l m r1 r2 n f a b x4) S' ∧ S'.take n0 = S0 ∧ S'[f]? = some (.lst ((edits E (moves l m)).map Ed.d)))
    (fun q env St => ∃ a b F, env = rdEnv l m r1 r2 n f a b x4 ∧ RD l m r1 r2 n f a b F St ∧ f < St.length ∧ q + (a + b) = l.length + m.length ∧ szs F + 2 * q ≤ 4000 ∧ St.take n0 = S0 ∧ edits F (moves (l.drop a) (m.drop b)) = edits E (moves l m)) ?_ LIM (l.length + m.length) (rdEnv l m r1 r2 n f 0 0 x4) St (by simp only [LIM]; omega) ⟨0, 0, E, rfl, R, hf, by omega, hE, ht, rfl⟩
  · exact key
  · rintro q env St ⟨a, b, F, rfl, R, hf, hq, hs, ht, he⟩
    have la := R.la
    have lb := R.lb
    by_cases more : a < l.length ∨ b < m.length
    · obtain ⟨v, a', b', p1, p2, p3, p4⟩ := rd_turn (k := k) (x4 := x4) R h1 h2 hn hf (by have := szs_len F; omega) (fun l hl => by have := szs_mem hl; omega) more
      refine .inr ⟨St, ?_, .inl ⟨_, _, l.length + m.length - (a' + b'), by have := p3.la; have := p3.lb; omega, .inl p4, a', b', push F v, rfl, p3, by rw [List.length_set]; exact hf, by have := p3.la; have := p3.lb; omega, ?_, by rw [take_set' h0]; exact ht, ?_⟩⟩
      · by_cases ha : a < l.length
        · simp [evTest, rdEnv, ha]
        · have hb : b < m.length := by omega
          simp [evTest, rdEnv, ha, hb]
      · have := szs_push F v
        have := p3.la
        have := p3.lb
        omega
      · rw [← he, p2]; rfl
    · refine .inl ⟨St, ?_, a, b, St, rfl, ht, ?_⟩
      · have h3 : ¬ a < l.length := by omega
        have h4 : ¬ b < m.length := by omega
        simp [evTest, rdEnv, h3, h4]
      · have e1 : a = l.length := by omega
        have e2 : b = m.length := by omega
        subst e1 e2
        rw [List.drop_length, List.drop_length] at he
        rw [← he, R.found]
        simp [moves, edits]
theorem df_raw_difference : md.P.defs "raw_difference" = some ⟨2, 9, b_raw_difference⟩ := by rfl
theorem gd_true : md.P.gd = true := by rfl
theorem reprs_walk (l : List It) (e : EnvD) (he : e.length = 9) (hl : l.length ≤ 900) : walkT (turnC (cxK md.P (k + 1)) [4] (.name 4) (fun _ S => .ok true S) (.blt .repr (.cons (.var 4) .nil)) e) (l.map It.d) [] S = .ok (l.map fun x => .str (sh x)) S := by
  have gen : ∀ (l : List It) (acc : List D), acc.length + l.length < LIM → walkT (turnC (cxK md.P (k + 1)) [4] (.name 4) (fun _ S => .ok true S) (.blt .repr (.cons (.var 4) .nil)) e) (l.map It.d) acc S = .ok (acc ++ l.map fun x => .str (sh x)) S := by
    intro l
    induction l with
    | nil => intro acc _; simp [walkT]
    | cons x l ih =>
      intro acc ha
      simp only [List.length_cons] at ha
      have h1 : acc.length < LIM := by omega
      have t : turnC (cxK md.P (k + 1)) [4] (.name 4) (fun _ S => .ok true S) (.blt .repr (.cons (.var 4) .nil)) e x.d acc S = .ok (acc ++ [.str (sh x)]) S := by
        simp [turnC, startE, setR, parR, parE, asgT, asgTs, asgsR, bindT, bindTs, wipeE, he, gd_true, repr_it, h1]
      rw [List.map_cons]
      unfold walkT
      rw [t]
      show walkT _ _ _ _ = _
      rw [ih _ (by simp; omega)]
      simp
  have := gen l [] (by simp only [LIM, List.length_nil]; omega)
  simpa using this
theorem raw_difference_ok (l m : List It) (hS : wf S) (hlm : l.length + m.length ≤ 800) : (cxK md.P (k + 2)).call "raw_difference" [pr l, pr m] S = .ok (.loc S.length) (S ++ [.lst ((edits [] (moves l m)).map Ed.d)]) := by
  rw [call_eq df_raw_difference]
  have w1 : wf (S ++ [.lst (l.map fun x => .str (sh x)), .lst (m.map fun x => .str (sh x))]) := by
    have e : S ++ [Ob.lst (l.map fun x => .str (sh x)), Ob.lst (m.map fun x => .str (sh x))] = (S ++ [Ob.lst (l.map fun x => .str (sh x))]) ++ [Ob.lst (m.map fun x => .str (sh x))] := by simp
    rw [e]
    exact wf_add (wf_add hS (bds_map (fun x => rfl) l)) (bds_map (fun x => rfl) m)
  obtain ⟨St, t1, t2⟩ := tails_table_ok (k := k) (hS := w1) (S := S ++ [.lst (l.map fun x => .str (sh x)), .lst (m.map fun x => .str (sh x))]) (X := l.map sh) (Y := m.map sh) (o1 := S.length) (o2 := S.length + 1) (by simp) (by rw [List.getElem?_append_right (by omega)]; simp) (by simp; omega) (by simp; omega)
  have ln : (S ++ [Ob.lst (l.map fun x => .str (sh x)), Ob.lst (m.map fun x => .str (sh x))]).length = S.length + 2 := by simp
  rw [ln, List.length_map] at t1
  rw [ln, List.length_map, List.length_map] at t2
  have lSt : St.length = S.length + 2 + 2 * (l.length + 1) + 1 := t2.len
  have RD0 : RD l m S.length (S.length + 1) (S.length + 2) St.length 0 0 [] (St ++ [.lst []]) := by
    refine ⟨wf_add t2.w rfl, ?_, ?_, ⟨fun i hi => ?_, ?_⟩, ?_, Nat.zero_le _, Nat.zero_le _⟩
    · rw [List.getElem?_append_left (by omega), t2.at (by omega)]; simp
    · rw [List.getElem?_append_left (by omega), t2.at (by omega), List.getElem?_append_right (by omega)]; simp
    · rw [List.getElem?_append_left (by omega), t2.row i hi]
      simp only [lcs_drop]
    · rw [List.getElem?_append_left (by omega)]
      exact t2.tab
    · simp
  have hS0 : (St ++ [Ob.lst []]).take S.length = S := by
    rw [take_app' (by omega)]
    have := congrArg (List.take S.length) t2.pre
    rw [List.take_take] at this
    rw [show min S.length (S.length + 2) = S.length from by omega] at this
    rw [this]
    simp
  obtain ⟨a, b, S', q1, q2, q3⟩ := rd_loop (k := k) (x4 := none) (n0 := S.length) (S0 := S) (by omega) (by omega) (by omega) (by omega) (by omega) [] _ RD0 (by simp) (by simp [szs]; omega) hS0
  refine run_new rfl hS q2 (by omega) q3 (bds_map (fun x => Ed.bd x _) _) ?_
  have r1 := reprs_walk (k := k) (S := S) l [some (pr l), some (pr m), none, none, none, none, none, none, none] rfl (by omega)
  have r2 := reprs_walk (k := k) (S := S ++ [.lst (l.map fun x => .str (sh x))]) m [some (pr l), some (pr m), none, none, none, none, none, none, none] rfl (by omega)
  have z0 : ((0 : Nat) : Int) = 0 := rfl
  simp only [rdEnv, z0] at q1
  simp [b_raw_difference, startE, setR, parR, parE, asgT, asgTs, asgsR, bindT, bindTs, wipeE, r1, r2, df_tails_table, t1, q1]
end
end K89
end

section
set_option Elab.async false
set_option linter.all false
set_option maxRecDepth 100000
set_option maxHeartbeats 1000000
set_option autoImplicit false
namespace K89
open PySem Ev
section
variable {k : Nat} {S : Store}
/-! ### equality of programs -/
def It.p : It → PyData
  | .i2 => .int 2
  | .i3 => .int 3
  | .dup => .str "dup"
  | .add => .str "add"
  | .quo => .tuple [.str "quote", .tuple [.int 4]]
  | .put => .tuple [.str "put", .int 5]
theorem data_it (x : It) : x.d.data = some x.p := by cases x <;> kernel_rfl
theorem datas_its : ∀ l : List It, datas (l.map It.d) = some (l.map It.p)
  | [] => rfl
  | x :: l => by rw [List.map_cons, datas, data_it, datas_its l]; rfl
theorem eqv_it (x y : It) : x.p.eqv y.p = decide (x = y) := by cases x <;> cases y <;> kernel_rfl
theorem eqv_its : ∀ l m : List It, PyData.eqvAll (l.map It.p) (m.map It.p) = decide (l = m)
  | [], [] => rfl
  | [], _ :: _ => by simp [PyData.eqvAll]
  | _ :: _, [] => by simp [PyData.eqvAll]
  | x :: l, y :: m => by
    rw [List.map_cons, List.map_cons, PyData.eqvAll, eqv_it, eqv_its l m]
    by_cases h1 : x = y <;> by_cases h2 : l = m <;> simp [h1, h2]
theorem depth_it (x : It) : x.p.depth ≤ 2 := by cases x <;> decide +kernel
theorem depth_its : ∀ l : List It, PyData.depthAll (l.map It.p) ≤ 2
  | [] => by simp [PyData.depthAll]
  | x :: l => by
    rw [List.map_cons, PyData.depthAll]
    exact Nat.max_le.mpr ⟨depth_it x, depth_its l⟩
theorem eqD_pr (l m : List It) : eqD S (pr l) (pr m) = some (decide (l = m)) := by
  have d1 : dataOf S (pr l) = some (.tuple (l.map It.p)) := by
    show (datas (l.map It.d)).map PyData.tuple = _
    rw [datas_its]; rfl
  have d2 : dataOf S (pr m) = some (.tuple (m.map It.p)) := by
    show (datas (m.map It.d)).map PyData.tuple = _
    rw [datas_its]; rfl
  show (match dataOf S (pr l), dataOf S (pr m) with
    | some p, some q => if p.depth ≤ 60 ∧ q.depth ≤ 60 then some (p.eqv q) else none
    | _, _ => none) = _
  rw [d1, d2]
  have h1 := depth_its l
  have h2 := depth_its m
  have c : (PyData.tuple (l.map It.p)).depth ≤ 60 ∧ (PyData.tuple (m.map It.p)).depth ≤ 60 := by
    simp only [PyData.depth]
    omega
  dsimp only
  rw [if_pos c, PyData.eqv, eqv_its]
theorem eqD_nil (l : List It) : eqD S (pr l) (.tup []) = some (decide (l = [])) := eqD_pr l []
/-! ### texts of programs -/
def shT (l : List It) : Str := tupleText (l.map sh)
theorem shown_it (x : It) : x.p.shown = sh x := by cases x <;> kernel_rfl
theorem shown_its : ∀ l : List It, PyData.shownAll (l.map It.p) = l.map sh
  | [] => by simp [PyData.shownAll]
  | x :: l => by rw [List.map_cons, PyData.shownAll, shown_it, shown_its l, List.map_cons]
theorem showable_it (x : It) : x.p.showable = true := by cases x <;> decide +kernel
theorem showable_its : ∀ l : List It, PyData.showableAll (l.map It.p) = true
  | [] => by simp [PyData.showableAll]
  | x :: l => by rw [List.map_cons, PyData.showableAll, showable_it, showable_its l]; rfl
theorem sh_len (x : It) : (sh x).length ≤ 20 := by cases x <;> decide +kernel
theorem cps_app (a b : Str) : (a ++ b).cps.toList = a.cps.toList ++ b.cps.toList := by
  show (a.cps ++ b.cps).toList = _
  simp
def ch (x : It) : List Nat := (sh x).cps.toList
def jn : List It → List Nat
  | [] => []
  | [x] => ch x
  | x :: y :: r => ch x ++ (44 :: 32 :: jn (y :: r))
theorem jn_eq : ∀ l : List It, (Str.join ", " (l.map sh)).cps.toList = jn l
  | [] => by rfl
  | [x] => by rfl
  | x :: y :: r => by
    have ih := jn_eq (y :: r)
    simp only [List.map_cons] at ih ⊢
    rw [Str.join, cps_app, cps_app, ih]
    · rw [jn, List.append_assoc]
      rfl
    · intro h; cases h
theorem jn_len : ∀ l : List It, (jn l).length ≤ 22 * l.length
  | [] => by simp [jn]
  | [x] => by
    have := sh_len x
    have h : (ch x).length = (sh x).length := by simp [ch, Str.length]
    simp only [jn, List.length_cons, List.length_nil]
    omega
  | x :: y :: r => by
    have ih := jn_len (y :: r)
    have := sh_len x
    have h : (ch x).length = (sh x).length := by simp [ch, Str.length]
    simp only [jn, List.length_append, List.length_cons] at ih ⊢
    omega
def tl (l : List It) : List Nat := if l.length == 1 then [44, 41] else [41]
theorem shT_eq (l : List It) : (shT l).cps.toList = 40 :: (jn l ++ tl l) := by
  unfold shT tupleText
  rw [cps_app, cps_app, jn_eq, List.length_map]
  unfold tl
  have e1 : (("(" : Str)).cps.toList = [40] := by rfl
  rw [e1]
  by_cases h : (l.length == 1) = true
  · rw [if_pos h, if_pos h]; rfl
  · rw [if_neg h, if_neg h]; rfl
theorem shT_len (l : List It) (h : l.length ≤ 900) : (shT l).length ≤ LIM := by
  have e : (shT l).length = (shT l).cps.toList.length := by simp [Str.length]
  rw [e, shT_eq]
  have := jn_len l
  have h2 : (tl l).length ≤ 2 := by unfold tl; split <;> simp
  simp only [List.length_cons, List.length_append, LIM]
  omega
theorem repr_pr (l : List It) (h : l.length ≤ 900) : bltD .repr [pr l] S = .ok (.str (shT l)) S := by
  have d1 : (pr l).data = some (.tuple (l.map It.p)) := by
    show (datas (l.map It.d)).map PyData.tuple = _
    rw [datas_its]; rfl
  have h1 := depth_its l
  have e : (PyData.tuple (l.map It.p)).shown = shT l := by rw [PyData.shown, shown_its]; rfl
  show (match (pr l).data with
    | some p => if p.showable ∧ p.shown.length ≤ LIM ∧ p.depth ≤ 60 then Res.ok (D.str p.shown) S else .bad
    | none => .bad) = _
  rw [d1]
  dsimp only
  rw [e, if_pos ⟨by rw [PyData.showable]; exact showable_its l, shT_len l h, by rw [PyData.depth]; omega⟩]
theorem ch_dec {x y : It} {r s : List Nat} (h : ch x ++ r = ch y ++ s) : x = y ∧ r = s := by
  have key : ∀ x : It, ch x = match x with
    | .i2 => [50]
    | .i3 => [51]
    | .dup => [39, 100, 117, 112, 39]
    | .add => [39, 97, 100, 100, 39]
    | .quo => [40, 39, 113, 117, 111, 116, 101, 39, 44, 32, 40, 52, 44, 41, 41]
    | .put => [40, 39, 112, 117, 116, 39, 44, 32, 53, 41] := by
    intro x; cases x <;> decide +kernel
  rw [key x, key y] at h
  cases x <;> cases y <;> simp at h <;> simp_all
theorem jn_inj {t1 t2 : List Nat} (h1 : t1 = [41] ∨ t1 = [44, 41]) (h2 : t2 = [41] ∨ t2 = [44, 41]) : ∀ {l m : List It}, l ≠ [] → m ≠ [] → jn l ++ t1 = jn m ++ t2 → l = m
  | [x], [y], _, _, h => by
    obtain ⟨rfl, _⟩ := ch_dec h
    rfl
  | [x], y :: z :: r, _, _, h => by
    simp only [jn, List.append_assoc] at h
    obtain ⟨_, h⟩ := ch_dec h
    rcases h1 with rfl | rfl <;> simp at h
  | x :: z :: r, [y], _, _, h => by
    simp only [jn, List.append_assoc] at h
    obtain ⟨_, h⟩ := ch_dec h
    rcases h2 with rfl | rfl <;> simp at h
  | x :: a :: l, y :: b :: m, _, _, h => by
    simp only [jn, List.append_assoc] at h
    obtain ⟨e, h'⟩ := ch_dec h
    simp only [List.cons_append, List.cons.injEq, true_and] at h'
    have := jn_inj h1 h2 (l := a :: l) (m := b :: m) (by simp) (by simp) h'
    rw [e, this]
theorem shT_inj {l m : List It} (hl : l ≠ []) (hm : m ≠ []) : (shT l == shT m) = decide (l = m) := by
  by_cases e : l = m
  · subst e; simp
  · have : shT l ≠ shT m := fun h => by
      have h2 := congrArg (fun s : Str => s.cps.toList) h
      simp only [shT_eq, List.cons.injEq, true_and] at h2
      refine e (jn_inj ?_ ?_ hl hm h2)
      · unfold tl; split <;> simp
      · unfold tl; split <;> simp
    simp [e, this]
end
end K89
end

section
set_option Elab.async false
set_option linter.all false
set_option maxRecDepth 100000
set_option maxHeartbeats 1000000
set_option autoImplicit false
namespace K89
open PySem Ev
section
variable {k : Nat} {S : Store}
/-! ### edits are edits -/
theorem df_is_within : md.P.defs "is_within" = some ⟨3, 3, b_is_within⟩ := by rfl
theorem df_is_edit : md.P.defs "is_edit" = some ⟨1, 1, b_is_edit⟩ := by rfl
theorem df_are_edits : md.P.defs "are_edits" = some ⟨1, 2, b_are_edits⟩ := by rfl
theorem df_difference : md.P.defs "difference" = some ⟨2, 2, b_difference⟩ := by rfl
theorem gl_MOST_EDITS : md.P.glb "MOST_EDITS" = some (.int 2000) := by rfl
theorem is_within_ok (n : Nat) (h1 : 1 ≤ n) (h2 : n ≤ 2000) (hS : wf S) : (cxK md.P (k + 2)).call "is_within" [.int (n : Nat), .int 1, .int 2000] S = .ok (.bl true) S := by
  rw [call_eq df_is_within]
  refine run_same rfl hS rfl ?_
  have c1 : (1 : Int) ≤ (n : Int) := by omega
  have c2 : (n : Int) ≤ 2000 := by omega
  simp [b_is_within, startE, setR, parR, parE, asgT, asgTs, asgsR, bindT, bindTs, wipeE, df_is_integer, is_integer_int _ hS, c1, c2]
theorem in_keep : inDs (.str "keep") [.str "keep", .str "out"] = some true := by kernel_rfl
theorem in_out : inDs (.str "out") [.str "keep", .str "out"] = some true := by kernel_rfl
theorem in_in : inDs (.str "in") [.str "keep", .str "out"] = some false := by kernel_rfl
def Ed.fit : Ed → Prop
  | .keep n => 1 ≤ n ∧ n ≤ 2000
  | .out n => 1 ≤ n ∧ n ≤ 2000
  | .inn l => l ≠ [] ∧ l.length ≤ 400
theorem is_edit_ok (e : Ed) (h : e.fit) (hS : wf S) : (cxK md.P (k + 6)).call "is_edit" [e.d] S = .ok (.bl true) S := by
  rw [call_eq df_is_edit]
  refine run_same rfl hS rfl ?_
  cases e with
  | keep n => simp [b_is_edit, startE, setR, parR, parE, asgT, asgTs, asgsR, bindT, bindTs, wipeE, Ed.d, bt_tuple, bt_str, gl_KEEP, gl_OUT, in_keep, gl_MOST_EDITS, df_is_within, is_within_ok (k := k + 3) n h.1 h.2 hS]
  | out n => simp [b_is_edit, startE, setR, parR, parE, asgT, asgTs, asgsR, bindT, bindTs, wipeE, Ed.d, bt_tuple, bt_str, gl_KEEP, gl_OUT, in_out, gl_MOST_EDITS, df_is_within, is_within_ok (k := k + 3) n h.1 h.2 hS]
  | inn l =>
    have ln : (0 : Int) < (l.length : Int) := by
      have := List.length_pos_iff.mpr h.1
      omega
    simp [b_is_edit, startE, setR, parR, parE, asgT, asgTs, asgsR, bindT, bindTs, wipeE, Ed.d, bt_tuple, bt_str, gl_KEEP, gl_OUT, gl_IN, in_in, df_is_program, is_program_ok (k := k) l hS h.2]
    exact List.length_pos_iff.mpr h.1
theorem bls_true : ∀ n : Nat, blsOf (List.replicate n (.bl true)) = some (List.replicate n true)
  | 0 => rfl
  | n + 1 => by rw [List.replicate_succ, blsOf, bls_true n]; rfl
theorem are_edits_ok (E : List Ed) (h : ∀ e ∈ E, e.fit) (hl : E.length ≤ 2000) (hS : wf S) : (cxK md.P (k + 7)).call "are_edits" [.tup (E.map Ed.d)] S = .ok (.bl true) S := by
  rw [call_eq df_are_edits]
  refine run_same rfl hS rfl ?_
  have w := walkT_map (f := turnC (cxK md.P (k + 6)) [1] (.name 1) (fun _ S => .ok true S) (.call "is_edit" (.cons (.var 1) .nil)) [some (.tup (E.map Ed.d)), none]) (g := fun _ => .bl true) (S := S) (ds := E.map Ed.d) (acc := []) (fun d hd acc ha => by
    obtain ⟨e, he, rfl⟩ := List.mem_map.mp hd
    simp [turnC, startE, setR, parR, parE, asgT, asgTs, asgsR, bindT, bindTs, wipeE, df_is_edit, is_edit_ok (k := k) e (h e he) hS, ha]) (by simp only [List.length_map, List.length_nil, LIM]; omega)
  have e1 : [] ++ (E.map Ed.d).map (fun _ => D.bl true) = List.replicate E.length (.bl true) := by
    rw [List.nil_append, List.map_map]
    exact List.map_const'
  rw [e1] at w
  have c : (E.length : Int) ≤ 2000 := by omega
  simp [b_are_edits, startE, setR, parR, parE, asgT, asgTs, asgsR, bindT, bindTs, wipeE, bt_tuple, gl_MOST_EDITS, c, w, bll_all (bls_true E.length)]
theorem difference_ok (l m : List It) (hS : wf S) (hl : l.length + m.length ≤ 400) : (cxK md.P (k + 7)).call "difference" [pr l, pr m] S = .ok (.tup ((edits [] (moves l m)).map Ed.d)) S := by
  rw [call_eq df_difference]
  have c1 := check_program_ok (k := k) l hS (by omega)
  have c2 := check_program_ok (k := k) m hS (by omega)
  have rd := raw_difference_ok (k := k + 4) l m hS (by omega)
  refine run_cut (S' := S ++ [.lst ((edits [] (moves l m)).map Ed.d)]) rfl hS (by rw [bd_tup]; exact bds_map (fun x => Ed.bd x _) _) (by simp) ?_
  have tl := tuple_loc (S := S ++ [.lst ((edits [] (moves l m)).map Ed.d)]) (l := S.length) (ds := (edits [] (moves l m)).map Ed.d) (by simp)
  simp [b_difference, startE, setR, parR, parE, asgT, asgTs, asgsR, bindT, bindTs, wipeE, df_check_program, c1, c2, df_raw_difference, rd, tl]

end
end K89
end

section
set_option Elab.async false
set_option linter.all false
set_option maxRecDepth 100000
set_option maxHeartbeats 1000000
set_option autoImplicit false
namespace K89
open PySem Ev
section
variable {k : Nat} {S : Store}
/-! ### the bag -/
def bagL (c : Nat) (i : Nat) (x s n : Int) : List D := [.loc c, .int (i : Nat), .int x, .int s, .int n]
structure Bag (b c : Nat) (S : Store) : Prop where
  w : wf S
  cells : ∃ ns : List Int, S[c]? = some (.lst (ns.map D.int))
  bag : ∃ (i : Nat) (x s n : Int), S[b]? = some (.lst (bagL c i x s n))
theorem Bag.ne {b c : Nat} (h : Bag b c S) : b ≠ c := by
  intro e
  obtain ⟨ns, h1⟩ := h.cells
  obtain ⟨i, x, s, n, h2⟩ := h.bag
  rw [e, h1] at h2
  cases ns <;> simp [bagL] at h2
theorem Bag.cl {b c : Nat} (h : Bag b c S) : c < S.length := by
  obtain ⟨ns, h1⟩ := h.cells
  exact (List.getElem?_eq_some_iff.mp h1).1
theorem Bag.bl {b c : Nat} (h : Bag b c S) : b < S.length := by
  obtain ⟨i, x, s, n, h1⟩ := h.bag
  exact (List.getElem?_eq_some_iff.mp h1).1
theorem bagL_bd {c i m : Nat} {x s n : Int} (h : c < m) : bds m (bagL c i x s n) = true := by simp [bagL, h]
theorem Bag.set {b c i : Nat} {x s n : Int} (h : Bag b c S) : Bag b c (S.set b (.lst (bagL c i x s n))) where
  w := wf_set h.w (bagL_bd h.cl)
  cells := by
    obtain ⟨ns, h1⟩ := h.cells
    exact ⟨ns, by rw [List.getElem?_set_ne h.ne]; exact h1⟩
  bag := ⟨i, x, s, n, by rw [List.getElem?_set_self h.bl]⟩
theorem df__law_pick : md.P.defs "_law_pick" = some ⟨2, 5, b__law_pick⟩ := by rfl
theorem mod_ok {i j : Int} (h : 0 < j) : binD .mod (.int i) (.int j) S = .ok (.int (i % j)) S := by simp only [binD, h, if_true]
theorem fdiv_ok {i j : Int} (h : 0 < j) (h2 : j < 1073741824) : binD .fdiv (.int i) (.int j) S = .ok (.int (i / j)) S := by simp only [binD, h, h2, and_self, if_true]
theorem mul_ok {i j : Int} (h1 : -(2 ^ 64) < j) (h2 : j < 2 ^ 64) : binD .mul (.int i) (.int j) S = .ok (.int (i * j)) S := by
  have : mulOk i j = true := by
    unfold mulOk
    simp only [Bool.or_eq_true, decide_eq_true_eq]
    exact .inl (.inr ⟨h1, h2⟩)
  simp only [binD, this, if_true]
theorem mul_ok' {i j : Int} (h1 : -(2 ^ 64) < i) (h2 : i < 2 ^ 64) : binD .mul (.int i) (.int j) S = .ok (.int (i * j)) S := by
  have : mulOk i j = true := by
    unfold mulOk
    simp only [Bool.or_eq_true, decide_eq_true_eq]
    exact .inl (.inl ⟨h1, h2⟩)
  simp only [binD, this, if_true]
section
variable {b c i : Nat} {x s n : Int} {d : D}
theorem bg0 (h : S[b]? = some (.lst (bagL c i x s n))) : subD (.loc b) (.int 0) S = .ok (.loc c) S := by rw [sub_loc h]; rfl
theorem bg1 (h : S[b]? = some (.lst (bagL c i x s n))) : subD (.loc b) (.int 1) S = .ok (.int i) S := by rw [sub_loc h]; rfl
theorem bg2 (h : S[b]? = some (.lst (bagL c i x s n))) : subD (.loc b) (.int 2) S = .ok (.int x) S := by rw [sub_loc h]; rfl
theorem bg3 (h : S[b]? = some (.lst (bagL c i x s n))) : subD (.loc b) (.int 3) S = .ok (.int s) S := by rw [sub_loc h]; rfl
theorem bg4 (h : S[b]? = some (.lst (bagL c i x s n))) : subD (.loc b) (.int 4) S = .ok (.int n) S := by rw [sub_loc h]; rfl
theorem bp1 (h : S[b]? = some (.lst (bagL c i x s n))) : stoD (.loc b) (.int 1) (.int (i + 1)) S = .ok () (S.set b (.lst (bagL c (i + 1) x s n))) := by
  rw [show (1 : Int) = ((1 : Nat) : Int) from rfl, sto_loc h (by simp [bagL])]; rfl
theorem bp2 {y : Int} (h : S[b]? = some (.lst (bagL c i x s n))) : stoD (.loc b) (.int 2) (.int y) S = .ok () (S.set b (.lst (bagL c i y s n))) := by
  rw [show (2 : Int) = ((2 : Nat) : Int) from rfl, sto_loc h (by simp [bagL])]; rfl
theorem bp3 {y : Int} (h : S[b]? = some (.lst (bagL c i x s n))) : stoD (.loc b) (.int 3) (.int y) S = .ok () (S.set b (.lst (bagL c i x y n))) := by
  rw [show (3 : Int) = ((3 : Nat) : Int) from rfl, sto_loc h (by simp [bagL])]; rfl
theorem bp4 {y : Int} (h : S[b]? = some (.lst (bagL c i x s n))) : stoD (.loc b) (.int 4) (.int y) S = .ok () (S.set b (.lst (bagL c i x s y))) := by
  rw [show (4 : Int) = ((4 : Nat) : Int) from rfl, sto_loc h (by simp [bagL])]; rfl
theorem bs (hb : b < S.length) (l : List D) : (S.set b (.lst l))[b]? = some (.lst l) := List.getElem?_set_self hb
end
/-- the first statement of _law_pick: the next cell is taken up -/
def pickA : ST := match b__law_pick with
  | .cons a _ => a
  | .nil => .pass
def pickB : SS := match b__law_pick with
  | .cons _ r => r
  | .nil => .nil
theorem pick_eq : b__law_pick = .cons pickA pickB := rfl
theorem pickA_ok {b c : Nat} (h : Bag b c S) (w : Int) : ∃ cl i x s n, evS (cxK md.P k) pickA [some (.loc b), some (.int w), none, none, none] S = .nx [some (.loc b), some (.int w), cl, none, none] (S.set b (.lst (bagL c i x s n))) := by
  obtain ⟨ns, hc⟩ := h.cells
  obtain ⟨i, x, s, n, hb⟩ := h.bag
  have hl := h.bl
  have lc : bltD .len [.loc c] S = .ok (.int ns.length) S := by rw [len_loc hc]; simp
  have same : S.set b (.lst (bagL c i x s n)) = S := by
    obtain ⟨h1, h2⟩ := List.getElem?_eq_some_iff.mp hb
    rw [← h2, List.set_getElem_self]
  by_cases hx : x = 0
  · by_cases hi : i < ns.length
    · have sc : subD (.loc c) (.int i) S = .ok (.int ns[i]) S := by
        rw [sub_loc hc, atI_nat (by simpa using hi)]
        simp [hi]
      subst hx
      have m1 : ∀ S, binD .mul (.int s) (.int 69621) S = .ok (.int (s * 69621)) S := fun S => mul_ok (by decide) (by decide)
      have m2 : ∀ S, binD .mul (.int ns[i]) (.int 40692) S = .ok (.int (ns[i] * 40692)) S := fun S => mul_ok (by decide) (by decide)
      have mo : ∀ y S, binD .mod (.int y) (.int 2147483629) S = .ok (.int (y % 2147483629)) S := fun y S => mod_ok (by decide)
      have pw : ∀ S, binD .pow (.int 10) (.int 18) S = .ok (.int 1000000000000000000) S := fun S => by kernel_rfl
      by_cases h18 : (1000000000000000000 : Int) ≤ ns[i]
      · refine ⟨some (.int ns[i]), i + 1, ns[i], (s * 69621 + ns[i] * 40692 + 37) % 2147483629, n, ?_⟩
        simp [pickA, b__law_pick, startE, setR, parR, parE, asgT, asgTs, asgsR, bindT, bindTs, wipeE, bg2 hb, bg0 hb, bg1 hb, lc, hi, sc, h18, bp1 hb, bg3 (bs hl _), bg1 (bs hl _), bp3 (bs hl _), bp2 (bs hl _), m1, m2, mo, pw]
      · refine ⟨some (.int ns[i]), i + 1, 0, (s * 69621 + ns[i] * 40692 + 37) % 2147483629, n, ?_⟩
        simp [pickA, b__law_pick, startE, setR, parR, parE, asgT, asgTs, asgsR, bindT, bindTs, wipeE, bg2 hb, bg0 hb, bg1 hb, lc, hi, sc, h18, bp1 hb, bg3 (bs hl _), bg1 (bs hl _), bp3 (bs hl _), bp2 (bs hl _), m1, m2, mo, pw]
    · refine ⟨none, i, x, s, n, ?_⟩
      rw [same]
      simp [pickA, b__law_pick, startE, setR, parR, parE, asgT, asgTs, asgsR, bindT, bindTs, wipeE, bg2 hb, bg0 hb, bg1 hb, hx, lc, hi]
  · refine ⟨none, i, x, s, n, ?_⟩
    rw [same]
    simp [pickA, b__law_pick, startE, setR, parR, parE, asgT, asgTs, asgsR, bindT, bindTs, wipeE, bg2 hb, hx]
def pickC (s n : Int) : Int := (s + 7919 * (n + 1)) * 48271 % 2147483647
def pickE (c : Int) : Int := c * (c / 1009 + 69621) % 2147483647
def pickG (c : Int) : Int := c * (c / 2003 + 40014) % 2147483563
def pickY (s n : Int) : Int := pickG (pickE (pickC s n)) / 16
theorem pickB_ok {b c : Nat} (h : Bag b c S) {w : Int} (hw : 0 < w) (hw2 : w < 1000) (cl : Option D) : ∃ d, 0 ≤ d ∧ d < w ∧ ∃ i x s n, evSs (cxK md.P k) pickB [some (.loc b), some (.int w), cl, none, none] S = .rt (.int d) (S.set b (.lst (bagL c i x s n))) := by
  obtain ⟨i, x, s, n, hb⟩ := h.bag
  have hl := h.bl
  have mw : ∀ y S, binD .mod (.int y) (.int w) S = .ok (.int (y % w)) S := fun y S => mod_ok hw
  by_cases hx : 0 < x
  · have fw : ∀ S, binD .fdiv (.int x) (.int w) S = .ok (.int (x / w)) S := fun S => fdiv_ok hw (by omega)
    refine ⟨x % w, Int.emod_nonneg _ (by omega), Int.emod_lt_of_pos _ hw, i, x / w, s, n, ?_⟩
    simp [pickB, b__law_pick, startE, setR, parR, parE, asgT, asgTs, asgsR, bindT, bindTs, wipeE, bg2 hb, hx, mw, fw, bp2 hb]
  · have ma : ∀ S, binD .mul (.int 7919) (.int (n + 1)) S = .ok (.int (7919 * (n + 1))) S := fun S => mul_ok' (by decide) (by decide)
    have mb : ∀ y S, binD .mul (.int y) (.int 48271) S = .ok (.int (y * 48271)) S := fun y S => mul_ok (by decide) (by decide)
    have m7 : ∀ y S, binD .mod (.int y) (.int 2147483647) S = .ok (.int (y % 2147483647)) S := fun y S => mod_ok (by decide)
    have m3 : ∀ y S, binD .mod (.int y) (.int 2147483563) S = .ok (.int (y % 2147483563)) S := fun y S => mod_ok (by decide)
    have f1 : ∀ y S, binD .fdiv (.int y) (.int 1009) S = .ok (.int (y / 1009)) S := fun y S => fdiv_ok (by decide) (by decide)
    have f2 : ∀ y S, binD .fdiv (.int y) (.int 2003) S = .ok (.int (y / 2003)) S := fun y S => fdiv_ok (by decide) (by decide)
    have f3 : ∀ y S, binD .fdiv (.int y) (.int 16) S = .ok (.int (y / 16)) S := fun y S => fdiv_ok (by decide) (by decide)
    have mc : ∀ y z S, binD .mul (.int (y % 2147483647)) (.int z) S = .ok (.int (y % 2147483647 * z)) S := fun y z S => mul_ok' (by omega) (by omega)
    refine ⟨pickY s n % w, Int.emod_nonneg _ (by omega), Int.emod_lt_of_pos _ hw, i, x, s, n + 1, ?_⟩
    simp [pickB, b__law_pick, startE, setR, parR, parE, asgT, asgTs, asgsR, bindT, bindTs, wipeE, bg2 hb, hx, mw, bg4 hb, bp4 hb, bg3 (bs hl _), bg4 (bs hl _), ma, mb, m7, m3, f1, f2, f3, mc, pickY, pickG, pickE, pickC]
theorem pick_ok {b c : Nat} (h : Bag b c S) {w : Int} (hw : 0 < w) (hw2 : w < 1000) : ∃ d, 0 ≤ d ∧ d < w ∧ ∃ i x s n, (cxK md.P (k + 1)).call "_law_pick" [.loc b, .int w] S = .ok (.int d) (S.set b (.lst (bagL c i x s n))) := by
  obtain ⟨cl, i, x, s, n, h1⟩ := pickA_ok (k := k) h w
  obtain ⟨d, d0, d1, i2, x2, s2, n2, h2⟩ := pickB_ok (k := k) (h.set (i := i) (x := x) (s := s) (n := n)) hw hw2 cl
  refine ⟨d, d0, d1, i2, x2, s2, n2, ?_⟩
  rw [call_eq df__law_pick]
  refine run_rtW rfl List.length_set (wf_set h.w (bagL_bd h.cl)) rfl ?_
  simp only [pick_eq, evSs, startE, List.map_cons, List.map_nil, List.length_cons, List.length_nil, List.replicate, List.append, List.cons_append, List.nil_append] at h1 h2 ⊢
  simp only [h1, Out.then_nx, h2, List.set_set]
end
end K89
end

section
set_option Elab.async false
set_option linter.all false
set_option maxRecDepth 100000
set_option maxHeartbeats 1000000
set_option autoImplicit false
namespace K89
open PySem Ev
section
variable {k : Nat} {S : Store}
theorem df__law_some : md.P.defs "_law_some" = some ⟨2, 2, b__law_some⟩ := by rfl
theorem df__law_item : md.P.defs "_law_item" = some ⟨1, 1, b__law_item⟩ := by rfl
theorem df__law_row : md.P.defs "_law_row" = some ⟨2, 3, b__law_row⟩ := by rfl
theorem df__law_near : md.P.defs "_law_near" = some ⟨2, 5, b__law_near⟩ := by rfl
def things : List It := [.i2, .i3, .i2, .i3, .dup, .add, .dup, .quo, .put]
theorem some_ok {b c t : Nat} (h : Bag b c S) (ht : S[t]? = some (.lst (things.map It.d))) : ∃ y : It, ∃ i x s n, (cxK md.P (k + 2)).call "_law_some" [.loc b, .loc t] S = .ok y.d (S.set b (.lst (bagL c i x s n))) := by
  have lt : bltD .len [.loc t] S = .ok (.int 9) S := by rw [len_loc ht]; rfl
  obtain ⟨d, d0, d1, i, x, s, n, hp⟩ := pick_ok (k := k) h (w := 9) (by decide) (by decide)
  obtain ⟨m, rfl⟩ : ∃ m : Nat, d = m := ⟨d.toNat, by omega⟩
  have hm : m < things.length := by simp [things]; omega
  have ne : b ≠ t := by
    intro e
    obtain ⟨i, x, s, n, hb⟩ := h.bag
    rw [e, ht] at hb
    simp [things, bagL, It.d] at hb
  have ht' : (S.set b (.lst (bagL c i x s n)))[t]? = some (.lst (things.map It.d)) := by rw [List.getElem?_set_ne ne]; exact ht
  have sb : subD (.loc t) (.int m) (S.set b (.lst (bagL c i x s n))) = .ok (things[m].d) (S.set b (.lst (bagL c i x s n))) := by
    rw [sub_loc ht', atI_nat (by simpa using hm)]
    simp [hm]
  refine ⟨things[m], i, x, s, n, ?_⟩
  rw [call_eq df__law_some]
  refine run_rtW rfl List.length_set (wf_set h.w (bagL_bd h.cl)) (It.bd _ _) ?_
  simp [b__law_some, startE, setR, parR, parE, asgT, asgTs, asgsR, bindT, bindTs, wipeE, lt, hp, sb, df__law_pick]
theorem item_ok {b c : Nat} (h : Bag b c S) : ∃ y : It, ∃ i x s n, (cxK md.P (k + 3)).call "_law_item" [.loc b] S = .ok y.d (S.set b (.lst (bagL c i x s n))) := by
  have h' : Bag b c (S ++ [.lst (things.map It.d)]) := by
    refine ⟨wf_add h.w (bds_its _ _), ?_, ?_⟩
    · obtain ⟨ns, e⟩ := h.cells
      exact ⟨ns, by rw [List.getElem?_append_left h.cl]; exact e⟩
    · obtain ⟨i, x, s, n, e⟩ := h.bag
      exact ⟨i, x, s, n, by rw [List.getElem?_append_left h.bl]; exact e⟩
  obtain ⟨y, i, x, s, n, hs⟩ := some_ok (k := k) h' (t := S.length) (by simp)
  refine ⟨y, i, x, s, n, ?_⟩
  rw [call_eq df__law_item]
  have ta : (List.take S.length ((S ++ [Ob.lst (things.map It.d)]).set b (.lst (bagL c i x s n)))) = S.set b (.lst (bagL c i x s n)) := by
    rw [List.set_append_left _ _ h.bl]
    have : S.length = (S.set b (.lst (bagL c i x s n))).length := List.length_set.symm
    rw [this, List.take_left]
  have w2 := wf_set h.w (l := b) (o := .lst (bagL c i x s n)) (bagL_bd h.cl)
  unfold wf at w2
  rw [List.length_set] at w2
  refine run_low rfl w2 (It.bd _ _) ta ?_
  have e1 : things.map It.d = [.int 2, .int 3, .int 2, .int 3, .str "dup", .str "add", .str "dup", .tup [.str "quote", .tup [.int 4]], .tup [.str "put", .int 5]] := rfl
  rw [e1] at hs ⊢
  simp [b__law_item, startE, setR, parR, parE, asgT, asgTs, asgsR, bindT, bindTs, wipeE, hs, df__law_some, disR, LIM]
theorem Bag.same {b c : Nat} (h : Bag b c S) : ∃ i x s n, S.set b (.lst (bagL c i x s n)) = S := by
  obtain ⟨i, x, s, n, hb⟩ := h.bag
  refine ⟨i, x, s, n, ?_⟩
  obtain ⟨h1, h2⟩ := List.getElem?_eq_some_iff.mp hb
  rw [← h2, List.set_getElem_self]
theorem row_turns {b c : Nat} {z : D} : ∀ (ds : List D) (l : List It) (St : Store), Bag b c St → l.length + ds.length ≤ 20 →
    ∃ l' i x s n, List.length l' = l.length + ds.length ∧ walkT (turnC (cxK md.P (k + 3)) [2] (.name 2) (fun _ S => .ok true S) (.call "_law_item" (.cons (.var 0) .nil)) [some (.loc b), some z, none]) ds (l.map It.d) St = .ok (l'.map It.d) (St.set b (.lst (bagL c i x s n)))
  | [], l, St, h, _ => by
    obtain ⟨i, x, s, n, e⟩ := h.same
    exact ⟨l, i, x, s, n, rfl, by rw [e]; rfl⟩
  | d :: ds, l, St, h, hl => by
    obtain ⟨y, i, x, s, n, e⟩ := item_ok (k := k) h
    have t : turnC (cxK md.P (k + 3)) [2] (.name 2) (fun _ S => .ok true S) (.call "_law_item" (.cons (.var 0) .nil)) [some (.loc b), some z, none] d (l.map It.d) St = .ok ((l ++ [y]).map It.d) (St.set b (.lst (bagL c i x s n))) := by
      have : l.length < LIM := by simp at hl; simp [LIM]; omega
      simp [turnC, startE, setR, parR, parE, asgT, asgTs, asgsR, bindT, bindTs, wipeE, df__law_item, e, this]
    obtain ⟨l', i2, x2, s2, n2, e1, e2⟩ := row_turns ds (l ++ [y]) _ (h.set (i := i) (x := x) (s := s) (n := n)) (by simp at hl ⊢; omega)
    refine ⟨l', i2, x2, s2, n2, by simp at e1 ⊢; omega, ?_⟩
    unfold walkT
    rw [t]
    rw [List.set_set] at e2
    exact e2
theorem row_ok {b c : Nat} (h : Bag b c S) : ∃ l : List It, l.length ≤ 9 ∧ ∃ i x s n, (cxK md.P (k + 4)).call "_law_row" [.loc b, .int 9] S = .ok (pr l) (S.set b (.lst (bagL c i x s n))) := by
  obtain ⟨d, d0, d1, i, x, s, n, hp⟩ := pick_ok (k := k + 2) h (w := 10) (by decide) (by decide)
  obtain ⟨m, rfl⟩ : ∃ m : Nat, d = m := ⟨d.toNat, by omega⟩
  have sm : small62 (m : Int) = true := small_nat0 (by omega)
  obtain ⟨l, i2, x2, s2, n2, e1, e2⟩ := row_turns (k := k) (z := .int 9) (rngL 0 1 m) [] _ (h.set (i := i) (x := x) (s := s) (n := n)) (by simp [rngL_len]; omega)
  rw [List.set_set] at e2
  refine ⟨l, by simp [rngL_len] at e1; omega, i2, x2, s2, n2, ?_⟩
  rw [call_eq df__law_row]
  refine run_rtW rfl List.length_set (wf_set h.w (bagL_bd h.cl)) (by simp [bds_its]) ?_
  have rg : ∀ St, rng1R (.int (m : Int)) St = .ok (.ds (rngL 0 1 m)) St := fun St => by rw [rng1R_int sm]; rfl
  simp only [List.map_nil] at e2
  simp [b__law_row, startE, setR, parR, parE, asgT, asgTs, asgsR, bindT, bindTs, wipeE, df__law_pick, hp, rg, walkI, e2, noExc]
end
end K89
end

section
set_option Elab.async false
set_option linter.all false
set_option maxRecDepth 100000
set_option maxHeartbeats 1000000
set_option autoImplicit false
namespace K89
open PySem Ev
section
variable {k : Nat} {S : Store}
/-! ### a program made of one -/
theorem set_same {n : Nat} {o : Ob} (h : S[n]? = some o) : S.set n o = S := by
  obtain ⟨h1, h2⟩ := List.getElem?_eq_some_iff.mp h
  rw [← h2, List.set_getElem_self]
theorem Bag.setn {b c n : Nat} {o : Ob} (h : Bag b c S) (hb : b ≠ n) (hc : c ≠ n) (ho : o.bd S.length = true) : Bag b c (S.set n o) where
  w := wf_set h.w ho
  cells := by
    obtain ⟨ns, e⟩ := h.cells
    exact ⟨ns, by rw [List.getElem?_set_ne (Ne.symm hc)]; exact e⟩
  bag := by
    obtain ⟨i, x, s, n, e⟩ := h.bag
    exact ⟨i, x, s, n, by rw [List.getElem?_set_ne (Ne.symm hb)]; exact e⟩
theorem near_turn {b c n : Nat} (h : Bag b c S) (hbn : b ≠ n) (hcn : c ≠ n) {f : List It} (hn : S[n]? = some (.lst (f.map It.d))) (hf : f.length < 500) (y : It) (z : D) (x3 x4 : Option D) :
    ∃ (f' : List It) (y4 : Option D) (i : Nat) (x s m : Int), f'.length ≤ f.length + 2 ∧ turnF (cxK md.P (k + 3)) (.name 3) l__law_near_0 y.d [some (.loc b), some z, some (.loc n), x3, x4] S = .nx [some (.loc b), some z, some (.loc n), some y.d, y4] ((S.set b (.lst (bagL c i x s m))).set n (.lst (f'.map It.d))) := by
  obtain ⟨d, d0, d1, i, x, s, m, hp⟩ := pick_ok (k := k + 2) h (w := 6) (by decide) (by decide)
  have hn1 : ∀ B, (S.set b B)[n]? = some (.lst (f.map It.d)) := fun B => by rw [List.getElem?_set_ne hbn]; exact hn
  have hl : f.length < LIM := by simp only [LIM]; omega
  have p1 := m_append (d := y.d) (hn1 (.lst (bagL c i x s m))) (by simpa using hl)
  have ka := kind_append (hn1 (.lst (bagL c i x s m)))
  have nl : n < S.length := (List.getElem?_eq_some_iff.mp hn).1
  by_cases e0 : d = 0
  · subst e0
    refine ⟨f, some (.int 0), i, x, s, m, by omega, ?_⟩
    rw [set_same (hn1 _)]
    simp [turnF, l__law_near_0, startE, setR, parR, parE, asgT, asgTs, asgsR, bindT, bindTs, wipeE, df__law_pick, hp]
  · by_cases e1 : d = 1
    · subst e1
      have hb2 : Bag b c ((S.set b (.lst (bagL c i x s m))).set n (.lst (f.map It.d ++ [y.d]))) := by
        refine Bag.setn h.set hbn hcn ?_
        rw [← List.map_singleton, ← List.map_append]
        exact bds_its _ _
      obtain ⟨y2, i2, x2, s2, m2, hi⟩ := item_ok (k := k) hb2
      have g1 : ((S.set b (.lst (bagL c i x s m))).set n (.lst (f.map It.d ++ [y.d])))[n]? = some (.lst (f.map It.d ++ [y.d])) := List.getElem?_set_self (by simpa using nl)
      have g2 : (((S.set b (.lst (bagL c i x s m))).set n (.lst (f.map It.d ++ [y.d]))).set b (.lst (bagL c i2 x2 s2 m2)))[n]? = some (.lst (f.map It.d ++ [y.d])) := by
        rw [List.getElem?_set_ne hbn]; exact g1
      have p2 := m_append (d := y2.d) g2 (by simp [LIM]; omega)
      have es : (((S.set b (.lst (bagL c i x s m))).set n (.lst (f.map It.d ++ [y.d]))).set b (.lst (bagL c i2 x2 s2 m2))).set n (.lst ((f.map It.d ++ [y.d]) ++ [y2.d])) = (S.set b (.lst (bagL c i2 x2 s2 m2))).set n (.lst ((f ++ [y, y2]).map It.d)) := by
        rw [List.set_comm _ _ (Ne.symm hbn), List.set_set, List.set_set]
        simp
      rw [es] at p2
      refine ⟨f ++ [y, y2], some (.int 1), i2, x2, s2, m2, by simp, ?_⟩
      have k2 := kind_append g1
      simp [turnF, l__law_near_0, startE, setR, parR, parE, asgT, asgTs, asgsR, bindT, bindTs, wipeE, df__law_pick, df__law_item, hp, ka, p1, k2, hi, p2]
    · refine ⟨f ++ [y], some (.int d), i, x, s, m, by simp, ?_⟩
      have d2 : 0 < d := by omega
      simp [turnF, l__law_near_0, startE, setR, parR, parE, asgT, asgTs, asgsR, bindT, bindTs, wipeE, df__law_pick, hp, ka, p1, d2, e1]
theorem near_walk {b c n : Nat} (hbn : b ≠ n) (hcn : c ≠ n) {z : D} : ∀ (l f : List It) (x3 x4 : Option D) (St : Store), Bag b c St → St[n]? = some (.lst (f.map It.d)) → f.length + 2 * l.length < 500 →
    ∃ (f' : List It) (y3 y4 : Option D) (i : Nat) (x s m : Int), f'.length ≤ f.length + 2 * l.length ∧ forT (turnF (cxK md.P (k + 3)) (.name 3) l__law_near_0) (l.map It.d) [some (.loc b), some z, some (.loc n), x3, x4] St = .nx [some (.loc b), some z, some (.loc n), y3, y4] ((St.set b (.lst (bagL c i x s m))).set n (.lst (f'.map It.d)))
  | [], f, x3, x4, St, h, hn, _ => by
    obtain ⟨i, x, s, m, e⟩ := h.same
    refine ⟨f, x3, x4, i, x, s, m, by omega, ?_⟩
    rw [e, set_same hn]
    rfl
  | y :: l, f, x3, x4, St, h, hn, hl => by
    have nl : n < St.length := (List.getElem?_eq_some_iff.mp hn).1
    simp only [List.length_cons] at hl
    obtain ⟨f1, y4, i, x, s, m, l1, t⟩ := near_turn (k := k) h hbn hcn hn (by omega) y z x3 x4
    obtain ⟨f2, z3, z4, i2, x2, s2, m2, l2, e⟩ := near_walk hbn hcn l f1 (some y.d) y4 _ (Bag.setn (h.set (i := i) (x := x) (s := s) (n := m)) hbn hcn (o := .lst (f1.map It.d)) (bds_its f1 _)) (List.getElem?_set_self (by simpa using nl)) (by omega)
    refine ⟨f2, z3, z4, i2, x2, s2, m2, by simp only [List.length_cons]; omega, ?_⟩
    rw [List.map_cons]
    unfold forT
    rw [t]
    rw [List.set_comm _ _ (Ne.symm hbn), List.set_set, List.set_set] at e
    exact e
theorem near_ok {b c : Nat} (h : Bag b c S) (l : List It) (hl : l.length ≤ 100) : ∃ m : List It, m.length ≤ 2 * l.length ∧ ∃ i x s n, (cxK md.P (k + 4)).call "_law_near" [.loc b, pr l] S = .ok (pr m) (S.set b (.lst (bagL c i x s n))) := by
  have hb := h.bl
  have hc := h.cl
  have h' : Bag b c (S ++ [.lst []]) := by
    refine ⟨wf_add h.w rfl, ?_, ?_⟩
    · obtain ⟨ns, e⟩ := h.cells
      exact ⟨ns, by rw [List.getElem?_append_left h.cl]; exact e⟩
    · obtain ⟨i, x, s, n, e⟩ := h.bag
      exact ⟨i, x, s, n, by rw [List.getElem?_append_left h.bl]; exact e⟩
  obtain ⟨f, y3, y4, i, x, s, n, lf, e⟩ := near_walk (k := k) (n := S.length) (b := b) (c := c) (by omega) (by omega) (z := pr l) l [] none none _ h' (by simp) (by simp; omega)
  refine ⟨f, by simpa using lf, i, x, s, n, ?_⟩
  rw [call_eq df__law_near]
  have es : ((S ++ [Ob.lst []]).set b (.lst (bagL c i x s n))).set S.length (.lst (f.map It.d)) = S.set b (.lst (bagL c i x s n)) ++ [.lst (f.map It.d)] := by
    rw [List.set_append_left _ _ hb, List.set_append_right _ _ (by simp)]
    simp
  rw [es] at e
  have ta : (S.set b (.lst (bagL c i x s n)) ++ [Ob.lst (f.map It.d)]).take S.length = S.set b (.lst (bagL c i x s n)) := by
    have : S.length = (S.set b (.lst (bagL c i x s n))).length := List.length_set.symm
    rw [this, List.take_left]
  have w2 := wf_set h.w (l := b) (o := .lst (bagL c i x s n)) (bagL_bd h.cl)
  unfold wf at w2
  rw [List.length_set] at w2
  refine run_low rfl w2 (by rw [bd_tup, bds_its]) ta ?_
  have tl := tuple_loc (S := S.set b (.lst (bagL c i x s n)) ++ [.lst (f.map It.d)]) (l := S.length) (ds := f.map It.d) (by rw [List.getElem?_append_right (by simp)]; simp)
  simp [b__law_near, startE, setR, parR, parE, asgT, asgTs, asgsR, bindT, bindTs, wipeE, e, tl]
/-! ### dicts of pairs -/
section
variable {κ : Type} [DecidableEq κ]
theorem kget_cons (p : κ × D) (kvs : List (κ × D)) (k' : κ) : kget (p :: kvs) k' = if p.1 = k' then some p.2 else kget kvs k' := by
  unfold kget
  by_cases h : p.1 = k' <;> simp [List.find?_cons, h]
theorem kget_app (kvs : List (κ × D)) (k : κ) (v : D) (k' : κ) (hk : kvs.any (fun kv => decide (kv.1 = k)) = false) : kget (kvs ++ [(k, v)]) k' = if k = k' then some v else kget kvs k' := by
  induction kvs with
  | nil => simp [kget_cons, kget]
  | cons p kvs ih =>
    simp only [List.any_cons, Bool.or_eq_false_iff, decide_eq_false_iff_not] at hk
    rw [List.cons_append, kget_cons, kget_cons, ih hk.2]
    by_cases h : p.1 = k'
    · have : ¬ k = k' := fun e => hk.1 (h.trans e.symm)
      simp [h, this]
    · simp [h]
theorem kget_map (kvs : List (κ × D)) (k : κ) (v : D) (k' : κ) : kget (kvs.map fun kv => if kv.1 = k then (kv.1, v) else kv) k' = if k = k' ∧ kvs.any (fun kv => decide (kv.1 = k)) = true then some v else kget kvs k' := by
  induction kvs with
  | nil => simp [kget]
  | cons p kvs ih =>
    rw [List.map_cons, kget_cons, kget_cons, ih]
    by_cases h : p.1 = k
    · subst h
      by_cases h2 : p.1 = k' <;> simp [h2]
    · by_cases h2 : p.1 = k'
      · have : ¬ k = k' := fun e => h (h2.trans e.symm)
        rw [if_neg h]
        simp [h2, this]
      · rw [if_neg h, if_neg h2, if_neg h2, List.any_cons, decide_eq_false h, Bool.false_or]
theorem kget_put (kvs : List (κ × D)) (k : κ) (v : D) (k' : κ) : kget (kput kvs k v) k' = if k = k' then some v else kget kvs k' := by
  unfold kput
  by_cases h : kvs.any (fun kv => decide (kv.1 = k)) = true
  · rw [if_pos h, kget_map, h]
    simp
  · rw [if_neg h, kget_app _ _ _ _ (Bool.eq_false_iff.mpr h)]
theorem kput_len (kvs : List (κ × D)) (k : κ) (v : D) : (kput kvs k v).length ≤ kvs.length + 1 := by
  unfold kput
  split <;> simp
theorem kput_mem {kvs : List (κ × D)} {k : κ} {v : D} {p : κ × D} (h : p ∈ kput kvs k v) : p ∈ kvs ∨ p.2 = v := by
  unfold kput at h
  split at h
  · obtain ⟨q, hq, rfl⟩ := List.mem_map.mp h
    split
    · exact .inr rfl
    · exact .inl hq
  · rcases List.mem_append.mp h with h | h
    · exact .inl h
    · simp at h
      exact .inr (by rw [h])
theorem putAll_get (z : D) (k : κ) : ∀ (b a : List (κ × D)), (∀ p ∈ b, p.2 = z) → kget (putAll a b) k = if b.any (fun p => decide (p.1 = k)) = true then some z else kget a k
  | [], a, _ => by simp [putAll]
  | p :: b, a, h => by
    show kget (putAll (kput a p.1 p.2) b) k = _
    rw [putAll_get z k b _ (fun q hq => h q (List.mem_cons_of_mem _ hq)), kget_put, h p List.mem_cons_self]
    by_cases e : p.1 = k <;> by_cases e2 : b.any (fun p => decide (p.1 = k)) = true <;> simp [e, e2]
theorem putAll_len : ∀ (b a : List (κ × D)), (putAll a b).length ≤ a.length + b.length
  | [], a => by simp [putAll]
  | p :: b, a => by
    show (putAll (kput a p.1 p.2) b).length ≤ _
    have := putAll_len b (kput a p.1 p.2)
    have := kput_len a p.1 p.2
    simp only [List.length_cons]
    omega
theorem putAll_mem {P : D → Prop} : ∀ (b a : List (κ × D)), (∀ p ∈ a, P p.2) → (∀ p ∈ b, P p.2) → ∀ p ∈ putAll a b, P p.2
  | [], a, ha, _ => ha
  | q :: b, a, ha, hb => by
    show ∀ p ∈ putAll (kput a q.1 q.2) b, P p.2
    refine putAll_mem b _ (fun p hp => ?_) fun p hp => hb p (List.mem_cons_of_mem _ hp)
    rcases kput_mem hp with hp | hp
    · exact ha p hp
    · rw [hp]; exact hb q List.mem_cons_self
theorem any_kget (kvs : List (κ × D)) (k : κ) : kvs.any (fun p => decide (p.1 = k)) = (kget kvs k).isSome := by
  induction kvs with
  | nil => rfl
  | cons p kvs ih =>
    rw [kget_cons, List.any_cons, ih]
    by_cases h : p.1 = k <;> simp [h]
end
end
end K89
end

section
set_option Elab.async false
set_option linter.all false
set_option maxRecDepth 100000
set_option maxHeartbeats 1000000
set_option autoImplicit false
namespace K89
open PySem Ev
section
variable {k : Nat} {S : Store}
/-! ### the law's own table -/
theorem rng2_up (p m : Nat) : rngL (p : Int) 1 m = (List.range' p m).map fun i => .int (i : Nat) := by
  induction m generalizing p with
  | zero => rfl
  | succ m ih =>
    rw [List.range'_succ]
    unfold rngL
    rw [show (p : Int) + 1 = ((p + 1 : Nat) : Int) from by omega, ih (p + 1)]
    rfl
theorem eqD_it (x y : It) : eqD S x.d y.d = some (decide (x = y)) := by
  cases x <;> cases y <;> first | rfl | kernel_rfl
abbrev kk (i j : Nat) : List Key := [.inl (i : Int), .inl (j : Int)]
theorem kk_inj {i j i' j' : Nat} : kk i j = kk i' j' ↔ (i = i' ∧ j = j') := by
  simp [kk]
  omega
structure KT (kvs : List (List Key × D)) (N : Nat) (f : Nat → Nat → Option Int) : Prop where
  get : ∀ i j, kget kvs (kk i j) = (f i j).map D.int
  len : kvs.length ≤ N
  nums : ∀ p ∈ kvs, ∃ i, p.2 = .int i
theorem KT.bd {kvs : List (List Key × D)} {N : Nat} {f : Nat → Nat → Option Int} (t : KT kvs N f) (n : Nat) : Ob.bd n (.dt kvs) = true := by
  refine List.all_eq_true.mpr fun p hp => ?_
  obtain ⟨i, e⟩ := t.nums p hp
  rw [e]; rfl
theorem keys2 (x y : Int) : keysOf [.int x, .int y] = some [.inl x, .inl y] := rfl
theorem KT.sub {kvs : List (List Key × D)} {N n : Nat} {f : Nat → Nat → Option Int} (t : KT kvs N f) (h : S[n]? = some (.dt kvs)) {i j : Nat} {x y v : Int} (hx : x = (i : Int)) (hy : y = (j : Int)) (hf : f i j = some v) : subD (.loc n) (.tup [.int x, .int y]) S = .ok (.int v) S := by
  subst hx; subst hy
  have g := t.get i j
  rw [hf] at g
  simp only [subD, h, obGet, keys2, Option.map_some, g]
theorem KT.sto {kvs : List (List Key × D)} {N n : Nat} {f : Nat → Nat → Option Int} (t : KT kvs N f) (h : S[n]? = some (.dt kvs)) (hN : N < LIM) (i j : Nat) (v : Int) :
    ∃ kvs', stoD (.loc n) (.tup [.int (i : Int), .int (j : Int)]) (.int v) S = .ok () (S.set n (.dt kvs')) ∧ KT kvs' (N + 1) (fun i' j' => if i' = i ∧ j' = j then some v else f i' j') := by
  have hl : kvs.length < LIM := by have := t.len; omega
  refine ⟨kput kvs (kk i j) (.int v), ?_, fun i' j' => ?_, ?_, fun p hp => ?_⟩
  · simp only [stoD, h, obPut, keys2, Option.bind_some, hl, if_true]
  · rw [kget_put, t.get]
    by_cases e : i = i' ∧ j = j'
    · rw [if_pos (kk_inj.mpr e), if_pos ⟨e.1.symm, e.2.symm⟩]; rfl
    · rw [if_neg fun q => e (kk_inj.mp q), if_neg fun q => e ⟨q.1.symm, q.2.symm⟩]
  · have := kput_len kvs (kk i j) (.int v)
    have := t.len
    omega
  · rcases kput_mem hp with hp | hp
    · exact t.nums p hp
    · exact ⟨v, hp⟩
theorem KT.congr {kvs : List (List Key × D)} {N M : Nat} {f g : Nat → Nat → Option Int} (t : KT kvs N f) (h : ∀ i j, f i j = g i j) (hN : N ≤ M) : KT kvs M g :=
  ⟨fun i j => by rw [t.get, h], Nat.le_trans t.len hN, t.nums⟩
/-- rows from p on are done, of the row ahead the columns from q on -/
def kf (X Y : List It) (p q i j : Nat) : Option Int := if i ≤ X.length ∧ j ≤ Y.length then if p ≤ i ∨ (i + 1 = p ∧ q ≤ j) ∨ j = Y.length then some (lcs (X.drop i) (Y.drop j) : Nat) else none else none
theorem kf_row {X Y : List It} {p : Nat} (i j : Nat) : kf X Y (p + 1) 0 i j = kf X Y p Y.length i j := by
  unfold kf
  by_cases h : i ≤ X.length ∧ j ≤ Y.length
  · rw [if_pos h, if_pos h]
    by_cases h2 : p ≤ i ∨ (i + 1 = p ∧ Y.length ≤ j) ∨ j = Y.length
    · rw [if_pos h2, if_pos (by omega)]
    · rw [if_neg h2, if_neg (by omega)]
  · rw [if_neg h, if_neg h]
abbrev kpEnv (X Y : List It) (n : Nat) (x3 x4 : Option D) : EnvD := [some (pr X), some (pr Y), some (.loc n), x3, x4]
theorem kp_cell {X Y : List It} {n N a b : Nat} {kvs : List (List Key × D)} {x3 : Option D} (ha : a < X.length) (hb : b < Y.length) (t : KT kvs N (kf X Y (a + 1) (b + 1))) (h : S[n]? = some (.dt kvs)) (hN : N < LIM) :
    ∃ kvs', turnF (cxK md.P k) (.name 3) l__law_kept_0 (.int (b : Nat)) (kpEnv X Y n x3 (some (.int (a : Nat)))) S = .nx (kpEnv X Y n (some (.int (b : Nat))) (some (.int (a : Nat)))) (S.set n (.dt kvs')) ∧ KT kvs' (N + 1) (kf X Y (a + 1) b) := by
  have dX := List.drop_eq_getElem_cons ha
  have dY := List.drop_eq_getElem_cons hb
  have sx : L2.atI (X.map It.d) (a : Int) = some X[a].d := by rw [atI_nat (by simpa using ha)]; simp [ha]
  have sy : L2.atI (Y.map It.d) (b : Int) = some Y[b].d := by rw [atI_nat (by simpa using hb)]; simp [hb]
  have c11 := t.sub h (i := a + 1) (j := b + 1) (x := (a : Int) + 1) (y := (b : Int) + 1) (by omega) (by omega) (by unfold kf; rw [if_pos (by omega), if_pos (by omega)])
  have c10 := t.sub h (i := a + 1) (j := b) (x := (a : Int) + 1) (y := (b : Int)) (by omega) (by omega) (by unfold kf; rw [if_pos (by omega), if_pos (by omega)])
  have c01 := t.sub h (i := a) (j := b + 1) (x := (a : Int)) (y := (b : Int) + 1) (by omega) (by omega) (by unfold kf; rw [if_pos (by omega), if_pos (by omega)])
  have step : ∀ v : Nat, lcs (X.drop a) (Y.drop b) = v → ∀ i j, (if i = a ∧ j = b then some (v : Int) else kf X Y (a + 1) (b + 1) i j) = kf X Y (a + 1) b i j := by
    intro v hv i j
    by_cases e : i = a ∧ j = b
    · rw [if_pos e, e.1, e.2]
      unfold kf
      rw [if_pos (by omega), if_pos (by omega), hv]
    · rw [if_neg e]
      unfold kf
      by_cases h : i ≤ X.length ∧ j ≤ Y.length
      · rw [if_pos h, if_pos h]
        by_cases h2 : a + 1 ≤ i ∨ (i + 1 = a + 1 ∧ b + 1 ≤ j) ∨ j = Y.length
        · rw [if_pos h2, if_pos (by omega)]
        · rw [if_neg h2, if_neg (by omega)]
      · rw [if_neg h, if_neg h]
  have e1 := eqD_it (S := S) X[a] Y[b]
  by_cases e : X[a] = Y[b]
  · obtain ⟨kvs', p1, p2⟩ := t.sto h hN a b ((1 + lcs (X.drop (a + 1)) (Y.drop (b + 1)) : Nat) : Int)
    refine ⟨kvs', ?_, p2.congr (step _ ?_) (Nat.le_refl _)⟩
    · simp only [Int.natCast_add, Int.natCast_one] at p1
      have e2 : eqD S Y[b].d Y[b].d = some true := by rw [eqD_it]; simp
      rw [e] at sx
      simp [turnF, l__law_kept_0, startE, setR, parR, parE, asgT, asgTs, asgsR, bindT, bindTs, wipeE, kpEnv, sx, sy, e2, c11, p1]
    · rw [dX, dY, lcs, if_pos e]; omega
  · obtain ⟨kvs', p1, p2⟩ := t.sto h hN a b ((max (lcs (X.drop (a + 1)) (Y.drop b)) (lcs (X.drop a) (Y.drop (b + 1))) : Nat) : Int)
    refine ⟨kvs', ?_, p2.congr (step _ ?_) (Nat.le_refl _)⟩
    · have hm : (if (lcs (X.drop a) (Y.drop (b + 1)) : Nat) > (lcs (X.drop (a + 1)) (Y.drop b) : Nat) then ((lcs (X.drop a) (Y.drop (b + 1)) : Nat) : Int) else (lcs (X.drop (a + 1)) (Y.drop b) : Nat)) = max (lcs (X.drop (a + 1)) (Y.drop b) : Nat) (lcs (X.drop a) (Y.drop (b + 1)) : Nat) := by
        split <;> omega
      simp [turnF, l__law_kept_0, startE, setR, parR, parE, asgT, asgTs, asgsR, bindT, bindTs, wipeE, kpEnv, sx, sy, e1, e, c10, c01, hm, p1]
    · rw [dX, dY, lcs, if_neg e, ← dX, ← dY]
theorem kp_row {X Y : List It} {n a : Nat} (ha : a < X.length) : ∀ (m N : Nat) (kvs : List (List Key × D)) (x3 : Option D) (St : Store), m ≤ Y.length → KT kvs N (kf X Y (a + 1) m) → St[n]? = some (.dt kvs) → N + m < LIM →
    ∃ kvs' y3, forT (turnF (cxK md.P k) (.name 3) l__law_kept_0) (dn m) (kpEnv X Y n x3 (some (.int (a : Nat)))) St = .nx (kpEnv X Y n y3 (some (.int (a : Nat)))) (St.set n (.dt kvs')) ∧ KT kvs' (N + m) (kf X Y (a + 1) 0)
  | 0, N, kvs, x3, St, _, t, h, _ => ⟨kvs, x3, by rw [set_same h]; rfl, t⟩
  | m + 1, N, kvs, x3, St, hm, t, h, hN => by
    have nl : n < St.length := (List.getElem?_eq_some_iff.mp h).1
    obtain ⟨kvs1, e1, t1⟩ := kp_cell (k := k) (x3 := x3) ha (b := m) (by omega) t h (by omega)
    obtain ⟨kvs2, y3, e2, t2⟩ := kp_row ha m (N + 1) kvs1 (some (.int (m : Nat))) (St.set n (.dt kvs1)) (by omega) t1 (List.getElem?_set_self nl) (by omega)
    refine ⟨kvs2, y3, ?_, t2.congr (fun _ _ => rfl) (by omega)⟩
    unfold dn forT
    rw [e1]
    rw [List.set_set] at e2
    exact e2
theorem kp_rows {X Y : List It} {n : Nat} (hY : Y.length ≤ 100) : ∀ (m N : Nat) (kvs : List (List Key × D)) (x3 x4 : Option D) (St : Store), m ≤ X.length → KT kvs N (kf X Y m Y.length) → St[n]? = some (.dt kvs) → N + m * Y.length < LIM →
    ∃ kvs' y3 y4, forT (turnF (cxK md.P k) (.name 4) l__law_kept_1) (dn m) (kpEnv X Y n x3 x4) St = .nx (kpEnv X Y n y3 y4) (St.set n (.dt kvs')) ∧ KT kvs' (N + m * Y.length) (kf X Y 0 Y.length)
  | 0, N, kvs, x3, x4, St, _, t, h, _ => ⟨kvs, x3, x4, by rw [set_same h]; rfl, t.congr (fun _ _ => rfl) (by omega)⟩
  | m + 1, N, kvs, x3, x4, St, hm, t, h, hN => by
    have nl : n < St.length := (List.getElem?_eq_some_iff.mp h).1
    have em : (m + 1) * Y.length = m * Y.length + Y.length := Nat.succ_mul _ _
    obtain ⟨kvs1, y3, e1, t1⟩ := kp_row (k := k) (a := m) (by omega) Y.length N kvs x3 St (Nat.le_refl _) t h (by omega)
    obtain ⟨kvs2, z3, z4, e2, t2⟩ := kp_rows hY m (N + Y.length) kvs1 y3 (some (.int (m : Nat))) (St.set n (.dt kvs1)) (by omega) (t1.congr (fun i j => kf_row i j) (Nat.le_refl _)) (List.getElem?_set_self nl) (by omega)
    refine ⟨kvs2, z3, z4, ?_, t2.congr (fun _ _ => rfl) (by omega)⟩
    unfold dn forT
    have r3 := rng3R_int (S := St) (i := (Y.length : Int) - 1) (j := -1) (small_nat (by omega)) small_m1
    have ec : ((Y.length : Int) - 1 - -1).toNat = Y.length := by omega
    rw [ec, rngL_dn] at r3
    have tt : turnF (cxK md.P k) (.name 4) l__law_kept_1 (.int (m : Nat)) (kpEnv X Y n x3 x4) St = .nx (kpEnv X Y n y3 (some (.int (m : Nat)))) (St.set n (.dt kvs1)) := by
      simp only [kpEnv] at e1
      simp [turnF, l__law_kept_1, startE, setR, parR, parE, asgT, asgTs, asgsR, bindT, bindTs, wipeE, kpEnv, r3, e1]
    rw [tt]
    rw [List.set_set] at e2
    exact e2
theorem pairsT_map {α : Type} (g h : α → Int) : ∀ L : List α, pairsT (L.map fun t => .tup [.tup [.int (g t), .int (h t)], .int 0]) = some (L.map fun t => ([.inl (g t), .inl (h t)], .int 0))
  | [] => rfl
  | t :: L => by
    rw [List.map_cons, pairsT, keys2, pairsT_map g h L]
    rfl
theorem df__law_kept : md.P.defs "_law_kept" = some ⟨2, 5, b__law_kept⟩ := by rfl
/-- both borders of the table -/
theorem KT_start (X Y : List It) : KT (putAll (putAll [] ((List.range (Y.length + 1)).map fun t => ([.inl (X.length : Int), .inl ((t : Nat) : Int)], .int 0))) (putAll [] ((List.range (X.length + 1)).map fun t => ([.inl ((t : Nat) : Int), .inl (Y.length : Int)], .int 0)))) (X.length + Y.length + 2) (kf X Y X.length Y.length) := by
  have z1 : ∀ p ∈ (List.range (Y.length + 1)).map (fun t => (([.inl (X.length : Int), .inl ((t : Nat) : Int)] : List Key), D.int 0)), p.2 = .int 0 := by
    intro p hp
    obtain ⟨t, _, rfl⟩ := List.mem_map.mp hp
    rfl
  have z2 : ∀ p ∈ (List.range (X.length + 1)).map (fun t => (([.inl ((t : Nat) : Int), .inl (Y.length : Int)] : List Key), D.int 0)), p.2 = .int 0 := by
    intro p hp
    obtain ⟨t, _, rfl⟩ := List.mem_map.mp hp
    rfl
  have z3 := putAll_mem (P := fun d => d = .int 0) _ [] (fun p hp => nomatch hp) z2
  refine ⟨fun i j => ?_, ?_, fun p hp => ⟨0, putAll_mem (P := fun d => d = .int 0) _ _ (putAll_mem (P := fun d => d = .int 0) _ [] (fun p hp => nomatch hp) z1) z3 p hp⟩⟩
  · rw [putAll_get (.int 0) _ _ _ z3, any_kget, putAll_get (.int 0) _ _ _ z2, putAll_get (.int 0) _ _ _ z1]
    have a1 : ((List.range (X.length + 1)).map fun t => (([.inl ((t : Nat) : Int), .inl (Y.length : Int)] : List Key), D.int 0)).any (fun p => decide (p.1 = kk i j)) = decide (i ≤ X.length ∧ j = Y.length) := by
      rw [Bool.eq_iff_iff]
      simp only [List.any_map, List.any_eq_true, List.mem_range, Function.comp, decide_eq_true_eq]
      constructor
      · rintro ⟨t, ht, e⟩
        simp at e
        omega
      · rintro ⟨h1, h2⟩
        exact ⟨i, by omega, by simp [h2]⟩
    have a2 : ((List.range (Y.length + 1)).map fun t => (([.inl (X.length : Int), .inl ((t : Nat) : Int)] : List Key), D.int 0)).any (fun p => decide (p.1 = kk i j)) = decide (i = X.length ∧ j ≤ Y.length) := by
      rw [Bool.eq_iff_iff]
      simp only [List.any_map, List.any_eq_true, List.mem_range, Function.comp, decide_eq_true_eq]
      constructor
      · rintro ⟨t, ht, e⟩
        simp at e
        omega
      · rintro ⟨h1, h2⟩
        exact ⟨j, by omega, by simp [h1]⟩
    rw [a1, a2]
    by_cases h1 : i ≤ X.length ∧ j = Y.length
    · have kv : kf X Y X.length Y.length i j = some 0 := by
        unfold kf
        rw [if_pos (by omega), if_pos (by omega), h1.2, List.drop_length, lcs_nil]
        rfl
      rw [kv]
      simp [h1.1, h1.2, kget]
    · by_cases h2 : i = X.length ∧ j ≤ Y.length
      · have kv : kf X Y X.length Y.length i j = some 0 := by
          unfold kf
          rw [if_pos (by omega), if_pos (by omega), h2.1, List.drop_length]
          simp [lcs]
        rw [kv]
        simp [h2.1, h2.2, kget]
      · have kv : kf X Y X.length Y.length i j = none := by
          unfold kf
          by_cases h3 : i ≤ X.length ∧ j ≤ Y.length
          · rw [if_pos h3, if_neg (by omega)]
          · rw [if_neg h3]
        rw [kv, decide_eq_false h1, decide_eq_false h2]
        rfl
  · have l1 := putAll_len (putAll [] ((List.range (X.length + 1)).map fun t => (([.inl ((t : Nat) : Int), .inl (Y.length : Int)] : List Key), D.int 0))) (putAll [] ((List.range (Y.length + 1)).map fun t => (([.inl (X.length : Int), .inl ((t : Nat) : Int)] : List Key), D.int 0)))
    have l2 := putAll_len ((List.range (X.length + 1)).map fun t => (([.inl ((t : Nat) : Int), .inl (Y.length : Int)] : List Key), D.int 0)) []
    have l3 := putAll_len ((List.range (Y.length + 1)).map fun t => (([.inl (X.length : Int), .inl ((t : Nat) : Int)] : List Key), D.int 0)) []
    simp only [List.length_map, List.length_range, List.length_nil] at l2 l3
    omega
theorem kept_ok (X Y : List It) (hS : wf S) (hX : X.length ≤ 100) (hY : Y.length ≤ 100) : ∃ kvs, (cxK md.P (k + 1)).call "_law_kept" [pr X, pr Y] S = .ok (.loc S.length) (S ++ [.dt kvs]) ∧ KT kvs 20000 (kf X Y 0 Y.length) := by
  have K0 := KT_start X Y
  generalize hL1 : putAll [] ((List.range (Y.length + 1)).map fun t => (([.inl (X.length : Int), .inl ((t : Nat) : Int)] : List Key), D.int 0)) = L1 at K0
  generalize hL2 : putAll [] ((List.range (X.length + 1)).map fun t => (([.inl ((t : Nat) : Int), .inl (Y.length : Int)] : List Key), D.int 0)) = L2 at K0
  have n1 : L1.length ≤ Y.length + 1 := by
    have := putAll_len ((List.range (Y.length + 1)).map fun t => (([.inl (X.length : Int), .inl ((t : Nat) : Int)] : List Key), D.int 0)) []
    rw [hL1] at this
    simpa using this
  have n2 : L2.length ≤ X.length + 1 := by
    have := putAll_len ((List.range (X.length + 1)).map fun t => (([.inl ((t : Nat) : Int), .inl (Y.length : Int)] : List Key), D.int 0)) []
    rw [hL2] at this
    simpa using this
  have ne1 : L1.isEmpty = false := by
    have z1 : ∀ p ∈ (List.range (Y.length + 1)).map (fun t => (([.inl (X.length : Int), .inl ((t : Nat) : Int)] : List Key), D.int 0)), p.2 = .int 0 := by
      intro p hp
      obtain ⟨t, _, rfl⟩ := List.mem_map.mp hp
      rfl
    have := putAll_get (.int 0) (kk X.length 0) _ [] z1
    rw [hL1, if_pos (by simp only [List.any_map, List.any_eq_true, List.mem_range, Function.comp, decide_eq_true_eq]; exact ⟨0, by omega, rfl⟩)] at this
    cases L1 with
    | nil => simp [kget] at this
    | cons => rfl
  obtain ⟨kvs, y3, y4, e, t⟩ := kp_rows (k := k) (n := S.length) hY X.length (X.length + Y.length + 2) _ none none (S ++ [.dt (putAll L1 L2), .dt L2]) (Nat.le_refl _) K0 (by simp) (by
    have : X.length * Y.length ≤ 100 * 100 := Nat.mul_le_mul hX hY
    simp only [LIM]; omega)
  have es : (S ++ [Ob.dt (putAll L1 L2), .dt L2]).set S.length (.dt kvs) = S ++ [.dt kvs, .dt L2] := by
    rw [List.set_append_right _ _ (Nat.le_refl _)]; simp
  rw [es] at e
  refine ⟨kvs, ?_, t.congr (fun _ _ => rfl) (by
    have : X.length * Y.length ≤ 100 * 100 := Nat.mul_le_mul hX hY
    omega)⟩
  rw [call_eq df__law_kept]
  refine run_new (S' := S ++ [.dt kvs, .dt L2]) (l := S.length) rfl hS (by simp) (Nat.le_refl _) (by simp) (t.bd _) ?_
  have r1 : ∀ (m : Nat) (St : Store), m ≤ 900 → rng1R (.int ((m : Int) + 1)) St = .ok (.ds ((List.range (m + 1)).map fun t => .int (t : Nat))) St := fun m St hm => by
    rw [rng1_nat hm]
    have := rng2_up 0 (m + 1)
    rw [List.range_eq_range', ← this]
    rfl
  have w1 : ∀ St, walkT (turnC (cxK md.P k) [3] (.name 3) (fun _ S => .ok true S) (.tup (.cons (.tup (.cons (.blt .len (.cons (.var 0) .nil)) (.cons (.var 3) .nil))) (.cons (.int 0) .nil))) [some (pr X), some (pr Y), none, none, none]) ((List.range (Y.length + 1)).map fun t => .int (t : Nat)) [] St = .ok ((List.range (Y.length + 1)).map fun t => .tup [.tup [.int (X.length : Int), .int (t : Nat)], .int 0]) St := fun St => by
    have q := walkT_map (f := turnC (cxK md.P k) [3] (.name 3) (fun _ S => .ok true S) (.tup (.cons (.tup (.cons (.blt .len (.cons (.var 0) .nil)) (.cons (.var 3) .nil))) (.cons (.int 0) .nil))) [some (pr X), some (pr Y), none, none, none]) (g := fun d => .tup [.tup [.int (X.length : Int), d], .int 0]) (S := St) (ds := (List.range (Y.length + 1)).map fun t => .int (t : Nat)) (acc := []) (fun d hd acc ha => by simp [turnC, startE, setR, parR, parE, asgT, asgTs, asgsR, bindT, bindTs, wipeE, ha]) (by simp [LIM]; omega)
    rw [q]
    simp
  have w2 : ∀ St x, walkT (turnC (cxK md.P k) [4] (.name 4) (fun _ S => .ok true S) (.tup (.cons (.tup (.cons (.var 4) (.cons (.blt .len (.cons (.var 1) .nil)) .nil))) (.cons (.int 0) .nil))) [some (pr X), some (pr Y), x, none, none]) ((List.range (X.length + 1)).map fun t => .int (t : Nat)) [] St = .ok ((List.range (X.length + 1)).map fun t => .tup [.tup [.int (t : Nat), .int (Y.length : Int)], .int 0]) St := fun St x => by
    have q := walkT_map (f := turnC (cxK md.P k) [4] (.name 4) (fun _ S => .ok true S) (.tup (.cons (.tup (.cons (.var 4) (.cons (.blt .len (.cons (.var 1) .nil)) .nil))) (.cons (.int 0) .nil))) [some (pr X), some (pr Y), x, none, none]) (g := fun d => .tup [.tup [d, .int (Y.length : Int)], .int 0]) (S := St) (ds := (List.range (X.length + 1)).map fun t => .int (t : Nat)) (acc := []) (fun d hd acc ha => by simp [turnC, startE, setR, parR, parE, asgT, asgTs, asgsR, bindT, bindTs, wipeE, ha]) (by simp [LIM]; omega)
    rw [q]
    simp
  have d1 : ∀ St, bllD .dict ((List.range (Y.length + 1)).map fun t => .tup [.tup [.int (X.length : Int), .int (t : Nat)], .int 0]) St = .ok (.loc St.length) (St ++ [.dt L1]) := fun St => by
    have q := pairsT_map (fun _ : Nat => (X.length : Int)) (fun t => (t : Int)) (List.range (Y.length + 1))
    have c : ((List.range (Y.length + 1)).map fun t => (([.inl (X.length : Int), .inl ((t : Nat) : Int)] : List Key), D.int 0)).length ≤ LIM := by simp [LIM]; omega
    simp only [bllD, q]
    rw [if_pos c, hL1]
    rfl
  have d2 : ∀ St, bllD .dict ((List.range (X.length + 1)).map fun t => .tup [.tup [.int (t : Nat), .int (Y.length : Int)], .int 0]) St = .ok (.loc St.length) (St ++ [.dt L2]) := fun St => by
    have q := pairsT_map (fun t : Nat => (t : Int)) (fun _ : Nat => (Y.length : Int)) (List.range (X.length + 1))
    have c : ((List.range (X.length + 1)).map fun t => (([.inl ((t : Nat) : Int), .inl (Y.length : Int)] : List Key), D.int 0)).length ≤ LIM := by simp [LIM]; omega
    simp only [bllD, q]
    rw [if_pos c, hL2]
    rfl
  have ku : kindOk .update (.loc S.length) (S ++ [.dt L1]) = true := by simp [kindOk]
  have up : methD (.loc S.length) .update [.loc (S.length + 1)] (S ++ [.dt L1, .dt L2]) = .ok .non (S ++ [.dt (putAll L1 L2), .dt L2]) := by
    have g1 : (S ++ [Ob.dt L1, .dt L2])[S.length]? = some (.dt L1) := by simp
    have g2 : (S ++ [Ob.dt L1, .dt L2])[S.length + 1]? = some (.dt L2) := by rw [List.getElem?_append_right (by omega)]; simp
    have c : S.length ≠ S.length + 1 ∧ (!L1.isEmpty) = true ∧ L1.length + L2.length ≤ LIM := ⟨by omega, by rw [ne1]; rfl, by simp only [LIM]; omega⟩
    simp only [methD, g1, g2]
    rw [if_pos c, List.set_append_right _ _ (Nat.le_refl _)]
    simp
  have r3 := rng3R_int (S := S ++ [.dt (putAll L1 L2), .dt L2]) (i := (X.length : Int) - 1) (j := -1) (small_nat (by omega)) small_m1
  have ec : ((X.length : Int) - 1 - -1).toNat = X.length := by omega
  rw [ec, rngL_dn] at r3
  simp only [kpEnv] at e
  simp [-evIt_rng1, b__law_kept, startE, setR, parR, parE, asgT, asgTs, asgsR, bindT, bindTs, wipeE, evIt_rng1, r1 _ _ (show Y.length ≤ 900 by omega), r1 _ _ (show X.length ≤ 900 by omega), w1, w2, d1, d2, ku, up, r3, e]
end
end K89
end

section
set_option Elab.async false
set_option linter.all false
set_option maxRecDepth 100000
set_option maxHeartbeats 1000000
set_option autoImplicit false
namespace K89
open PySem Ev
/-! ### the plain law of distances -/
section
variable {α : Type} [DecidableEq α]
theorem lcs_le : ∀ (l m : List α), lcs l m ≤ l.length ∧ lcs l m ≤ m.length := by
  intro l m
  fun_induction lcs l m with
  | case1 => simp
  | case2 => simp
  | case3 => simp_all
  | case4 => simp_all; omega
theorem lcs_max : ∀ (l m s : List α), s.Sublist l → s.Sublist m → s.length ≤ lcs l m := by
  intro l m
  fun_induction lcs l m with
  | case1 => intro s h1 _; simp [List.sublist_nil.mp h1]
  | case2 => intro s _ h2; simp [List.sublist_nil.mp h2]
  | case3 l b m ih =>
    intro s h1 h2
    have := ih s.tail (by simpa using h1.tail) (by simpa using h2.tail)
    simp at this
    omega
  | case4 a l b m e ih1 ih2 =>
    intro s h1 h2
    rcases List.sublist_cons_iff.mp h1 with h | ⟨r, rfl, h⟩
    · have := ih1 s h h2
      omega
    · rcases List.sublist_cons_iff.mp h2 with h' | ⟨r', e', h'⟩
      · have := ih2 (a :: r) h1 h'
        omega
      · cases e'
        exact absurd rfl e
theorem lcs_has : ∀ (l m : List α), ∃ s : List α, s.Sublist l ∧ s.Sublist m ∧ s.length = lcs l m := by
  intro l m
  fun_induction lcs l m with
  | case1 => exact ⟨[], by simp, by simp, rfl⟩
  | case2 => exact ⟨[], by simp, by simp, rfl⟩
  | case3 l b m ih =>
    obtain ⟨s, h1, h2, h3⟩ := ih
    exact ⟨b :: s, h1.cons_cons _, h2.cons_cons _, by simp [h3]⟩
  | case4 a l b m e ih1 ih2 =>
    obtain ⟨s, h1, h2, h3⟩ := ih1
    obtain ⟨t, g1, g2, g3⟩ := ih2
    by_cases h : lcs l (b :: m) ≤ lcs (a :: l) m
    · exact ⟨t, g1, g2.cons _, by omega⟩
    · exact ⟨s, h1.cons _, h2, by omega⟩
theorem sub_meet : ∀ (y s t : List α), s.Sublist y → t.Sublist y → ∃ u : List α, u.Sublist s ∧ u.Sublist t ∧ s.length + t.length ≤ u.length + y.length := by
  intro y
  induction y with
  | nil => intro s t h1 h2; exact ⟨[], by simp, by simp, by simp [List.sublist_nil.mp h1, List.sublist_nil.mp h2]⟩
  | cons a y ih =>
    intro s t h1 h2
    rcases List.sublist_cons_iff.mp h1 with g1 | ⟨s', rfl, g1⟩
    · rcases List.sublist_cons_iff.mp h2 with g2 | ⟨t', rfl, g2⟩
      · obtain ⟨u, k1, k2, k3⟩ := ih s t g1 g2
        exact ⟨u, k1, k2, by simp; omega⟩
      · obtain ⟨u, k1, k2, k3⟩ := ih s t' g1 g2
        exact ⟨u, k1, k2.cons _, by simp; omega⟩
    · rcases List.sublist_cons_iff.mp h2 with g2 | ⟨t', rfl, g2⟩
      · obtain ⟨u, k1, k2, k3⟩ := ih s' t g1 g2
        exact ⟨u, k1.cons _, k2, by simp; omega⟩
      · obtain ⟨u, k1, k2, k3⟩ := ih s' t' g1 g2
        exact ⟨a :: u, k1.cons_cons _, k2.cons_cons _, by simp; omega⟩
/-- how many items are out and in, at least -/
def dist (l m : List α) : Int := (l.length : Int) + (m.length : Int) - 2 * ((lcs l m : Nat) : Int)
theorem dist_tri (x y z : List α) : dist x z ≤ dist x y + dist y z := by
  obtain ⟨s, h1, h2, h3⟩ := lcs_has x y
  obtain ⟨t, g1, g2, g3⟩ := lcs_has y z
  obtain ⟨u, k1, k2, k3⟩ := sub_meet y s t h2 g1
  have := lcs_max x z u (k1.trans h1) (k2.trans g2)
  unfold dist
  omega
theorem dist_zero (l m : List α) : dist l m = 0 ↔ l = m := by
  have h := lcs_le l m
  constructor
  · intro e
    unfold dist at e
    obtain ⟨s, h1, h2, h3⟩ := lcs_has l m
    have e1 : s = l := h1.eq_of_length (by omega)
    have e2 : s = m := h2.eq_of_length (by omega)
    rw [← e1, e2]
  · rintro rfl
    have := lcs_max l l l (List.Sublist.refl l) (List.Sublist.refl l)
    unfold dist
    omega
theorem dist_nn (l m : List α) : 0 ≤ dist l m := by
  have h := lcs_le l m
  unfold dist
  omega
end
/-! ### the least, the first of such -/
/-- the least so far and its number -/
def fm : Int → Nat → List Int → Nat → Int × Nat
  | m, j, [], _ => (m, j)
  | m, j, d :: ds, k => if d < m then fm d k ds (k + 1) else fm m j ds (k + 1)
/-- pairs with numbers from k on -/
def prs : List Int → Nat → List (Int × Int)
  | [], _ => []
  | d :: ds, k => (d, (k : Int)) :: prs ds (k + 1)
theorem fm_pairs : ∀ (ds : List Int) (m : Int) (j k : Nat), j < k → (prs ds k).foldl (fun a b => if ltP b a then b else a) (m, (j : Int)) = ((fm m j ds k).1, ((fm m j ds k).2 : Int))
  | [], m, j, k, _ => rfl
  | d :: ds, m, j, k, h => by
    unfold prs fm
    rw [List.foldl_cons]
    have e : ltP (d, (k : Int)) (m, (j : Int)) = decide (d < m) := by
      unfold ltP
      rw [Bool.eq_iff_iff]
      simp
      omega
    rw [e]
    by_cases hd : d < m
    · rw [if_pos hd, decide_eq_true hd]
      exact fm_pairs ds d k (k + 1) (by omega)
    · rw [if_neg hd, decide_eq_false hd]
      exact fm_pairs ds m j (k + 1) (by omega)
theorem fm_min : ∀ (ds : List Int) (m : Int) (j k : Nat), ds.foldl (fun a b => if b < a then b else a) m = (fm m j ds k).1
  | [], _, _, _ => rfl
  | d :: ds, m, j, k => by
    unfold fm
    rw [List.foldl_cons]
    by_cases hd : d < m
    · rw [if_pos hd, if_pos hd]
      exact fm_min ds d k (k + 1)
    · rw [if_neg hd, if_neg hd]
      exact fm_min ds m j (k + 1)
theorem fm_first : ∀ (ds pre : List Int) (m : Int) (j : Nat), pre[j]? = some m → (∀ i d, i < j → pre[i]? = some d → m < d) → (∀ d ∈ pre, m ≤ d) →
    (pre ++ ds)[(fm m j ds pre.length).2]? = some (fm m j ds pre.length).1 ∧ ∀ i d, i < (fm m j ds pre.length).2 → (pre ++ ds)[i]? = some d → (fm m j ds pre.length).1 < d
  | [], pre, m, j, h1, h2, _ => by
    unfold fm
    rw [List.append_nil]
    exact ⟨h1, h2⟩
  | d :: ds, pre, m, j, h1, h2, h3 => by
    have e : pre ++ d :: ds = (pre ++ [d]) ++ ds := by simp
    have el : (pre ++ [d]).length = pre.length + 1 := by simp
    have hj : j < pre.length := (List.getElem?_eq_some_iff.mp h1).1
    unfold fm
    rw [e]
    by_cases hd : d < m
    · rw [if_pos hd, ← el]
      refine fm_first ds (pre ++ [d]) d pre.length (by simp) (fun i x hi hx => ?_) (fun x hx => ?_)
      · rw [List.getElem?_append_left hi] at hx
        have := h3 x (List.mem_of_getElem? hx)
        omega
      · rcases List.mem_append.mp hx with hx | hx
        · have := h3 x hx; omega
        · rw [List.mem_singleton.mp hx]; exact Int.le_refl _
    · rw [if_neg hd, ← el]
      refine fm_first ds (pre ++ [d]) m j (by rw [List.getElem?_append_left hj]; exact h1) (fun i x hi hx => ?_) (fun x hx => ?_)
      · rw [List.getElem?_append_left (by omega)] at hx
        exact h2 i x hi hx
      · rcases List.mem_append.mp hx with hx | hx
        · exact h3 x hx
        · rw [List.mem_singleton.mp hx]; omega
/-- the number of the first of the least -/
def amin : List Int → Nat
  | [] => 0
  | d :: ds => (fm d 0 ds 1).2
theorem minP_prs (d : Int) (ds : List Int) : minP ((prs (d :: ds) 0).map fun p => .tup [.int p.1, .int p.2]) = some ((fm d 0 ds 1).1, (amin (d :: ds) : Int)) := by
  have g : ∀ ps : List (Int × Int), pairsD (ps.map fun p => .tup [.int p.1, .int p.2]) = some ps := by
    intro ps
    induction ps with
    | nil => rfl
    | cons p ps ih => rw [List.map_cons, pairsD, ih]; rfl
  unfold minP
  rw [g]
  unfold prs
  have := fm_pairs ds d 0 1 (by omega)
  show some ((prs ds (0 + 1)).foldl _ (d, ((0 : Nat) : Int))) = _
  rw [this]
  rfl
theorem intsD_map : ∀ ds : List Int, intsD (ds.map D.int) = some ds
  | [] => rfl
  | d :: ds => by rw [List.map_cons, intsD, intsD_map ds]; rfl
theorem minI_map (d : Int) (ds : List Int) : minI ((d :: ds).map D.int) = some (fm d 0 ds 1).1 := by
  unfold minI
  rw [intsD_map]
  show some (ds.foldl _ d) = _
  rw [fm_min ds d 0 1]
theorem index_min (d : Int) (ds : List Int) : ((d :: ds).map D.int).findIdx? (fun z => eqS z (.int (fm d 0 ds 1).1)) = some (amin (d :: ds)) := by
  have h := fm_first ds [d] d 0 rfl (fun i x hi _ => absurd hi (Nat.not_lt_zero _)) (fun x hx => by rw [List.mem_singleton.mp hx]; exact Int.le_refl _)
  have hl : ([d] : List Int).length = 1 := rfl
  rw [hl] at h
  obtain ⟨h1, h2⟩ := h
  have e : [d] ++ ds = d :: ds := rfl
  rw [e] at h1 h2
  have hlt := (List.getElem?_eq_some_iff.mp h1).1
  rw [List.findIdx?_eq_some_iff_getElem]
  refine ⟨by simpa [amin] using hlt, ?_, fun i hi => ?_⟩
  · have := (List.getElem?_eq_some_iff.mp h1).2
    simp only [List.getElem_map, amin, this]
    simp [eqS]
  · have hi : i < (fm d 0 ds 1).2 := hi
    have hi' : i < (d :: ds).length := by omega
    have := h2 i _ hi (List.getElem?_eq_getElem hi')
    simp only [List.getElem_map, eqS]
    simp
    omega
end K89
end

section
set_option Elab.async false
set_option linter.all false
set_option maxRecDepth 100000
set_option maxHeartbeats 1000000
set_option autoImplicit false
namespace K89
open PySem Ev
section
variable {k : Nat} {S : Store}
/-! ### distance -/
theorem df_distance : md.P.defs "distance" = some ⟨2, 5, b_distance⟩ := by rfl
theorem df_nearest : md.P.defs "nearest" = some ⟨2, 4, b_nearest⟩ := by rfl
theorem df_within : md.P.defs "within" = some ⟨3, 3, b_within⟩ := by rfl
theorem df__law_far : md.P.defs "_law_far" = some ⟨2, 2, b__law_far⟩ := by rfl
theorem reprs5 (l : List It) (e : EnvD) (he : e.length = 5) (hl : l.length ≤ 900) : walkT (turnC (cxK md.P k) [4] (.name 4) (fun _ S => .ok true S) (.blt .repr (.cons (.var 4) .nil)) e) (l.map It.d) [] S = .ok (l.map fun x => .str (sh x)) S := by
  have gen : ∀ (l : List It) (acc : List D), acc.length + l.length < LIM → walkT (turnC (cxK md.P k) [4] (.name 4) (fun _ S => .ok true S) (.blt .repr (.cons (.var 4) .nil)) e) (l.map It.d) acc S = .ok (acc ++ l.map fun x => .str (sh x)) S := by
    intro l
    induction l with
    | nil => intro acc _; simp [walkT]
    | cons x l ih =>
      intro acc ha
      simp only [List.length_cons] at ha
      have h1 : acc.length < LIM := by omega
      have t : turnC (cxK md.P k) [4] (.name 4) (fun _ S => .ok true S) (.blt .repr (.cons (.var 4) .nil)) e x.d acc S = .ok (acc ++ [.str (sh x)]) S := by
        simp [turnC, startE, setR, parR, parE, asgT, asgTs, asgsR, bindT, bindTs, wipeE, he, gd_true, repr_it, h1]
      rw [List.map_cons]
      unfold walkT
      rw [t]
      show walkT _ _ _ _ = _
      rw [ih _ (by simp; omega)]
      simp
  have := gen l [] (by simp only [LIM, List.length_nil]; omega)
  simpa using this
theorem distance_ok (l m : List It) (hS : wf S) (hl : l.length + m.length ≤ 400) : (cxK md.P (k + 7)).call "distance" [pr l, pr m] S = .ok (.int (dist l m)) S := by
  rw [call_eq df_distance]
  have c1 := check_program_ok (k := k) l hS (by omega)
  have c2 := check_program_ok (k := k) m hS (by omega)
  have w1 : wf (S ++ [.lst (l.map fun x => .str (sh x)), .lst (m.map fun x => .str (sh x))]) := by
    have e : S ++ [Ob.lst (l.map fun x => .str (sh x)), Ob.lst (m.map fun x => .str (sh x))] = (S ++ [Ob.lst (l.map fun x => .str (sh x))]) ++ [Ob.lst (m.map fun x => .str (sh x))] := by simp
    rw [e]
    exact wf_add (wf_add hS (bds_map (fun x => rfl) l)) (bds_map (fun x => rfl) m)
  obtain ⟨St, t1, t2⟩ := tails_table_ok (k := k + 5) (hS := w1) (S := S ++ [.lst (l.map fun x => .str (sh x)), .lst (m.map fun x => .str (sh x))]) (X := l.map sh) (Y := m.map sh) (o1 := S.length) (o2 := S.length + 1) (by simp) (by rw [List.getElem?_append_right (by omega)]; simp) (by simp; omega) (by simp; omega)
  have ln : (S ++ [Ob.lst (l.map fun x => .str (sh x)), Ob.lst (m.map fun x => .str (sh x))]).length = S.length + 2 := by simp
  rw [ln, List.length_map] at t1
  rw [ln, List.length_map, List.length_map] at t2
  have ta : St.take S.length = S := by
    have := congrArg (List.take S.length) t2.pre
    rw [List.take_take] at this
    rw [show min S.length (S.length + 2) = S.length from by omega] at this
    rw [this]
    simp
  have r0 := t2.rowAt (i := 0) (by omega)
  have c0 := t2.cell (i := 0) (j := 0) (by omega) (by omega)
  simp only [lcs_sh, List.drop_zero] at r0 c0
  rw [show ((0 : Nat) : Int) = 0 from rfl] at r0 c0
  rw [show k + 5 + 1 = k + 6 from rfl] at t1
  refine run_cut (S' := St) rfl hS rfl ta ?_
  have r1 := reprs5 (k := k + 6) (S := S) l [some (pr l), some (pr m), none, none, none] rfl (by omega)
  have r2 := reprs5 (k := k + 6) (S := S ++ [.lst (l.map fun x => .str (sh x))]) m [some (pr l), some (pr m), none, none, none] rfl (by omega)
  have mu : ∀ y S, binD .mul (.int 2) (.int y) S = .ok (.int (2 * y)) S := fun y S => mul_ok' (by decide) (by decide)
  generalize S.length + 2 + 2 * 0 + 1 = p at r0 c0
  generalize S.length + 2 + 2 * (l.length + 1) = q at t1 r0
  simp [b_distance, startE, setR, parR, parE, asgT, asgTs, asgsR, bindT, bindTs, wipeE, df_check_program, c1, c2, r1, r2, df_tails_table, t1, r0, c0, mu, dist]
theorem far_ok (l m : List It) (hS : wf S) (h1 : l.length ≤ 100) (h2 : m.length ≤ 100) : (cxK md.P (k + 2)).call "_law_far" [pr l, pr m] S = .ok (.int (dist l m)) S := by
  rw [call_eq df__law_far]
  obtain ⟨kvs, e, t⟩ := kept_ok (k := k) l m hS h1 h2
  have sb := t.sub (S := S ++ [.dt kvs]) (n := S.length) (by simp) (i := 0) (j := 0) (x := 0) (y := 0) rfl rfl (v := (lcs l m : Nat)) (by unfold kf; rw [if_pos (by omega), if_pos (by omega)]; rfl)
  have mu : ∀ y S, binD .mul (.int 2) (.int y) S = .ok (.int (2 * y)) S := fun y S => mul_ok' (by decide) (by decide)
  refine run_cut (S' := S ++ [.dt kvs]) rfl hS rfl (by simp) ?_
  simp [b__law_far, startE, setR, parR, parE, asgT, asgTs, asgsR, bindT, bindTs, wipeE, df__law_kept, e, sb, mu, dist]
/-! ### nearest -/
def prsD (ps : List (Int × Int)) : List D := ps.map fun p => .tup [.int p.1, .int p.2]
theorem check_loop (l : List It) (hS : wf S) (z : D) : ∀ (rows : List (List It)) (x2 x3 : Option D), (∀ r ∈ rows, r.length ≤ 200) → ∃ y2, forT (turnF (cxK md.P (k + 6)) (.name 2) l_nearest_0) (rows.map pr) [some (pr l), some z, x2, x3] S = .nx [some (pr l), some z, y2, x3] S
  | [], x2, x3, _ => ⟨x2, rfl⟩
  | r :: rows, x2, x3, h => by
    obtain ⟨y2, e⟩ := check_loop l hS z rows (some (pr r)) x3 fun r hr => h r (List.mem_cons_of_mem _ hr)
    refine ⟨y2, ?_⟩
    have c := check_program_ok (k := k) r hS (by have := h r List.mem_cons_self; omega)
    have t : turnF (cxK md.P (k + 6)) (.name 2) l_nearest_0 (pr r) [some (pr l), some z, x2, x3] S = .nx [some (pr l), some z, some (pr r), x3] S := by
      simp [turnF, startE, setR, parR, parE, asgT, asgTs, asgsR, bindT, bindTs, wipeE, l_nearest_0, df_check_program, c]
    rw [List.map_cons]
    unfold forT
    rw [t]
    exact e
theorem enum_walk (l : List It) (hl : l.length ≤ 200) (hS : wf S) (e : EnvD) (h0 : e[0]? = some (some (pr l))) (he : e.length = 4) : ∀ (rows : List (List It)) (i : Nat) (acc : List D), (∀ r ∈ rows, r.length ≤ 200) → acc.length + rows.length < LIM →
    walkT (turnC (cxK md.P (k + 7)) [3, 2] (.tup (.cons (.name 3) (.cons (.name 2) .nil))) (fun _ S => .ok true S) (.tup (.cons (.call "distance" (.cons (.var 0) (.cons (.var 2) .nil))) (.cons (.var 3) .nil))) e) (enumL i (rows.map pr)) acc S = .ok (acc ++ prsD (prs (rows.map (dist l)) i)) S
  | [], i, acc, _, _ => by simp [enumL, walkT, prs, prsD]
  | r :: rows, i, acc, h, ha => by
    simp only [List.length_cons] at ha
    have d := distance_ok (k := k) l r hS (by have := h r List.mem_cons_self; omega)
    have a1 : acc.length < LIM := by omega
    have t : turnC (cxK md.P (k + 7)) [3, 2] (.tup (.cons (.name 3) (.cons (.name 2) .nil))) (fun _ S => .ok true S) (.tup (.cons (.call "distance" (.cons (.var 0) (.cons (.var 2) .nil))) (.cons (.var 3) .nil))) e (.tup [.int (i : Nat), pr r]) acc S = .ok (acc ++ [.tup [.int (dist l r), .int (i : Nat)]]) S := by
      obtain ⟨e0, e1, e2, e3, rfl⟩ : ∃ e0 e1 e2 e3, e = [e0, e1, e2, e3] := by
        match e, he with
        | [a, b, c, d], _ => exact ⟨a, b, c, d, rfl⟩
      simp at h0
      subst h0
      simp [turnC, startE, setR, parR, parE, asgT, asgTs, asgsR, bindT, bindTs, wipeE, df_distance, d, a1]
    rw [List.map_cons]
    unfold enumL walkT
    rw [t]
    show walkT _ _ _ _ = _
    rw [enum_walk l hl hS e h0 he rows (i + 1) _ (fun r hr => h r (List.mem_cons_of_mem _ hr)) (by simp; omega)]
    simp [prs, prsD]
theorem bds_prs (rows : List (List It)) (n : Nat) : bds n (rows.map pr) = true := bds_map (fun r => by rw [bd_tup, bds_its]) rows
theorem nearest_ok (l : List It) (r : List It) (rows : List (List It)) (hl : l.length ≤ 200) (hr : ∀ r' ∈ r :: rows, r'.length ≤ 200) (hn : rows.length ≤ 100) (hS : wf S) : (cxK md.P (k + 8)).call "nearest" [pr l, .tup ((r :: rows).map pr)] S = .ok (.int (amin ((r :: rows).map (dist l)) : Nat)) S := by
  rw [call_eq df_nearest]
  have c0 := check_program_ok (k := k + 1) l hS (by omega)
  obtain ⟨y2, lp⟩ := check_loop (k := k + 1) l hS (.tup ((r :: rows).map pr)) (r :: rows) none none hr
  have w := enum_walk (k := k) l hl hS [some (pr l), some (.tup ((r :: rows).map pr)), y2, none] rfl rfl (r :: rows) 0 [] hr (by simp [LIM]; omega)
  have mp := minP_prs (dist l r) (rows.map (dist l))
  have bm : bllD .min (prsD (prs ((r :: rows).map (dist l)) 0)) S = .ok (.tup [.int (fm (dist l r) 0 (rows.map (dist l)) 1).1, .int (amin ((r :: rows).map (dist l)) : Nat)]) S := by
    unfold bllD prsD
    dsimp only
    rw [List.map_cons, mp]
  have ln : ¬ (r :: rows = []) := fun h => nomatch h
  rw [List.nil_append] at w
  refine run_same rfl hS rfl ?_
  generalize hq : r :: rows = q at *
  simp [b_nearest, startE, setR, parR, parE, asgT, asgTs, asgsR, bindT, bindTs, wipeE, df_check_program, c0, bt_tuple, lp, ln, w, bm]
theorem nearest_nil (l : List It) (hl : l.length ≤ 200) (hS : wf S) : (cxK md.P (k + 8)).call "nearest" [pr l, .tup []] S = .ok .non S := by
  rw [call_eq df_nearest]
  have c0 := check_program_ok (k := k + 1) l hS (by omega)
  refine run_same rfl hS rfl ?_
  simp [b_nearest, startE, setR, parR, parE, asgT, asgTs, asgsR, bindT, bindTs, wipeE, df_check_program, c0, bt_tuple, forT]
end
end K89
end

section
set_option Elab.async false
set_option linter.all false
set_option maxRecDepth 100000
set_option maxHeartbeats 1000000
set_option autoImplicit false
namespace K89
open PySem Ev
section
variable {k : Nat} {S : Store}
/-! ### what is of no kind -/
theorem isiB_ni : isiB "NoneType" "int" = some false := by decide
theorem isiB_nb : isiB "NoneType" "bool" = some false := by decide
theorem isiB_ns : isiB "NoneType" "str" = some false := by decide
theorem isiB_nt : isiB "NoneType" "tuple" = some false := by decide
theorem isiB_li : isiB "list" "int" = some false := by decide
theorem isiB_lt : isiB "list" "tuple" = some false := by decide
theorem isi_loc {l : Nat} {ds : List D} (h : S[l]? = some (.lst ds)) {u : String} : bltD .isi [.loc l, .ty u] S = boolR (isiB "list" u) S := by simp only [bltD, tyD, h]
theorem df_check_number : md.P.defs "check_number" = some ⟨3, 3, b_check_number⟩ := by rfl
theorem df_patched : md.P.defs "patched" = some ⟨2, 3, b_patched⟩ := by rfl
theorem df_raw_patched : md.P.defs "raw_patched" = some ⟨2, 6, b_raw_patched⟩ := by rfl
theorem df_edits_back : md.P.defs "edits_back" = some ⟨2, 6, b_edits_back⟩ := by rfl
theorem xc_p : md.P.xc "NoProgram" = true := by rfl
theorem xc_e : md.P.xc "NoEdits" = true := by rfl
theorem xc_n : md.P.xc "NoNumber" = true := by rfl
theorem is_integer_non (hS : wf S) : (cxK md.P (k + 1)).call "is_integer" [.non] S = .ok (.bl false) S := by
  rw [call_eq df_is_integer]
  refine run_same rfl hS rfl ?_
  simp [b_is_integer, bt_int, bt_bool, startE, setR, parR, parE, asgT, asgTs, asgsR, bindT, bindTs, wipeE, isiB_ni]
theorem is_integer_bl (b : Bool) (hS : wf S) : (cxK md.P (k + 1)).call "is_integer" [.bl b] S = .ok (.bl false) S := by
  rw [call_eq df_is_integer]
  refine run_same rfl hS rfl ?_
  simp [b_is_integer, bt_int, bt_bool, startE, setR, parR, parE, asgT, asgTs, asgsR, bindT, bindTs, wipeE]
theorem is_number_non (hS : wf S) : (cxK md.P (k + 2)).call "is_number_value" [.non] S = .ok (.bl false) S := by
  rw [call_eq df_is_number_value]
  refine run_same rfl hS rfl ?_
  simp [b_is_number_value, bt_int, bt_bool, startE, setR, parR, parE, asgT, asgTs, asgsR, bindT, bindTs, wipeE, isiB_nb, df_is_integer, is_integer_non hS]
theorem is_name_non (hS : wf S) : (cxK md.P (k + 1)).call "is_name" [.non] S = .ok (.bl false) S := by
  rw [call_eq df_is_name]
  refine run_same rfl hS rfl ?_
  simp [b_is_name, bt_str, startE, setR, parR, parE, asgT, asgTs, asgsR, bindT, bindTs, wipeE, isiB_ns]
theorem is_name_body2 : evSs (cxK md.P k) b_is_name (startE 2 [.str "Dup"]) S = .rt (.bl false) S ∧ evSs (cxK md.P k) b_is_name (startE 2 [.str ""]) S = .rt (.bl false) S := by
  cases k <;> exact ⟨by kernel_rfl, by kernel_rfl⟩
theorem is_name_up (hS : wf S) : (cxK md.P (k + 1)).call "is_name" [.str "Dup"] S = .ok (.bl false) S := by
  rw [call_eq df_is_name]
  exact run_same rfl hS rfl is_name_body2.1
theorem is_name_nil (hS : wf S) : (cxK md.P (k + 1)).call "is_name" [.str ""] S = .ok (.bl false) S := by
  rw [call_eq df_is_name]
  exact run_same rfl hS rfl is_name_body2.2
theorem is_told_non (hS : wf S) : (cxK md.P (k + 1)).call "is_told" [.non, .str "quote"] S = .ok (.bl false) S := by
  rw [call_eq df_is_told]
  refine run_same rfl hS rfl ?_
  simp [b_is_told, bt_tuple, startE, setR, parR, parE, asgT, asgTs, asgsR, bindT, bindTs, wipeE, isiB_nt]
theorem is_told_str (x : Str) (hS : wf S) : (cxK md.P (k + 1)).call "is_told" [.str x, .str "quote"] S = .ok (.bl false) S := by
  rw [call_eq df_is_told]
  refine run_same rfl hS rfl ?_
  simp [b_is_told, bt_tuple, startE, setR, parR, parE, asgT, asgTs, asgsR, bindT, bindTs, wipeE]
theorem is_told_one (x : D) (hS : wf S) : (cxK md.P (k + 1)).call "is_told" [.tup [x], .str "quote"] S = .ok (.bl false) S := by
  rw [call_eq df_is_told]
  refine run_same rfl hS rfl ?_
  simp [b_is_told, bt_tuple, startE, setR, parR, parE, asgT, asgTs, asgsR, bindT, bindTs, wipeE]
/-! ### no program -/
def badI : List D := [.non, .str "Dup", .str "", .tup [.str "quote"]]
theorem inner_none {x : D} (hx : x ∈ badI) (hS : wf S) : (cxK md.P (k + 3)).call "inner_rows" [x, .bl true] S = .ok .non S := by
  simp only [badI, List.mem_cons, List.not_mem_nil, or_false] at hx
  rw [call_eq df_inner_rows]
  refine run_same rfl hS rfl ?_
  rcases hx with rfl | rfl | rfl | rfl
  · simp [b_inner_rows, df_is_number_value, df_is_name, df_is_told, gl_QUOTE, bt_tuple, startE, setR, parR, parE, asgT, asgTs, asgsR, bindT, bindTs, wipeE, is_number_non hS, is_name_non hS, is_told_non hS, isiB_nt]
  · simp [b_inner_rows, df_is_number_value, df_is_name, df_is_told, gl_QUOTE, bt_tuple, startE, setR, parR, parE, asgT, asgTs, asgsR, bindT, bindTs, wipeE, is_number_str _ hS, is_name_up hS, is_told_str _ hS]
  · simp [b_inner_rows, df_is_number_value, df_is_name, df_is_told, gl_QUOTE, bt_tuple, startE, setR, parR, parE, asgT, asgTs, asgsR, bindT, bindTs, wipeE, is_number_str _ hS, is_name_nil hS, is_told_str _ hS]
  · simp [b_inner_rows, df_is_number_value, df_is_name, df_is_told, gl_QUOTE, bt_tuple, startE, setR, parR, parE, asgT, asgTs, asgsR, bindT, bindTs, wipeE, is_number_tup _ hS, is_name_tup _ hS, is_told_one _ hS]
theorem badI_bd {x : D} (hx : x ∈ badI) (n : Nat) : x.bd n = true := by
  simp only [badI, List.mem_cons, List.not_mem_nil, or_false] at hx
  rcases hx with rfl | rfl | rfl | rfl <;> rfl
theorem is_bounded_no {x : D} (hx : x ∈ badI) {r : Nat} (hS : wf S) (h : S[r]? = some (.lst [.tup [x, .bl true]])) : (cxK md.P (k + 4)).call "is_bounded" [.loc r] S = .ok (.bl false) S := by
  rw [call_eq df_is_bounded]
  have e1 := walkL_map (f := turnC (cxK md.P (k + 3)) [3, 4] (.tup (.cons (.name 3) (.cons (.name 4) .nil))) (fun _ S => .ok true S) (.tup (.cons (.var 3) (.cons (.var 4) (.cons (.int 1) .nil))))
      [some (.loc r), none, none, none, none, none, none, none, none]) (g := fun d => match d with | .tup [a, b] => .tup [a, b, .int 1] | d => d) h (fun d hd acc ha => by
        rw [List.mem_singleton.mp hd]
        simp [startE, setR, parR, parE, asgT, asgTs, asgsR, bindT, bindTs, wipeE, turnC, ha]) LIM 0 [] rfl (Nat.zero_le _) (by simp [LIM]) (by simp [LIM])
  have e2 : [] ++ (([.tup [x, .bl true]] : List D).drop 0).map (fun d => match d with | .tup [a, b] => D.tup [a, b, .int 1] | d => d) = [.tup [x, .bl true, .int 1]] := rfl
  rw [e2] at e1
  have g : (S ++ [Ob.lst [.tup [x, .bl true, .int 1]]])[S.length]? = some (.lst [.tup [x, .bl true, .int 1]]) := by simp
  have w : ∃ S', whlT (evTest (cxK md.P (k + 3)) (.cmp .gt (.blt .len (.cons (.var 2) .nil)) (.int 0))) (fun env S => evSs (cxK md.P (k + 3)) l_is_bounded_0 env S) LIM [some (.loc r), some (.int 0), some (.loc S.length), none, none, none, none, none, none] (S ++ [Ob.lst [.tup [x, .bl true, .int 1]]]) = .rt (.bl false) S' ∧ S'.take S.length = S := by
    refine whlT_run (Q := fun o => ∃ S', o = .rt (.bl false) S' ∧ S'.take S.length = S) (fun _ env St => env = [some (.loc r), some (.int 0), some (.loc S.length), none, none, none, none, none, none] ∧ St = S ++ [Ob.lst [.tup [x, .bl true, .int 1]]]) ?_ LIM 0 _ _ (by decide) ⟨rfl, rfl⟩
    rintro m env St ⟨rfl, rfl⟩
    have w1 : wf ((S ++ [Ob.lst [.tup [x, .bl true, .int 1]]]).set S.length (.lst [])) := wf_set (wf_add hS (by simp [badI_bd hx])) rfl
    have p1 := m_pop (S := S ++ [Ob.lst [.tup [x, .bl true, .int 1]]]) (l := S.length) (ds := []) (d := .tup [x, .bl true, .int 1]) g
    have kp := kind_pop g
    have i1 := inner_none (k := k) hx w1
    refine .inr ⟨S ++ [Ob.lst [.tup [x, .bl true, .int 1]]], ?_, .inr ⟨.bl false, (S ++ [Ob.lst [.tup [x, .bl true, .int 1]]]).set S.length (.lst []), ?_, _, rfl, ?_⟩⟩
    · simp [evTest, len_loc g]
    · generalize (S ++ [Ob.lst [.tup [x, .bl true, .int 1]]]).set S.length (.lst []) = S2 at p1 i1 ⊢
      generalize S ++ [Ob.lst [.tup [x, .bl true, .int 1]]] = S1 at p1 kp ⊢
      simp [l_is_bounded_0, startE, setR, parR, parE, asgT, asgTs, asgsR, bindT, bindTs, wipeE, kp, p1, df_inner_rows, i1]
    · rw [take_set' (Nat.le_refl _), take_app' (Nat.le_refl _), List.take_length]
  obtain ⟨S', w1, w2⟩ := w
  refine run_cut rfl hS rfl w2 ?_
  simp [b_is_bounded, startE, setR, parR, parE, asgT, asgTs, asgsR, bindT, bindTs, wipeE, it_loc h, e1, w1]
theorem is_program_one {x : D} (hx : x ∈ badI) (hS : wf S) : (cxK md.P (k + 5)).call "is_program" [.tup [x]] S = .ok (.bl false) S := by
  rw [call_eq df_is_program]
  have e := is_bounded_no (k := k) (S := S ++ [Ob.lst [.tup [x, .bl true]]]) hx (r := S.length) (wf_add hS (by simp [badI_bd hx])) (by simp)
  refine run_cut (S' := S ++ [Ob.lst [.tup [x, .bl true]]]) rfl hS rfl (by simp) ?_
  simp [b_is_program, startE, setR, parR, parE, asgT, asgTs, asgsR, bindT, bindTs, wipeE, bt_tuple, df_is_bounded, walkT, turnC, e, LIM]
theorem is_program_non (hS : wf S) : (cxK md.P (k + 5)).call "is_program" [.non] S = .ok (.bl false) S := by
  rw [call_eq df_is_program]
  refine run_same rfl hS rfl ?_
  simp [b_is_program, startE, setR, parR, parE, asgT, asgTs, asgsR, bindT, bindTs, wipeE, bt_tuple, isiB_nt]
theorem is_program_int (i : Int) (hS : wf S) : (cxK md.P (k + 5)).call "is_program" [.int i] S = .ok (.bl false) S := by
  rw [call_eq df_is_program]
  refine run_same rfl hS rfl ?_
  simp [b_is_program, startE, setR, parR, parE, asgT, asgTs, asgsR, bindT, bindTs, wipeE, bt_tuple]
theorem is_program_lst {l : Nat} {ds : List D} (h : S[l]? = some (.lst ds)) (hS : wf S) : (cxK md.P (k + 5)).call "is_program" [.loc l] S = .ok (.bl false) S := by
  rw [call_eq df_is_program]
  refine run_same rfl hS rfl ?_
  simp [b_is_program, startE, setR, parR, parE, asgT, asgTs, asgsR, bindT, bindTs, wipeE, bt_tuple, isi_loc h, isiB_lt]
/-- no program -/
def BadP (S : Store) (d : D) : Prop := (∃ x ∈ badI, d = .tup [x]) ∨ d = .non ∨ (∃ i, d = .int i) ∨ ∃ l ds, d = .loc l ∧ S[l]? = some (.lst ds)
theorem is_program_no {d : D} (h : BadP S d) (hS : wf S) : (cxK md.P (k + 5)).call "is_program" [d] S = .ok (.bl false) S := by
  rcases h with ⟨x, hx, rfl⟩ | rfl | ⟨i, rfl⟩ | ⟨l, ds, rfl, h⟩
  · exact is_program_one hx hS
  · exact is_program_non hS
  · exact is_program_int _ hS
  · exact is_program_lst h hS
theorem check_program_no {d : D} (h : BadP S d) (hS : wf S) : (cxK md.P (k + 6)).call "check_program" [d] S = .exc ⟨"NoProgram", []⟩ S := by
  rw [call_eq df_check_program]
  refine run_exc (env := [some d]) rfl ?_
  simp [b_check_program, startE, setR, parR, parE, asgT, asgTs, asgsR, bindT, bindTs, wipeE, df_is_program, is_program_no (k := k) h hS, xc_p]
theorem difference_no (l : List It) (hl : l.length ≤ 200) {d : D} (h : BadP S d) (hS : wf S) : (cxK md.P (k + 7)).call "difference" [pr l, d] S = .exc ⟨"NoProgram", []⟩ S := by
  rw [call_eq df_difference]
  refine run_exc (env := [some (pr l), some d]) rfl ?_
  have c := check_program_ok (k := k) l hS (by omega)
  have c2 := check_program_no (k := k) h hS
  simp [b_difference, startE, setR, parR, parE, asgT, asgTs, asgsR, bindT, bindTs, wipeE, df_check_program, c, c2]
theorem check_loop_no (l : List It) (hS : wf S) (z : D) {d : D} (hd : BadP S d) : ∀ (rows : List (List It)) (x2 x3 : Option D), (∀ r ∈ rows, r.length ≤ 200) → forT (turnF (cxK md.P (k + 6)) (.name 2) l_nearest_0) (rows.map pr ++ [d]) [some (pr l), some z, x2, x3] S = .exc ⟨"NoProgram", []⟩ [some (pr l), some z, some d, x3] S
  | [], x2, x3, _ => by
    have c := check_program_no (k := k) hd hS
    have t : turnF (cxK md.P (k + 6)) (.name 2) l_nearest_0 d [some (pr l), some z, x2, x3] S = .exc ⟨"NoProgram", []⟩ [some (pr l), some z, some d, x3] S := by
      simp [turnF, startE, setR, parR, parE, asgT, asgTs, asgsR, bindT, bindTs, wipeE, l_nearest_0, df_check_program, c]
    show forT _ [d] _ _ = _
    unfold forT
    rw [t]
  | r :: rows, x2, x3, h => by
    have e := check_loop_no l hS z hd rows (some (pr r)) x3 fun r hr => h r (List.mem_cons_of_mem _ hr)
    have c := check_program_ok (k := k) r hS (by have := h r List.mem_cons_self; omega)
    have t : turnF (cxK md.P (k + 6)) (.name 2) l_nearest_0 (pr r) [some (pr l), some z, x2, x3] S = .nx [some (pr l), some z, some (pr r), x3] S := by
      simp [turnF, startE, setR, parR, parE, asgT, asgTs, asgsR, bindT, bindTs, wipeE, l_nearest_0, df_check_program, c]
    rw [List.map_cons, List.cons_append]
    unfold forT
    rw [t]
    exact e
theorem nearest_no (l : List It) (hl : l.length ≤ 200) (rows : List (List It)) (hr : ∀ r ∈ rows, r.length ≤ 200) {d : D} (h : BadP S d) (hS : wf S) : (cxK md.P (k + 7)).call "nearest" [pr l, .tup (rows.map pr ++ [d])] S = .exc ⟨"NoProgram", []⟩ S := by
  rw [call_eq df_nearest]
  have c := check_program_ok (k := k) l hS (by omega)
  have lp := check_loop_no (k := k) l hS (.tup (rows.map pr ++ [d])) h rows none none hr
  refine run_exc (env := [some (pr l), some (.tup (rows.map pr ++ [d])), some d, none]) rfl ?_
  generalize rows.map pr ++ [d] = q at *
  simp [b_nearest, startE, setR, parR, parE, asgT, asgTs, asgsR, bindT, bindTs, wipeE, df_check_program, c, bt_tuple, lp]
/-! ### no edits -/
def badE : List D := [.tup [.str "keep", .int 0], .tup [.str "in", .tup []], .tup [.str "out", .bl true], .tup [.str "put", .int 1], .tup [.str "in", .int 5], .tup [.str "in", .tup [.non]], .tup [.str "keep", .int 2001], .tup [.str "keep", .int 1, .int 1], .str "keep"]
theorem in_put : inDs (.str "put") [.str "keep", .str "out"] = some false := by kernel_rfl
theorem w_put_inn : ((Str.ofString "put") == (Str.ofString "in")) = false := by decide +kernel
theorem is_within_0 (hS : wf S) : (cxK md.P (k + 2)).call "is_within" [.int 0, .int 1, .int 2000] S = .ok (.bl false) S := by
  rw [call_eq df_is_within]
  refine run_same rfl hS rfl ?_
  simp [b_is_within, startE, setR, parR, parE, asgT, asgTs, asgsR, bindT, bindTs, wipeE, df_is_integer, is_integer_int _ hS]
theorem is_within_2001 {lo : Int} (h : lo ≤ 2001) (hS : wf S) : (cxK md.P (k + 2)).call "is_within" [.int 2001, .int lo, .int 2000] S = .ok (.bl false) S := by
  rw [call_eq df_is_within]
  refine run_same rfl hS rfl ?_
  simp [b_is_within, startE, setR, parR, parE, asgT, asgTs, asgsR, bindT, bindTs, wipeE, df_is_integer, is_integer_int _ hS, h]
theorem is_within_m1 (hS : wf S) : (cxK md.P (k + 2)).call "is_within" [.int (-1), .int 0, .int 2000] S = .ok (.bl false) S := by
  rw [call_eq df_is_within]
  refine run_same rfl hS rfl ?_
  simp [b_is_within, startE, setR, parR, parE, asgT, asgTs, asgsR, bindT, bindTs, wipeE, df_is_integer, is_integer_int _ hS]
theorem is_within_bl {lo : Int} (b : Bool) (hS : wf S) : (cxK md.P (k + 2)).call "is_within" [.bl b, .int lo, .int 2000] S = .ok (.bl false) S := by
  rw [call_eq df_is_within]
  refine run_same rfl hS rfl ?_
  simp [b_is_within, startE, setR, parR, parE, asgT, asgTs, asgsR, bindT, bindTs, wipeE, df_is_integer, is_integer_bl _ hS]
theorem is_within_non {lo : Int} (hS : wf S) : (cxK md.P (k + 2)).call "is_within" [.non, .int lo, .int 2000] S = .ok (.bl false) S := by
  rw [call_eq df_is_within]
  refine run_same rfl hS rfl ?_
  simp [b_is_within, startE, setR, parR, parE, asgT, asgTs, asgsR, bindT, bindTs, wipeE, df_is_integer, is_integer_non hS]
theorem is_edit_no {d : D} (h : d ∈ badE) (hS : wf S) : (cxK md.P (k + 6)).call "is_edit" [d] S = .ok (.bl false) S := by
  simp only [badE, List.mem_cons, List.not_mem_nil, or_false] at h
  rw [call_eq df_is_edit]
  refine run_same rfl hS rfl ?_
  have q := is_program_ok (k := k) [] hS (by decide)
  have q2 := is_program_one (k := k) (x := .non) (by simp [badI]) hS
  simp only [pr, List.map_nil] at q
  rcases h with rfl | rfl | rfl | rfl | rfl | rfl | rfl | rfl | rfl
  · simp [b_is_edit, startE, setR, parR, parE, asgT, asgTs, asgsR, bindT, bindTs, wipeE, bt_tuple, bt_str, gl_KEEP, gl_OUT, in_keep, gl_MOST_EDITS, df_is_within, is_within_0 (k := k + 3) hS]
  · simp [b_is_edit, startE, setR, parR, parE, asgT, asgTs, asgsR, bindT, bindTs, wipeE, bt_tuple, bt_str, gl_KEEP, gl_OUT, gl_IN, in_in, df_is_program, q]
  · simp [b_is_edit, startE, setR, parR, parE, asgT, asgTs, asgsR, bindT, bindTs, wipeE, bt_tuple, bt_str, gl_KEEP, gl_OUT, in_out, gl_MOST_EDITS, df_is_within, is_within_bl (k := k + 3) true hS]
  · simp [b_is_edit, startE, setR, parR, parE, asgT, asgTs, asgsR, bindT, bindTs, wipeE, bt_tuple, bt_str, gl_KEEP, gl_OUT, gl_IN, in_put, w_put_inn]
  · simp [b_is_edit, startE, setR, parR, parE, asgT, asgTs, asgsR, bindT, bindTs, wipeE, bt_tuple, bt_str, gl_KEEP, gl_OUT, gl_IN, in_in, df_is_program, is_program_int (k := k) 5 hS]
  · simp [b_is_edit, startE, setR, parR, parE, asgT, asgTs, asgsR, bindT, bindTs, wipeE, bt_tuple, bt_str, gl_KEEP, gl_OUT, gl_IN, in_in, df_is_program, q2]
  · simp [b_is_edit, startE, setR, parR, parE, asgT, asgTs, asgsR, bindT, bindTs, wipeE, bt_tuple, bt_str, gl_KEEP, gl_OUT, in_keep, gl_MOST_EDITS, df_is_within, is_within_2001 (k := k + 3) (lo := 1) (by decide) hS]
  · simp [b_is_edit, startE, setR, parR, parE, asgT, asgTs, asgsR, bindT, bindTs, wipeE, bt_tuple]
  · simp [b_is_edit, startE, setR, parR, parE, asgT, asgTs, asgsR, bindT, bindTs, wipeE, bt_tuple]
/-- no edits -/
def BadE (S : Store) (d : D) : Prop := (∃ x ∈ badE, d = .tup [x]) ∨ d = .non ∨ (∃ i, d = .int i) ∨ ∃ l ds, d = .loc l ∧ S[l]? = some (.lst ds)
theorem are_edits_no {d : D} (h : BadE S d) (hS : wf S) : (cxK md.P (k + 7)).call "are_edits" [d] S = .ok (.bl false) S := by
  rw [call_eq df_are_edits]
  refine run_same rfl hS rfl ?_
  rcases h with ⟨x, hx, rfl⟩ | rfl | ⟨i, rfl⟩ | ⟨l, ds, rfl, h⟩
  · have e := is_edit_no (k := k) hx hS
    have b := bll_all (S := S) (ds := [.bl false]) (bs := [false]) rfl
    simp [b_are_edits, startE, setR, parR, parE, asgT, asgTs, asgsR, bindT, bindTs, wipeE, bt_tuple, gl_MOST_EDITS, walkT, turnC, df_is_edit, e, b, LIM]
  · simp [b_are_edits, startE, setR, parR, parE, asgT, asgTs, asgsR, bindT, bindTs, wipeE, bt_tuple, isiB_nt]
  · simp [b_are_edits, startE, setR, parR, parE, asgT, asgTs, asgsR, bindT, bindTs, wipeE, bt_tuple]
  · simp [b_are_edits, startE, setR, parR, parE, asgT, asgTs, asgsR, bindT, bindTs, wipeE, bt_tuple, isi_loc h, isiB_lt]
theorem patched_no (l : List It) (hl : l.length ≤ 200) {d : D} (h : BadE S d) (hS : wf S) : (cxK md.P (k + 8)).call "patched" [pr l, d] S = .exc ⟨"NoEdits", []⟩ S := by
  rw [call_eq df_patched]
  have c := check_program_ok (k := k + 1) l hS (by omega)
  have a := are_edits_no (k := k) h hS
  refine run_exc (env := [some (pr l), some d, some .non]) rfl ?_
  simp [b_patched, startE, setR, parR, parE, asgT, asgTs, asgsR, bindT, bindTs, wipeE, df_check_program, df_are_edits, c, a, xc_e]
/-- the edits that keep too many -/
theorem raw_patched_no (l : List It) (E : List D) (hS : wf S) : (cxK md.P (k + 1)).call "raw_patched" [pr l, .tup (.tup [.str "keep", .int ((l.length : Int) + 1)] :: E)] S = .ok .non S := by
  rw [call_eq df_raw_patched]
  refine run_same rfl hS rfl ?_
  have c : ((l.length : Nat) : Int) < (l.length : Int) + 1 := by omega
  have t : turnF (cxK md.P k) (.tup (.cons (.name 4) (.cons (.name 5) .nil))) l_raw_patched_0 (.tup [.str "keep", .int ((l.length : Int) + 1)]) [some (pr l), some (.tup (.tup [.str "keep", .int ((l.length : Int) + 1)] :: E)), some (.tup []), some (.int 0), none, none] S = .rt .non S := by
    simp [turnF, startE, setR, parR, parE, asgT, asgTs, asgsR, bindT, bindTs, wipeE, l_raw_patched_0, gl_IN, w_keep_inn, c]
  have lp : forT (turnF (cxK md.P k) (.tup (.cons (.name 4) (.cons (.name 5) .nil))) l_raw_patched_0) (.tup [.str "keep", .int ((l.length : Int) + 1)] :: E) [some (pr l), some (.tup (.tup [.str "keep", .int ((l.length : Int) + 1)] :: E)), some (.tup []), some (.int 0), none, none] S = .rt .non S := by
    unfold forT
    rw [t]
  simp [b_raw_patched, startE, setR, parR, parE, asgT, asgTs, asgsR, bindT, bindTs, wipeE, lp]
theorem patched_far (l : List It) (hl : l.length ≤ 200) (E : List Ed) (hE : ∀ e ∈ E, e.fit) (hl2 : E.length ≤ 10) (hS : wf S) : (cxK md.P (k + 8)).call "patched" [pr l, .tup (.tup [.str "keep", .int ((l.length : Int) + 1)] :: E.map Ed.d)] S = .exc ⟨"NoEdits", []⟩ S := by
  rw [call_eq df_patched]
  have c := check_program_ok (k := k + 1) l hS (by omega)
  have a := are_edits_ok (k := k) (S := S) (.keep (l.length + 1) :: E) (fun e he => by
    rcases List.mem_cons.mp he with rfl | he
    · exact ⟨by omega, by omega⟩
    · exact hE e he) (by simp; omega) hS
  have r := raw_patched_no (k := k + 6) (S := S) l (E.map Ed.d) hS
  have e : (Ed.keep (l.length + 1)).d = .tup [.str "keep", .int ((l.length : Int) + 1)] := rfl
  rw [List.map_cons, e] at a
  generalize (D.tup [.str "keep", .int ((l.length : Int) + 1)] :: E.map Ed.d) = q at a r ⊢
  refine run_exc (env := [some (pr l), some (.tup q), some .non]) rfl ?_
  simp [b_patched, startE, setR, parR, parE, asgT, asgTs, asgsR, bindT, bindTs, wipeE, df_check_program, df_are_edits, df_raw_patched, c, a, r, xc_e]
theorem edits_back_no (l : List It) {d : D} (h : (cxK md.P (k + 8)).call "patched" [pr l, d] S = .exc ⟨"NoEdits", []⟩ S) : (cxK md.P (k + 9)).call "edits_back" [pr l, d] S = .exc ⟨"NoEdits", []⟩ S := by
  rw [call_eq df_edits_back]
  refine run_exc (env := [some (pr l), some d, none, none, none, none]) rfl ?_
  simp [b_edits_back, startE, setR, parR, parE, asgT, asgTs, asgsR, bindT, bindTs, wipeE, df_patched, h]
/-! ### no number -/
def badN : List D := [.int (-1), .int 2001, .bl true, .non]
theorem within_no {a b d : D} (h : d ∈ badN) (hS : wf S) : (cxK md.P (k + 4)).call "within" [a, b, d] S = .exc ⟨"NoNumber", []⟩ S := by
  have e : (cxK md.P (k + 2)).call "is_within" [d, .int 0, .int 2000] S = .ok (.bl false) S := by
    simp only [badN, List.mem_cons, List.not_mem_nil, or_false] at h
    rcases h with rfl | rfl | rfl | rfl
    · exact is_within_m1 hS
    · exact is_within_2001 (by decide) hS
    · exact is_within_bl _ hS
    · exact is_within_non hS
  have c : (cxK md.P (k + 3)).call "check_number" [d, .int 0, .int 2000] S = .exc ⟨"NoNumber", []⟩ S := by
    rw [call_eq df_check_number]
    refine run_exc (env := [some d, some (.int 0), some (.int 2000)]) rfl ?_
    simp [b_check_number, startE, setR, parR, parE, asgT, asgTs, asgsR, bindT, bindTs, wipeE, df_is_within, e, xc_n]
  rw [call_eq df_within]
  refine run_exc (env := [some a, some b, some d]) rfl ?_
  simp [b_within, startE, setR, parR, parE, asgT, asgTs, asgsR, bindT, bindTs, wipeE, df_check_number, gl_MOST_EDITS, c]
end
end K89
end

section
set_option Elab.async false
set_option linter.all false
set_option maxRecDepth 100000
set_option maxHeartbeats 1000000
set_option autoImplicit false
namespace K89
open PySem Ev
section
variable {k : Nat} {S : Store}
/-! ### what the law itself does -/
theorem df__law_bag : md.P.defs "_law_bag" = some ⟨1, 3, b__law_bag⟩ := by rfl
theorem df_law : md.P.defs "law" = some ⟨1, 14, b_law⟩ := by rfl
def cellI (i : Int) : Int := (if i < 0 then -i else i) % 1000000000000000000000000000000000000
theorem bag_ok (ns : List Int) : ∃ S', (cxK md.P (k + 1)).call "_law_bag" [.scr ns] [] = .ok (.loc 2) S' ∧ Bag 2 1 S' := by
  let ms := cutL ns none (some 63)
  have sl : ms.length ≤ 63 := by
    simp only [ms, cutL, List.length_take]
    have : HT.sIx ns.length ns.length (some 63) ≤ 63 := by
      unfold HT.sIx
      simp
      omega
    omega
  have pw : ∀ S, binD .pow (.int 10) (.int 36) S = .ok (.int 1000000000000000000000000000000000000) S := fun S => by kernel_rfl
  have mo : ∀ y S, binD .mod (.int y) (.int 1000000000000000000000000000000000000) S = .ok (.int (y % 1000000000000000000000000000000000000)) S := fun y S => mod_ok (by decide)
  have w := walkL_map (f := turnC (cxK md.P k) [2] (.name 2) (fun _ S => .ok true S) (.bin .mod (.blt .int (.cons (.blt .abs (.cons (.blt .int (.cons (.var 2) .nil)) .nil)) .nil)) (.bin .pow (.int 10) (.int 36))) [some (.scr ns), none, none]) (g := fun d => match d with
    | .int i => .int (cellI i)
    | d => d) (S := [Ob.lst (ms.map D.int)]) (l := 0) (ds := ms.map D.int) rfl (fun d hd acc ha => by
      obtain ⟨i, _, rfl⟩ := List.mem_map.mp hd
      simp [turnC, startE, setR, parR, parE, asgT, asgTs, asgsR, bindT, bindTs, wipeE, ha, pw, mo, cellI]) LIM 0 [] rfl (Nat.zero_le _) (by simp only [List.length_map, LIM]; omega) (by simp only [List.length_map, LIM]; omega)
  have em : ((ms.map D.int).drop 0).map (fun d => match d with
    | .int i => .int (cellI i)
    | d => d) = (ms.map cellI).map D.int := by simp
  rw [em, List.nil_append] at w
  have m5 : ∀ y S, binD .mul (.int 5) (.int y) S = .ok (.int (5 * y)) S := fun y S => mul_ok' (by decide) (by decide)
  refine ⟨[Ob.lst (ms.map D.int), .lst ((ms.map cellI).map D.int), .lst (bagL 1 0 0 (8009 + 5 * (ms.length : Int)) 0)], ?_, ⟨?_, ⟨ms.map cellI, rfl⟩, ⟨0, 0, _, 0, rfl⟩⟩⟩
  · rw [call_eq df__law_bag]
    refine run_keep rfl (Nat.zero_le _) (o := .lst (bagL 1 0 0 (8009 + 5 * (ms.length : Int)) 0)) rfl (by simp [bagL]) ?_
    have sc : ∀ S, slcD (.scr ns) none (some 63) S = .ok (.loc S.length) (S ++ [Ob.lst (ms.map D.int)]) := fun S => rfl
    have lc : bltD .len [.loc 1] [Ob.lst (ms.map D.int), .lst ((ms.map cellI).map D.int)] = .ok (.int ms.length) [Ob.lst (ms.map D.int), .lst ((ms.map cellI).map D.int)] := by
      rw [len_loc (ds := (ms.map cellI).map D.int) rfl]; simp
    have it0 : itD (.loc 0) [Ob.lst (ms.map D.int)] = .ok (.lst 0) [Ob.lst (ms.map D.int)] := rfl
    generalize hms : ms = L at *
    simp only [List.map_map] at w lc ⊢
    simp [b__law_bag, startE, setR, parR, parE, asgT, asgTs, asgsR, bindT, bindTs, wipeE, sc, it0, w, lc, m5, partR, bagL]
  · have hb : ∀ (l : List Int) (n : Nat), bds n (l.map D.int) = true := fun l n => bds_map (fun _ => rfl) l
    have hb2 : ∀ n : Nat, bds n (ms.map (D.int ∘ cellI)) = true := fun n => bds_map (f := D.int ∘ cellI) (fun _ => rfl) ms
    simp [wf, hb, hb2, bagL]
theorem Bag.add {b c : Nat} {o : Ob} (h : Bag b c S) (ho : o.bd (S.length + 1) = true) : Bag b c (S ++ [o]) := by
  refine ⟨wf_add h.w ho, ?_, ?_⟩
  · obtain ⟨ns, e⟩ := h.cells
    exact ⟨ns, by rw [List.getElem?_append_left h.cl]; exact e⟩
  · obtain ⟨i, x, s, n, e⟩ := h.bag
    exact ⟨i, x, s, n, by rw [List.getElem?_append_left h.bl]; exact e⟩
theorem bds_mem {n : Nat} : ∀ {ds : List D}, bds n ds = true → ∀ d ∈ ds, d.bd n = true
  | [], _, d, hd => nomatch hd
  | e :: ds, h, d, hd => by
    rw [bds_cons, Bool.and_eq_true] at h
    rcases List.mem_cons.mp hd with rfl | hd
    · exact h.1
    · exact bds_mem h.2 d hd
theorem some_any {b c t : Nat} {ds : List D} (h : Bag b c S) (ht : S[t]? = some (.lst ds)) (hbt : b ≠ t) (h0 : 0 < ds.length) (h1 : ds.length < 1000) : ∃ d ∈ ds, ∃ i x s n, (cxK md.P (k + 2)).call "_law_some" [.loc b, .loc t] S = .ok d (S.set b (.lst (bagL c i x s n))) := by
  have lt : bltD .len [.loc t] S = .ok (.int ds.length) S := len_loc ht
  obtain ⟨d, d0, d1, i, x, s, n, hp⟩ := pick_ok (k := k) h (w := (ds.length : Int)) (by omega) (by omega)
  obtain ⟨m, rfl⟩ : ∃ m : Nat, d = m := ⟨d.toNat, by omega⟩
  have hm : m < ds.length := by omega
  have ht' : (S.set b (.lst (bagL c i x s n)))[t]? = some (.lst ds) := by rw [List.getElem?_set_ne hbt]; exact ht
  have sb : subD (.loc t) (.int m) (S.set b (.lst (bagL c i x s n))) = .ok ds[m] (S.set b (.lst (bagL c i x s n))) := by
    rw [sub_loc ht', atI_nat hm, List.getElem?_eq_getElem hm]
    rfl
  have hbd : ds[m].bd S.length = true := by
    have := List.all_eq_true.mp h.w _ (List.mem_of_getElem? ht)
    exact bds_mem this _ (List.getElem_mem hm)
  refine ⟨ds[m], List.getElem_mem hm, i, x, s, n, ?_⟩
  rw [call_eq df__law_some]
  refine run_rtW rfl List.length_set (wf_set h.w (bagL_bd h.cl)) hbd ?_
  simp [b__law_some, startE, setR, parR, parE, asgT, asgTs, asgsR, bindT, bindTs, wipeE, lt, hp, sb, df__law_pick]
/-- lists stay lists -/
def Keep (S S' : Store) : Prop := ∀ (l : Nat) (ds : List D), S[l]? = some (Ob.lst ds) → ∃ ds' : List D, S'[l]? = some (Ob.lst ds')
theorem Keep.refl : Keep S S := fun _ ds h => ⟨ds, h⟩
theorem Keep.trans {S1 S2 S3 : Store} (a : Keep S1 S2) (b : Keep S2 S3) : Keep S1 S3 := fun l ds h => by
  obtain ⟨ds', h'⟩ := a l ds h
  exact b l ds' h'
theorem Keep.add {o : List Ob} : Keep S (S ++ o) := fun l ds h => ⟨ds, by rw [List.getElem?_append_left (List.getElem?_eq_some_iff.mp h).1]; exact h⟩
theorem Keep.set {b : Nat} {ms : List D} : Keep S (S.set b (.lst ms)) := fun l ds h => by
  by_cases e : b = l
  · subst e
    exact ⟨ms, List.getElem?_set_self (List.getElem?_eq_some_iff.mp h).1⟩
  · exact ⟨ds, by rw [List.getElem?_set_ne e]; exact h⟩
theorem BadE.keep {S' : Store} {d : D} (h : BadE S d) (a : Keep S S') : BadE S' d := by
  rcases h with h | h | h | ⟨l, ds, e, h⟩
  · exact .inl h
  · exact .inr (.inl h)
  · exact .inr (.inr (.inl h))
  · obtain ⟨ds', h'⟩ := a l ds h
    exact .inr (.inr (.inr ⟨l, ds', e, h'⟩))
theorem BadP.keep {S' : Store} {d : D} (h : BadP S d) (a : Keep S S') : BadP S' d := by
  rcases h with h | h | h | ⟨l, ds, e, h⟩
  · exact .inl h
  · exact .inr (.inl h)
  · exact .inr (.inr (.inl h))
  · obtain ⟨ds', h'⟩ := a l ds h
    exact .inr (.inr (.inr ⟨l, ds', e, h'⟩))
/-- one of a fresh list -/
theorem some_new {ds : List D} (h : Bag 2 1 S) (hb : bds S.length ds = true) (h0 : 0 < ds.length) (h1 : ds.length < 1000) : ∃ d ∈ ds, ∃ S', (cxK md.P (k + 2)).call "_law_some" [.loc 2, .loc S.length] (S ++ [.lst ds]) = .ok d S' ∧ Bag 2 1 S' ∧ Keep S S' := by
  have hl := h.bl
  have h' : Bag 2 1 (S ++ [.lst ds]) := h.add (bds_mono (Nat.le_succ _) hb)
  obtain ⟨d, hd, i, x, s, n, e⟩ := some_any (k := k) h' (t := S.length) (ds := ds) (by simp) (by omega) h0 h1
  exact ⟨d, hd, _, e, h'.set, Keep.add.trans Keep.set⟩
theorem eqD_bl {a b : Bool} : eqD S (.bl a) (.bl b) = some (decide (a = b)) := by cases a <;> cases b <;> kernel_rfl
theorem cmp_isn_bl {a b : Bool} : cmpD .isn (.bl a) (.bl b) S = .ok (.bl (!decide (a = b))) S := rfl
theorem cmp_isn_non : cmpD .isn .non .non S = .ok (.bl false) S := rfl
theorem datas_ints : ∀ is : List Int, datas (is.map D.int) = some (is.map PyData.int)
  | [] => rfl
  | i :: is => by rw [List.map_cons, datas, datas_ints is]; rfl
theorem depth_ints : ∀ is : List Int, PyData.depthAll (is.map PyData.int) ≤ 1
  | [] => by simp [PyData.depthAll]
  | i :: is => by
    have := depth_ints is
    rw [List.map_cons, PyData.depthAll, PyData.depth]
    omega
theorem eqv_ints : ∀ is : List Int, PyData.eqvAll (is.map PyData.int) (is.map PyData.int) = true
  | [] => rfl
  | i :: is => by
    rw [List.map_cons, PyData.eqvAll, eqv_ints is]
    simp [PyData.eqv]
theorem eqD_ints {a b : Nat} {is : List Int} (ha : S[a]? = some (.lst (is.map D.int))) (hb : S[b]? = some (.lst (is.map D.int))) : eqD S (.loc a) (.loc b) = some true := by
  have d : ∀ l : Nat, S[l]? = some (.lst (is.map D.int)) → dataOf S (.loc l) = some (.list (is.map PyData.int)) := fun l h => by
    simp only [dataOf, h, datas_ints]
    rfl
  show (match dataOf S (.loc a), dataOf S (.loc b) with
    | some p, some q => if p.depth ≤ 60 ∧ q.depth ≤ 60 then some (p.eqv q) else none
    | _, _ => none) = _
  rw [d a ha, d b hb]
  have h1 := depth_ints is
  have c : (PyData.list (is.map PyData.int)).depth ≤ 60 := by
    rw [PyData.depth]
    omega
  dsimp only
  rw [if_pos ⟨c, c⟩, PyData.eqv, eqv_ints]
/-! ### words -/
theorem word_e {b : EX} {env : EnvD} {S' : Store} (h : evE (cxK md.P k) b env S = .exc ⟨"NoEdits", []⟩ S') : (cxK md.P (k + 2)).lam "_law_word_of" b env S = .ok (.str "edits") S' := by
  rw [lam_eq, h]; rfl
theorem word_p {b : EX} {env : EnvD} {S' : Store} (h : evE (cxK md.P k) b env S = .exc ⟨"NoProgram", []⟩ S') : (cxK md.P (k + 2)).lam "_law_word_of" b env S = .ok (.str "program") S' := by
  rw [lam_eq, h]; rfl
theorem word_n {b : EX} {env : EnvD} {S' : Store} (h : evE (cxK md.P k) b env S = .exc ⟨"NoNumber", []⟩ S') : (cxK md.P (k + 2)).lam "_law_word_of" b env S = .ok (.str "number") S' := by
  rw [lam_eq, h]; rfl
end
end K89
end

section
set_option Elab.async false
set_option linter.all false
set_option maxRecDepth 100000
set_option maxHeartbeats 1000000
set_option autoImplicit false
namespace K89
open PySem Ev
section
variable {k : Nat} {S : Store}
def nthS : SS → Nat → ST
  | .nil, _ => .pass
  | .cons s _, 0 => s
  | .cons _ r, n + 1 => nthS r n
abbrev st (i : Nat) : ST := nthS b_law i
theorem law_eq : b_law = .cons (st 0) (.cons (st 1) (.cons (st 2) (.cons (st 3) (.cons (st 4) (.cons (st 5) (.cons (st 6) (.cons (st 7) (.cons (st 8) (.cons (st 9) (.cons (st 10) (.cons (st 11) (.cons (st 12) (.cons (st 13) (.cons (st 14) (.cons (st 15) (.cons (st 16) (.cons (st 17) .nil))))))))))))))))) := rfl
abbrev e0 (z : D) (x2 x4 x5 x7 x9 x10 x11 x12 : Option D) : EnvD := [some z, some (.loc 2), x2, none, x4, x5, none, x7, none, x9, x10, x11, x12, none]
theorem walkT_maps {α : Type} {f : D → List D → Store → Res (List D)} {g h : α → D} : ∀ (l : List α) (acc : List D), (∀ a ∈ l, ∀ acc, acc.length < LIM → f (h a) acc S = .ok (acc ++ [g a]) S) → acc.length + l.length ≤ LIM → walkT f (l.map h) acc S = .ok (acc ++ l.map g) S
  | [], acc, _, _ => by simp [walkT]
  | a :: l, acc, hf, hl => by
    rw [List.length_cons] at hl
    rw [List.map_cons]
    unfold walkT
    rw [hf a List.mem_cons_self acc (by omega)]
    show walkT _ _ _ _ = _
    rw [walkT_maps l (acc ++ [g a]) (fun b hb => hf b (List.mem_cons_of_mem _ hb)) (by rw [List.length_append, List.length_singleton]; omega)]
    simp
/-! ### rows, one, far -/
theorem lrows_walk {z : D} : ∀ (ds : List D) (rs : List (List It)) (St : Store), Bag 2 1 St → (∀ r ∈ rs, r.length ≤ 9) → rs.length + ds.length ≤ 20 →
    ∃ (rs' : List (List It)) (S' : Store), rs'.length = rs.length + ds.length ∧ (∀ r ∈ rs', r.length ≤ 9) ∧ walkT (turnC (cxK md.P (k + 12)) [3] (.name 3) (fun _ S => .ok true S) (.call "_law_row" (.cons (.var 1) (.cons (.int 9) .nil))) (e0 z none none none none none none none none)) ds (rs.map pr) St = .ok (rs'.map pr) S' ∧ Bag 2 1 S'
  | [], rs, St, h, hr, _ => ⟨rs, St, rfl, hr, rfl, h⟩
  | d :: ds, rs, St, h, hr, hl => by
    simp only [List.length_cons] at hl
    obtain ⟨l, ll, i, x, s, n, e⟩ := row_ok (k := k + 8) h
    have t : turnC (cxK md.P (k + 12)) [3] (.name 3) (fun _ S => .ok true S) (.call "_law_row" (.cons (.var 1) (.cons (.int 9) .nil))) (e0 z none none none none none none none none) d (rs.map pr) St = .ok ((rs ++ [l]).map pr) (St.set 2 (.lst (bagL 1 i x s n))) := by
      have : rs.length < LIM := by simp only [LIM]; omega
      simp [turnC, startE, setR, parR, parE, asgT, asgTs, asgsR, bindT, bindTs, wipeE, e0, df__law_row, e, this]
    obtain ⟨rs', S', e1, e2, e3, e4⟩ := lrows_walk ds (rs ++ [l]) _ (h.set (i := i) (x := x) (s := s) (n := n)) (fun r hr' => by
      rcases List.mem_append.mp hr' with hr' | hr'
      · exact hr r hr'
      · rw [List.mem_singleton.mp hr']; exact ll) (by simp; omega)
    refine ⟨rs', S', by simp at e1 ⊢; omega, e2, ?_, e4⟩
    unfold walkT
    rw [t]
    exact e3
theorem st2_ok (h : Bag 2 1 S) (z : D) : ∃ (r : List It) (rs : List (List It)), rs.length ≤ 3 ∧ (∀ r' ∈ r :: rs, r'.length ≤ 9) ∧ ∃ S', evS (cxK md.P (k + 12)) (st 2) (e0 z none none none none none none none none) S = .nx (e0 z (some (.tup ((r :: rs).map pr))) none none none none none none none) S' ∧ Bag 2 1 S' := by
  obtain ⟨d, d0, d1, i, x, s, n, hp⟩ := pick_ok (k := k + 11) h (w := 4) (by decide) (by decide)
  obtain ⟨m, rfl⟩ : ∃ m : Nat, d = m := ⟨d.toNat, by omega⟩
  have rg : ∀ St, rng1R (.int (1 + (m : Int))) St = .ok (.ds (rngL 0 1 (m + 1))) St := fun St => by rw [Int.add_comm]; exact rng1_nat (by omega)
  obtain ⟨rs, S', e1, e2, e3, e4⟩ := lrows_walk (k := k) (z := z) (rngL 0 1 (m + 1)) [] _ (h.set (i := i) (x := x) (s := s) (n := n)) (fun r hr => nomatch hr) (by simp [rngL_len]; omega)
  rw [rngL_len, List.length_nil] at e1
  cases rs with
  | nil => simp at e1
  | cons r rs =>
    refine ⟨r, rs, by simp at e1; omega, e2, S', ?_, e4⟩
    simp only [List.map_nil] at e3
    generalize hq : (r :: rs).map pr = q at e3 ⊢
    simp [st, nthS, b_law, e0, startE, setR, parR, parE, asgT, asgTs, asgsR, bindT, bindTs, wipeE, df__law_pick, hp, rg, e3]
theorem st3_ok (h : Bag 2 1 S) (z : D) (r : List It) (rs : List (List It)) (hr : r.length ≤ 9) : ∃ l : List It, l.length ≤ 18 ∧ ∃ S', evS (cxK md.P (k + 12)) (st 3) (e0 z (some (.tup ((r :: rs).map pr))) none none none none none none none) S = .nx (e0 z (some (.tup ((r :: rs).map pr))) (some (pr l)) none none none none none none) S' ∧ Bag 2 1 S' := by
  obtain ⟨a, la, i, x, s, n, r1⟩ := row_ok (k := k + 8) h
  have h1 := h.set (i := i) (x := x) (s := s) (n := n)
  obtain ⟨b, lb, i, x, s, n, r2⟩ := near_ok (k := k + 8) h1 r (by omega)
  have h2 := h1.set (i := i) (x := x) (s := s) (n := n)
  revert r1 r2 h1 h2
  generalize S.set 2 _ = S1
  generalize S1.set 2 _ = S2
  intro r1 h1 r2 h2
  obtain ⟨d, hd, S', e, h3, _⟩ := some_new (k := k + 10) (ds := [pr a, pr b]) h2 (by simp [bds_its]) (by simp) (by simp)
  have fin : ∀ l : List It, d = pr l → evS (cxK md.P (k + 12)) (st 3) (e0 z (some (.tup ((r :: rs).map pr))) none none none none none none none) S = .nx (e0 z (some (.tup ((r :: rs).map pr))) (some (pr l)) none none none none none none) S' := fun l hl => by
    rw [hl] at e
    simp [st, nthS, b_law, e0, startE, setR, parR, parE, asgT, asgTs, asgsR, bindT, bindTs, wipeE, df__law_row, df__law_near, df__law_some, r1, r2, e]
  rcases List.mem_cons.mp hd with hd | hd
  · exact ⟨a, by omega, S', fin a hd, h3⟩
  · exact ⟨b, by omega, S', fin b (List.mem_singleton.mp hd), h3⟩
abbrev fars (l : List It) (rs : List (List It)) : List Int := rs.map (dist l)
theorem st4_ok (h : Bag 2 1 S) (z : D) (l : List It) (hl : l.length ≤ 18) (rs : List (List It)) (h4 : rs.length ≤ 4) (hr : ∀ r ∈ rs, r.length ≤ 9) : evS (cxK md.P (k + 12)) (st 4) (e0 z (some (.tup (rs.map pr))) (some (pr l)) none none none none none none) S = .nx (e0 z (some (.tup (rs.map pr))) (some (pr l)) (some (.loc S.length)) none none none none none) (S ++ [.lst ((fars l rs).map D.int)]) := by
  have w := walkT_maps (S := S) (f := turnC (cxK md.P (k + 12)) [6] (.name 6) (fun _ S => .ok true S) (.call "_law_far" (.cons (.var 4) (.cons (.var 6) .nil))) (e0 z (some (.tup (rs.map pr))) (some (pr l)) none none none none none none)) (g := fun r => .int (dist l r)) (h := pr) rs [] (fun r hr' acc ha => by
    have f := far_ok (k := k + 10) l r h.w (by omega) (by have := hr r hr'; omega)
    simp [turnC, startE, setR, parR, parE, asgT, asgTs, asgsR, bindT, bindTs, wipeE, e0, df__law_far, f, ha]) (by simp only [LIM, List.length_nil]; omega)
  rw [List.nil_append] at w
  rw [fars, List.map_map]
  generalize rs.map pr = q at w ⊢
  have e : (D.int ∘ dist l) = fun r => .int (dist l r) := rfl
  rw [e]
  simp [st, nthS, b_law, e0, startE, setR, parR, parE, asgT, asgTs, asgsR, bindT, bindTs, wipeE, w]
theorem min_loc {f : Nat} {d : Int} {ds : List Int} (h : S[f]? = some (.lst ((d :: ds).map D.int))) : bltD .min [.loc f] S = .ok (.int (fm d 0 ds 1).1) S := by
  simp only [bltD, h, minI_map]
theorem scal_ints : ∀ l : List Int, (l.map D.int).all isScal = true
  | [] => rfl
  | i :: l => by rw [List.map_cons, List.all_cons, scal_ints l]; rfl
theorem index_loc {f : Nat} {d : Int} {ds : List Int} (h : S[f]? = some (.lst ((d :: ds).map D.int))) : methD (.loc f) .index [.int (fm d 0 ds 1).1] S = .ok (.int (amin (d :: ds) : Nat)) S := by
  have e : isScal (.int (fm d 0 ds 1).1) = true := rfl
  simp only [methD, h, scal_ints, e, Bool.and_self, if_true, index_min]
theorem st5_ok (h : Bag 2 1 S) (z : D) (l : List It) (hl : l.length ≤ 18) (r : List It) (rs : List (List It)) (h4 : rs.length ≤ 3) (hr : ∀ r' ∈ r :: rs, r'.length ≤ 9) {f : Nat} (hf : S[f]? = some (.lst ((fars l (r :: rs)).map D.int))) : evS (cxK md.P (k + 12)) (st 5) (e0 z (some (.tup ((r :: rs).map pr))) (some (pr l)) (some (.loc f)) none none none none none) S = .nx (e0 z (some (.tup ((r :: rs).map pr))) (some (pr l)) (some (.loc f)) none none none none none) (S ++ [.lst ((fars l (r :: rs)).map D.int)]) := by
  have w := walkT_maps (S := S) (f := turnC (cxK md.P (k + 12)) [6] (.name 6) (fun _ S => .ok true S) (.call "distance" (.cons (.var 4) (.cons (.var 6) .nil))) (e0 z (some (.tup ((r :: rs).map pr))) (some (pr l)) (some (.loc f)) none none none none none)) (g := fun r => .int (dist l r)) (h := pr) (r :: rs) [] (fun r hr' acc ha => by
    have f := distance_ok (k := k + 5) l r h.w (by have := hr r hr'; omega)
    simp [turnC, startE, setR, parR, parE, asgT, asgTs, asgsR, bindT, bindTs, wipeE, e0, df_distance, f, ha]) (by simp only [LIM, List.length_nil, List.length_cons]; omega)
  rw [List.nil_append] at w
  have nr := nearest_ok (k := k + 4) l r rs (by omega) (fun r' h' => by have := hr r' h'; omega) (by omega) h.w
  have mn := min_loc hf
  have ix := index_loc hf
  have ki := kind_index hf
  have ee := eqD_ints (S := S ++ [Ob.lst ((fars l (r :: rs)).map D.int)]) (a := S.length) (b := f) (is := fars l (r :: rs)) (by simp) (by rw [List.getElem?_append_left (List.getElem?_eq_some_iff.mp hf).1]; exact hf)
  have e : (fars l (r :: rs)).map D.int = (r :: rs).map fun r => .int (dist l r) := by rw [fars, List.map_map]; rfl
  rw [e] at ee ⊢
  generalize hq : (r :: rs).map pr = q at *
  generalize hq2 : ((r :: rs).map fun r => D.int (dist l r)) = q2 at *
  have e3 : amin (dist l r :: rs.map (dist l)) = amin ((r :: rs).map (dist l)) := rfl
  rw [e3] at ix
  generalize amin ((r :: rs).map (dist l)) = am at *
  simp [st, nthS, b_law, e0, startE, setR, parR, parE, asgT, asgTs, asgsR, bindT, bindTs, wipeE, df_nearest, nr, mn, ki, ix, w, ee]
/-! ### the loop over the rows -/
theorem turn6_ok (h : wf S) (z : D) (l : List It) (hl : l.length ≤ 18) (rs : List (List It)) (h4 : rs.length ≤ 4) (hr : ∀ r' ∈ rs, r'.length ≤ 9) (o : List It) (ho : o.length ≤ 9) (x5 x7 : Option D) : turnF (cxK md.P (k + 12)) (.name 7) l_law_0 (pr o) (e0 z (some (.tup (rs.map pr))) (some (pr l)) x5 x7 none none none none) S = .nx (e0 z (some (.tup (rs.map pr))) (some (pr l)) x5 (some (pr o)) none none none none) S := by
  have fo := far_ok (k := k + 10) l o h (by omega) (by omega)
  have d0 := distance_ok (k := k + 5) l o h (by omega)
  have w := walkT_maps (S := S) (f := turnC (cxK md.P (k + 12)) [8] (.name 8) (fun _ S => .ok true S) (.cmp .le (.call "_law_far" (.cons (.var 4) (.cons (.var 7) .nil))) (.bin .add (.call "distance" (.cons (.var 4) (.cons (.var 8) .nil))) (.call "distance" (.cons (.var 8) (.cons (.var 7) .nil))))) (e0 z (some (.tup (rs.map pr))) (some (pr l)) x5 (some (pr o)) none none none none)) (g := fun _ => .bl true) (h := pr) rs [] (fun r hr' acc ha => by
    have h9 := hr r hr'
    have d1 := distance_ok (k := k + 5) l r h (by omega)
    have d2 := distance_ok (k := k + 5) r o h (by omega)
    have tr := dist_tri l r o
    simp [turnC, startE, setR, parR, parE, asgT, asgTs, asgsR, bindT, bindTs, wipeE, e0, df_distance, df__law_far, fo, d1, d2, tr, ha]) (by simp only [LIM, List.length_nil]; omega)
  have e1 : [] ++ rs.map (fun _ => D.bl true) = List.replicate rs.length (.bl true) := by
    rw [List.nil_append]
    exact List.map_const'
  rw [e1] at w
  have al := bll_all (S := S) (bls_true rs.length)
  have eq := eqD_pr (S := S) l o
  have dz : decide (dist l o = 0) = decide (l = o) := by rw [Bool.eq_iff_iff]; simp [dist_zero]
  have en : eqD S (.bl (decide (l = o))) (.bl (decide (l = o))) = some true := by rw [eqD_bl]; simp
  generalize rs.map pr = q at w ⊢
  simp [turnF, l_law_0, e0, startE, setR, parR, parE, asgT, asgTs, asgsR, bindT, bindTs, wipeE, w, al, df_distance, d0, dz, eq, en]
theorem loop6_ok (h : wf S) (z : D) (l : List It) (hl : l.length ≤ 18) (rs : List (List It)) (h4 : rs.length ≤ 4) (hr : ∀ r' ∈ rs, r'.length ≤ 9) (x5 : Option D) : ∀ (os : List (List It)) (x7 : Option D), (∀ r' ∈ os, r'.length ≤ 9) → ∃ y7, forT (turnF (cxK md.P (k + 12)) (.name 7) l_law_0) (os.map pr) (e0 z (some (.tup (rs.map pr))) (some (pr l)) x5 x7 none none none none) S = .nx (e0 z (some (.tup (rs.map pr))) (some (pr l)) x5 y7 none none none none) S
  | [], x7, _ => ⟨x7, rfl⟩
  | o :: os, x7, ho => by
    obtain ⟨y7, e⟩ := loop6_ok h z l hl rs h4 hr x5 os (some (pr o)) fun r h' => ho r (List.mem_cons_of_mem _ h')
    refine ⟨y7, ?_⟩
    rw [List.map_cons]
    unfold forT
    rw [turn6_ok h z l hl rs h4 hr o (ho o List.mem_cons_self)]
    exact e
theorem st6_ok (h : wf S) (z : D) (l : List It) (hl : l.length ≤ 18) (rs : List (List It)) (h4 : rs.length ≤ 4) (hr : ∀ r' ∈ rs, r'.length ≤ 9) (x5 : Option D) : ∃ y7, evS (cxK md.P (k + 12)) (st 6) (e0 z (some (.tup (rs.map pr))) (some (pr l)) x5 none none none none none) S = .nx (e0 z (some (.tup (rs.map pr))) (some (pr l)) x5 y7 none none none none) S := by
  obtain ⟨y7, e⟩ := loop6_ok (k := k) h z l hl rs h4 hr x5 rs none hr
  refine ⟨y7, ?_⟩
  simp only [e0] at e ⊢
  generalize rs.map pr = q at e ⊢
  simp [st, nthS, b_law, startE, setR, parR, parE, asgT, asgTs, asgsR, bindT, bindTs, wipeE, e]
end
end K89
end

section
set_option Elab.async false
set_option linter.all false
set_option maxRecDepth 100000
set_option maxHeartbeats 1000000
set_option autoImplicit false
namespace K89
open PySem Ev
section
variable {k : Nat} {S : Store}
/-! ### odd edits -/
theorem BadE.bd {d : D} (h : BadE S d) : d.bd S.length = true := by
  rcases h with ⟨x, hx, rfl⟩ | rfl | ⟨i, rfl⟩ | ⟨l, ds, rfl, h⟩
  · simp only [badE, List.mem_cons, List.not_mem_nil, or_false] at hx
    rcases hx with rfl | rfl | rfl | rfl | rfl | rfl | rfl | rfl | rfl <;> rfl
  · rfl
  · rfl
  · simpa using (List.getElem?_eq_some_iff.mp h).1
theorem BadE.one {d : D} (h : d ∈ badE) : BadE S (.tup [d]) := .inl ⟨d, h, rfl⟩
theorem st7_ok (h : wf S) (z : D) (l : List It) (hl : l.length ≤ 18) (r : List It) (rs : List (List It)) (hr : r.length ≤ 9) (x5 x7 : Option D) : evS (cxK md.P (k + 12)) (st 7) (e0 z (some (.tup ((r :: rs).map pr))) (some (pr l)) x5 x7 none none none none) S = .nx (e0 z (some (.tup ((r :: rs).map pr))) (some (pr l)) x5 x7 (some (.tup ((edits [] (moves l r)).map Ed.d))) none none none) S := by
  have d := difference_ok (k := k + 5) l r h (by omega)
  generalize (edits [] (moves l r)).map Ed.d = E at d ⊢
  simp [st, nthS, b_law, e0, startE, setR, parR, parE, asgT, asgTs, asgsR, bindT, bindTs, wipeE, df_difference, d]
theorem st8_ok (h : Bag 2 1 S) (z : D) (x2 x4 x5 x7 : Option D) (E : List D) (hE : bds (S.length + 1) E = true) : ∃ d S', evS (cxK md.P (k + 12)) (st 8) (e0 z x2 x4 x5 x7 (some (.tup E)) none none none) S = .nx (e0 z x2 x4 x5 x7 (some (.tup E)) (some d) none none) S' ∧ Bag 2 1 S' ∧ BadE S' d := by
  have hb := h.bl
  have h1 : Bag 2 1 (S ++ [.lst E]) := h.add hE
  have g : (S ++ [Ob.lst E])[S.length]? = some (.lst E) := by simp
  have ll : S.length < (S ++ [Ob.lst E]).length := by simp
  have lt : bltD .list [.tup E] S = .ok (.loc S.length) (S ++ [Ob.lst E]) := list_tup
  generalize S ++ [Ob.lst E] = S1 at *
  generalize S.length = n at *
  obtain ⟨d, hd, S', e, h2, kp⟩ := some_new (k := k + 10) (ds := [.non, .loc n, .tup [.tup [.str "keep", .int 0]], .tup [.tup [.str "in", .tup []]], .tup [.tup [.str "out", .bl true]], .tup [.tup [.str "put", .int 1]], .int 5]) h1 (by simp [ll]) (by simp) (by simp)
  have bad : BadE S1 d := by
    simp only [List.mem_cons, List.not_mem_nil, or_false] at hd
    rcases hd with rfl | rfl | rfl | rfl | rfl | rfl | rfl
    · exact .inr (.inl rfl)
    · exact .inr (.inr (.inr ⟨n, E, rfl, g⟩))
    · exact .one (by simp [badE])
    · exact .one (by simp [badE])
    · exact .one (by simp [badE])
    · exact .one (by simp [badE])
    · exact .inr (.inr (.inl ⟨5, rfl⟩))
  refine ⟨d, S', ?_, h2, bad.keep kp⟩
  simp [-list_tup, st, nthS, b_law, e0, startE, setR, parR, parE, asgT, asgTs, asgsR, bindT, bindTs, wipeE, lt, df__law_some, e, disR, LIM]
theorem st9_ok (h : Bag 2 1 S) (z : D) (x2 x4 x5 x7 x9 : Option D) {w : D} (hw : BadE S w) : ∃ d S', evS (cxK md.P (k + 12)) (st 9) (e0 z x2 x4 x5 x7 x9 (some w) none none) S = .nx (e0 z x2 x4 x5 x7 x9 (some d) none none) S' ∧ Bag 2 1 S' ∧ BadE S' d := by
  have wb := hw.bd
  obtain ⟨d, hd, S', e, h2, kp⟩ := some_new (k := k + 10) (ds := [w, .tup [.tup [.str "in", .int 5]], .tup [.tup [.str "in", .tup [.non]]], .tup [.tup [.str "keep", .int 2001]], .tup [.tup [.str "keep", .int 1, .int 1]], .tup [.str "keep"]]) h (by simp [wb]) (by simp) (by simp)
  have bad : BadE S d := by
    simp only [List.mem_cons, List.not_mem_nil, or_false] at hd
    rcases hd with rfl | rfl | rfl | rfl | rfl | rfl
    · exact hw
    · exact .one (by simp [badE])
    · exact .one (by simp [badE])
    · exact .one (by simp [badE])
    · exact .one (by simp [badE])
    · exact .one (by simp [badE])
  refine ⟨d, S', ?_, h2, bad.keep kp⟩
  simp [st, nthS, b_law, e0, startE, setR, parR, parE, asgT, asgTs, asgsR, bindT, bindTs, wipeE, df__law_some, e, disR, LIM]
theorem w_ed : ((Str.ofString "edits") == (Str.ofString "edits")) = true := by decide +kernel
theorem w_pr : ((Str.ofString "program") == (Str.ofString "program")) = true := by decide +kernel
theorem w_nu : ((Str.ofString "number") == (Str.ofString "number")) = true := by decide +kernel
theorem st10_ok (h : wf S) (z : D) (x2 x5 x7 x9 : Option D) (l : List It) (hl : l.length ≤ 18) {d : D} (hd : BadE S d) : evS (cxK md.P (k + 12)) (st 10) (e0 z x2 (some (pr l)) x5 x7 x9 (some d) none none) S = .nx (e0 z x2 (some (pr l)) x5 x7 x9 (some d) none none) S := by
  have a := are_edits_no (k := k + 5) hd h
  have p := patched_no (k := k + 2) l (by omega) hd h
  have w : (cxK md.P (k + 12)).lam "_law_word_of" (.call "patched" (.cons (.var 4) (.cons (.var 10) .nil))) (e0 z x2 (some (pr l)) x5 x7 x9 (some d) none none) S = .ok (.str "edits") S := word_e (k := k + 10) (by simp [e0, startE, setR, parR, parE, asgT, asgTs, asgsR, bindT, bindTs, wipeE, df_patched, p])
  simp only [e0] at w ⊢
  simp [st, nthS, b_law, startE, setR, parR, parE, asgT, asgTs, asgsR, bindT, bindTs, wipeE, df_are_edits, a, w, cmp_isn_bl, w_ed]
theorem st11_ok (z : D) (x2 x5 x7 x9 x10 : Option D) (l : List It) : evS (cxK md.P (k + 12)) (st 11) (e0 z x2 (some (pr l)) x5 x7 x9 x10 none none) S = .nx (e0 z x2 (some (pr l)) x5 x7 x9 x10 (some (.tup [.tup [.str "keep", .int ((l.length : Int) + 1)]])) none) S := by
  simp [st, nthS, b_law, e0, startE, setR, parR, parE, asgT, asgTs, asgsR, bindT, bindTs, wipeE]
theorem st12_ok (h : wf S) (z : D) (x2 x5 x7 x9 x10 : Option D) (l : List It) (hl : l.length ≤ 18) : evS (cxK md.P (k + 12)) (st 12) (e0 z x2 (some (pr l)) x5 x7 x9 x10 (some (.tup [.tup [.str "keep", .int ((l.length : Int) + 1)]])) none) S = .nx (e0 z x2 (some (pr l)) x5 x7 x9 x10 (some (.tup [.tup [.str "keep", .int ((l.length : Int) + 1)]])) none) S := by
  have a := are_edits_ok (k := k + 5) (S := S) [.keep (l.length + 1)] (fun e he => by
    rw [List.mem_singleton.mp he]
    exact ⟨by omega, by omega⟩) (by simp) h
  have p := patched_far (k := k + 2) l (by omega) [] (fun _ he => nomatch he) (by simp) h
  have e : [Ed.keep (l.length + 1)].map Ed.d = [.tup [.str "keep", .int ((l.length : Int) + 1)]] := rfl
  rw [e] at a
  rw [List.map_nil] at p
  generalize [D.tup [.str "keep", .int ((l.length : Int) + 1)]] = q at *
  have w : (cxK md.P (k + 12)).lam "_law_word_of" (.call "patched" (.cons (.var 4) (.cons (.var 11) .nil))) (e0 z x2 (some (pr l)) x5 x7 x9 x10 (some (.tup q)) none) S = .ok (.str "edits") S := word_e (k := k + 10) (by simp [e0, startE, setR, parR, parE, asgT, asgTs, asgsR, bindT, bindTs, wipeE, df_patched, p])
  simp only [e0] at w ⊢
  simp [st, nthS, b_law, startE, setR, parR, parE, asgT, asgTs, asgsR, bindT, bindTs, wipeE, df_are_edits, a, w, cmp_isn_bl, w_ed]
theorem st13_ok (h : wf S) (z : D) (x2 x5 x7 x9 x10 : Option D) (l : List It) (hl : l.length ≤ 18) : evS (cxK md.P (k + 12)) (st 13) (e0 z x2 (some (pr l)) x5 x7 x9 x10 (some (.tup [.tup [.str "keep", .int ((l.length : Int) + 1)]])) none) S = .nx (e0 z x2 (some (pr l)) x5 x7 x9 x10 (some (.tup [.tup [.str "keep", .int ((l.length : Int) + 1)]])) none) S := by
  have p := edits_back_no (k := k + 1) (S := S) l (patched_far (k := k + 1) l (by omega) [.out 1] (fun e he => by
    rw [List.mem_singleton.mp he]
    exact ⟨by omega, by omega⟩) (by simp) h)
  have e : [Ed.out 1].map Ed.d = [.tup [.str "out", .int 1]] := rfl
  rw [e] at p
  have b : ∀ St, binD .add (.tup [.tup [.str "keep", .int ((l.length : Int) + 1)]]) (.tup [.tup [.str "out", .int 1]]) St = .ok (.tup [.tup [.str "keep", .int ((l.length : Int) + 1)], .tup [.str "out", .int 1]]) St := fun St => bin_tup (by simp [LIM])
  generalize [D.tup [.str "keep", .int ((l.length : Int) + 1)], .tup [.str "out", .int 1]] = q2 at *
  generalize [D.tup [.str "keep", .int ((l.length : Int) + 1)]] = q at *
  have w : (cxK md.P (k + 12)).lam "_law_word_of" (.call "edits_back" (.cons (.var 4) (.cons (.bin .add (.var 11) (.tup (.cons (.tup (.cons (.str "out") (.cons (.int 1) .nil))) .nil))) .nil))) (e0 z x2 (some (pr l)) x5 x7 x9 x10 (some (.tup q)) none) S = .ok (.str "edits") S := word_e (k := k + 10) (by simp [e0, startE, setR, parR, parE, asgT, asgTs, asgsR, bindT, bindTs, wipeE, df_edits_back, b, p])
  simp only [e0] at w ⊢
  simp [st, nthS, b_law, startE, setR, parR, parE, asgT, asgTs, asgsR, bindT, bindTs, wipeE, w, w_ed]
/-! ### no program -/
theorem st14_ok (h : Bag 2 1 S) (z : D) (x2 x4 x5 x7 x9 x10 x11 : Option D) : ∃ d S', evS (cxK md.P (k + 12)) (st 14) (e0 z x2 x4 x5 x7 x9 x10 x11 none) S = .nx (e0 z x2 x4 x5 x7 x9 x10 x11 (some d)) S' ∧ Bag 2 1 S' ∧ BadP S' d := by
  have hb := h.bl
  have h1 : Bag 2 1 (S ++ [.lst [.int 2]]) := h.add rfl
  have g : (S ++ [Ob.lst [.int 2]])[S.length]? = some (.lst [.int 2]) := by simp
  have ll : S.length < (S ++ [Ob.lst [.int 2]]).length := by simp
  have lt : Ev.alloc (.lst [.int 2]) S = .ok (.loc S.length) (S ++ [Ob.lst [.int 2]]) := rfl
  generalize S ++ [Ob.lst [.int 2]] = S1 at *
  generalize hn : S.length = n at *
  obtain ⟨d, hd, S', e, h2, kp⟩ := some_new (k := k + 10) (ds := [.non, .loc n, .tup [.str "Dup"], .tup [.str ""], .tup [.tup [.str "quote"]], .int 5]) h1 (by simp [ll]) (by simp) (by simp)
  have bad : BadP S1 d := by
    simp only [List.mem_cons, List.not_mem_nil, or_false] at hd
    rcases hd with rfl | rfl | rfl | rfl | rfl | rfl
    · exact .inr (.inl rfl)
    · exact .inr (.inr (.inr ⟨n, _, rfl, g⟩))
    · exact .inl ⟨_, by simp [badI], rfl⟩
    · exact .inl ⟨_, by simp [badI], rfl⟩
    · exact .inl ⟨_, by simp [badI], rfl⟩
    · exact .inr (.inr (.inl ⟨5, rfl⟩))
  refine ⟨d, S', ?_, h2, bad.keep kp⟩
  simp [-alloc_ok, st, nthS, b_law, e0, startE, setR, parR, parE, asgT, asgTs, asgsR, bindT, bindTs, wipeE, lt, df__law_some, disR, LIM]
  simp [e, startE, setR, parR, parE, asgT, asgTs, asgsR, bindT, bindTs, wipeE]
theorem st15_ok (h : wf S) (z : D) (x5 x7 x9 x10 x11 : Option D) (l : List It) (hl : l.length ≤ 18) (rs : List (List It)) (h4 : rs.length ≤ 4) (hr : ∀ r' ∈ rs, r'.length ≤ 9) {d : D} (hd : BadP S d) : evS (cxK md.P (k + 12)) (st 15) (e0 z (some (.tup (rs.map pr))) (some (pr l)) x5 x7 x9 x10 x11 (some d)) S = .nx (e0 z (some (.tup (rs.map pr))) (some (pr l)) x5 x7 x9 x10 x11 (some d)) S := by
  have p := nearest_no (k := k + 3) l (by omega) rs (fun r h' => by have := hr r h'; omega) hd h
  have b : ∀ St, binD .add (.tup (rs.map pr)) (.tup [d]) St = .ok (.tup (rs.map pr ++ [d])) St := fun St => bin_tup (by simp [LIM]; omega)
  generalize rs.map pr ++ [d] = q2 at *
  generalize rs.map pr = q at *
  have w : (cxK md.P (k + 12)).lam "_law_word_of" (.call "nearest" (.cons (.var 4) (.cons (.bin .add (.var 2) (.tup (.cons (.var 12) .nil))) .nil))) (e0 z (some (.tup q)) (some (pr l)) x5 x7 x9 x10 x11 (some d)) S = .ok (.str "program") S := word_p (k := k + 10) (by simp [e0, startE, setR, parR, parE, asgT, asgTs, asgsR, bindT, bindTs, wipeE, df_nearest, b, p])
  simp only [e0] at w ⊢
  simp [st, nthS, b_law, startE, setR, parR, parE, asgT, asgTs, asgsR, bindT, bindTs, wipeE, w, w_pr]
theorem st16_ok (h : wf S) (z : D) (x2 x5 x7 x9 x10 x11 : Option D) (l : List It) (hl : l.length ≤ 18) {d : D} (hd : BadP S d) : evS (cxK md.P (k + 12)) (st 16) (e0 z x2 (some (pr l)) x5 x7 x9 x10 x11 (some d)) S = .nx (e0 z x2 (some (pr l)) x5 x7 x9 x10 x11 (some d)) S := by
  have p := difference_no (k := k + 3) l (by omega) hd h
  have w : (cxK md.P (k + 12)).lam "_law_word_of" (.call "difference" (.cons (.var 4) (.cons (.var 12) .nil))) (e0 z x2 (some (pr l)) x5 x7 x9 x10 x11 (some d)) S = .ok (.str "program") S := word_p (k := k + 10) (by simp [e0, startE, setR, parR, parE, asgT, asgTs, asgsR, bindT, bindTs, wipeE, df_difference, p])
  simp only [e0] at w ⊢
  simp [st, nthS, b_law, startE, setR, parR, parE, asgT, asgTs, asgsR, bindT, bindTs, wipeE, w, w_pr]
/-! ### no number -/
theorem st17_ok (h : Bag 2 1 S) (z : D) (r : D) (rs : List D) (x4 x5 x7 x9 x10 x11 x12 : Option D) (hx : ∃ o, x4 = some o) : ∃ S', evS (cxK md.P (k + 12)) (st 17) (e0 z (some (.tup (r :: rs))) x4 x5 x7 x9 x10 x11 x12) S = .rt (.bl true) S' := by
  obtain ⟨o, rfl⟩ := hx
  obtain ⟨d, hd, S', e, h2, kp⟩ := some_new (k := k + 8) (ds := badN) h rfl (by simp [badN]) (by simp [badN])
  have p := within_no (k := k + 6) (a := o) (b := r) hd h2.w
  refine ⟨S', ?_⟩
  have w : (cxK md.P (k + 12)).lam "_law_word_of" (.call "within" (.cons (.var 4) (.cons (.sub (.var 2) (.int 0)) (.cons (.call "_law_some" (.cons (.var 1) (.cons (.ofl (.dis (.cons (.neg (.int 1)) (.cons (.int 2001) (.cons (.bl true) (.cons .non .nil)))))) .nil))) .nil)))) (e0 z (some (.tup (r :: rs))) (some o) x5 x7 x9 x10 x11 x12) S = .ok (.str "number") S' := word_n (k := k + 10) (by
    simp only [badN] at e
    simp [e0, startE, setR, parR, parE, asgT, asgTs, asgsR, bindT, bindTs, wipeE, df_within, df__law_some, disR, LIM, e, p])
  simp only [e0] at w ⊢
  simp [st, nthS, b_law, startE, setR, parR, parE, asgT, asgTs, asgsR, bindT, bindTs, wipeE, w, w_nu]
/-! ### the law -/
theorem st0_ok (ns : List Int) : ∃ S', evS (cxK md.P (k + 12)) (st 0) (startE 14 [.scr ns]) [] = .nx (e0 (.scr ns) none none none none none none none none) S' ∧ Bag 2 1 S' := by
  obtain ⟨S1, b1, h⟩ := bag_ok (k := k + 11) ns
  exact ⟨S1, by simp [st, nthS, b_law, e0, startE, setR, parR, parE, asgT, asgTs, asgsR, bindT, bindTs, wipeE, df__law_bag, b1], h⟩
theorem st1_ok (h : wf S) (z : D) : evS (cxK md.P (k + 12)) (st 1) (e0 z none none none none none none none none) S = .nx (e0 z none none none none none none none none) S := by
  have n1 := nearest_ok (k := k + 4) (S := S) [.i2, .i3] [.i2] [[.i3], [.i2, .i3, .i3]] (by decide) (by simp) (by decide) h
  have n2 := nearest_nil (k := k + 4) (S := S) [.i2] (by decide) h
  have v : amin ([[It.i2], [It.i3], [It.i2, It.i3, It.i3]].map (dist [It.i2, It.i3])) = 0 := by simp [amin, fm, dist, lcs]
  rw [v] at n1
  simp only [pr, List.map_cons, List.map_nil, It.d] at n1 n2
  simp [st, nthS, b_law, e0, startE, setR, parR, parE, asgT, asgTs, asgsR, bindT, bindTs, wipeE, df_nearest, n1, n2, cmp_isn_non]
theorem thenO {o : Out} {env : EnvD} {St : Store} {f : EnvD → Store → Out} (h : o = .nx env St) : o.then f = f env St := by rw [h]; rfl
theorem law_ok (ns : List Int) : ∃ S, (cxK md.P (k + 13)).call "law" [.scr ns] [] = .ok (.bl true) S := by
  obtain ⟨S1, a0, h1⟩ := st0_ok (k := k) ns
  have a1 := st1_ok (k := k) h1.w (.scr ns)
  obtain ⟨r, rs, h3, hr, S2, a2, h2⟩ := st2_ok (k := k) h1 (.scr ns)
  obtain ⟨l, hl, S3, a3, b3⟩ := st3_ok (k := k) h2 (.scr ns) r rs (hr r List.mem_cons_self)
  have lr : (r :: rs).length ≤ 4 := by simp; omega
  have a4 := st4_ok (k := k) b3 (.scr ns) l hl (r :: rs) lr hr
  have bi : ∀ (is : List Int) (n : Nat), bds n (is.map D.int) = true := fun is n => bds_map (fun _ => rfl) is
  have b4 : Bag 2 1 (S3 ++ [.lst ((fars l (r :: rs)).map D.int)]) := b3.add (bi _ _)
  have a5 := st5_ok (k := k) b4 (.scr ns) l hl r rs h3 hr (f := S3.length) (by simp)
  have b5 := b4.add (o := .lst ((fars l (r :: rs)).map D.int)) (bi _ _)
  revert a4 a5 b4 b5
  generalize (S3 ++ [Ob.lst ((fars l (r :: rs)).map D.int)]) ++ [Ob.lst ((fars l (r :: rs)).map D.int)] = S5
  generalize S3 ++ [Ob.lst ((fars l (r :: rs)).map D.int)] = S4
  generalize S3.length = f
  intro a4 b4 a5 b5
  obtain ⟨y7, a6⟩ := st6_ok (k := k) b5.w (.scr ns) l hl (r :: rs) lr hr (some (.loc f))
  have a7 := st7_ok (k := k) b5.w (.scr ns) l hl r rs (hr r List.mem_cons_self) (some (.loc f)) y7
  have hE : bds (S5.length + 1) ((edits [] (moves l r)).map Ed.d) = true := bds_map (fun x => Ed.bd x _) _
  revert a7 hE
  generalize (edits [] (moves l r)).map Ed.d = E
  intro a7 hE
  obtain ⟨d8, S8, a8, b8, bad8⟩ := st8_ok (k := k) b5 (.scr ns) (some (.tup ((r :: rs).map pr))) (some (pr l)) (some (.loc f)) y7 E hE
  obtain ⟨d9, S9, a9, b9, bad9⟩ := st9_ok (k := k) b8 (.scr ns) (some (.tup ((r :: rs).map pr))) (some (pr l)) (some (.loc f)) y7 (some (.tup E)) bad8
  have a10 := st10_ok (k := k) b9.w (.scr ns) (some (.tup ((r :: rs).map pr))) (some (.loc f)) y7 (some (.tup E)) l hl bad9
  have a11 := st11_ok (k := k) (S := S9) (.scr ns) (some (.tup ((r :: rs).map pr))) (some (.loc f)) y7 (some (.tup E)) (some d9) l
  have a12 := st12_ok (k := k) b9.w (.scr ns) (some (.tup ((r :: rs).map pr))) (some (.loc f)) y7 (some (.tup E)) (some d9) l hl
  have a13 := st13_ok (k := k) b9.w (.scr ns) (some (.tup ((r :: rs).map pr))) (some (.loc f)) y7 (some (.tup E)) (some d9) l hl
  obtain ⟨d14, S14, a14, b14, bad14⟩ := st14_ok (k := k) b9 (.scr ns) (some (.tup ((r :: rs).map pr))) (some (pr l)) (some (.loc f)) y7 (some (.tup E)) (some d9) (some (.tup [.tup [.str "keep", .int ((l.length : Int) + 1)]]))
  have a15 := st15_ok (k := k) b14.w (.scr ns) (some (.loc f)) y7 (some (.tup E)) (some d9) (some (.tup [.tup [.str "keep", .int ((l.length : Int) + 1)]])) l hl (r :: rs) lr hr bad14
  have a16 := st16_ok (k := k) b14.w (.scr ns) (some (.tup ((r :: rs).map pr))) (some (.loc f)) y7 (some (.tup E)) (some d9) (some (.tup [.tup [.str "keep", .int ((l.length : Int) + 1)]])) l hl bad14
  obtain ⟨S17, a17⟩ := st17_ok (k := k) b14 (.scr ns) (pr r) (rs.map pr) (some (pr l)) (some (.loc f)) y7 (some (.tup E)) (some d9) (some (.tup [.tup [.str "keep", .int ((l.length : Int) + 1)]])) (some d14) ⟨_, rfl⟩
  refine ⟨[], ?_⟩
  rw [call_eq df_law]
  refine run_cut (S' := S17) rfl wf_nil rfl rfl ?_
  show evSs _ b_law (startE 14 _) _ = _
  rw [law_eq, evSs_cons, thenO a0, evSs_cons, thenO a1, evSs_cons, thenO a2, evSs_cons, thenO a3, evSs_cons, thenO a4, evSs_cons, thenO a5, evSs_cons, thenO a6, evSs_cons, thenO a7, evSs_cons, thenO a8, evSs_cons, thenO a9, evSs_cons, thenO a10, evSs_cons, thenO a11, evSs_cons, thenO a12, evSs_cons, thenO a13, evSs_cons, thenO a14, evSs_cons, thenO a15, evSs_cons, thenO a16, evSs_cons]
  have a17 : evS (cxK md.P (k + 12)) (st 17) (e0 (.scr ns) (some (.tup ((r :: rs).map pr))) (some (pr l)) (some (.loc f)) y7 (some (.tup E)) (some d9) (some (.tup [.tup [.str "keep", .int ((l.length : Int) + 1)]])) (some d14)) S14 = .rt (.bl true) S17 := a17
  rw [a17]
  rfl
theorem the_law : md.Law 101 63 := fun ns _ => law_ok (k := 88) ns
end
end K89
end

section
set_option Elab.async false
set_option linter.all false
set_option maxRecDepth 100000
set_option maxHeartbeats 0
namespace K89
open PySem PySem.Spec PyProof.Rows L2 Ev
def lo0 : List Str := ["PileError", "NoNumber", "NoProgram", "NoEdits", "LETTERS", "MOST_NAME", "MOST_INTEGER", "MOST_ITEMS", "MOST_DEEP", "QUOTE", "PUT", "LIST", "KEPT", "is_integer", "is_within", "check_number", "is_name", "is_told", "is_number_value", "inner_rows", "is_bounded", "is_program", "check_program", "KEEP", "OUT"]
def lo1 : List Str := ["IN", "MOST_EDITS", "tails_table", "put_edit", "raw_difference", "difference", "is_edit", "are_edits", "raw_patched", "patched", "edits_back", "distance", "nearest", "within", "_law_bag", "_law_pick", "_law_some", "_law_item", "_law_row", "_law_near", "_law_kept", "_law_moves", "_law_edits", "_law_word_of", "_law_far"]
def loose : List Str := lo0 ++ lo1
abbrev R : PySem.W.OpenRow := PySem.W.OpenLaw.row PySem.Challenge.rw_pilewords_k89_whole_nearest_programs_and
abbrev hk : PySem.W.Hook := md.hk 4
def ob (s : PySem.W.SharedT) : He.AlX := He.obsX 4 md.fa md.fn [] md.tf (exB md) (HandSHeadRun.getT s)
theorem ob_eq (s : PySem.W.SharedT) : ob s = hk.obs s.abs := He.obsX_eq (HandSHeadRun.getT_eq s)
theorem run (w : World) : HandSHeadRun.RunEq R (PySem.W.view R.prog [54]) hk ob 4000 loose w := by
  intro os
  kernel_rfl
end K89
open PySem PySem.W PySem.Calls PyProof.Rows in
theorem PySem.Challenge.cw_pilewords_k89_whole_nearest_programs_and_holds : PySem.Challenge.rw_pilewords_k89_whole_nearest_programs_and.Holds := by
  w_on; o_law
  refine HandSHeadRun.head_any (r := K89.R) (q := view K89.R.prog [54]) (H := K89.hk) (ob := K89.ob) (M := 4000) (loose := K89.loose) (d := HandSHeadRun.topDef K89.R.prog 54) (kwd := []) K89.ob_eq
    (by kernel_rfl) (fun s => by kernel_rfl) K89.run (by kernel_rfl) (by kernel_rfl) (by kernel_rfl) (by rfl) (by first | assumption | decide +kernel) (by decide +kernel) ⟨rfl, rfl, rfl, rfl, rfl, by decide +kernel⟩ ?hw ?hc
  case hw => w_witness2
  case hc => exact Ev.law_end (M := K89.md) (t := K89.t_law) (x := "script") (n := 63) (k := 100) (by rfl) rfl K89.md_ok K89.md_binds K89.the_law ⟨rfl, by decide, by decide⟩ rfl (by decide) (by kernel_rfl) (by kernel_rfl)
end
