import PyProof.Rows.All
import Wide.All
import OpenK.AllK
import Wide.FinOn
import HandS.ForMost
import HandS.Exc
import HandS.Lambda
import HandS.EndTab
import HandS.AnyAll
import KE.KDictKeyed
import KE.KDictLaw
import HandS.TupAny
import HandS.TupMul
import HandS.IsInst
import HandS.Style
import HandS.Zip
import HandS.Rev
import HandS.Deep
import PyProof.Rows.InDataRows
import HandS.Iter
import HandS.Walk
import KE.GoesEnum
import PyProof.FactsAll.list_0
import PyProof.FactsAll.list_3
import HandS.GenList
import PyProof.TupleOfGen
import HandS.Defaults
import HandS.HeadHook4
import HandS.HeadWalk
import HandS.Words
import PySem.Challenge.RW_sensehouse_k71_tables_and_programs
import KE.KStateDown
import HandS.Head0
import HandS.Head1
import HandS.Head2
import HandS.HeadEnd
section
set_option Elab.async false
set_option linter.all false
set_option maxRecDepth 100000
/-! a small language of pure values over a store, and what its programs do -/
namespace Dz
open PySem L2

/-- a value: tuples are values through and through, and so is a list that nobody writes (fz); a list, a dict, an instance is a number in the store -/
inductive D where
  | non | bl (b : Bool) | int (i : Int) | str (x : Str) | tup (ds : List D) | fz (ds : List D) | ref (k : Nat)
inductive O where
  | lst (ds : List D) | dic (lk : Bool) (kvs : List (NestedKey × D × D)) | ins (c : Nat) (fs : List (Str × D))
abbrev Sto := List O
abbrev Env := List (Option D)

inductive Bop where | add | sub | mul | fdiv | mod | pow
inductive Cop where | eq | ne | lt | le | gt | ge | is | isn | inn | nin
inductive Ty where | tuple | int | bool | str | list
/-- built-ins of one or more values -/
inductive Bf where | len | int | tuple | list | max1 | max2 | str
inductive Mt where | append | extend | pop
/-- what is walked -/
inductive Ik where | one | rng1 | rng2 | rng3 | enum | zip | rev | dic
inductive Cn where | tuple | all | any | sum | max
inductive Tg where | nm (i : Nat) | tp (ts : List Tg)

mutual
inductive E where
  | var (i : Nat) | non | bl (b : Bool) | int (i : Int) | str (x : Str) | glb (x : Str)
  | tup (es : List E) | lst (es : List E)
  | bin (o : Bop) (a b : E) | neg (a : E)
  | cmp (o : Cop) (a b : E) | chn (o p : Cop) (a b c : E)
  | and (es : List E) | or (es : List E) | not (a : E) | ife (c : T) (a b : E)
  | call (f : Nat) (es : List E) | bi (f : Bf) (es : List E) | isi (a : E) (t : Ty) | mth (m : Mt) (o : E) (es : List E)
  | idx (a i : E) | slF (a lo : E) | slT (a hi : E) | slB (a lo hi : E) | slR (a : E)
  | lc (ik : Ik) (src : List E) (tg : Tg) (cnd : List T) (elt : E) (own : List Nat)
  | lc2 (ik : Ik) (src : List E) (tg : Tg) (cnd : List T) (ik1 : Ik) (src1 : List E) (tg1 : Tg) (cnd1 : List T) (elt : E) (own own1 : List Nat)
  | gen (c : Cn) (ik : Ik) (src : List E) (tg : Tg) (cnd : List T) (elt : E) (own : List Nat)
  | dnew | dof (e : E) | dzp (a b : E) | dget (o k : E) | dmg (o k : E) | dsd (o k v : E) | lockE (i : Nat) (e : E)
/-- a test -/
inductive T where
  | val (e : E) | not (a : T) | and (es : List T) | or (es : List T) | cmp (o : Cop) (a b : E) | chn (o p : Cop) (a b c : E) | ife (c a b : T) | din (neg : Bool) (k o : E)
end

inductive S where
  | expr (e : E) | asg (tg : Tg) (e : E) | asub (o i e : E) | aug (i : Nat) (o : Bop) (e : E)
  | ret (e : E) | retN | pass | brk | cnt
  | ife (c : T) (a b : List S) | whl (c : T) (b : List S) | for_ (ik : Ik) (src : List E) (tg : Tg) (b : List S)
  | dset (o k v : E) | lock (i : Nat) (s : S)

/-! ### data for == -/
mutual
def toPw (f : Nat → Option PyData) : D → Option PyData
  | .non => some .none
  | .bl b => some (.bool b)
  | .int i => some (.int i)
  | .str x => some (.str x)
  | .tup ds => (toPws f ds).map .tuple
  | .fz ds => (toPws f ds).map .list
  | .ref k => f k
def toPws (f : Nat → Option PyData) : List D → Option (List PyData)
  | [] => some []
  | d :: ds => (toPw f d).bind fun x => (toPws f ds).map fun xs => x :: xs
end
def toP : Nat → Sto → D → Option PyData
  | 0, _, d => toPw (fun _ => none) d
  | n + 1, st, d => toPw (fun k => match st[k]? with
    | some (.lst ds) => (ds.mapM (toP n st)).map .list
    | _ => none) d
def eqD (st : Sto) (x y : D) : Option Bool :=
  (toP 3 st x).bind fun a => (toP 3 st y).bind fun b => if SeqAt.shaped a && SeqAt.shaped b then some (PyData.eqv a b) else none
def inD (st : Sto) (x c : D) : Option Bool :=
  (toP 3 st x).bind fun a => (toP 3 st c).bind fun b => if SeqAt.shaped a && SeqAt.shaped b then (match b with
    | .list xs => some (xs.any fun z => PyData.eqv z a)
    | .tuple xs => some (xs.any fun z => PyData.eqv z a)
    | _ => none) else none

/-! ### operators -/
def lstOf (st : Sto) (k : Nat) : Option (List D) := match st[k]? with
  | some (.lst ds) => some ds
  | _ => none
def new (st : Sto) (o : O) : D × Sto := (.ref st.length, st ++ [o])
def small (i : Int) : Bool := decide (-(2 ^ 64) < i) && decide (i < 2 ^ 64)
def binD (o : Bop) (x y : D) (st : Sto) : Option (D × Sto) := match o, x, y with
  | .add, .int i, .int j => some (.int (i + j), st)
  | .add, .str a, .str b => if a.length + b.length ≤ sizeLine then some (.str (a ++ b), st) else none
  | .add, .tup a, .tup b => if a.length + b.length ≤ sizeLine then some (.tup (a ++ b), st) else none
  | .add, .ref k, .ref j => (lstOf st k).bind fun a => (lstOf st j).bind fun b => if a.length + b.length ≤ sizeLine then some (new st (.lst (a ++ b))) else none
  | .sub, .int i, .int j => some (.int (i - j), st)
  | .mul, .int i, .int j => if small i || small j then some (.int (i * j), st) else none
  | .mul, .ref k, .int j => (lstOf st k).bind fun a => if a.length * j.toNat ≤ sizeLine ∧ -(2 ^ 63) ≤ j ∧ j < 2 ^ 63 then some (new st (.lst (List.replicate j.toNat a).flatten)) else none
  | .mul, .tup a, .int j => if a.isEmpty then (if -(2 ^ 63) ≤ j ∧ j < 2 ^ 63 then some (.tup [], st) else none) else if j = 0 then some (.tup [], st) else if j = 1 then some (.tup a, st) else if 2 ≤ j ∧ j ≤ 1000 ∧ a.length ≤ 1000 then some (.tup (List.replicate j.toNat a).flatten, st) else none
  | .fdiv, .int i, .int j => if j ≠ 0 ∧ j.natAbs < 1073741824 then some (.int (i.fdiv j), st) else none
  | .mod, .int i, .int j => if j ≠ 0 then some (.int (i.fmod j), st) else none
  | .pow, .int i, .int j => if 0 ≤ j ∧ j ≤ 1000000 ∧ i.natAbs < 2 ^ 64 then some (.int (i ^ j.toNat), st) else none
  | _, _, _ => none
def isN : D → Bool
  | .non => true
  | _ => false
def cmpD (o : Cop) (x y : D) (st : Sto) : Option Bool := match o, x, y with
  | .eq, x, y => eqD st x y
  | .ne, x, y => (eqD st x y).map (!·)
  | .lt, .int i, .int j => some (decide (i < j))
  | .le, .int i, .int j => some (decide (i ≤ j))
  | .gt, .int i, .int j => some (decide (i > j))
  | .ge, .int i, .int j => some (decide (i ≥ j))
  | .is, x, .non => some (isN x)
  | .isn, x, .non => some (!isN x)
  | .is, .bl a, .bl b => some (decide (a = b))
  | .isn, .bl a, .bl b => some (!decide (a = b))
  | .inn, x, y => inD st x y
  | .nin, x, y => (inD st x y).map (!·)
  | _, _, _ => none
def truD (x : D) (st : Sto) : Option Bool := match x with
  | .non => some false
  | .bl b => some b
  | .int i => some (i != 0)
  | .tup ds => some (!ds.isEmpty)
  | .ref k => (lstOf st k).map fun ds => !ds.isEmpty
  | _ => none
def idxD (x i : D) (st : Sto) : Option D := match x, i with
  | .tup ds, .int j => atI ds j
  | .fz ds, .int j => atI ds j
  | .ref k, .int j => (lstOf st k).bind fun ds => atI ds j
  | _, _ => none
def cutD (ds : List D) (lo hi : Option Int) : List D := (ds.drop (HT.sIx ds.length 0 lo)).take (HT.sIx ds.length ds.length hi - HT.sIx ds.length 0 lo)
def slcD (x : D) (lo hi : Option Int) (st : Sto) : Option (D × Sto) := match x with
  | .tup ds => some (.tup (cutD ds lo hi), st)
  | .ref k => (lstOf st k).map fun ds => new st (.lst (cutD ds lo hi))
  | _ => none
def isiD (x : D) (t : Ty) (st : Sto) : Option Bool := match x, t with
  | .non, _ => some false
  | .bl _, .bool => some true
  | .bl _, .int => some true
  | .bl _, _ => some false
  | .int _, .int => some true
  | .int _, _ => some false
  | .str _, .str => some true
  | .str _, _ => some false
  | .tup _, .tuple => some true
  | .tup _, _ => some false
  | .fz _, _ => none
  | .ref k, .list => (lstOf st k).map fun _ => true
  | .ref k, _ => (lstOf st k).map fun _ => false
def maxI : List D → Option Int
  | [] => none
  | [.int i] => some i
  | .int i :: ds => (maxI ds).map fun j => if i < j then j else i
  | _ => none
def bfD (f : Bf) (xs : List D) (st : Sto) : Option (D × Sto) := match f, xs with
  | .len, [.tup ds] => some (.int ds.length, st)
  | .len, [.fz ds] => some (.int ds.length, st)
  | .len, [.ref k] => (lstOf st k).map fun ds => (.int ds.length, st)
  | .int, [.int i] => some (.int i, st)
  | .int, [.bl b] => some (.int (if b then 1 else 0), st)
  | .tuple, [.tup ds] => some (.tup ds, st)
  | .tuple, [.ref k] => (lstOf st k).map fun ds => (.tup ds, st)
  | .max1, [.ref k] => (lstOf st k).bind fun ds => (maxI ds).map fun j => (.int j, st)
  | .max2, [.int i, .int j] => some (.int (if j > i then j else i), st)
  | .list, [.tup ds] => some (new st (.lst ds))
  | .list, [.ref k] => (lstOf st k).map fun ds => new st (.lst ds)
  | _, _ => none
/-- a list (ahead of a method's arguments) -/
def isL (x : D) (st : Sto) : Bool := match x with
  | .ref k => (lstOf st k).isSome
  | _ => false
def mtD (m : Mt) (x : D) (ys : List D) (st : Sto) : Option (D × Sto) := match x, st with
  | .ref k, st => (match st[k]? with
    | some (.lst ds) => (match m, ys with
      | .append, [y] => if ds.length < sizeLine then some (.non, st.set k (.lst (ds ++ [y]))) else none
      | .extend, [.tup zs] => if ds.length + zs.length ≤ sizeLine then some (.non, st.set k (.lst (ds ++ zs))) else none
      | .extend, [.ref j] => if j = k then none else (lstOf st j).bind fun zs => if ds.length + zs.length ≤ sizeLine then some (.non, st.set k (.lst (ds ++ zs))) else none
      | .pop, [] => (match ds.getLast? with
        | some d => some (d, st.set k (.lst ds.dropLast))
        | none => none)
      | _, _ => none)
    | _ => none)
  | _, _ => none
/-- o[i] = v -/
def setD (o i v : D) (st : Sto) : Option Sto := match o, i with
  | .ref k, .int j => (match st[k]? with
    | some (.lst ds) => (ixN ds.length j).map fun p => st.set k (.lst (ds.set p v))
    | _ => none)
  | _, _ => none

/-! ### dicts: keys are tuples, nested to depth 8 -/
mutual
def keyD : D → Option NestedKey
  | .non => some .none
  | .bl b => some (.num (if b = true then 1 else 0))
  | .int i => some (.num i)
  | .str x => some (.text x)
  | .tup ds => (keyDs ds).map .tup
  | .fz _ => none
  | .ref _ => none
def keyDs : List D → Option (List NestedKey)
  | [] => some []
  | d :: ds => (keyD d).bind fun k => (keyDs ds).map fun ks => k :: ks
end
def kOf (d : D) : Option NestedKey := match d with
  | .tup ds => (keyD (.tup ds)).bind fun k => if k.depth ≤ 8 then some k else none
  | _ => none
abbrev KVs := List (NestedKey × D × D)
def dGet (kvs : KVs) (k : NestedKey) : Option D := (kvs.find? fun x => decide (x.1 = k)).map (·.2.2)
def dPut (kvs : KVs) (k : NestedKey) (kd v : D) : KVs := if (dGet kvs k).isSome then kvs.map fun x => if x.1 = k then (x.1, x.2.1, v) else x else kvs ++ [(k, kd, v)]
def dicOf (st : Sto) (d : D) : Option (Bool × KVs) := match d with
  | .ref i => (match st[i]? with
    | some (.dic lk kvs) => some (lk, kvs)
    | _ => none)
  | _ => none
def dgetD (o k : D) (st : Sto) : Option D := (dicOf st o).bind fun q => (kOf k).bind fun kk => dGet q.2 kk
def dmgD (o k : D) (st : Sto) : Option D := (dicOf st o).bind fun q => (kOf k).map fun kk => (dGet q.2 kk).getD .non
def dinD (neg : Bool) (k o : D) (st : Sto) : Option Bool := (dicOf st o).bind fun q => (kOf k).map fun kk => if neg then !(dGet q.2 kk).isSome else (dGet q.2 kk).isSome
/-- o[k] = v -/
def dsetD (o k v : D) (st : Sto) : Option Sto := match o with
  | .ref i => (match st[i]? with
    | some (.dic false kvs) => (kOf k).bind fun kk => if kvs.length < sizeLine then some (st.set i (.dic false (dPut kvs kk k v))) else none
    | _ => none)
  | _ => none
/-- o.setdefault(k, v) -/
def dsdD (o k v : D) (st : Sto) : Option (D × Sto) := (dicOf st o).bind fun q => (kOf k).bind fun kk => match dGet q.2 kk with
  | some x => if q.1 = false ∧ q.2.length < sizeLine then some (x, st) else none
  | none => (dsetD o k v st).map fun st' => (v, st')
def pairsD : List D → Option KVs
  | [] => some []
  | .tup [k, v] :: ds => (kOf k).bind fun kk => (pairsD ds).map fun r => (kk, k, v) :: r
  | _ => none
def zipKD : List D → List D → Option KVs
  | k :: ks, v :: vs => (kOf k).bind fun kk => (zipKD ks vs).map fun r => (kk, k, v) :: r
  | _, _ => some []
def putAll (ps : KVs) : KVs := ps.foldl (fun acc p => dPut acc p.1 p.2.1 p.2.2) []
def dofD (x : D) (st : Sto) : Option (D × Sto) := (match x with
  | .ref k => lstOf st k
  | _ => none).bind fun ds => (pairsD ds).bind fun ps => if ds.length ≤ sizeLine then some (new st (.dic false (putAll ps))) else none
def dzpD (a b : D) (st : Sto) : Option (D × Sto) := match a, b with
  | .tup as, .tup bs => (zipKD as bs).bind fun ps => if as.length ≤ sizeLine then some (new st (.dic false (putAll ps))) else none
  | _, _ => none
/-- the dict in slot i is locked -/
def lockD (i : Nat) (ρ : Env) (st : Sto) : Option (Nat × Bool × KVs × Sto) := match ρ[i]? with
  | some (some (.ref k)) => (match st[k]? with
    | some (.dic lk kvs) => some (k, lk, kvs, st.set k (.dic true kvs))
    | _ => none)
  | _ => none
def freeD (k : Nat) (lk : Bool) (kvs : KVs) (st : Sto) : Sto := st.set k (.dic lk kvs)

/-! ### targets -/
mutual
def asgD : Tg → D → Sto → Env → Option Env
  | .nm i, d, _, ρ => if i < ρ.length then some (ρ.set i (some d)) else none
  | .tp ts, .tup ds, st, ρ => asgDs ts ds st ρ
  | .tp ts, .ref k, st, ρ => (lstOf st k).bind fun ds => asgDs ts ds st ρ
  | .tp _, _, _, _ => none
def asgDs : List Tg → List D → Sto → Env → Option Env
  | [], [], _, ρ => some ρ
  | t :: ts, d :: ds, st, ρ => (asgD t d st ρ).bind fun ρ1 => asgDs ts ds st ρ1
  | _, _, _, _ => none
end
def wipeD (ρ : Env) : List Nat → Env
  | [] => ρ
  | v :: vs => (wipeD ρ vs).set v none

/-! ### iterators -/
inductive IT where
  | tup (ds : List D) | lst (k : Nat) | rng (lo st : Int) (n : Nat) | enT (ds : List D) | enL (k : Nat) | zpT (a b : List D) | zpL (k j : Nat) | rvT (ds : List D) | rvL (k n : Nat) | keys (ds : List D)
def inR (i : Int) : Bool := decide (-(2 ^ 62) ≤ i) && decide (i < 2 ^ 62)
/-- the iterator and how many turns it takes -/
def itD (ik : Ik) (xs : List D) (st : Sto) : Option (IT × Nat) := match ik, xs with
  | .one, [.tup ds] => some (.tup ds, ds.length)
  | .one, [.ref k] => (lstOf st k).map fun ds => (.lst k, ds.length)
  | .rng1, [.int j] => if inR j then some (.rng 0 1 j.toNat, j.toNat) else none
  | .rng2, [.int i, .int j] => if inR i && inR j then some (.rng i 1 (j - i).toNat, (j - i).toNat) else none
  | .rng3, [.int i, .int j, .int c] => if c ≠ 0 ∧ c.natAbs < 1073741824 ∧ Builtin.Range.small i j c = true ∧ 0 ≤ Builtin.Range.rangeSize i j c then
      some (.rng i c (Builtin.Range.rangeSize i j c).toNat, (Builtin.Range.rangeSize i j c).toNat) else none
  | .enum, [.tup ds] => some (.enT ds, ds.length)
  | .enum, [.ref k] => (lstOf st k).map fun ds => (.enL k, ds.length)
  | .zip, [.tup a, .tup b] => some (.zpT a b, min a.length b.length)
  | .zip, [.ref k, .ref j] => (lstOf st k).bind fun a => (lstOf st j).map fun b => (.zpL k j, min a.length b.length)
  | .rev, [.tup ds] => some (.rvT ds, ds.length)
  | .rev, [.ref k] => (lstOf st k).map fun ds => (.rvL k ds.length, ds.length)
  | .dic, [.ref k] => (match st[k]? with
    | some (.dic true kvs) => some (.keys (kvs.map (·.2.1)), kvs.length)
    | _ => none)
  | _, _ => none
def pair2 (a b : Option D) : Option D := a.bind fun x => b.map fun y => .tup [x, y]
def nxD (J : IT) (i : Nat) (st : Sto) : Option D := match J with
  | .tup ds => ds[i]?
  | .lst k => (lstOf st k).bind fun ds => ds[i]?
  | .rng lo c n => if i < n then some (.int (lo + (i : Nat) * c)) else none
  | .enT ds => pair2 (some (.int (i : Nat))) ds[i]?
  | .enL k => (lstOf st k).bind fun ds => pair2 (some (.int (i : Nat))) ds[i]?
  | .zpT a b => pair2 a[i]? b[i]?
  | .zpL k j => (lstOf st k).bind fun a => (lstOf st j).bind fun b => pair2 a[i]? b[i]?
  | .rvT ds => if i < ds.length then ds[ds.length - 1 - i]? else none
  | .rvL k n => (lstOf st k).bind fun ds => if i < n then ds[n - 1 - i]? else none
  | .keys ds => ds[i]?
/-- it stops at turn i -/
def stD (J : IT) (i : Nat) (st : Sto) : Bool := match J with
  | .tup ds => decide (ds.length ≤ i)
  | .lst k => (match lstOf st k with | some ds => decide (ds.length ≤ i) | none => false)
  | .rng _ _ n => decide (n ≤ i)
  | .enT ds => decide (ds.length = i)
  | .enL k => (match lstOf st k with | some ds => decide (ds.length ≤ i) | none => false)
  | .zpT a b => decide (min a.length b.length ≤ i)
  | .zpL k j => (match lstOf st k, lstOf st j with | some a, some b => decide (min a.length b.length ≤ i) | _, _ => false)
  | .rvT ds => decide (ds.length ≤ i)
  | .rvL _ n => decide (n ≤ i)
  | .keys ds => decide (ds.length ≤ i)

/-! ### loops -/
inductive Fl where | nx | rt (d : D) | bk | ct
def loopF (J : IT) (body : D → Env → Sto → Option (Fl × Env × Sto)) : Nat → Nat → Env → Sto → Option (Fl × Env × Sto)
  | 0, i, ρ, st => if stD J i st then some (.nx, ρ, st) else none
  | r + 1, i, ρ, st => (nxD J i st).bind fun x => (body x ρ st).bind fun q => match q with
    | (.nx, ρ', st') => loopF J body r (i + 1) ρ' st'
    | (.ct, ρ', st') => loopF J body r (i + 1) ρ' st'
    | (.bk, ρ', st') => some (.nx, ρ', st')
    | (.rt d, ρ', st') => some (.rt d, ρ', st')
/-- a comprehension: body gives the item, or none where a test fails -/
def loopC (J : IT) (body : D → Sto → Option (Option D × Sto)) : Nat → Nat → List D → Sto → Option (List D × Sto)
  | 0, i, acc, st => if stD J i st then some (acc, st) else none
  | r + 1, i, acc, st => (nxD J i st).bind fun x => (body x st).bind fun q => match q with
    | (some y, st') => if acc.length < sizeLine then loopC J body r (i + 1) (acc ++ [y]) st' else none
    | (none, st') => loopC J body r (i + 1) acc st'
/-- a comprehension of two clauses: the inner one is a loop of its own -/
def loopC2 (J : IT) (body : D → List D → Sto → Option (List D × Sto)) : Nat → Nat → List D → Sto → Option (List D × Sto)
  | 0, i, acc, st => if stD J i st then some (acc, st) else none
  | r + 1, i, acc, st => (nxD J i st).bind fun x => (body x acc st).bind fun q => loopC2 J body r (i + 1) q.1 q.2
def inL (i : Int) : Bool := decide (-(2 ^ 63) ≤ i) && decide (i < 2 ^ 63)
/-- a generator's consumer -/
def conD (c : Cn) (acc : D) (y : D) (st : Sto) : Option (Bool × D) := match c, acc, y with
  | .tuple, .tup ds, y => if ds.length < sizeLine then some (false, .tup (ds ++ [y])) else none
  | .all, _, .bl b => some (!b, .bl b)
  | .any, _, .bl b => some (b, .bl b)
  | .sum, .int i, .int j => if inL i && inL j && inL (i + j) then some (false, .int (i + j)) else none
  | .max, .non, .int j => some (false, .int j)
  | .max, .int i, .int j => some (false, .int (if i < j then j else i))
  | _, _, _ => none
def con0 : Cn → D
  | .tuple => .tup []
  | .all => .bl true
  | .any => .bl false
  | .sum => .int 0
  | .max => .non
def conE (c : Cn) (acc : D) : Option D := match c, acc with
  | .max, .non => none
  | _, d => some d
/-- the generator is walked by its consumer; true: it leaves early -/
def loopG (c : Cn) (J : IT) (body : D → Sto → Option (Option D × Sto)) : Nat → Nat → D → Sto → Option (D × Sto)
  | 0, i, acc, st => if stD J i st then (conE c acc).map fun d => (d, st) else none
  | r + 1, i, acc, st => (nxD J i st).bind fun x => (body x st).bind fun q => match q with
    | (some y, st') => (conD c acc y st').bind fun z => if z.1 then some (z.2, st') else loopG c J body r (i + 1) z.2 st'
    | (none, st') => loopG c J body r (i + 1) acc st'
def loopW (cnd : Env → Sto → Option (Bool × Sto)) (body : Env → Sto → Option (Fl × Env × Sto)) : Nat → Env → Sto → Option (Fl × Env × Sto)
  | 0, _, _ => none
  | r + 1, ρ, st => (cnd ρ st).bind fun c => if c.1 then (body ρ c.2).bind fun q => match q with
    | (.nx, ρ', st') => loopW cnd body r ρ' st'
    | (.ct, ρ', st') => loopW cnd body r ρ' st'
    | (.bk, ρ', st') => some (.nx, ρ', st')
    | (.rt d, ρ', st') => some (.rt d, ρ', st')
    else some (.nx, ρ, c.2)
def KW : Nat := 100000000

/-! ### evaluation -/
abbrev CS := Nat → List D → Sto → Option (D × Sto)
mutual
def ev : E → (Str → Option D) → List CS → Env → Sto → Option (D × Sto)
  | .var i, _, _, ρ, st => (match ρ[i]? with | some (some d) => some (d, st) | _ => none)
  | .non, _, _, _, st => some (.non, st)
  | .bl b, _, _, _, st => some (.bl b, st)
  | .int i, _, _, _, st => some (.int i, st)
  | .str x, _, _, _, st => some (.str x, st)
  | .glb x, g, _, _, st => (g x).map fun d => (d, st)
  | .tup es, g, C, ρ, st => (evs es g C ρ st).bind fun r => if r.1.length ≤ sizeLine then some (.tup r.1, r.2) else none
  | .lst es, g, C, ρ, st => (evs es g C ρ st).bind fun r => if r.1.length ≤ sizeLine then some (new r.2 (.lst r.1)) else none
  | .bin o a b, g, C, ρ, st => (ev a g C ρ st).bind fun r => (ev b g C ρ r.2).bind fun q => binD o r.1 q.1 q.2
  | .neg a, g, C, ρ, st => (ev a g C ρ st).bind fun r => match r.1 with | .int i => some (.int (-i), r.2) | _ => none
  | .cmp o a b, g, C, ρ, st => (ev a g C ρ st).bind fun r => (ev b g C ρ r.2).bind fun q => (cmpD o r.1 q.1 q.2).map fun c => (.bl c, q.2)
  | .chn o p a b c, g, C, ρ, st => (ev a g C ρ st).bind fun r => (ev b g C ρ r.2).bind fun q => (cmpD o r.1 q.1 q.2).bind fun x =>
      if x then (ev c g C ρ q.2).bind fun z => (cmpD p q.1 z.1 z.2).map fun y => (.bl y, z.2) else some (.bl false, q.2)
  | .and es, g, C, ρ, st => evAnd es g C ρ st
  | .or es, g, C, ρ, st => evOr es g C ρ st
  | .not a, g, C, ρ, st => (ev a g C ρ st).bind fun r => (truD r.1 r.2).map fun b => (.bl (!b), r.2)
  | .ife c a b, g, C, ρ, st => (evT c g C ρ st).bind fun r => if r.1 then ev a g C ρ r.2 else ev b g C ρ r.2
  | .call f es, g, C, ρ, st => (match C with | [] => none | F :: _ => (evs es g C ρ st).bind fun r => F f r.1 r.2)
  | .bi f es, g, C, ρ, st => (evs es g C ρ st).bind fun r => bfD f r.1 r.2
  | .isi a t, g, C, ρ, st => (ev a g C ρ st).bind fun r => (isiD r.1 t r.2).map fun b => (.bl b, r.2)
  | .mth m o es, g, C, ρ, st => (ev o g C ρ st).bind fun r => if isL r.1 r.2 then (evs es g C ρ r.2).bind fun q => mtD m r.1 q.1 q.2 else none
  | .idx a i, g, C, ρ, st => (ev a g C ρ st).bind fun r => (ev i g C ρ r.2).bind fun q => (idxD r.1 q.1 q.2).map fun d => (d, q.2)
  | .slF a lo, g, C, ρ, st => (ev a g C ρ st).bind fun r => (ev lo g C ρ r.2).bind fun q => match q.1 with | .int i => slcD r.1 (some i) none q.2 | _ => none
  | .slT a hi, g, C, ρ, st => (ev a g C ρ st).bind fun r => (ev hi g C ρ r.2).bind fun q => match q.1 with | .int i => slcD r.1 none (some i) q.2 | _ => none
  | .slB a lo hi, g, C, ρ, st => (ev a g C ρ st).bind fun r => (ev lo g C ρ r.2).bind fun q => (ev hi g C ρ q.2).bind fun z => match q.1, z.1 with | .int i, .int j => slcD r.1 (some i) (some j) z.2 | _, _ => none
  | .slR a, g, C, ρ, st => (ev a g C ρ st).bind fun r => match r.1 with | .ref k => (lstOf r.2 k).map fun ds => new r.2 (.lst ds.reverse) | _ => none
  | .lc ik src tg cnd elt own, g, C, ρ, st => (evs src g C ρ st).bind fun r => (itD ik r.1 r.2).bind fun J =>
      (loopC J.1 (fun x s => (asgD tg x s (wipeD ρ own)).bind fun ρ1 => (evTA cnd g C ρ1 s).bind fun c => if c.1 then (ev elt g C ρ1 c.2).map fun y => (some y.1, y.2) else some (none, c.2)) J.2 0 [] r.2).map fun q => new q.2 (.lst q.1)
  | .lc2 ik src tg cnd ik1 src1 tg1 cnd1 elt own own1, g, C, ρ, st => (evs src g C ρ st).bind fun r => (itD ik r.1 r.2).bind fun J =>
      (loopC2 J.1 (fun x acc s => (asgD tg x s (wipeD ρ own)).bind fun ρ1 => (evTA cnd g C ρ1 s).bind fun c => if c.1 then
          (evs src1 g C ρ1 c.2).bind fun r1 => (itD ik1 r1.1 r1.2).bind fun J1 =>
            loopC J1.1 (fun x1 s1 => (asgD tg1 x1 s1 (wipeD ρ1 own1)).bind fun ρ2 => (evTA cnd1 g C ρ2 s1).bind fun c1 => if c1.1 then (ev elt g C ρ2 c1.2).map fun y => (some y.1, y.2) else some (none, c1.2)) J1.2 0 acc r1.2
        else some (acc, c.2)) J.2 0 [] r.2).map fun q => new q.2 (.lst q.1)
  | .gen cn ik src tg cnd elt own, g, C, ρ, st => (match C with | [] => none | _ :: C' => (evs src g C ρ st).bind fun r => (itD ik r.1 r.2).bind fun J =>
      (loopG cn J.1 (fun x s => (asgD tg x s (wipeD ρ own)).bind fun ρ1 => (evTA cnd g C' ρ1 s).bind fun c => if c.1 then (ev elt g C' ρ1 c.2).map fun y => (some y.1, y.2) else some (none, c.2)) J.2 0 (con0 cn) r.2))
  | .dnew, _, _, _, st => some (new st (.dic false []))
  | .dof e, g, C, ρ, st => (ev e g C ρ st).bind fun r => dofD r.1 r.2
  | .dzp a b, g, C, ρ, st => (ev a g C ρ st).bind fun r => (ev b g C ρ r.2).bind fun q => dzpD r.1 q.1 q.2
  | .dget o k, g, C, ρ, st => (ev o g C ρ st).bind fun r => (ev k g C ρ r.2).bind fun q => (dgetD r.1 q.1 q.2).map fun d => (d, q.2)
  | .dmg o k, g, C, ρ, st => (ev o g C ρ st).bind fun r => if (dicOf r.2 r.1).isSome then (ev k g C ρ r.2).bind fun q => (dmgD r.1 q.1 q.2).map fun d => (d, q.2) else none
  | .dsd o k v, g, C, ρ, st => (ev o g C ρ st).bind fun r => if (dicOf r.2 r.1).isSome then (ev k g C ρ r.2).bind fun q => (ev v g C ρ q.2).bind fun z => dsdD r.1 q.1 z.1 z.2 else none
  | .lockE i e, g, C, ρ, st => (lockD i ρ st).bind fun q => (ev e g C ρ q.2.2.2).bind fun r => if (dicOf r.2 (.ref q.1)).isSome then some (r.1, freeD q.1 q.2.1 q.2.2.1 r.2) else none
def evs : List E → (Str → Option D) → List CS → Env → Sto → Option (List D × Sto)
  | [], _, _, _, st => some ([], st)
  | e :: es, g, C, ρ, st => (ev e g C ρ st).bind fun r => (evs es g C ρ r.2).map fun q => (r.1 :: q.1, q.2)
/-- and, or as values: bools, the last one any value -/
def evAnd : List E → (Str → Option D) → List CS → Env → Sto → Option (D × Sto)
  | [], _, _, _, _ => none
  | e :: es, g, C, ρ, st => (ev e g C ρ st).bind fun r => if es.isEmpty then some r else match r.1 with | .bl true => evAnd es g C ρ r.2 | .bl false => some (.bl false, r.2) | _ => none
def evOr : List E → (Str → Option D) → List CS → Env → Sto → Option (D × Sto)
  | [], _, _, _, _ => none
  | e :: es, g, C, ρ, st => (ev e g C ρ st).bind fun r => if es.isEmpty then some r else match r.1 with | .bl true => some (.bl true, r.2) | .bl false => evOr es g C ρ r.2 | _ => none
/-- a test -/
def evT : T → (Str → Option D) → List CS → Env → Sto → Option (Bool × Sto)
  | .val e, g, C, ρ, st => (ev e g C ρ st).bind fun r => (truD r.1 r.2).map fun b => (b, r.2)
  | .not a, g, C, ρ, st => (evT a g C ρ st).map fun r => (!r.1, r.2)
  | .and es, g, C, ρ, st => evTA es g C ρ st
  | .or es, g, C, ρ, st => evTO es g C ρ st
  | .cmp o a b, g, C, ρ, st => (ev a g C ρ st).bind fun r => (ev b g C ρ r.2).bind fun q => (cmpD o r.1 q.1 q.2).map fun c => (c, q.2)
  | .chn o p a b c, g, C, ρ, st => (ev a g C ρ st).bind fun r => (ev b g C ρ r.2).bind fun q => (cmpD o r.1 q.1 q.2).bind fun x =>
      if x then (ev c g C ρ q.2).bind fun z => (cmpD p q.1 z.1 z.2).map fun y => (y, z.2) else some (false, q.2)
  | .ife c a b, g, C, ρ, st => (evT c g C ρ st).bind fun r => if r.1 then evT a g C ρ r.2 else evT b g C ρ r.2
  | .din neg k o, g, C, ρ, st => (ev k g C ρ st).bind fun r => (ev o g C ρ r.2).bind fun q => (dinD neg r.1 q.1 q.2).map fun b => (b, q.2)
def evTA : List T → (Str → Option D) → List CS → Env → Sto → Option (Bool × Sto)
  | [], _, _, _, st => some (true, st)
  | e :: es, g, C, ρ, st => (evT e g C ρ st).bind fun r => if r.1 then evTA es g C ρ r.2 else some (false, r.2)
def evTO : List T → (Str → Option D) → List CS → Env → Sto → Option (Bool × Sto)
  | [], _, _, _, st => some (false, st)
  | e :: es, g, C, ρ, st => (evT e g C ρ st).bind fun r => if r.1 then some (true, r.2) else evTO es g C ρ r.2
end
mutual
def ex : S → (Str → Option D) → List CS → Env → Sto → Option (Fl × Env × Sto)
  | .expr e, g, C, ρ, st => (ev e g C ρ st).map fun r => (.nx, ρ, r.2)
  | .asg tg e, g, C, ρ, st => (ev e g C ρ st).bind fun r => (asgD tg r.1 r.2 ρ).map fun ρ1 => (.nx, ρ1, r.2)
  | .asub o i e, g, C, ρ, st => (ev e g C ρ st).bind fun v => (ev o g C ρ v.2).bind fun r => (ev i g C ρ r.2).bind fun q => (setD r.1 q.1 v.1 q.2).map fun s => (.nx, ρ, s)
  | .aug i o e, g, C, ρ, st => (match ρ[i]? with | some (some x) => (ev e g C ρ st).bind fun r => (match x, r.1 with | .int a, .int b => (match o with | .add => some (.nx, ρ.set i (some (.int (a + b))), r.2) | .sub => some (.nx, ρ.set i (some (.int (a - b))), r.2) | _ => none) | _, _ => none) | _ => none)
  | .ret e, g, C, ρ, st => (ev e g C ρ st).map fun r => (.rt r.1, ρ, r.2)
  | .retN, _, _, ρ, st => some (.rt .non, ρ, st)
  | .pass, _, _, ρ, st => some (.nx, ρ, st)
  | .brk, _, _, ρ, st => some (.bk, ρ, st)
  | .cnt, _, _, ρ, st => some (.ct, ρ, st)
  | .ife c a b, g, C, ρ, st => (evT c g C ρ st).bind fun r => if r.1 then exs a g C ρ r.2 else exs b g C ρ r.2
  | .whl c b, g, C, ρ, st => loopW (fun ρ s => evT c g C ρ s) (fun ρ s => exs b g C ρ s) KW ρ st
  | .for_ ik src tg b, g, C, ρ, st => (evs src g C ρ st).bind fun r => (itD ik r.1 r.2).bind fun J =>
      loopF J.1 (fun x ρ s => (asgD tg x s ρ).bind fun ρ1 => exs b g C ρ1 s) J.2 0 ρ r.2
  | .dset o k v, g, C, ρ, st => (ev v g C ρ st).bind fun z => (ev o g C ρ z.2).bind fun r => (ev k g C ρ r.2).bind fun q => (dsetD r.1 q.1 z.1 q.2).map fun s => (.nx, ρ, s)
  | .lock i s, g, C, ρ, st => (lockD i ρ st).bind fun q => (ex s g C ρ q.2.2.2).bind fun r => if (dicOf r.2.2 (.ref q.1)).isSome then some (r.1, r.2.1, freeD q.1 q.2.1 q.2.2.1 r.2.2) else none
def exs : List S → (Str → Option D) → List CS → Env → Sto → Option (Fl × Env × Sto)
  | [], _, _, ρ, st => some (.nx, ρ, st)
  | s :: ss, g, C, ρ, st => (ex s g C ρ st).bind fun q => match q with
    | (.nx, ρ', st') => exs ss g C ρ' st'
    | q => some q
end
/-- a def: how many parameters, how many slots, its body -/
structure Df where
  ar : Nat
  sl : Nat
  body : List S
def runD (fs : List Df) (g : Str → Option D) (C : List CS) : CS := fun f xs st => (fs[f]?).bind fun d =>
  if xs.length = d.ar then (exs d.body g C (xs.map some ++ List.replicate (d.sl - xs.length) none) st).bind fun q => match q with
    | (.nx, _, st') => some (.non, st')
    | (.rt v, _, st') => some (v, st')
    | _ => none
  else none
def calls (fs : List Df) (g : Str → Option D) : Nat → List CS
  | 0 => []
  | n + 1 => runD fs g (calls fs g n) :: calls fs g n
/-- a call with n levels beneath it -/
def callD (fs : List Df) (g : Str → Option D) (n : Nat) : CS := runD fs g (calls fs g n)
end Dz

namespace Dz
example (el : List E) (g : PySem.Str → Option D) (C : List CS) (ρ : Env) (st : Sto) : ev (.tup el) g C ρ st = (evs el g C ρ st).bind fun r => if r.1.length ≤ PySem.sizeLine then some (.tup r.1, r.2) else none := rfl
example (c : T) (a b : List S) (g : PySem.Str → Option D) (C : List CS) (ρ : Env) (st : Sto) : ex (.ife c a b) g C ρ st = (evT c g C ρ st).bind fun r => if r.1 then exs a g C ρ r.2 else exs b g C ρ r.2 := rfl
end Dz
end
section
set_option Elab.async false
set_option linter.all false
set_option maxRecDepth 100000
namespace Dz
open PySem L2
/-! ### two lists place by place -/
def P2 {α β : Type} (R : α → β → Prop) (as : List α) (bs : List β) : Prop := as.length = bs.length ∧ ∀ (i : Nat) (a : α) (b : β), as[i]? = some a → bs[i]? = some b → R a b
section
variable {α β : Type} {R R' : α → β → Prop} {as as' : List α} {bs bs' : List β} {a : α} {b : β}
theorem P2.nil : P2 R [] [] := ⟨rfl, fun i a b h => by simp at h⟩
theorem P2.cons (h : R a b) (t : P2 R as bs) : P2 R (a :: as) (b :: bs) := ⟨by simp [t.1], fun i x y hx hy => by
  cases i with
  | zero => simp at hx hy; subst hx hy; exact h
  | succ i => simp at hx hy; exact t.2 i x y hx hy⟩
theorem P2.uncons (h : P2 R (a :: as) (b :: bs)) : R a b ∧ P2 R as bs := ⟨h.2 0 a b rfl rfl, by simpa using h.1, fun i x y hx hy => h.2 (i + 1) x y (by simpa using hx) (by simpa using hy)⟩
theorem P2.nil_l (h : P2 R [] bs) : bs = [] := by have := h.1; simp at this; exact List.eq_nil_of_length_eq_zero this.symm
theorem P2.cons_l (h : P2 R (a :: as) bs) : ∃ b bs', bs = b :: bs' ∧ R a b ∧ P2 R as bs' := by
  cases bs with
  | nil => have := h.1; simp at this
  | cons b bs => exact ⟨b, bs, rfl, h.uncons⟩
theorem P2.get (h : P2 R as bs) {i : Nat} (e : as[i]? = some a) : ∃ b, bs[i]? = some b ∧ R a b := by
  obtain ⟨hi, _⟩ := List.getElem?_eq_some_iff.mp e
  have hj : i < bs.length := by rw [← h.1]; exact hi
  exact ⟨bs[i], List.getElem?_eq_getElem hj, h.2 i a _ e (List.getElem?_eq_getElem hj)⟩
theorem P2.get' (h : P2 R as bs) {i : Nat} (e : bs[i]? = some b) : ∃ a, as[i]? = some a ∧ R a b := by
  obtain ⟨hi, _⟩ := List.getElem?_eq_some_iff.mp e
  have hj : i < as.length := by rw [h.1]; exact hi
  exact ⟨as[i], List.getElem?_eq_getElem hj, h.2 i _ b (List.getElem?_eq_getElem hj) e⟩
theorem P2.mono (h : P2 R as bs) (f : ∀ a b, R a b → R' a b) : P2 R' as bs := ⟨h.1, fun i a b x y => f a b (h.2 i a b x y)⟩
theorem P2.append (h : P2 R as bs) (h' : P2 R as' bs') : P2 R (as ++ as') (bs ++ bs') := ⟨by simp [h.1, h'.1], fun i a b x y => by
  by_cases hi : i < as.length
  · rw [List.getElem?_append_left hi] at x
    rw [List.getElem?_append_left (by rw [← h.1]; exact hi)] at y
    exact h.2 i a b x y
  · rw [List.getElem?_append_right (by omega)] at x
    rw [List.getElem?_append_right (by rw [← h.1]; omega), ← h.1] at y
    exact h'.2 _ a b x y⟩
theorem P2.one (h : R a b) : P2 R [a] [b] := P2.cons h P2.nil
theorem P2.take (h : P2 R as bs) (n : Nat) : P2 R (as.take n) (bs.take n) := ⟨by simp [h.1], fun i a b x y => by
  simp only [List.getElem?_take] at x y
  split at x
  · rename_i q
    rw [if_pos q] at y
    exact h.2 i a b x y
  · cases x⟩
theorem P2.drop (h : P2 R as bs) (n : Nat) : P2 R (as.drop n) (bs.drop n) := ⟨by simp [h.1], fun i a b x y => by
  simp only [List.getElem?_drop] at x y
  exact h.2 _ a b x y⟩
theorem P2.set (h : P2 R as bs) (r : R a b) (n : Nat) : P2 R (as.set n a) (bs.set n b) := ⟨by simp [h.1], fun i x y hx hy => by
  rw [List.getElem?_set] at hx hy
  rw [h.1] at hx
  split at hx
  · rename_i q
    rw [if_pos q] at hy
    split at hx
    · rename_i q2
      rw [if_pos q2] at hy
      cases hx; cases hy; exact r
    · cases hx
  · rename_i q
    rw [if_neg q] at hy
    exact h.2 i x y hx hy⟩
theorem P2.dropLast (h : P2 R as bs) : P2 R as.dropLast bs.dropLast := by rw [List.dropLast_eq_take, List.dropLast_eq_take, h.1]; exact h.take _
theorem P2.reverse : ∀ {as : List α} {bs : List β}, P2 R as bs → P2 R as.reverse bs.reverse
  | [], bs, h => by rw [h.nil_l]; exact P2.nil
  | a :: as, bs, h => by
    obtain ⟨b, bs', rfl, r, t⟩ := h.cons_l
    rw [List.reverse_cons, List.reverse_cons]
    exact (P2.reverse t).append (P2.one r)
theorem P2.rep (h : P2 R as bs) : ∀ n : Nat, P2 R (List.replicate n as).flatten (List.replicate n bs).flatten
  | 0 => P2.nil
  | n + 1 => by
    rw [List.replicate_succ, List.replicate_succ, List.flatten_cons, List.flatten_cons]
    exact h.append (P2.rep h n)
theorem P2.isEmpty (h : P2 R as bs) : as.isEmpty = bs.isEmpty := by
  cases as with
  | nil => have e := h.nil_l; subst e; rfl
  | cons a as => obtain ⟨b, bs', rfl, _⟩ := h.cons_l; rfl
theorem P2.atI (h : P2 R as bs) {i : Int} (e : atI as i = some a) : ∃ b, L2.atI bs i = some b ∧ R a b := by
  unfold L2.atI at e ⊢
  rw [← h.1]
  cases q : ixN as.length i with
  | none => rw [q] at e; cases e
  | some j => rw [q] at e; exact h.get e
theorem P2.ne (h : P2 R as bs) : as ≠ [] → bs ≠ [] := fun n e => n (by subst e; have := h.1; exact List.eq_nil_of_length_eq_zero (by simpa using this))
end

/-- the code objects' tables; the program, the world -/
structure TBl where
  l : List Addr
  P : Program
  w : World
instance : Membership Addr TBl := ⟨fun t a => a ∈ t.l⟩
/-- a dict: its keys, the tuples that they are, its values -/
def DicO (P : Program) (w : World) (a : Addr) (xs : List (NestedKey × Addr × V)) : HO := .ext fun h => xs.length ≤ sizeLine ∧ (a == sysModules) = false ∧ ∃ (o : Obj) (es : Array DictEntry) (ep : Nat) (ys : List (NestedKey × Addr × Value)),
  h.get? a = some o ∧ o.ExactDict ∧ o.data = .dict es ep ∧ es.toList = ys.map (entryOfKey (nestedKind P w)) ∧ (ys.map (·.1)).Nodup ∧ Paired (fun (p : NestedKey × Addr × V) (q : NestedKey × Addr × Value) => p.1 = q.1 ∧ p.2.1 = q.2.1 ∧ RelV p.2.2 q.2.2) xs ys
/-! ### what a value is in the heap -/
/-- a list that nobody writes -/
def SqF (K : PySem.W.Frag) (H : Hp) (a : Addr) (xs : List V) : Prop :=
  (∃ o, H a = some (.frz o (.lst xs))) ∨
    ∃ (o : Obj) (its : Array Value) (n : Nat), K.lookup a = some o ∧ o.cls = .type "list" ∧ o.dict = none ∧ o.data = .seq its n ∧ its.size ≤ sizeLine ∧ Vals xs its.toList
theorem SqF.l {K : PySem.W.Frag} {H : Hp} {a : Addr} {xs : List V} (h : SqF K H a xs) : SqL K H a xs := by
  rcases h with ⟨o, h⟩ | h
  · exact .inl (.inr ⟨o, h⟩)
  · exact .inr h
mutual
def RV (K : PySem.W.Frag) (H : Hp) (m : List Addr) : D → V → Prop
  | .non, v => v = .non
  | .bl b, v => v = .bl b
  | .int i, v => v = .int i
  | .str x, v => v = .str x
  | .tup ds, v => ∃ a xs, v = .ref a ∧ SqT K H a xs ∧ RVs K H m ds xs
  | .fz ds, v => ∃ a xs, v = .ref a ∧ SqF K H a xs ∧ RVs K H m ds xs
  | .ref k, v => ∃ a, v = .ref a ∧ m[k]? = some a
def RVs (K : PySem.W.Frag) (H : Hp) (m : List Addr) : List D → List V → Prop
  | [], xs => xs = []
  | d :: ds, xs => ∃ v vs, xs = v :: vs ∧ RV K H m d v ∧ RVs K H m ds vs
end
section
variable {K : PySem.W.Frag} {H H' : Hp} {m m' : List Addr}
theorem RVs.p2 : ∀ {ds : List D} {xs : List V}, RVs K H m ds xs → P2 (RV K H m) ds xs
  | [], xs, h => by have e : xs = [] := h; subst e; exact P2.nil
  | d :: ds, xs, h => by
    obtain ⟨v, vs, rfl, r, t⟩ := h
    exact P2.cons r (RVs.p2 t)
theorem P2.rvs : ∀ {ds : List D} {xs : List V}, P2 (RV K H m) ds xs → RVs K H m ds xs
  | [], xs, h => h.nil_l
  | d :: ds, xs, h => by
    obtain ⟨v, vs, rfl, r, t⟩ := h.cons_l
    exact ⟨v, vs, rfl, r, P2.rvs t⟩
mutual
theorem RV.ext (ht : ∀ a xs, SqT K H a xs → SqT K H' a xs) (hf : ∀ a xs, SqF K H a xs → SqF K H' a xs) (hm : ∀ (k : Nat) (a : Addr), m[k]? = some a → m'[k]? = some a) : ∀ (d : D) {v : V}, RV K H m d v → RV K H' m' d v
  | .non, _, h => h
  | .bl _, _, h => h
  | .int _, _, h => h
  | .str _, _, h => h
  | .tup ds, _, h => by
    obtain ⟨a, xs, e, s, r⟩ := h
    exact ⟨a, xs, e, ht a xs s, RVs.ext ht hf hm ds r⟩
  | .fz ds, _, h => by
    obtain ⟨a, xs, e, s, r⟩ := h
    exact ⟨a, xs, e, hf a xs s, RVs.ext ht hf hm ds r⟩
  | .ref k, _, h => by
    obtain ⟨a, e, q⟩ := h
    exact ⟨a, e, hm k a q⟩
theorem RVs.ext (ht : ∀ a xs, SqT K H a xs → SqT K H' a xs) (hf : ∀ a xs, SqF K H a xs → SqF K H' a xs) (hm : ∀ (k : Nat) (a : Addr), m[k]? = some a → m'[k]? = some a) : ∀ (ds : List D) {xs : List V}, RVs K H m ds xs → RVs K H' m' ds xs
  | [], _, h => h
  | d :: ds, _, h => by
    obtain ⟨v, vs, e, r, t⟩ := h
    exact ⟨v, vs, e, RV.ext ht hf hm d r, RVs.ext ht hf hm ds t⟩
end
end
/-- not a code object's table -/
def NoTbl : HO → Prop
  | .tbl _ => False
  | _ => True
/-- what an evaluation may do to the heap and the names of its objects -/
structure Ext (m : List Addr) (H : Hp) (m' : List Addr) (H' : Hp) : Prop where
  new : ∃ n, m' = m ++ n ∧ ∀ b ∈ n, H b = none
  keep : ∀ b u, H b = some u → b ∉ m → NoTbl u → H' b = some u
  stay : ∀ b, H b ≠ none → H' b ≠ none
  frz : ∀ b o u, H b = some (.frz o u) → H' b = some (.frz o u)
section
variable {K : PySem.W.Frag} {H H' H'' : Hp} {m m' m'' : List Addr}
theorem Ext.refl : Ext m H m H := ⟨⟨[], by simp, fun b hb => by simp at hb⟩, fun _ _ e _ _ => e, fun _ e => e, fun _ _ _ e => e⟩
theorem Ext.trans (x : Ext m H m' H') (y : Ext m' H' m'' H'') : Ext m H m'' H'' := by
  obtain ⟨n, rfl, hn⟩ := x.new
  obtain ⟨n', rfl, hn'⟩ := y.new
  refine ⟨⟨n ++ n', by simp, fun b hb => ?_⟩, fun b u e h1 h2 => ?_, fun b e => y.stay b (x.stay b e), fun b o u e => y.frz b o u (x.frz b o u e)⟩
  · rcases List.mem_append.mp hb with h | h
    · exact hn b h
    · cases q : H b with
      | none => rfl
      | some u => exact absurd (hn' b h) (x.stay b (by rw [q]; simp))
  · refine y.keep b u (x.keep b u e h1 h2) (fun h => ?_) h2
    rcases List.mem_append.mp h with h | h
    · exact h1 h
    · rw [hn b h] at e; cases e
theorem Ext.names (x : Ext m H m' H') : ∀ (k : Nat) (a : Addr), m[k]? = some a → m'[k]? = some a := fun k a e => by
  obtain ⟨n, rfl, _⟩ := x.new
  obtain ⟨hi, _⟩ := List.getElem?_eq_some_iff.mp e
  rw [List.getElem?_append_left hi]; exact e
end

/-! ### the store -/
theorem nodup_at {α : Type} : ∀ {l : List α}, l.Nodup → ∀ {i j : Nat} (hi : i < l.length) (hj : j < l.length), l[i] = l[j] → i = j
  | [], _, i, j, hi, _, _ => by simp at hi
  | a :: l, h, 0, 0, _, _, _ => rfl
  | a :: l, h, 0, j + 1, _, hj, e => by
    simp at e
    exact absurd (e ▸ List.getElem_mem _) (List.nodup_cons.mp h).1
  | a :: l, h, i + 1, 0, hi, _, e => by
    simp at e
    exact absurd (e.symm ▸ List.getElem_mem _) (List.nodup_cons.mp h).1
  | a :: l, h, i + 1, j + 1, hi, hj, e => by
    simp at e hi hj
    rw [nodup_at (List.nodup_cons.mp h).2 hi hj e]
/-- an entry -/
def RKV (K : PySem.W.Frag) (H : Hp) (m : List Addr) (p : NestedKey × D × D) (q : NestedKey × Addr × V) : Prop := p.1 = q.1 ∧ kOf p.2.1 = some p.1 ∧ RV K H m p.2.1 (.ref q.2.1) ∧ RV K H m p.2.2 q.2.2
def RO (K : PySem.W.Frag) (Tb : TBl) (H : Hp) (m : List Addr) (a : Addr) : O → Prop
  | .lst ds => ∃ xs, H a = some (.lst xs) ∧ P2 (RV K H m) ds xs
  | .dic false kvs => ∃ xs, H a = some (DicO Tb.P Tb.w a xs) ∧ P2 (RKV K H m) kvs xs
  | .dic true kvs => ∃ xs o, H a = some (.frz o (DicO Tb.P Tb.w a xs)) ∧ P2 (RKV K H m) kvs xs
  | .ins _ _ => False
/-- what may stand for an object of the store -/
def IsOb : HO → Prop
  | .lst _ => True
  | .ext _ => True
  | .frz _ (.ext _) => True
  | _ => False
structure Rp (K : PySem.W.Frag) (Tb : TBl) (H : Hp) (m : List Addr) (st : Sto) : Prop where
  len : m.length = st.length
  nd : m.Nodup
  obj : ∀ (k : Nat) (a : Addr) (o : O), m[k]? = some a → st[k]? = some o → RO K Tb H m a o
  tab : ∀ P ∈ Tb, GxR.TabG H P
theorem upd_some {H : Hp} {p b : Addr} {u : HO} (e : H b ≠ none) : upd H p u b ≠ none := by
  unfold upd
  split
  · simp
  · exact e
section
variable {K : PySem.W.Frag} {Tb : TBl} {H H' : Hp} {m m' : List Addr} {st st' : Sto}
theorem Rp.at (x : Rp K Tb H m st) {k : Nat} {o : O} (e : st[k]? = some o) : ∃ a, m[k]? = some a ∧ RO K Tb H m a o := by
  obtain ⟨hi, _⟩ := List.getElem?_eq_some_iff.mp e
  have hj : k < m.length := by rw [x.len]; exact hi
  exact ⟨m[k], List.getElem?_eq_getElem hj, x.obj k _ o (List.getElem?_eq_getElem hj) e⟩
theorem Rp.mem (x : Rp K Tb H m st) {b : Addr} (h : b ∈ m) : ∃ (k : Nat) (o : O), m[k]? = some b ∧ st[k]? = some o ∧ RO K Tb H m b o := by
  obtain ⟨k, hk, e⟩ := List.mem_iff_getElem.mp h
  have hj : k < st.length := by rw [← x.len]; exact hk
  have e1 : m[k]? = some b := by rw [List.getElem?_eq_getElem hk, e]
  exact ⟨k, st[k], e1, List.getElem?_eq_getElem hj, x.obj k b _ e1 (List.getElem?_eq_getElem hj)⟩
theorem Rp.some_of (x : Rp K Tb H m st) {b : Addr} (h : b ∈ m) : ∃ u, H b = some u ∧ IsOb u := by
  obtain ⟨k, o, _, _, r⟩ := x.mem h
  cases o with
  | lst ds => obtain ⟨ys, q, _⟩ := r; exact ⟨_, q, trivial⟩
  | dic lk kvs =>
    cases lk with
    | false => obtain ⟨ys, q, _⟩ := r; exact ⟨_, q, trivial⟩
    | true => obtain ⟨ys, o, q, _⟩ := r; exact ⟨_, q, trivial⟩
  | ins _ _ => exact r.elim
theorem Rp.fresh (x : Rp K Tb H m st) {p : Addr} (hp : H p = none) : p ∉ m := fun h => by
  obtain ⟨xs, e, _⟩ := x.some_of h
  rw [hp] at e; cases e
theorem Rp.sqT (x : Rp K Tb H m st) (y : Ext m H m' H') : ∀ a xs, SqT K H a xs → SqT K H' a xs := fun a xs h => by
  rcases h with h | h
  · have hn : a ∉ m := fun z => by
      obtain ⟨ys, e, q⟩ := x.some_of z
      rcases h with h | ⟨o, h⟩
      · rw [e] at h; cases h; exact q
      · rw [e] at h; cases h; exact q
    rcases h with h | ⟨o, h⟩
    · exact .inl (.inl (y.keep a _ h hn trivial))
    · exact .inl (.inr ⟨o, y.keep a _ h hn trivial⟩)
  · exact .inr h
theorem Rp.sqF (x : Rp K Tb H m st) (y : Ext m H m' H') : ∀ a xs, SqF K H a xs → SqF K H' a xs := fun a xs h => by
  rcases h with ⟨o, h⟩ | h
  · have hn : a ∉ m := fun z => by
      obtain ⟨ys, e, q⟩ := x.some_of z
      rw [e] at h; cases h; exact q
    exact .inl ⟨o, y.keep a _ h hn trivial⟩
  · exact .inr h
theorem Rp.rv (x : Rp K Tb H m st) (y : Ext m H m' H') {d : D} {v : V} (h : RV K H m d v) : RV K H' m' d v := RV.ext (x.sqT y) (x.sqF y) y.names d h
theorem Rp.rvs (x : Rp K Tb H m st) (y : Ext m H m' H') {ds : List D} {vs : List V} (h : P2 (RV K H m) ds vs) : P2 (RV K H' m') ds vs := h.mono fun _ _ r => x.rv y r
theorem Rp.lst (x : Rp K Tb H m st) {k : Nat} {ds : List D} (e : lstOf st k = some ds) : ∃ a xs, m[k]? = some a ∧ H a = some (.lst xs) ∧ P2 (RV K H m) ds xs ∧ st[k]? = some (.lst ds) := by
  unfold lstOf at e
  cases q : st[k]? with
  | none => rw [q] at e; cases e
  | some o =>
    rw [q] at e
    cases o with
    | lst ds' =>
      cases e
      obtain ⟨a, e1, xs, e2, r⟩ := x.at q
      exact ⟨a, xs, e1, e2, r, rfl⟩
    | dic _ _ => cases e
    | ins _ _ => cases e
theorem RKV.imp {p : NestedKey × D × D} {q : NestedKey × Addr × V} (h : RKV K H m p q) (f : ∀ {d v}, RV K H m d v → RV K H' m' d v) : RKV K H' m' p q := ⟨h.1, h.2.1, f h.2.2.1, f h.2.2.2⟩
theorem RO.imp {a : Addr} {o : O} (h : RO K Tb H m a o) (f : ∀ {d v}, RV K H m d v → RV K H' m' d v) (e : H' a = H a) : RO K Tb H' m' a o := by
  cases o with
  | lst ds =>
    obtain ⟨ys, q1, q2⟩ := h
    exact ⟨ys, by rw [e]; exact q1, q2.mono fun _ _ r => f r⟩
  | dic lk kvs =>
    cases lk with
    | false => obtain ⟨ys, q1, q2⟩ := h; exact ⟨ys, by rw [e]; exact q1, q2.mono fun _ _ r => r.imp f⟩
    | true => obtain ⟨ys, o, q1, q2⟩ := h; exact ⟨ys, o, by rw [e]; exact q1, q2.mono fun _ _ r => r.imp f⟩
  | ins _ _ => exact h.elim
theorem RO.carry (x : Rp K Tb H m st) (y : Ext m H m' H') {a : Addr} {o : O} (h : RO K Tb H m a o) (e : H' a = H a) : RO K Tb H' m' a o := h.imp (fun r => x.rv y r) e
theorem ext_laid {u : HO} {p : Addr} (hp : H p = none) : Ext m H m (upd H p u) :=
  ⟨⟨[], by simp, fun b hb => by simp at hb⟩, fun b w e _ _ => by rw [upd_ne (ne_of_none e hp)]; exact e, fun b e => upd_some e, fun b o u e => by rw [upd_ne (ne_of_none e hp)]; exact e⟩
theorem ext_new {u : HO} {p : Addr} (hp : H p = none) : Ext m H (m ++ [p]) (upd H p u) :=
  ⟨⟨[p], rfl, fun b hb => by simp at hb; subst hb; exact hp⟩, fun b w e _ _ => by rw [upd_ne (ne_of_none e hp)]; exact e, fun b e => upd_some e, fun b o u e => by rw [upd_ne (ne_of_none e hp)]; exact e⟩
theorem ext_put {u : HO} {p : Addr} (hp : p ∈ m) (hn : ∀ o u, H p ≠ some (.frz o u)) : Ext m H m (upd H p u) :=
  ⟨⟨[], by simp, fun b hb => by simp at hb⟩, fun b w _ h1 _ => by rw [upd_ne (fun z => h1 (by rw [z]; exact hp))]; assumption, fun b e => upd_some e, fun b o u e => by rw [upd_ne (fun z => hn o u (by rw [← z]; exact e))]; exact e⟩
theorem tab_upd {u : HO} {p : Addr} (hp : ∀ ps, H p ≠ some (.tbl ps)) {P : Addr} (h : GxR.TabG H P) : GxR.TabG (upd H p u) P := by
  obtain ⟨ps, e, t⟩ := h
  exact ⟨ps, by rw [upd_ne (fun z => by subst z; exact hp ps e)]; exact e, t⟩
/-- the heap may be grown by what is no object of the store -/
theorem Rp.laid (x : Rp K Tb H m st) {p : Addr} {u : HO} (hp : H p = none) : Rp K Tb (upd H p u) m st :=
  ⟨x.len, x.nd, fun k a o e1 e2 => (x.obj k a o e1 e2).carry x (ext_laid hp) (upd_ne fun z => x.fresh hp (z ▸ List.mem_of_getElem? e1)), fun P hP => tab_upd (fun ps z => by rw [hp] at z; cases z) (x.tab P hP)⟩
/-- a new object at p -/
theorem Rp.newO (x : Rp K Tb H m st) {p : Addr} {o : O} {u : HO} (hp : H p = none) (r : RO K Tb (upd H p u) (m ++ [p]) p o) : Rp K Tb (upd H p u) (m ++ [p]) (st ++ [o]) := by
  have hm := x.fresh hp
  refine ⟨by simp [x.len], ?_, fun k a o e1 e2 => ?_, fun P hP => tab_upd (fun ps z => by rw [hp] at z; cases z) (x.tab P hP)⟩
  · rw [List.nodup_append]
    refine ⟨x.nd, by simp, fun a ha b hb => ?_⟩
    simp at hb
    subst hb
    exact fun e => hm (e ▸ ha)
  · by_cases hk : k < m.length
    · rw [List.getElem?_append_left hk] at e1
      rw [List.getElem?_append_left (by rw [← x.len]; exact hk)] at e2
      exact (x.obj k a o e1 e2).carry x (ext_new hp) (upd_ne fun z => hm (z ▸ List.mem_of_getElem? e1))
    · rw [List.getElem?_append_right (by omega)] at e1
      rw [List.getElem?_append_right (by rw [← x.len]; omega), ← x.len] at e2
      cases hz : k - m.length with
      | zero =>
        rw [hz] at e1 e2
        simp at e1 e2
        subst e1 e2
        exact r
      | succ z => rw [hz] at e1; simp at e1
theorem Rp.new (x : Rp K Tb H m st) {p : Addr} {ds : List D} {xs : List V} (hp : H p = none) (r : P2 (RV K H m) ds xs) : Rp K Tb (upd H p (.lst xs)) (m ++ [p]) (st ++ [.lst ds]) :=
  x.newO hp ⟨xs, upd_same, x.rvs (ext_new hp) r⟩
/-- an object is changed -/
theorem Rp.putO (x : Rp K Tb H m st) {k : Nat} {a : Addr} {o o' : O} {u : HO} (hk : m[k]? = some a) (hs : st[k]? = some o) (hn : ∀ o u, H a ≠ some (.frz o u)) (r : RO K Tb (upd H a u) m a o') :
    Rp K Tb (upd H a u) m (st.set k o') := by
  have hm := List.mem_of_getElem? hk
  obtain ⟨ys, ha, hob⟩ := x.some_of hm
  refine ⟨by simp [x.len], x.nd, fun j b o e1 e2 => ?_, fun P hP => tab_upd (fun ps z => by rw [ha] at z; cases z; exact hob) (x.tab P hP)⟩
  by_cases hj : j = k
  · subst hj
    rw [hk] at e1; cases e1
    obtain ⟨hi, _⟩ := List.getElem?_eq_some_iff.mp hs
    rw [List.getElem?_set_self hi] at e2
    cases e2
    exact r
  · rw [List.getElem?_set_ne (fun z => hj z.symm)] at e2
    refine (x.obj j b o e1 e2).carry x (ext_put hm hn) (upd_ne fun z => ?_)
    subst z
    obtain ⟨h1, e3⟩ := List.getElem?_eq_some_iff.mp e1
    obtain ⟨h2, e4⟩ := List.getElem?_eq_some_iff.mp hk
    exact hj (nodup_at x.nd h1 h2 (e3.trans e4.symm))
/-- a list's place holds no locked thing -/
theorem Rp.nfz (x : Rp K Tb H m st) {k : Nat} {a : Addr} {ds : List D} (hk : m[k]? = some a) (hs : st[k]? = some (.lst ds)) : ∀ o u, H a ≠ some (.frz o u) := fun o u z => by
  obtain ⟨xs, e, _⟩ := x.obj k a _ hk hs
  rw [e] at z; cases z
/-- a list is changed -/
theorem Rp.put (x : Rp K Tb H m st) {k : Nat} {a : Addr} {ds ds' : List D} {xs : List V} (hk : m[k]? = some a) (hs : st[k]? = some (.lst ds)) (r : P2 (RV K H m) ds' xs) :
    Rp K Tb (upd H a (.lst xs)) m (st.set k (.lst ds')) :=
  x.putO hk hs (x.nfz hk hs) ⟨xs, upd_same, x.rvs (ext_put (List.mem_of_getElem? hk) (x.nfz hk hs)) r⟩
end
/-- the slots -/
structure RE (K : PySem.W.Frag) (H : Hp) (m : List Addr) (ρ : Env) (σ : L2.St) : Prop where
  len : ρ.length = σ.length
  at_ : ∀ (i : Nat) (d : D), ρ[i]? = some (some d) → ∃ v, σ[i]? = some (some v) ∧ RV K H m d v
section
variable {K : PySem.W.Frag} {Tb : TBl} {H H' : Hp} {m m' : List Addr} {st : Sto} {ρ : Env} {σ : L2.St}
theorem RE.ext (h : RE K H m ρ σ) (x : Rp K Tb H m st) (y : Ext m H m' H') : RE K H' m' ρ σ := ⟨h.len, fun i d e => by
  obtain ⟨v, e1, r⟩ := h.at_ i d e
  exact ⟨v, e1, x.rv y r⟩⟩
theorem RE.set (h : RE K H m ρ σ) {d : D} {v : V} (r : RV K H m d v) (i : Nat) : RE K H m (ρ.set i (some d)) (σ.set i (some v)) := ⟨by simp [h.len], fun j e q => by
  rw [List.getElem?_set] at q
  by_cases hj : i = j
  · subst hj
    rw [if_pos rfl] at q
    split at q
    · rename_i hi
      cases q
      exact ⟨v, by rw [List.getElem?_set_self (by rw [← h.len]; exact hi)], r⟩
    · cases q
  · rw [if_neg hj] at q
    obtain ⟨w, e1, r1⟩ := h.at_ j e q
    exact ⟨w, by rw [List.getElem?_set_ne hj]; exact e1, r1⟩⟩
theorem RE.unset (h : RE K H m ρ σ) (i : Nat) : RE K H m (ρ.set i none) (σ.set i none) := ⟨by simp [h.len], fun j e q => by
  rw [List.getElem?_set] at q
  by_cases hj : i = j
  · subst hj
    rw [if_pos rfl] at q
    split at q
    · cases q
    · cases q
  · rw [if_neg hj] at q
    obtain ⟨w, e1, r1⟩ := h.at_ j e q
    exact ⟨w, by rw [List.getElem?_set_ne hj]; exact e1, r1⟩⟩
theorem RE.wipe (h : RE K H m ρ σ) : ∀ vs : List Nat, RE K H m (wipeD ρ vs) (L2.wipe σ vs)
  | [] => h
  | v :: vs => (RE.wipe h vs).unset v
end
end Dz
end
section
set_option Elab.async false
set_option linter.all false
set_option maxRecDepth 100000
set_option maxHeartbeats 1000000
namespace Dz
open PySem L2
section
open PySem.Spec PyProof.Rows
open AutoSeq1 (wpAny_loadPart')
theorem tuple_mulE (l : Addr) (n : Nat) (dd : Option Addr) (sl : Array (Option Value)) (x : Int) (u : Tok) (c0 : (decide (x < -(2 ^ 63)) || decide (x ≥ 2 ^ 63)) = false) :
    Meets (Builtin.«tuple.__mul__» ⟨[.ref l, .int x u], []⟩) (fun _ R s => s.heap.get? l = some { cls := .type "tuple", dict := dd, data := .seq #[] n, slots := sl } ∧
      R (.ok (.ret (Value.ref l))) s) :=
  .of_wp fun prog w A R s h => by
    obtain ⟨hp, g, d, tk, os⟩ := s
    obtain ⟨hl, h⟩ := h
    have f1 := AutoSeq1.idx_int
    wp_walk using wpAny_loadPart' hl
    repeat (first
      | (refine wpAny_ite_false (decide_eq_false (by rw [c0]; exact Bool.false_ne_true)) ?_; wp_walk using wpAny_loadPart' hl)
      | (refine wpAny_ite_true (decide_eq_true (by rfl)) ?_; wp_walk using wpAny_loadPart' hl))
    exact ⟨_, rfl, h⟩
theorem op_rep0 {X : Cx} : OpR X (binaryOp .Mult) (fun x y H Q => ∃ l k, x = .ref l ∧ y = .int k ∧ SqT X.K H l [] ∧ (-(2 ^ 63) ≤ k ∧ k < 2 ^ 63) ∧ Q (.ref l) H) := by
  intro pins s σ H x y v u Q I rx ry h
  obtain ⟨l, k, rfl, rfl, hT, hk, q⟩ := h
  cases rx
  obtain ⟨t, rfl⟩ := ry
  obtain ⟨its, r, ⟨⟨cls, dd, data, sl⟩, ho, hc, n, hd⟩, hs⟩ := I.tuple hT
  simp only at hc hd
  subst hc hd
  cases r
  have c0 : (decide (k < -(2 ^ 63)) || decide (k ≥ 2 ^ 63)) = false := by
    rw [decide_eq_false (by omega), decide_eq_false (by omega)] <;> rfl
  exact wpAny_binaryOp_repeat_ref (T := "tuple") (U := "int") (by decide) ⟨_, ho, rfl⟩ (fun s' => typeIs_int s' k t) noFill_tuple_mul F.fills_int_mul F.slot_int_rmul repeat_tuple F.slot_int_index.lookup
    (call_meets F.slot_int_rmul (typeIs_int s k t) F.entry_int_rmul (F.args_int_rmul_2 _ _) (int_rmul_tuple k t l #[] n dd sl)
      ⟨ho, rfl, ⟨_, ho, rfl⟩, call_meets F.slot_tuple_mul ⟨_, ho, rfl⟩ F.entry_tuple_mul (F.args_tuple_mul_2 _ _) (tuple_mulE l n dd sl k t c0) ⟨ho, ⟨.ref l, H, I, rfl, q⟩⟩⟩)
/-- once -/
theorem tuple_mul1 (l : Addr) (items : Array Value) (n : Nat) (dd : Option Addr) (sl : Array (Option Value)) (u : Tok) :
    Meets (Builtin.«tuple.__mul__» ⟨[.ref l, .int 1 u], []⟩) (fun _ R s => s.heap.get? l = some { cls := .type "tuple", dict := dd, data := .seq items n, slots := sl } ∧
      R (.ok (.ret (Value.ref l))) s) :=
  .of_wp fun prog w A R s h => by
    obtain ⟨hp, g, d, tk, os⟩ := s
    obtain ⟨hl, h⟩ := h
    have f1 := AutoSeq1.idx_int
    wp_walk using wpAny_loadPart' hl
    repeat (first
      | (refine wpAny_ite_false (decide_eq_false (by decide)) ?_; wp_walk using wpAny_loadPart' hl)
      | (refine wpAny_ite_true (decide_eq_true (by simp)) ?_; wp_walk using wpAny_loadPart' hl))
    exact ⟨_, rfl, h⟩
theorem op_repT1 {X : Cx} : OpR X (binaryOp .Mult) (fun x y H Q => ∃ l xs, x = .ref l ∧ y = .int 1 ∧ SqT X.K H l xs ∧ Q (.ref l) H) := by
  intro pins s σ H x y v u Q I rx ry h
  obtain ⟨l, xs, rfl, rfl, hT, q⟩ := h
  cases rx
  obtain ⟨t, rfl⟩ := ry
  obtain ⟨its, r, ⟨⟨cls, dd, data, sl⟩, ho, hc, n, hd⟩, hs⟩ := I.tuple hT
  simp only at hc hd
  subst hc hd
  exact wpAny_binaryOp_repeat_ref (T := "tuple") (U := "int") (by decide) ⟨_, ho, rfl⟩ (fun s' => typeIs_int s' 1 t) noFill_tuple_mul F.fills_int_mul F.slot_int_rmul repeat_tuple F.slot_int_index.lookup
    (call_meets F.slot_int_rmul (typeIs_int s 1 t) F.entry_int_rmul (F.args_int_rmul_2 _ _) (int_rmul_tuple 1 t l its.toArray n dd sl)
      ⟨ho, rfl, ⟨_, ho, rfl⟩, call_meets F.slot_tuple_mul ⟨_, ho, rfl⟩ F.entry_tuple_mul (F.args_tuple_mul_2 _ _) (tuple_mul1 l its.toArray n dd sl t) ⟨ho, ⟨.ref l, H, I, rfl, q⟩⟩⟩)
/-- not at all -/
theorem tuple_mul0 (l : Addr) (items : Array Value) (n : Nat) (dd : Option Addr) (sl : Array (Option Value)) (u : Tok) (hi : items.isEmpty = false) :
    Meets (Builtin.«tuple.__mul__» ⟨[.ref l, .int 0 u], []⟩) (fun _ R s => s.heap.get? l = some { cls := .type "tuple", dict := dd, data := .seq items n, slots := sl } ∧
      R (.ok (.ret (Value.ref s.heap.objs.size))) { s with heap := s.heap.push { cls := Value.type "tuple", data := Data.seq #[] }, toks := s.toks }) :=
  .of_wp fun prog w A R s h => by
    obtain ⟨hp, g, d, tk, os⟩ := s
    obtain ⟨hl, h⟩ := h
    have f1 := AutoSeq1.idx_int
    wp_walk using wpAny_loadPart' hl
    repeat (first
      | (refine wpAny_ite_false (decide_eq_false (by rw [hi]; decide)) ?_; wp_walk using wpAny_loadPart' hl)
      | (refine wpAny_ite_false (decide_eq_false (by decide)) ?_; wp_walk using wpAny_loadPart' hl)
      | (refine wpAny_ite_true (decide_eq_true (by simp)) ?_; wp_walk using wpAny_loadPart' hl))
    exact ⟨_, rfl, h⟩
theorem op_repT0 {X : Cx} : OpR X (binaryOp .Mult) (fun x y H Q => ∃ l xs, x = .ref l ∧ y = .int 0 ∧ SqT X.K H l xs ∧ xs ≠ [] ∧ ∀ p, H p = none → Q (.ref p) (upd H p (.tup []))) := by
  intro pins s σ H x y v u Q I rx ry h
  obtain ⟨l, xs, rfl, rfl, hT, hne, q⟩ := h
  cases rx
  obtain ⟨t, rfl⟩ := ry
  obtain ⟨its, r, ⟨⟨cls, dd, data, sl⟩, ho, hc, n, hd⟩, hs⟩ := I.tuple hT
  simp only at hc hd
  subst hc hd
  have hle : its.length = xs.length := r.length.symm
  have hi : its.toArray.isEmpty = false := by
    cases its with
    | nil => exact absurd (List.eq_nil_of_length_eq_zero hle.symm) hne
    | cons a b => rfl
  refine wpAny_binaryOp_repeat_ref (T := "tuple") (U := "int") (by decide) ⟨_, ho, rfl⟩ (fun s' => typeIs_int s' 0 t) noFill_tuple_mul F.fills_int_mul F.slot_int_rmul repeat_tuple F.slot_int_index.lookup
    (call_meets F.slot_int_rmul (typeIs_int s 0 t) F.entry_int_rmul (F.args_int_rmul_2 _ _) (int_rmul_tuple 0 t l its.toArray n dd sl)
      ⟨ho, rfl, ⟨_, ho, rfl⟩, call_meets F.slot_tuple_mul ⟨_, ho, rfl⟩ F.entry_tuple_mul (F.args_tuple_mul_2 _ _) (tuple_mul0 l its.toArray n dd sl t hi) ⟨ho, ?_⟩⟩)
  refine ⟨.ref s.heap.objs.size, _, I.laid (t' := s.toks) (o := .tup []) (fun b ob q => Heap.get?_push_of_some _ q) (Nat.le_refl _) ?_, rfl, q _ (I.hok.fresh (Nat.le_refl _))⟩
  exact ⟨by rw [sizeLine_eq]; simp, [], .nil, IsTup.new _ _⟩
end
/-- what follows an evaluation to d, the store st' -/
def Aft (K : PySem.W.Frag) (Tb : TBl) (m : List Addr) (H : Hp) (d : D) (st' : Sto) (Q : VK) : Prop :=
  ∀ v H' m', Ext m H m' H' → Rp K Tb H' m' st' → RV K H' m' d v → Q v H'
section
variable {K : PySem.W.Frag} {Tb : TBl} {H H' : Hp} {m m' : List Addr} {st st' : Sto} {d : D} {Q : VK} {v : V}
theorem Aft.here (h : Aft K Tb m H d st Q) (x : Rp K Tb H m st) (r : RV K H m d v) : Q v H := h v H m Ext.refl x r
theorem Aft.later (h : Aft K Tb m H d st' Q) (y : Ext m H m' H') : Aft K Tb m' H' d st' Q := fun v H2 m2 e x r => h v H2 m2 (y.trans e) x r
/-- a new tuple -/
theorem Aft.tup {ds : List D} {xs : List V} (h : Aft K Tb m H (.tup ds) st Q) (x : Rp K Tb H m st) (r : P2 (RV K H m) ds xs) : ∀ p, H p = none → Q (.ref p) (upd H p (.tup xs)) := fun p hp =>
  h _ _ m (ext_laid hp) (x.laid hp) ⟨p, xs, rfl, SqT.of upd_same, (x.rvs (ext_laid hp) r).rvs⟩
/-- a new list -/
theorem Aft.new {ds : List D} {xs : List V} (h : Aft K Tb m H (.ref st.length) (st ++ [.lst ds]) Q) (x : Rp K Tb H m st) (r : P2 (RV K H m) ds xs) : ∀ p, H p = none → Q (.ref p) (upd H p (.lst xs)) := fun p hp =>
  h _ _ (m ++ [p]) (ext_new hp) (x.new hp r) ⟨p, rfl, by rw [← x.len]; simp⟩
end
/-! ### operators by values -/
def rD2 (K : PySem.W.Frag) (Tb : TBl) (f : D → D → Sto → Option (D × Sto)) : R2 := fun x y H Q => ∃ m st dx dy d st', Rp K Tb H m st ∧ RV K H m dx x ∧ RV K H m dy y ∧ f dx dy st = some (d, st') ∧ Aft K Tb m H d st' Q
def bop : Bop → Operator
  | .add => .Add
  | .sub => .Sub
  | .mul => .Mult
  | .fdiv => .FloorDiv
  | .mod => .Mod
  | .pow => .Pow
theorem small_iff {i : Int} (h : small i = true) : -(2 ^ 64) < i ∧ i < 2 ^ 64 := by
  unfold small at h
  rw [Bool.and_eq_true] at h
  exact ⟨of_decide_eq_true h.1, of_decide_eq_true h.2⟩
section
variable {X : Cx} {Tb : TBl}
theorem op_bin (o : Bop) : OpR X (binaryOp (bop o)) (rD2 X.K Tb (binD o)) := by
  intro pins s σ H x y v u Q I rx ry h
  obtain ⟨m, st, dx, dy, d, st', R, vx, vy, e, q⟩ := h
  unfold binD at e
  split at e
  · cases e; cases vx; cases vy
    exact op_add pins s σ H _ _ v u Q I rx ry ⟨_, _, rfl, rfl, q.here R rfl⟩
  · split at e
    · rename_i hz
      cases e; cases vx; cases vy
      exact op_add_str pins s σ H _ _ v u Q I rx ry ⟨_, _, rfl, rfl, hz, q.here R rfl⟩
    · cases e
  · split at e
    · rename_i a b hz
      cases e
      obtain ⟨p, xs, rfl, h1, r1⟩ := vx
      obtain ⟨p2, ys, rfl, h2, r2⟩ := vy
      have r1 := r1.p2
      have r2 := r2.p2
      refine op_catA pins s σ H _ _ v u Q I rx ry ⟨p, p2, xs, ys, rfl, rfl, h1, h2, by rw [← r1.1, ← r2.1]; exact hz, fun e => ?_, fun _ e => ?_, fun _ _ => q.tup R (r1.append r2)⟩
      · subst e
        have : a = [] := List.eq_nil_of_length_eq_zero r1.1
        subst this
        exact q.here R ⟨p2, ys, rfl, h2, r2.rvs⟩
      · subst e
        have : b = [] := List.eq_nil_of_length_eq_zero r2.1
        subst this
        rw [List.append_nil] at q
        exact q.here R ⟨p, xs, rfl, h1, r1.rvs⟩
    · cases e
  · rename_i k j
    cases e1 : lstOf st k with
    | none => rw [e1] at e; cases e
    | some a =>
      cases e2 : lstOf st j with
      | none => rw [e1, e2] at e; cases e
      | some b =>
        rw [e1, e2] at e
        simp only [Option.bind_some] at e
        split at e
        · rename_i hz
          cases e
          obtain ⟨p, rfl, hp⟩ := vx
          obtain ⟨p2, rfl, hp2⟩ := vy
          obtain ⟨p', xs, hp', h1, r1, _⟩ := R.lst e1
          obtain ⟨p2', ys, hp2', h2, r2, _⟩ := R.lst e2
          rw [hp] at hp'; cases hp'
          rw [hp2] at hp2'; cases hp2'
          exact op_cat pins s σ H _ _ v u Q I rx ry ⟨p, p2, xs, ys, rfl, rfl, h1, h2, by rw [← r1.1, ← r2.1]; exact hz, q.new R (r1.append r2)⟩
        · cases e
  · cases e; cases vx; cases vy
    exact op_sub pins s σ H _ _ v u Q I rx ry ⟨_, _, rfl, rfl, q.here R rfl⟩
  · split at e
    · rename_i hz
      cases e; cases vx; cases vy
      refine op_mul pins s σ H _ _ v u Q I rx ry ⟨_, _, rfl, rfl, ?_, q.here R rfl⟩
      rw [Bool.or_eq_true] at hz
      exact hz.imp small_iff small_iff
    · cases e
  · rename_i k j
    cases e1 : lstOf st k with
    | none => rw [e1] at e; cases e
    | some a =>
      rw [e1] at e
      simp only [Option.bind_some] at e
      split at e
      · rename_i hz
        cases e
        obtain ⟨p, rfl, hp⟩ := vx
        cases vy
        obtain ⟨p', xs, hp', h1, r1, _⟩ := R.lst e1
        rw [hp] at hp'; cases hp'
        exact op_rep pins s σ H _ _ v u Q I rx ry ⟨p, j, xs, rfl, rfl, h1, hz.2.1, hz.2.2, by rw [← r1.1]; exact hz.1, q.new R (r1.rep _)⟩
      · cases e
  · rename_i a j
    obtain ⟨p, xs, rfl, h1, r1⟩ := vx
    have r1 := r1.p2
    cases vy
    split at e
    · rename_i he
      have he : a = [] := List.isEmpty_iff.mp he
      subst he
      have hx := r1.nil_l
      subst hx
      split at e
      · rename_i hz
        cases e
        exact op_rep0 pins s σ H _ _ v u Q I rx ry ⟨p, j, rfl, rfl, h1, hz, q.here R ⟨p, [], rfl, h1, rfl⟩⟩
      · cases e
    · rename_i he
      have hne : xs ≠ [] := r1.ne (fun z => he (by rw [z]; rfl))
      split at e
      · rename_i hz
        cases e
        subst hz
        exact op_repT0 pins s σ H _ _ v u Q I rx ry ⟨p, xs, rfl, rfl, h1, hne, q.tup R P2.nil⟩
      split at e
      · rename_i hz
        cases e
        subst hz
        exact op_repT1 pins s σ H _ _ v u Q I rx ry ⟨p, xs, rfl, rfl, h1, q.here R ⟨p, xs, rfl, h1, r1.rvs⟩⟩
      split at e
      · rename_i hz
        cases e
        exact op_repT pins s σ H _ _ v u Q I rx ry ⟨p, j, xs, rfl, rfl, h1, r1.ne (fun z => he (by rw [z]; rfl)), hz.1, hz.2.1, by rw [← r1.1]; exact hz.2.2, q.tup R (r1.rep _)⟩
      · cases e
  · split at e
    · rename_i hz
      cases e; cases vx; cases vy
      exact op_fdivN pins s σ H _ _ v u Q I rx ry ⟨_, _, rfl, rfl, hz, q.here R rfl⟩
    · cases e
  · split at e
    · rename_i hz
      cases e; cases vx; cases vy
      exact op_modN pins s σ H _ _ v u Q I rx ry ⟨_, _, rfl, rfl, hz, q.here R rfl⟩
    · cases e
  · split at e
    · rename_i hz
      cases e; cases vx; cases vy
      exact op_pow pins s σ H _ _ v u Q I rx ry ⟨_, _, rfl, rfl, hz, q.here R rfl⟩
    · cases e
  · cases e
end
/-! ### data -/
section
variable {K : PySem.W.Frag} {Tb : TBl} {H : Hp} {m : List Addr} {st : Sto}
mutual
theorem toPw_dp {f : Nat → Option PyData} (hf : ∀ k x a, f k = some x → m[k]? = some a → Dp K H (.ref a) x) : ∀ (d : D) {v : V} {x : PyData}, RV K H m d v → toPw f d = some x → Dp K H v x
  | .non, _, _, r, e => by cases r; cases e; exact .non
  | .bl b, _, _, r, e => by cases r; cases e; exact .bl b
  | .int i, _, _, r, e => by cases r; cases e; exact .int i
  | .str z, _, _, r, e => by cases r; cases e; exact .str z
  | .tup ds, _, _, r, e => by
    obtain ⟨a, xs, rfl, h, r⟩ := r
    obtain ⟨ys, e1, rfl⟩ := Option.map_eq_some_iff.mp (show (toPws f ds).map PyData.tuple = some _ from e)
    exact .tup h (toPws_dp hf ds r e1)
  | .fz ds, _, _, r, e => by
    obtain ⟨a, xs, rfl, h, r⟩ := r
    obtain ⟨ys, e1, rfl⟩ := Option.map_eq_some_iff.mp (show (toPws f ds).map PyData.list = some _ from e)
    exact .lst h.l (toPws_dp hf ds r e1)
  | .ref k, _, _, r, e => by
    obtain ⟨a, rfl, h⟩ := r
    exact hf k _ a e h
theorem toPws_dp {f : Nat → Option PyData} (hf : ∀ k x a, f k = some x → m[k]? = some a → Dp K H (.ref a) x) : ∀ (ds : List D) {vs : List V} {xs : List PyData}, RVs K H m ds vs → toPws f ds = some xs → DpAll K H vs xs
  | [], _, _, r, e => by cases r; cases e; exact .nil
  | d :: ds, _, _, r, e => by
    obtain ⟨v, vs, rfl, r1, r2⟩ := r
    have e' : ((toPw f d).bind fun x => (toPws f ds).map fun xs => x :: xs) = some _ := e
    obtain ⟨x, e1, e2⟩ := Option.bind_eq_some_iff.mp e'
    obtain ⟨xs, e3, rfl⟩ := Option.map_eq_some_iff.mp e2
    exact .cons (toPw_dp hf d r1 e1) (toPws_dp hf ds r2 e3)
end
theorem mapM_dp {g : D → Option PyData} (hg : ∀ d v x, RV K H m d v → g d = some x → Dp K H v x) : ∀ {ds : List D} {vs : List V} {xs : List PyData}, P2 (RV K H m) ds vs → ds.mapM g = some xs → DpAll K H vs xs
  | [], vs, xs, r, e => by
    have e1 := r.nil_l
    subst e1
    simp at e
    subst e
    exact .nil
  | d :: ds, vs, xs, r, e => by
    obtain ⟨v, vs', rfl, r1, r2⟩ := r.cons_l
    rw [List.mapM_cons] at e
    obtain ⟨x, e1, e2⟩ := Option.bind_eq_some_iff.mp e
    obtain ⟨ys, e3, e4⟩ := Option.bind_eq_some_iff.mp e2
    cases e4
    exact .cons (hg d v x r1 e1) (mapM_dp hg r2 e3)
theorem toP_dp (R : Rp K Tb H m st) : ∀ (n : Nat) (d : D) (v : V) (x : PyData), RV K H m d v → toP n st d = some x → Dp K H v x
  | 0, d, v, x, r, e => toPw_dp (fun k x a e => by cases e) d r e
  | n + 1, d, v, x, r, e => by
    refine toPw_dp (fun k x a e hk => ?_) d r e
    cases q : st[k]? with
    | none => rw [q] at e; cases e
    | some o =>
      rw [q] at e
      cases o with
      | lst ds =>
        obtain ⟨ys, e1, rfl⟩ := Option.map_eq_some_iff.mp (show (ds.mapM (toP n st)).map PyData.list = some _ from e)
        obtain ⟨xs, h1, r1⟩ := R.obj k a _ hk q
        exact .lst (SqL.of h1) (mapM_dp (fun d v x => toP_dp R n d v x) r1 e1)
      | dic _ _ => cases e
      | ins _ _ => cases e
theorem eqD_dp (R : Rp K Tb H m st) {dx dy : D} {x y : V} {b : Bool} (rx : RV K H m dx x) (ry : RV K H m dy y) (e : eqD st dx dy = some b) : ∃ p q, Dp K H x p ∧ Dp K H y q ∧ SeqAt.shaped p = true ∧ SeqAt.shaped q = true ∧ PyData.eqv p q = b := by
  unfold eqD at e
  obtain ⟨p, e1, e2⟩ := Option.bind_eq_some_iff.mp e
  obtain ⟨q, e3, e4⟩ := Option.bind_eq_some_iff.mp e2
  split at e4
  · rename_i hs
    rw [Bool.and_eq_true] at hs
    exact ⟨p, q, toP_dp R 3 dx x p rx e1, toP_dp R 3 dy y q ry e3, hs.1, hs.2, Option.some.inj e4⟩
  · cases e4
end
/-! ### comparisons -/
def cop : Cop → CmpOp
  | .eq => .Eq
  | .ne => .NotEq
  | .lt => .Lt
  | .le => .LtE
  | .gt => .Gt
  | .ge => .GtE
  | .is => .Is
  | .isn => .IsNot
  | .inn => .In
  | .nin => .NotIn
def rDC (K : PySem.W.Frag) (Tb : TBl) (f : D → D → Sto → Option Bool) : R2 := fun x y H Q => ∃ m st dx dy b, Rp K Tb H m st ∧ RV K H m dx x ∧ RV K H m dy y ∧ f dx dy st = some b ∧ Q (.bl b) H
section
variable {X : Cx} {Tb : TBl} {K : PySem.W.Frag} {H : Hp} {m : List Addr}
theorem isN_iff {d : D} {v : V} (r : RV K H m d v) : isN d = decide (v = .non) := by
  cases d with
  | non => cases r; rfl
  | bl _ => cases r; rfl
  | int _ => cases r; rfl
  | str _ => cases r; rfl
  | tup _ => obtain ⟨a, xs, rfl, _⟩ := r; rfl
  | fz _ => obtain ⟨a, xs, rfl, _⟩ := r; rfl
  | ref _ => obtain ⟨a, rfl, _⟩ := r; rfl
end
end Dz
namespace Dz
open PySem L2
section
variable {K : PySem.W.Frag} {Tb : TBl} {H : Hp} {m : List Addr} {st : Sto}
theorem inD_dp (R : Rp K Tb H m st) {dx dy : D} {x y : V} {b : Bool} (rx : RV K H m dx x) (ry : RV K H m dy y) (e : inD st dx dy = some b) :
    ∃ p qs, Dp K H x p ∧ SeqAt.shaped p = true ∧ (qs.any fun z => PyData.eqv z p) = b ∧ ((Dp K H y (.list qs) ∧ SeqAt.shaped (.list qs) = true) ∨ (Dp K H y (.tuple qs) ∧ SeqAt.shaped (.tuple qs) = true)) := by
  unfold inD at e
  obtain ⟨p, e1, e2⟩ := Option.bind_eq_some_iff.mp e
  obtain ⟨q, e3, e4⟩ := Option.bind_eq_some_iff.mp e2
  split at e4
  · rename_i hs
    rw [Bool.and_eq_true] at hs
    have d2 := toP_dp R 3 dy y q ry e3
    split at e4
    · exact ⟨p, _, toP_dp R 3 dx x p rx e1, hs.1, Option.some.inj e4, .inl ⟨d2, hs.2⟩⟩
    · exact ⟨p, _, toP_dp R 3 dx x p rx e1, hs.1, Option.some.inj e4, .inr ⟨d2, hs.2⟩⟩
    · cases e4
  · cases e4
end
section
variable {X : Cx} {Tb : TBl} {k : Nat}
theorem room_in {d : PyData} (h : SeqAt.shaped d = true) (hr : Room k X.A) : X.A.units + 65 < cLine := by have := hr.un; omega
theorem op_inDT (hu : X.A.units + 65 < cLine) {neg : Bool} : OpR X (compareOp (if neg then .NotIn else .In)) (fun x y H Q => ∃ d ds, Dp X.K H x d ∧ Dp X.K H y (.tuple ds) ∧ SeqAt.shaped d = true ∧ SeqAt.shaped (.tuple ds) = true ∧ Q (.bl (if neg then !(ds.any fun z => PyData.eqv z d) else ds.any fun z => PyData.eqv z d)) H) := by
  intro pins s σ H x y v u Q I rx ry h
  obtain ⟨d, ds, hd, he, sd, se, q⟩ := h
  obtain ⟨as, r1⟩ := Dp.reads I d x v hd rx
  obtain ⟨bs, r2⟩ := Dp.reads I (.tuple ds) y u he ry
  cases neg with
  | false => exact SeqAt.in_tuple_reads r2 r1 (SeqAt.canLay_of_shaped se) (SeqAt.canLay_of_shaped sd) (PyProof.Rows.room_in_shaped sd hu) ⟨.bl _, H, I, rfl, q⟩
  | true => exact SeqAt.notIn_tuple_reads r2 r1 (SeqAt.canLay_of_shaped se) (SeqAt.canLay_of_shaped sd) (PyProof.Rows.room_in_shaped sd hu) ⟨.bl _, H, I, rfl, q⟩
theorem op_cmp (hr : Room k X.A) (o : Cop) : OpR X (compareOp (cop o)) (rDC X.K Tb (cmpD o)) := by
  intro pins s σ H x y v u Q I rx ry h
  obtain ⟨m, st, dx, dy, b, R, vx, vy, e, q⟩ := h
  have hu : X.A.units + 65 < cLine := by have := hr.un; omega
  unfold cmpD at e
  split at e
  · obtain ⟨p, p2, h1, h2, s1, s2, rfl⟩ := eqD_dp R vx vy e
    exact op_eqD hr.units pins s σ H _ _ v u Q I rx ry ⟨p, p2, h1, h2, s1, s2, q⟩
  · obtain ⟨b', e', rfl⟩ := Option.map_eq_some_iff.mp e
    obtain ⟨p, p2, h1, h2, s1, s2, rfl⟩ := eqD_dp R vx vy e'
    exact op_neD hr.units pins s σ H _ _ v u Q I rx ry ⟨p, p2, h1, h2, s1, s2, q⟩
  · cases e; cases vx; cases vy
    exact op_lt pins s σ H _ _ v u Q I rx ry ⟨_, _, rfl, rfl, q⟩
  · cases e; cases vx; cases vy
    exact op_le pins s σ H _ _ v u Q I rx ry ⟨_, _, rfl, rfl, q⟩
  · cases e; cases vx; cases vy
    exact op_gt pins s σ H _ _ v u Q I rx ry ⟨_, _, rfl, rfl, q⟩
  · cases e; cases vx; cases vy
    exact op_ge pins s σ H _ _ v u Q I rx ry ⟨_, _, rfl, rfl, q⟩
  · cases e; cases vy
    rw [isN_iff vx] at q
    exact op_isN pins s σ H _ _ v u Q I rx ry ⟨rfl, q⟩
  · cases e; cases vy
    rw [isN_iff vx] at q
    exact op_notN pins s σ H _ _ v u Q I rx ry ⟨rfl, q⟩
  · cases e; cases vx; cases vy
    exact op_isBl pins s σ H _ _ v u Q I rx ry ⟨_, _, rfl, rfl, q⟩
  · cases e; cases vx; cases vy
    exact op_notBl pins s σ H _ _ v u Q I rx ry ⟨_, _, rfl, rfl, q⟩
  · obtain ⟨p, qs, h1, s1, rfl, h2 | h2⟩ := inD_dp R vx vy e
    · exact op_inD hu pins s σ H _ _ v u Q I rx ry ⟨p, qs, h1, h2.1, s1, h2.2, q⟩
    · exact op_inDT (neg := false) hu pins s σ H _ _ v u Q I rx ry ⟨p, qs, h1, h2.1, s1, h2.2, q⟩
  · obtain ⟨b', e', rfl⟩ := Option.map_eq_some_iff.mp e
    obtain ⟨p, qs, h1, s1, rfl, h2 | h2⟩ := inD_dp R vx vy e'
    · exact op_notInD hu pins s σ H _ _ v u Q I rx ry ⟨p, qs, h1, h2.1, s1, h2.2, q⟩
    · exact op_inDT (neg := true) hu pins s σ H _ _ v u Q I rx ry ⟨p, qs, h1, h2.1, s1, h2.2, q⟩
  · cases e
/-! ### truth -/
theorem truD_tru {K : PySem.W.Frag} {H : Hp} {m : List Addr} {st : Sto} (R : Rp K Tb H m st) {d : D} {v : V} {b : Bool} (r : RV K H m d v) (e : truD d st = some b) : TruV K v H b := by
  cases d with
  | non => cases r; cases e; rfl
  | bl _ => cases r; cases e; rfl
  | int _ => cases r; cases e; rfl
  | str _ => cases e
  | tup ds =>
    obtain ⟨a, xs, rfl, h, r⟩ := r
    cases e
    exact .inr (.inl ⟨xs, h, by rw [r.p2.isEmpty]⟩)
  | fz _ => cases e
  | ref k =>
    obtain ⟨a, rfl, h⟩ := r
    obtain ⟨ds, e1, rfl⟩ := Option.map_eq_some_iff.mp (show (lstOf st k).map (fun ds => !ds.isEmpty) = some b from e)
    obtain ⟨a', xs, h', h1, r1, _⟩ := R.lst e1
    rw [h] at h'; cases h'
    exact .inl ⟨xs, SqL.of h1, by rw [r1.isEmpty]⟩
/-! ### items, slices -/
def rDI (K : PySem.W.Frag) (Tb : TBl) : R2 := fun x y H Q => ∃ m st dx dy d, Rp K Tb H m st ∧ RV K H m dx x ∧ RV K H m dy y ∧ idxD dx dy st = some d ∧ Aft K Tb m H d st Q
theorem ix_D : IxR X (rDI X.K Tb) := by
  intro b1 b2 pins s σ H x y v u Q I rx ry h hp
  refine ix_seq b1 b2 pins s σ H x y v u Q I rx ry ?_ hp
  obtain ⟨m, st, dx, dy, d, R, vx, vy, e, q⟩ := h
  unfold idxD at e
  split at e
  · obtain ⟨a, xs, rfl, h, r⟩ := vx
    cases vy
    obtain ⟨v', e2, r2⟩ := r.p2.atI e
    exact .inr (.inl ⟨a, xs, _, v', rfl, rfl, h, e2, q.here R r2⟩)
  · obtain ⟨a, xs, rfl, h, r⟩ := vx
    cases vy
    obtain ⟨v', e2, r2⟩ := r.p2.atI e
    exact .inl ⟨a, xs, _, v', rfl, rfl, h.l, e2, q.here R r2⟩
  · obtain ⟨a, rfl, h⟩ := vx
    cases vy
    obtain ⟨ds, e1, e2⟩ := Option.bind_eq_some_iff.mp e
    obtain ⟨a', xs, h', h1, r1, _⟩ := R.lst e1
    rw [h] at h'; cases h'
    obtain ⟨v', e3, r2⟩ := r1.atI e2
    exact .inl ⟨a, xs, _, v', rfl, rfl, SqL.of h1, e3, q.here R r2⟩
  · cases e
def rDS (K : PySem.W.Frag) (Tb : TBl) : V → Option Int → Option Int → Hp → VK → Prop := fun x lo hi H Q => ∃ m st dx d st', Rp K Tb H m st ∧ RV K H m dx x ∧ slcD dx lo hi st = some (d, st') ∧ Aft K Tb m H d st' Q
theorem P2.cut {K : PySem.W.Frag} {H : Hp} {m : List Addr} {ds : List D} {xs : List V} (h : P2 (RV K H m) ds xs) (lo hi : Option Int) : P2 (RV K H m) (cutD ds lo hi) (cutV xs lo hi) := by
  unfold cutD cutV
  rw [← h.1]
  exact (h.drop _).take _
theorem cut_whole {α : Type} {xs : List α} {lo hi : Option Int} (h : HT.sIx xs.length 0 lo = 0 ∧ HT.sIx xs.length xs.length hi = xs.length) : (xs.drop (HT.sIx xs.length 0 lo)).take (HT.sIx xs.length xs.length hi - HT.sIx xs.length 0 lo) = xs := by
  rw [h.1, h.2]
  simp
theorem sl_D : SlR X (rDS X.K Tb) := by
  refine fun pins s σ H x v vl vu lo hi sl Q I rx hs pl pu h => (sl_tupA.or sl_list) pins s σ H x v vl vu lo hi sl Q I rx hs pl pu ?_
  obtain ⟨m, st, dx, d, st', R, vx, e, q⟩ := h
  unfold slcD at e
  split at e
  · cases e
    rename_i ds
    obtain ⟨a, xs, rfl, h, r⟩ := vx
    have r := r.p2
    refine .inl ⟨a, xs, rfl, h, fun hw => ?_, fun _ => q.tup R (r.cut lo hi)⟩
    have e2 : cutD ds lo hi = ds := by
      unfold cutD
      exact cut_whole (by rw [r.1]; exact hw)
    rw [e2] at q
    exact q.here R ⟨a, xs, rfl, h, r.rvs⟩
  · obtain ⟨ds, e1, e2⟩ := Option.map_eq_some_iff.mp e
    cases e2
    obtain ⟨a, rfl, h⟩ := vx
    obtain ⟨a', xs, h', h1, r1, _⟩ := R.lst e1
    rw [h] at h'; cases h'
    exact .inr ⟨a, xs, rfl, SqL.of h1, q.new R (r1.cut lo hi)⟩
  · cases e
/-! ### isinstance -/
def tyN : Ty → String
  | .tuple => "tuple"
  | .int => "int"
  | .bool => "bool"
  | .str => "str"
  | .list => "list"
theorem kit_rows : kitB "NoneType" "tuple" = some false ∧ kitB "NoneType" "int" = some false ∧ kitB "NoneType" "bool" = some false ∧ kitB "NoneType" "str" = some false ∧ kitB "NoneType" "list" = some false
  ∧ kitB "bool" "tuple" = some false ∧ kitB "bool" "int" = some true ∧ kitB "bool" "bool" = some true ∧ kitB "bool" "str" = some false ∧ kitB "bool" "list" = some false
  ∧ kitB "int" "tuple" = some false ∧ kitB "int" "int" = some true ∧ kitB "int" "bool" = some false ∧ kitB "int" "str" = some false ∧ kitB "int" "list" = some false
  ∧ kitB "str" "tuple" = some false ∧ kitB "str" "int" = some false ∧ kitB "str" "bool" = some false ∧ kitB "str" "str" = some true ∧ kitB "str" "list" = some false
  ∧ kitB "tuple" "tuple" = some true ∧ kitB "tuple" "int" = some false ∧ kitB "tuple" "bool" = some false ∧ kitB "tuple" "str" = some false ∧ kitB "tuple" "list" = some false
  ∧ kitB "list" "tuple" = some false ∧ kitB "list" "int" = some false ∧ kitB "list" "bool" = some false ∧ kitB "list" "str" = some false ∧ kitB "list" "list" = some true := by decide +kernel
theorem tyX_of {K : PySem.W.Frag} {H : Hp} {a : Addr} {xs : List V} (h : SqT K H a xs) : TyX K H (.ref a) (.type "tuple") := by
  rcases h with (h | ⟨o, h⟩) | ⟨o, its, n, hk, hc, _⟩
  · exact .base (.tup h)
  · exact .fTuple h
  · exact .kTuple hk hc
theorem isiD_kit {K : PySem.W.Frag} {H : Hp} {m : List Addr} {st : Sto} (R : Rp K Tb H m st) {d : D} {v : V} {t : Ty} {b : Bool} (r : RV K H m d v) (e : isiD d t st = some b) :
    ∃ u : String, TyX K H v (.type u) ∧ kitB u (tyN t) = some b := by
  obtain ⟨a1, a2, a3, a4, a5, b1, b2, b3, b4, b5, c1, c2, c3, c4, c5, d1, d2, d3, d4, d5, e1, e2, e3, e4, e5, f1, f2, f3, f4, f5⟩ := kit_rows
  cases d with
  | non => cases r; refine ⟨"NoneType", .base .non, ?_⟩; cases t <;> cases e <;> assumption
  | bl x => cases r; refine ⟨"bool", .base (.bl x), ?_⟩; cases t <;> cases e <;> assumption
  | int x => cases r; refine ⟨"int", .base (.int x), ?_⟩; cases t <;> cases e <;> assumption
  | str x => cases r; refine ⟨"str", .base (.str x), ?_⟩; cases t <;> cases e <;> assumption
  | tup ds =>
    obtain ⟨a, xs, rfl, h, _⟩ := r
    refine ⟨"tuple", tyX_of h, ?_⟩
    cases t <;> cases e <;> assumption
  | fz _ => cases t <;> cases e
  | ref k =>
    obtain ⟨a, rfl, h⟩ := r
    have z : ∃ ds, lstOf st k = some ds := by
      cases q : lstOf st k with
      | none => cases t <;> (simp only [isiD, q] at e; cases e)
      | some ds => exact ⟨ds, rfl⟩
    obtain ⟨ds, z⟩ := z
    obtain ⟨a', xs, h', h1, _⟩ := R.lst z
    rw [h] at h'; cases h'
    refine ⟨"list", .base (.lst h1), ?_⟩
    cases t <;> (simp only [isiD, z] at e; cases e; assumption)
end
end Dz
end
section
set_option Elab.async false
set_option linter.all false
set_option maxRecDepth 100000
set_option maxHeartbeats 1000000
namespace Dz
open PySem L2
def rDB (K : PySem.W.Frag) (Tb : TBl) (f : List D → Sto → Option (D × Sto)) : List V → Hp → VK → Prop := fun xs H Q => ∃ m st ds d st', Rp K Tb H m st ∧ P2 (RV K H m) ds xs ∧ f ds st = some (d, st') ∧ Aft K Tb m H d st' Q
def bfV : Bf → Value
  | .len => .builtin "len"
  | .int => .type "int"
  | .tuple => .type "tuple"
  | .list => .type "list"
  | .max1 => .builtin "max"
  | .max2 => .builtin "max"
  | .str => .type "str"
theorem maxI_ok : ∀ {ds : List D} {j : Int}, maxI ds = some j → ∃ ns : List Int, ds = ns.map D.int ∧ j ∈ ns ∧ ∀ y ∈ ns, y ≤ j
  | [], j, e => by cases e
  | [.int i], j, e => by cases e; exact ⟨[i], rfl, by simp, by simp⟩
  | .int i :: d :: ds, j, e => by
    have e' : ((maxI (d :: ds)).map fun j => if i < j then j else i) = some j := e
    obtain ⟨j', e1, rfl⟩ := Option.map_eq_some_iff.mp e'
    obtain ⟨ns, e2, h1, h2⟩ := maxI_ok e1
    refine ⟨i :: ns, by rw [e2]; rfl, ?_, fun y hy => ?_⟩
    · split
      · exact List.mem_cons_of_mem _ h1
      · exact List.mem_cons_self
    · rcases List.mem_cons.mp hy with rfl | hy
      · split
        · omega
        · exact Int.le_refl _
      · have := h2 y hy
        split <;> omega
  | .non :: ds, j, e => by cases ds <;> cases e
  | .bl _ :: ds, j, e => by cases ds <;> cases e
  | .str _ :: ds, j, e => by cases ds <;> cases e
  | .tup _ :: ds, j, e => by cases ds <;> cases e
  | .fz _ :: ds, j, e => by cases ds <;> cases e
  | .ref _ :: ds, j, e => by cases ds <;> cases e
theorem p2_ints {K : PySem.W.Frag} {H : Hp} {m : List Addr} : ∀ {ns : List Int} {xs : List V}, P2 (RV K H m) (ns.map D.int) xs → xs = ns.map V.int
  | [], xs, h => h.nil_l
  | n :: ns, xs, h => by
    obtain ⟨v, vs, rfl, r, t⟩ := h.cons_l
    cases r
    rw [p2_ints t]; rfl
section
variable {X : Cx} {Tb : TBl}
theorem bf_ok (hc : X.calm = true) (f : Bf) : CallR X (bfV f) (rDB X.K Tb (bfD f)) := by
  intro pins s σ H xs us Q I r h
  obtain ⟨m, st, ds, d, st', R, vs, e, q⟩ := h
  unfold bfD at e
  split at e
  · cases e
    obtain ⟨v, _, rfl, r1, t⟩ := vs.cons_l
    obtain rfl := t.nil_l
    obtain ⟨a, ys, rfl, h, rr⟩ := r1
    exact call_len_seq pins s σ H _ us Q I r ⟨a, ys, rfl, .inr h, by rw [← rr.p2.1]; exact q.here R rfl⟩
  · cases e
    obtain ⟨v, _, rfl, r1, t⟩ := vs.cons_l
    obtain rfl := t.nil_l
    obtain ⟨a, ys, rfl, h, rr⟩ := r1
    exact call_len_seq pins s σ H _ us Q I r ⟨a, ys, rfl, .inl h.l, by rw [← rr.p2.1]; exact q.here R rfl⟩
  · obtain ⟨ys, e1, e2⟩ := Option.map_eq_some_iff.mp e
    cases e2
    obtain ⟨v, _, rfl, r1, t⟩ := vs.cons_l
    obtain rfl := t.nil_l
    obtain ⟨a, rfl, h⟩ := r1
    obtain ⟨a', zs, h', h1, rr, _⟩ := R.lst e1
    rw [h] at h'; cases h'
    exact call_len_seq pins s σ H _ us Q I r ⟨a, zs, rfl, .inl (SqL.of h1), by rw [← rr.1]; exact q.here R rfl⟩
  · cases e
    obtain ⟨v, _, rfl, r1, t⟩ := vs.cons_l
    obtain rfl := t.nil_l
    cases r1
    exact call_int1 pins s σ H _ us Q I r (.inl ⟨_, rfl, q.here R rfl⟩)
  · cases e
    obtain ⟨v, _, rfl, r1, t⟩ := vs.cons_l
    obtain rfl := t.nil_l
    cases r1
    exact call_int1 pins s σ H _ us Q I r (.inr ⟨_, rfl, q.here R rfl⟩)
  · cases e
    obtain ⟨v, _, rfl, r1, t⟩ := vs.cons_l
    obtain rfl := t.nil_l
    obtain ⟨a, ys, rfl, h, rr⟩ := r1
    exact call_tuple_of pins s σ H _ us Q I r ⟨a, ys, rfl, .inr ⟨h, q.here R ⟨a, ys, rfl, h, rr⟩⟩⟩
  · obtain ⟨ys, e1, e2⟩ := Option.map_eq_some_iff.mp e
    cases e2
    obtain ⟨v, _, rfl, r1, t⟩ := vs.cons_l
    obtain rfl := t.nil_l
    obtain ⟨a, rfl, h⟩ := r1
    obtain ⟨a', zs, h', h1, rr, _⟩ := R.lst e1
    rw [h] at h'; cases h'
    exact call_tuple_of pins s σ H _ us Q I r ⟨a, zs, rfl, .inl ⟨SqL.of h1, q.tup R rr⟩⟩
  · obtain ⟨ys, e1, e2⟩ := Option.bind_eq_some_iff.mp e
    obtain ⟨j, e3, e4⟩ := Option.map_eq_some_iff.mp e2
    cases e4
    obtain ⟨v, _, rfl, r1, t⟩ := vs.cons_l
    obtain rfl := t.nil_l
    obtain ⟨a, rfl, h⟩ := r1
    obtain ⟨a', zs, h', h1, rr, _⟩ := R.lst e1
    rw [h] at h'; cases h'
    obtain ⟨ns, rfl, k1, k2⟩ := maxI_ok e3
    have := p2_ints rr
    subst this
    refine cr_max hc pins s σ H _ us Q I r ⟨a, ns, rfl, SqL.of h1, List.length_pos_of_mem k1, fun j' g1 g2 => ?_⟩
    have : j' = j := Int.le_antisymm (k2 j' g1) (g2 j k1)
    subst this
    exact q.here R rfl
  · cases e
    obtain ⟨v, _, rfl, r1, t⟩ := vs.cons_l
    obtain ⟨v2, _, rfl, r2, t⟩ := t.cons_l
    obtain rfl := t.nil_l
    cases r1
    cases r2
    exact call_max2 hc pins s σ H _ us Q I r ⟨_, _, rfl, q.here R rfl⟩
  · cases e
    obtain ⟨v, _, rfl, r1, t⟩ := vs.cons_l
    obtain rfl := t.nil_l
    obtain ⟨a, ys, rfl, h, rr⟩ := r1
    exact call_list_of pins s σ H _ us Q I r ⟨a, ys, rfl, .inr h, q.new R rr.p2⟩
  · obtain ⟨ys, e1, e2⟩ := Option.map_eq_some_iff.mp e
    cases e2
    obtain ⟨v, _, rfl, r1, t⟩ := vs.cons_l
    obtain rfl := t.nil_l
    obtain ⟨a, rfl, h⟩ := r1
    obtain ⟨a', zs, h', h1, rr, _⟩ := R.lst e1
    rw [h] at h'; cases h'
    exact call_list_of pins s σ H _ us Q I r ⟨a, zs, rfl, .inl (SqL.of h1), q.new R rr⟩
  · cases e
/-! ### methods of lists -/
def mtS : Mt → String
  | .append => "list.append"
  | .extend => "list.extend"
  | .pop => "list.pop"
def rDM (K : PySem.W.Frag) (Tb : TBl) (f : D → List D → Sto → Option (D × Sto)) : V → List V → Hp → VK → Prop := fun x xs H Q => ∃ m st dx ds d st', Rp K Tb H m st ∧ RV K H m dx x ∧ P2 (RV K H m) ds xs ∧ f dx ds st = some (d, st') ∧ Aft K Tb m H d st' Q
theorem ext_tup (l : Addr) (items : Array Value) (n : Nat) (b : Addr) (items2 : Array Value) (n2 : Nat) (dd : Option Addr) (sl : Array (Option Value)) (hs0 : ¬(!items.isEmpty && Builtin.List.listTooLong (items.size + items2.size)) = true) (hs1 : items.size ≤ sizeLine) (hs2 : items.size + items2.size ≤ sizeLine + 1) :
    Meets (Builtin.«list.extend» ⟨[.ref l, .ref b], []⟩) (fun _ R s => s.heap.get? l = some { cls := .type "list", dict := none, data := .seq items n, slots := #[] } ∧ s.heap.get? b = some { cls := .type "tuple", dict := dd, data := .seq items2 n2, slots := sl } ∧ R (.ok (.ret Value.none)) { s with heap := s.heap.update l (Obj.mapSeq fun x => x ++ items2), toks := s.toks }) :=
  .of_wp fun prog w A R s h => by
    obtain ⟨hp, g, d, tk, os⟩ := s; obtain ⟨hl, hb, h⟩ := h; have f1 := PySem.AutoSeq1.idx_int; have f2 := PySem.AutoSeq1.sub_tuple_tuple; have f3 := PySem.AutoSeq1.sub_list_list; have f4 := PySem.AutoSeq1.sub_tuple_list; have f5 := PySem.AutoSeq1.sub_list_tuple;
    have hz' : (items ++ items2).size ≤ sizeLine + 1 := by rw [Array.size_append]; exact hs2
    wp_walk using (wpAny_updateSeq hl rfl (hz := hs1) (_hz' := hz')), wpAny_loadPart' hl, wpAny_loadPart' hb; exact ⟨_, rfl, h⟩
theorem mt_extendT : MtM X "list.extend" (fun x vs H Q => ∃ l b xs zs, x = .ref l ∧ vs = [.ref b] ∧ H l = some (.lst xs) ∧ SqT X.K H b zs ∧ xs.length + zs.length ≤ sizeLine ∧ Q .non (upd H l (.lst (xs ++ zs)))) := by
  intro pins s σ H x vs v us Q I rx rv h
  obtain ⟨l, b, xs, zs, rfl, rfl, hH, hB, hz, q⟩ := h
  cases rx
  obtain ⟨u, rfl, ru⟩ := rv.one
  cases ru
  obtain ⟨z, its, n, r, hl, e⟩ := I.lstM hH
  obtain ⟨its2, r2, ⟨⟨oc, od, dt, sl⟩, e2, hc2, n2, hd2⟩, _⟩ := I.tuple hB
  simp only at hc2 hd2
  subst hc2 hd2
  have hsz : its.toArray.size + its2.toArray.size ≤ sizeLine := by rw [List.size_toArray, List.size_toArray, ← hl, ← r2.length]; exact hz
  have hlong : ¬ (!its.toArray.isEmpty && Builtin.List.listTooLong (its.toArray.size + its2.toArray.size)) = true := by
    rw [notLongL hsz, Bool.and_false]
    exact Bool.false_ne_true
  refine call_meets PySem.F.slot_list_extend ⟨_, e, rfl⟩ PySem.F.entry_list_extend (PySem.F.args_list_extend_2 _ _)
    (ext_tup l its.toArray n b its2.toArray n2 od sl hlong (by rw [List.size_toArray]; omega) (by omega)) ⟨e, e2, ?_⟩
  refine ⟨.non, _, I.lset (its' := its ++ its2) hH e (by simp) (r.append r2) ?_, rfl, q⟩
  rw [List.length_append]
  omega
theorem mt_ok (mm : Mt) : MtM X (mtS mm) (rDM X.K Tb (mtD mm)) := by
  intro pins s σ H x xs v us Q I rx rxs h
  obtain ⟨m, st, dx, ds, d, st', R, vx, vs, e, q⟩ := h
  unfold mtD at e
  split at e
  · rename_i k
    split at e
    · rename_i zs hk
      obtain ⟨a, rfl, ha⟩ := vx
      obtain ⟨ys, h1, r1⟩ := R.obj k a _ ha hk
      split at e
      · split at e
        · rename_i hz
          cases e
          obtain ⟨w, _, rfl, r2, t⟩ := vs.cons_l
          obtain rfl := t.nil_l
          exact mt_append pins s σ H _ _ v us Q I rx rxs ⟨a, ys, w, rfl, rfl, h1, by rw [← r1.1]; exact hz, q _ _ m (ext_put (List.mem_of_getElem? ha) (R.nfz ha hk)) (R.put ha hk (r1.append (P2.one r2))) rfl⟩
        · cases e
      · split at e
        · rename_i hz
          cases e
          obtain ⟨w, _, rfl, r2, t⟩ := vs.cons_l
          obtain rfl := t.nil_l
          obtain ⟨b, bs, rfl, h2, r2⟩ := r2
          exact mt_extendT pins s σ H _ _ v us Q I rx rxs ⟨a, b, ys, bs, rfl, rfl, h1, h2, by rw [← r1.1, ← r2.p2.1]; exact hz, q _ _ m (ext_put (List.mem_of_getElem? ha) (R.nfz ha hk)) (R.put ha hk (r1.append r2.p2)) rfl⟩
        · cases e
      · split at e
        · cases e
        · rename_i j hj
          obtain ⟨bs, e1, e2⟩ := Option.bind_eq_some_iff.mp e
          split at e2
          · rename_i hz
            cases e2
            obtain ⟨w, _, rfl, r2, t⟩ := vs.cons_l
            obtain rfl := t.nil_l
            obtain ⟨b, rfl, hb⟩ := r2
            obtain ⟨b', cs, hb', h2, r2, _⟩ := R.lst e1
            rw [hb] at hb'; cases hb'
            exact mt_extend pins s σ H _ _ v us Q I rx rxs ⟨a, b, ys, cs, rfl, rfl, h1, h2, by rw [← r1.1, ← r2.1]; exact hz, q _ _ m (ext_put (List.mem_of_getElem? ha) (R.nfz ha hk)) (R.put ha hk (r1.append r2)) rfl⟩
          · cases e2
      · split at e
        · rename_i y hy
          cases e
          obtain rfl := vs.nil_l
          rw [List.getLast?_eq_getElem?] at hy
          obtain ⟨w, hw, rw_⟩ := r1.get hy
          rw [r1.1] at hw
          exact mt_pop pins s σ H _ _ v us Q I rx rxs ⟨a, ys, w, rfl, rfl, h1, hw, q _ _ m (ext_put (List.mem_of_getElem? ha) (R.nfz ha hk)) (R.put ha hk r1.dropLast) (R.rv (ext_put (List.mem_of_getElem? ha) (R.nfz ha hk)) rw_)⟩
        · cases e
      · cases e
    · cases e
  · cases e
/-! ### o[i] = v -/
def rDSet (K : PySem.W.Frag) (Tb : TBl) : TSet := fun o i v H Q => ∃ m st d1 d2 d3 st', Rp K Tb H m st ∧ RV K H m d1 o ∧ RV K H m d2 i ∧ RV K H m d3 v ∧ setD d1 d2 d3 st = some st' ∧ ∀ H' m', Ext m H m' H' → Rp K Tb H' m' st' → Q H'
theorem set_D : PSet X (rDSet X.K Tb) := by
  intro pins s σ H o i v ov iv u Q I ro ri rv h
  obtain ⟨m, st, d1, d2, d3, st', R, v1, v2, v3, e, q⟩ := h
  unfold setD at e
  split at e
  · split at e
    · rename_i ds hk
      obtain ⟨p, e1, rfl⟩ := Option.map_eq_some_iff.mp e
      obtain ⟨a, rfl, ha⟩ := v1
      cases v2
      obtain ⟨ys, h1, r1⟩ := R.obj _ a _ ha hk
      exact set_list pins s σ H _ _ v ov iv u Q I ro ri rv ⟨a, ys, _, p, rfl, rfl, h1, by rw [← r1.1]; exact e1, q _ m (ext_put (List.mem_of_getElem? ha) (R.nfz ha hk)) (R.put ha hk (r1.set v3 p))⟩
    · cases e
  · cases e
end
end Dz
end
section
set_option Elab.async false
set_option linter.all false
set_option maxRecDepth 100000
set_option maxHeartbeats 1000000
namespace Dz
open PySem L2 PyProof.Rows
/-! ### enumerate(a tuple) -/
theorem meets_enumerate_newT (l : Addr) (items : Array Value) (n : Nat) (dct : Option Addr) (sl : Array (Option Value)) :
    Meets (Builtin.«enumerate.__new__» ⟨[.type "enumerate", .ref l], []⟩) (fun _ R s => s.heap.get? l = some { cls := .type "tuple", dict := dct, data := .seq items n, slots := sl } ∧
      R (.ok (.ret (.ref (s.heap.push { cls := .type "tuple_iterator", data := .fields #[.ref l, .int 0 0] }).objs.size)))
        { s with heap := (s.heap.push { cls := .type "tuple_iterator", data := .fields #[.ref l, .int 0 0] }).push { cls := .type "enumerate", data := .fields #[.none, .bool false, .ref s.heap.objs.size, rawInt 0, .none, .none] } }) :=
  .of_wp fun prog w A R s h => by
    obtain ⟨hp, g, d, tk, os⟩ := s; obtain ⟨hl, h⟩ := h
    have hsub := sub_enumerate
    have hL : Heap.IsTuple (Shared.heap ⟨hp, g, d, tk, os⟩) l items := ⟨_, hl, rfl, n, rfl⟩
    wp_walk using AutoSeq1.wpAny_loadPart' hl
    refine wpAny_stack_any fun st => wpAny_pure ?_
    split
    · rename_i c _ _ _ _ _
      cases (c == Value.type "enumerate")
      · wp_walk using AutoSeq1.wpAny_loadPart' hl, wpAny_pyIter_tuple hL
        exact ⟨_, rfl, h⟩
      · wp_walk using AutoSeq1.wpAny_loadPart' hl, wpAny_pyIter_tuple hL
        exact ⟨_, rfl, h⟩
    · wp_walk using AutoSeq1.wpAny_loadPart' hl, wpAny_pyIter_tuple hL
      exact ⟨_, rfl, h⟩
def IteT (K : PySem.W.Frag) (a : Addr) : It :=
  ⟨fun i H => ∃ (xs : List V) (x : V), SqT K H a xs ∧ xs[i]? = some x, fun i H v H' => ∃ T x, v = .ref T ∧ H T = none ∧ H' = upd H T (.tup [.int (i : Nat), x]) ∧ ∀ xs, SqT K H a xs → xs[i]? = some x, fun i H => ∃ xs : List V, SqT K H a xs ∧ xs.length = i⟩
theorem turn_enumT {P : Program} {w : World} {K : PySem.W.Frag} {elts : List Expr} {kk : Nat} {tpos : Pos} (a e it : Addr) (hat : a ≠ it) (hae : e ≠ a) :
    Turn P w K (.Tuple elts kk tpos) (IteT K a) [e, it] e (fun i h => (∃ old, IsEnum h e it ((i : Nat) : Int) old) ∧ h.IsTupleIter it a i ∧ e ≠ it) where
  mem := by simp
  obj := fun i h st b hb => by
    obtain ⟨⟨old, he⟩, ⟨o, ho, hc, hd⟩, _⟩ := st
    have e' : b = e ∨ b = it := by simpa using hb
    rcases e' with z | z
    · rw [z]; exact ⟨_, he, fun v q => nomatch q⟩
    · rw [z]; exact ⟨o, ho, fun v q => by rw [hd] at q; cases q⟩
  keep := fun i h h' st k => let ⟨⟨old, he⟩, hi, hne⟩ := st; ⟨⟨old, k e (by simp) _ he⟩, hi.at fun o q => k it (by simp) o q, hne⟩
  item := by
    intro X hP hw hK hc i pins s σ H E I hf st hg
    subst hP hw hK
    obtain ⟨⟨old, he⟩, hit, hne⟩ := st
    obtain ⟨xs, x, hq, hx⟩ := hg
    obtain ⟨its, rv, p, hz⟩ := I.tuple hq
    obtain ⟨u, hu, ru⟩ := rv.get hx
    have hel : e < s.heap.objs.size := Heap.lt_size he
    have hil : it < s.heap.objs.size := by obtain ⟨_, q, _⟩ := hit; exact Heap.lt_size q
    have hlt : i < its.toArray.size := by
      rw [List.size_toArray]
      exact (List.getElem?_eq_some_iff.mp hu).1
    refine wpAny_pyNext_enum_itemD (Draws.tuple (A := X.A.in1) (I.ok.hd hc) it a hat its.toArray) he ⟨hit, p⟩ hlt hne (by simp; exact ⟨hne, hae⟩) fun u' h' tk hu' ho hit' hT hsz hk => ?_
    have eu : u' = u := by
      have h1 : its.toArray[i]? = some u' := hu'
      have h2 : its.toArray[i]? = some u := by simpa using hu
      rw [h1] at h2
      exact Option.some.inj h2
    subst eu
    refine ⟨_, rfl, wpAny_letOwnedTupleGo_enum (s := { s with heap := h', toks := tk + 1 }) ho fun h'' he' sb => ?_⟩
    have hT2 : h''.get? s.heap.objs.size = some { cls := .type "tuple", data := .seq #[.int i tk, u'] } := (sb.2 _ (Nat.ne_of_gt hel)).trans hT
    have new : ObjOk X.prog X.w (upd H s.heap.objs.size (.tup [.int (i : Nat), x])) h'' s.heap.objs.size (.tup [.int (i : Nat), x]) :=
      ⟨by show 2 ≤ sizeLine; decide, [.int i tk, u'], .cons ⟨_, rfl⟩ (.cons ru .nil), ⟨_, hT2, rfl, _, rfl⟩⟩
    have I1 : Inv X pins σ (upd H s.heap.objs.size (.tup [.int (i : Nat), x])) { s with heap := h'', toks := tk + 1 } :=
      I.turnedNew (ch := [e, it]) (fun b ob hb q => (sb.2 b (fun z => hb (by simp [z]))).trans (hk b ob (fun z => hb (by simp [z])) (fun z => hb (by simp [z])) q)) hf (Nat.le_refl _) new
    refine ⟨.ref s.heap.objs.size, _, I1, rfl, ⟨_, x, rfl, I.hok.fresh (Nat.le_refl _), rfl, fun ys hy => by rw [I.tuple_inj hy hq]; exact hx⟩, ⟨⟨u', ?_⟩, hit'.1.at fun o q => (sb.2 it (Ne.symm hne)).trans q, hne⟩, fun b hb => ?_⟩
    · have e1 : ((i + 1 : Nat) : Int) = (i : Int) + 1 := by omega
      rw [e1]; exact he'
    · have hb' : b < s.heap.objs.size := by
        have e' : b = e ∨ b = it := by simpa using hb
        rcases e' with z | z
        · rw [z]; exact hel
        · rw [z]; exact hil
      rw [upd_ne (Nat.ne_of_lt hb')]
      exact (hf b hb).1
  done := by
    intro X hP hw hK hc i pins s σ H E I hf st hg
    subst hP hw hK
    obtain ⟨⟨old, he⟩, hit, hne⟩ := st
    obtain ⟨xs, hq, hx⟩ := hg
    obtain ⟨its, rv, p, hz⟩ := I.tuple hq
    obtain ⟨f0, f1, f2, f3, f4, f5⟩ := hf it (by simp)
    have hl := rv.length
    have hi : i = its.toArray.size := by rw [List.size_toArray, ← hl, hx]
    subst hi
    exact wpAny_pyNext_enum_endD (Draws.tuple (A := X.A.in1) (I.ok.hd hc) it a hat its.toArray) he ⟨hit, p⟩ fun h' eb => ⟨rfl, I.turned (t' := s.toks) (fun b o hb q => eb b o hb q) f0 f1 f3 f4 f5⟩
  self := fun A i s Q E st h => let ⟨⟨_, he⟩, _⟩ := st; wpAny_pyIter_enum he h

theorem call_enumerate_tup {prog : Program} {w : World} {A : Around} {E : Value → Shared → Prop} {s : Shared} {l : Addr} {items : Array Value} {Q : Value → Shared → Prop} (hL : s.heap.IsTuple l items)
    (h : ∀ h', IsEnum h' (s.heap.objs.size + 1) s.heap.objs.size 0 .none → h'.IsTupleIter s.heap.objs.size l 0 → h'.objs.size = s.heap.objs.size + 2 →
      (∀ b o, s.heap.get? b = some o → h'.get? b = some o) → Q (.ref (s.heap.objs.size + 1)) { s with heap := h' }) :
    wpAny (model prog w) A (call (.type "enumerate") [.ref l]) Q E s := by
  obtain ⟨⟨c, dct, dt, sl⟩, hl, hc, n, hd⟩ := hL
  replace hc : c = .type "tuple" := hc
  replace hd : dt = .seq items n := hd
  subst hc hd
  refine callType_new PySem.F.called_enumerate (by decide) (PySem.F.typeCall_enumerate_1 _) (PySem.F.newCall_enumerate_1 _) (fun obj => PySem.F.args_object_init_2 obj _) PySem.F.entry_enumerate_new
    (meets_enumerate_newT l items n dct sl) ⟨hl, ?_⟩
  have hz : (s.heap.push { cls := .type "tuple_iterator", data := .fields #[.ref l, .int 0 0] }).objs.size = s.heap.objs.size + 1 := Heap.size_push ..
  show _ ∧ _
  rw [hz]
  have he : IsEnum ((s.heap.push { cls := .type "tuple_iterator", data := .fields #[.ref l, .int 0 0] }).push
      { cls := .type "enumerate", data := .fields #[.none, .bool false, .ref s.heap.objs.size, rawInt 0, .none, .none] }) (s.heap.objs.size + 1) s.heap.objs.size 0 .none := by
    have := Heap.get?_push_size (s.heap.push { cls := .type "tuple_iterator", data := .fields #[.ref l, .int 0 0] })
      (o := { cls := .type "enumerate", data := .fields #[.none, .bool false, .ref s.heap.objs.size, rawInt 0, .none, .none] }) rfl
    rw [hz] at this; exact this
  refine ⟨⟨_, he, rfl⟩, h _ he ⟨_, Heap.get?_push_of_some _ (Heap.get?_push_size _ rfl), rfl, rfl⟩ (by rw [Heap.size_push, hz]) fun b o x => Heap.get?_push_of_some _ (Heap.get?_push_of_some _ x)⟩
def iEnumA (K : PySem.W.Frag) (ta : TA) : TI := fun σ H R => ta σ H fun vs H1 => ∃ a xs, vs = [.ref a] ∧ ((SqL K H1 a xs ∧ R (Ite K a) H1) ∨ (SqT K H1 a xs ∧ R (IteT K a) H1))
theorem pi_enumA {X : Cx} {e : Expr} {ta : TA} {p pos tpos : Pos} {elts : List Expr} {kk : Nat} (hg : Gl X "enumerate") (hm : X.mg "enumerate" = none) (ha : PA X [e] ta) (hs : starEach [e] X.env = [(false, eval e X.env)]) :
    PI X (.Tuple elts kk tpos) (.Call (.Name "enumerate" p) [e] [] pos) (iEnumA X.K ta) := by
  refine ⟨fun pins s σ H R I h => ?_⟩
  refine Call_ (ld_blt I hg hm boot_enumerate (PyProof.Rows.callWith_type1 (thn (ha.run pos pins s σ H _ I h) fun us s1 ⟨vs, H1, I1, r1, q1⟩ => ?_) hs rfl))
  obtain ⟨a, xs, ex, q⟩ := q1
  subst ex
  have le2 : ∀ b, b ∈ [s1.heap.objs.size + 1, s1.heap.objs.size] → s1.heap.objs.size ≤ b := fun b hb => by
    have e' : b = s1.heap.objs.size + 1 ∨ b = s1.heap.objs.size := by simpa using hb
    rcases e' with z | z
    · rw [z]; exact Nat.le_add_right _ _
    · rw [z]; exact Nat.le_refl _
  cases r1 with
  | cons r rr =>
    cases rr
    cases r
    rcases q with ⟨hq, q⟩ | ⟨hq, q⟩
    · obtain ⟨its, rv, p', hz⟩ := I1.list hq
      refine call_enumerate_list p'.isList fun h' he hit hsz hk => wpAny_pyIter_enum he ?_
      have I2 : Inv X pins σ H1 { s1 with heap := h' } := I1.kept (t' := s1.toks) hk
      exact ⟨s1.heap.objs.size + 1, [s1.heap.objs.size + 1, s1.heap.objs.size], _, _, H1, rfl, I2, turn_enum a (s1.heap.objs.size + 1) s1.heap.objs.size, ⟨⟨.none, he⟩, hit, Nat.succ_ne_self _⟩, fun b hb => I1.fpOk (le2 b hb) (I1.hok.fresh (le2 b hb)), q⟩
    · obtain ⟨its, rv, p', hz⟩ := I1.tuple hq
      have hal : a < s1.heap.objs.size := by obtain ⟨o, e, _⟩ := p'; exact Heap.lt_size e
      refine call_enumerate_tup p' fun h' he hit hsz hk => wpAny_pyIter_enum he ?_
      have I2 : Inv X pins σ H1 { s1 with heap := h' } := I1.kept (t' := s1.toks) hk
      exact ⟨s1.heap.objs.size + 1, [s1.heap.objs.size + 1, s1.heap.objs.size], _, _, H1, rfl, I2, turn_enumT a (s1.heap.objs.size + 1) s1.heap.objs.size (Nat.ne_of_lt hal) (Ne.symm (Nat.ne_of_lt (Nat.lt_succ_of_lt hal))), ⟨⟨.none, he⟩, hit, Nat.succ_ne_self _⟩, fun b hb => I1.fpOk (le2 b hb) (I1.hok.fresh (le2 b hb)), q⟩
/-! ### a list taken apart by a target -/
section
variable {prog : Program} {w : World} {A : Around} {E : Value → Shared → Prop} {s : Shared}
theorem draw_list {it t : Addr} {items : Array Value} (hne : t ≠ it) : ∀ (n i : Nat) (s : Shared) (Q : List Value → Shared → Prop), s.heap.IsListIter it t i → s.heap.IsList t items → i + n ≤ items.size →
    (∀ h', h'.IsListIter it t (i + n) → Heap.SameBut it s.heap h' → Q ((items.toList.drop i).take n) { s with heap := h' }) → wpAny (model prog w) A (draw (.ref it) n) Q E s
  | 0, i, s, Q, hit, _, _, hQ => by
    show wpAny _ _ (pure []) Q E s
    exact wpAny_pure (by simpa using hQ s.heap hit (Heap.SameBut.refl ..))
  | n + 1, i, s, Q, hit, ht, hle, hQ => by
    have hlt : i < items.size := by omega
    show wpAny _ _ (pyNext (.ref it) >>= _) Q E s
    refine wpAny_bind (wpAny_pyNext_list_item hit ht (x := items[i]) (by simp [hlt]) fun h₁ hit₁ hs₁ => ?_)
    refine wpAny_bind (wpAny_holding (draw_list hne n (i + 1) _ _ hit₁ (ht.extBut hs₁.extBut hne) (by omega) fun h₂ hit₂ hs₂ => wpAny_pure ?_))
    have hd : items.toList.drop i = items[i] :: items.toList.drop (i + 1) := by simp [List.drop_eq_getElem_cons, hlt]
    have := hQ h₂ (by rw [show i + (n + 1) = i + 1 + n by omega]; exact hit₂) (hs₁.trans hs₂)
    rw [hd, List.take_succ_cons] at this
    exact this
theorem unpackItems_list {t : Addr} {items : Array Value} {Q : List Value → Shared → Prop} (hh : A.handled = none) (ht : s.heap.IsList t items)
    (hQ : ∀ h', Heap.ExtBut s.heap.objs.size s.heap h' → Q items.toList { s with heap := h' }) : wpAny (model prog w) A (unpackItems (.ref t) items.size none) Q E s := by
  have hlt : t ≠ s.heap.objs.size := by obtain ⟨o, ho, _⟩ := ht; exact Nat.ne_of_lt (Heap.lt_size ho)
  unfold unpackItems
  refine wpAny_bind ?_
  · unfold notIterableAtAll
    refine wpAny_bind (wpAny_specialOf ht.typeIs PySem.F.slot_list_iter.lookup ?_)
    refine wpAny_pure ?_
    simp only [Bool.false_eq_true, if_false]
    refine wpAny_bind (wpAny_holding (wpAny_pyIter_list ht ?_))
    refine wpAny_bind (wpAny_holding (draw_list hlt items.size 0 _ _ ⟨_, Heap.get?_push_size _ rfl, rfl, rfl⟩ (ht.push _) (by omega) fun h₁ hit₁ hs₁ => ?_))
    have hall : List.take items.size (List.drop 0 items.toList) = items.toList := by
      rw [List.drop_zero]; exact List.take_of_length_le (by simp)
    rw [hall]
    rw [if_neg (by simp)]
    have ht₁ : h₁.IsList t items := (ht.push _).extBut hs₁.extBut hlt
    refine wpAny_bind (wpAny_holding (wpAny_pyNext_list_end hh hit₁ ht₁ (by simp) fun h₂ he₂ => ?_))
    simp only [Option.isSome_none, Bool.false_eq_true, if_false]
    refine wpAny_pure (hQ h₂ fun b o hb e => he₂ b o hb (hs₁.extBut b o hb (Heap.get?_push_of_some _ e)))
theorem assign_Tuple_list {env : PySem.Env} {elts : List Expr} {x1} {pos : Pos} {t : Addr} {items : Array Value} {Q : Unit → Shared → Prop} (hh : A.handled = none) (ht : s.heap.IsList t items)
    (hn : (assignEach elts env).length = items.size) (hstar : (assignEach elts env).findIdx? (·.1) = none)
    (h : ∀ h', Heap.ExtBut s.heap.objs.size s.heap h' → wpAny (model prog w) A (assignInOrder ((assignEach elts env).map (·.2)) items.toList) Q E { s with heap := h' }) :
    wpAny (model prog w) A (assign (.Tuple elts x1 pos) env (.ref t)) Q E s := by
  rw [assign_Tuple]
  refine wpAny_bind (wpAny_standAt ?_)
  unfold unpack
  rw [hn, hstar]
  exact wpAny_bind (wpAny_holding (unpackItems_list hh ht h))
end
/-- (a, b, ..) = a list or a tuple of that length -/
def gTupA (K : PySem.W.Frag) (n : Nat) (t : TGs) : TG := fun v σ H Q => ∃ a xs, v = .ref a ∧ (SqT K H a xs ∨ SqL K H a xs) ∧ xs.length = n ∧ t xs σ H Q
theorem pg_tupA {X : Cx} {pos : Pos} {es : List Expr} {k : Nat} {t : TGs} {n : Nat} (hc : X.calm = true) (h : PGs X es t)
    (hn : (assignEach es X.env).length = n) (hst : (assignEach es X.env).findIdx? (·.1) = none) : PG X (.Tuple es k pos) (gTupA X.K n t) := by
  refine ⟨fun pins s σ H v u Q I r hw => ?_⟩
  obtain ⟨a, xs, e1, hq, hl, hw⟩ := hw
  subst e1
  cases r
  rcases hq with hq | hq
  · obtain ⟨its, rv, ht, hz⟩ := I.tuple hq
    refine assign_Tuple_tuple (I.ok.hd hc) ht (by simp [hn, ← hl, rv.length]) hst fun h' hx => ?_
    have I1 : Inv X pins σ H { s with heap := h' } := I.kept (t' := s.toks) fun b o e => hx b o (Nat.ne_of_lt (Heap.lt_size e)) e
    exact h.run pins _ σ H xs _ Q I1 (by simpa using rv) hw
  · obtain ⟨its, rv, ht, hz⟩ := I.list hq
    refine assign_Tuple_list (I.ok.hd hc) ht.isList (by simp [hn, ← hl, rv.length]) hst fun h' hx => ?_
    have I1 : Inv X pins σ H { s with heap := h' } := I.kept (t' := s.toks) fun b o e => hx b o (Nat.ne_of_lt (Heap.lt_size e)) e
    exact h.run pins _ σ H xs _ Q I1 (by simpa using rv) hw
end Dz
end
section
set_option Elab.async false
set_option linter.all false
set_option maxRecDepth 100000
set_option maxHeartbeats 1000000
namespace Dz
open PySem L2 PyProof.Rows
/-! ### the keys of a locked dict -/
def ItkD (P : Program) (w : World) (d : Addr) (o : Obj) (xs : List (NestedKey × Addr × V)) : It :=
  ⟨fun i H => H d = some (.frz o (DicO P w d xs)) ∧ i < xs.length, fun i H x H' => H' = H ∧ ∃ q, xs[i]? = some q ∧ x = .ref q.2.1, fun i H => H d = some (.frz o (DicO P w d xs)) ∧ xs.length ≤ i⟩
theorem frzD {X : Cx} {pins : List (Addr × Obj)} {σ : L2.St} {H : Hp} {s : Shared} {P : Program} {w : World} {d : Addr} {o : Obj} {xs : List (NestedKey × Addr × V)} (I : Inv X pins σ H s) (h : H d = some (.frz o (DicO P w d xs))) :
    (d == sysModules) = false ∧ s.heap.get? d = some o ∧ o.ExactDict ∧ ∃ (es : Array DictEntry) (ep : Nat), o.data = .dict es ep ∧ es.size = xs.length ∧
      ∀ (i : Nat) (q : NestedKey × Addr × V), xs[i]? = some q → ∃ en : DictEntry, es[i]? = some en ∧ en.key = .ref q.2.1 := by
  obtain ⟨hd, ⟨hz, hs, o', es, ep, ys, ho, hx, hdt, he, hn, pr⟩, _, _⟩ := I.hok d _ h
  rw [hd] at ho
  cases ho
  refine ⟨hs, hd, hx, es, ep, hdt, ?_, fun i q e => ?_⟩
  · have l1 : es.size = ys.length := size_of_entries he
    have l2 : xs.length = ys.length := Paired.length pr
    omega
  · obtain ⟨b, hb, e1, e2, _⟩ := paired_get pr e
    have z := entry_at he i
    rw [hb] at z
    exact ⟨_, z, by rw [e2]; rfl⟩
section
variable {P P' : Program} {w w' : World} {K : PySem.W.Frag} {tg : Expr} {d : Addr} {o : Obj} {es : Array DictEntry} {ep : Nat}
theorem turn_keysD {xs : List (NestedKey × Addr × V)} (it : Addr) (hod : o.data = .dict es ep) : Turn P w K tg (ItkD P' w' d o xs) [it] it (fun i h => h.IsKeyIter it d i xs.length ep) where
  mem := by simp
  obj := fun i h st b hb => by
    have e : b = it := by simpa using hb
    subst e
    obtain ⟨oi, e, c, dd⟩ := st
    exact ⟨oi, e, fun v z => by rw [dd] at z; cases z⟩
  keep := fun i h h' st k => st.at fun oi e => k it (by simp) oi e
  item := by
    intro X hP hw hK hc i pins s σ H E I hf st hg
    subst hP hw hK
    obtain ⟨hd, hi⟩ := hg
    obtain ⟨f0, f1, f2, f3, f4, f5⟩ := hf it (by simp)
    obtain ⟨hs, hgd, hx, es', ep', hdt, hsz, ent⟩ := frzD I hd
    obtain ⟨rfl, rfl⟩ := dict_ep hod hdt
    obtain ⟨q, hq⟩ : ∃ q, xs[i]? = some q := ⟨xs[i], List.getElem?_eq_getElem hi⟩
    obtain ⟨en, hen, hkey⟩ := ent i q hq
    refine next_key_item st hgd hdt hsz hen fun h' st' sb => ?_
    have I1 : Inv X pins σ H { s with heap := h' } := I.turned (t' := s.toks) (fun b ob hb e => (sb.2 b hb).trans e) f0 f1 f3 f4 f5
    obtain ⟨oi, e, c, dd⟩ := id st'
    exact ⟨en.key, rfl, go_of (s := { s with heap := h' }) e c dd (by decide) ⟨.ref q.2.1, H, I1, hkey, ⟨rfl, q, hq, rfl⟩, st', fun b hb => (hf b hb).1⟩⟩
  done := by
    intro X hP hw hK hc i pins s σ H E I hf st hg
    subst hP hw hK
    obtain ⟨hd, hi⟩ := hg
    obtain ⟨f0, f1, f2, f3, f4, f5⟩ := hf it (by simp)
    obtain ⟨hs, hgd, hx, es', ep', hdt, hsz, ent⟩ := frzD I hd
    obtain ⟨rfl, rfl⟩ := dict_ep hod hdt
    exact next_key_end (I.ok.hd hc) st hgd hdt hsz hi fun h' eb => ⟨rfl, I.turned (t' := s.toks) (fun b ob hb e => eb b ob hb e) f0 f1 f3 f4 f5⟩
  self := fun A i s Q E st h => by
    refine wpAny_pyIter_slot st.typeIs F.slot_dict_keyiterator_iter (wpAny_call_entry F.slot_dict_keyiterator_iter st.typeIs F.entry_dict_keyiterator_iter ?_ (F.args_dict_keyiterator_iter_1 _))
    show wpAny _ _ (ret (.ref it)) _ _ s
    exact wpAny_pure ⟨_, rfl, "dict_keyiterator", _, st.typeIs, F.slot_dict_keyiterator_next.lookup, h⟩
end
/-! ### iterators -/
def RI (K : PySem.W.Frag) (H : Hp) (m : List Addr) : IT → It → Prop
  | .tup ds, J => ∃ a xs, J = Itt K a ∧ SqT K H a xs ∧ P2 (RV K H m) ds xs
  | .lst k, J => ∃ a, J = Itl K a ∧ m[k]? = some a
  | .rng lo c n, J => J = Itc lo c n ∨ (c = 1 ∧ J = Itr lo n)
  | .enT ds, J => ∃ a xs, J = IteT K a ∧ SqT K H a xs ∧ P2 (RV K H m) ds xs
  | .enL k, J => ∃ a, J = Ite K a ∧ m[k]? = some a
  | .zpT as bs, J => ∃ a b xs ys, J = RZ.ItzT K a b ∧ SqT K H a xs ∧ P2 (RV K H m) as xs ∧ SqT K H b ys ∧ P2 (RV K H m) bs ys
  | .zpL k j, J => ∃ a b, J = Itz K a b ∧ m[k]? = some a ∧ m[j]? = some b
  | .rvT ds, J => ∃ a xs, J = RT.ItvT K a xs.length ∧ SqT K H a xs ∧ P2 (RV K H m) ds xs
  | .rvL k n, J => ∃ a, J = Itv K a n ∧ m[k]? = some a
  | .keys ds, J => ∃ P w a o xs, J = ItkD P w a o xs ∧ H a = some (.frz o (DicO P w a xs)) ∧ P2 (fun d (q : NestedKey × Addr × V) => RV K H m d (.ref q.2.1)) ds xs
section
variable {K : PySem.W.Frag} {Tb : TBl} {H H' : Hp} {m m' : List Addr} {st st' : Sto} {T : IT} {J : It} {i : Nat} {d : D} {v : V}
theorem RI.ext (x : Rp K Tb H m st) (y : Ext m H m' H') (h : RI K H m T J) : RI K H' m' T J := by
  cases T with
  | tup ds => obtain ⟨a, xs, e, s, r⟩ := h; exact ⟨a, xs, e, x.sqT y a xs s, x.rvs y r⟩
  | lst k => obtain ⟨a, e, q⟩ := h; exact ⟨a, e, y.names k a q⟩
  | rng => exact h
  | enT ds => obtain ⟨a, xs, e, s, r⟩ := h; exact ⟨a, xs, e, x.sqT y a xs s, x.rvs y r⟩
  | enL k => obtain ⟨a, e, q⟩ := h; exact ⟨a, e, y.names k a q⟩
  | zpT as bs => obtain ⟨a, b, xs, ys, e, s, r, s2, r2⟩ := h; exact ⟨a, b, xs, ys, e, x.sqT y a xs s, x.rvs y r, x.sqT y b ys s2, x.rvs y r2⟩
  | zpL k j => obtain ⟨a, b, e, q, q2⟩ := h; exact ⟨a, b, e, y.names k a q, y.names j b q2⟩
  | rvT ds => obtain ⟨a, xs, e, s, r⟩ := h; exact ⟨a, xs, e, x.sqT y a xs s, x.rvs y r⟩
  | rvL k n => obtain ⟨a, e, q⟩ := h; exact ⟨a, e, y.names k a q⟩
  | keys ds => obtain ⟨P, w, a, o, xs, e, q, r⟩ := h; exact ⟨P, w, a, o, xs, e, y.frz a o _ q, r.mono fun _ _ z => x.rv y z⟩
theorem Rp.lst_at (x : Rp K Tb H m st) {k : Nat} {a : Addr} {ds : List D} (hk : m[k]? = some a) (e : lstOf st k = some ds) : ∃ xs, SqL K H a xs ∧ P2 (RV K H m) ds xs := by
  obtain ⟨a', xs, h1, h2, r, _⟩ := x.lst e
  rw [hk] at h1; cases h1
  exact ⟨xs, SqL.of h2, r⟩
theorem pair2_some {a b : Option D} (e : pair2 a b = some d) : ∃ x y, a = some x ∧ b = some y ∧ d = .tup [x, y] := by
  unfold pair2 at e
  obtain ⟨x, e1, e2⟩ := Option.bind_eq_some_iff.mp e
  obtain ⟨y, e3, rfl⟩ := Option.map_eq_some_iff.mp e2
  exact ⟨x, y, e1, e3, rfl⟩
theorem RI.go (x : Rp K Tb H m st) (h : RI K H m T J) (e : nxD T i st = some d) : J.go i H := by
  cases T with
  | tup ds =>
    obtain ⟨a, xs, rfl, s, r⟩ := h
    obtain ⟨v, hv, _⟩ := r.get (show ds[i]? = some d from e)
    exact ⟨xs, v, s, hv⟩
  | lst k =>
    obtain ⟨a, rfl, q⟩ := h
    obtain ⟨ds, e1, e2⟩ := Option.bind_eq_some_iff.mp (show (lstOf st k).bind _ = some d from e)
    obtain ⟨xs, s, r⟩ := x.lst_at q e1
    obtain ⟨v, hv, _⟩ := r.get e2
    exact ⟨xs, v, s, hv⟩
  | rng lo c n =>
    have e' : (if i < n then some (D.int (lo + (i : Nat) * c)) else none) = some d := e
    split at e'
    · rename_i hi
      rcases h with rfl | ⟨rfl, rfl⟩
      · exact hi
      · exact hi
    · cases e'
  | enT ds =>
    obtain ⟨a, xs, rfl, s, r⟩ := h
    obtain ⟨z, y, _, e2, _⟩ := pair2_some (show pair2 _ _ = some d from e)
    obtain ⟨v, hv, _⟩ := r.get e2
    exact ⟨xs, v, s, hv⟩
  | enL k =>
    obtain ⟨a, rfl, q⟩ := h
    obtain ⟨ds, e1, e2⟩ := Option.bind_eq_some_iff.mp (show (lstOf st k).bind _ = some d from e)
    obtain ⟨z, y, _, e2, _⟩ := pair2_some e2
    obtain ⟨xs, s, r⟩ := x.lst_at q e1
    obtain ⟨v, hv, _⟩ := r.get e2
    exact ⟨xs, v, s, hv⟩
  | zpT as bs =>
    obtain ⟨a, b, xs, ys, rfl, s, r, s2, r2⟩ := h
    obtain ⟨z, y, e1, e2, _⟩ := pair2_some (show pair2 _ _ = some d from e)
    obtain ⟨v, hv, _⟩ := r.get e1
    obtain ⟨w, hw, _⟩ := r2.get e2
    exact ⟨xs, ys, v, w, s, s2, hv, hw⟩
  | zpL k j =>
    obtain ⟨a, b, rfl, q, q2⟩ := h
    obtain ⟨as, e1, e2⟩ := Option.bind_eq_some_iff.mp (show (lstOf st k).bind _ = some d from e)
    obtain ⟨bs, e3, e4⟩ := Option.bind_eq_some_iff.mp e2
    obtain ⟨z, y, e5, e6, _⟩ := pair2_some e4
    obtain ⟨xs, s, r⟩ := x.lst_at q e1
    obtain ⟨ys, s2, r2⟩ := x.lst_at q2 e3
    obtain ⟨v, hv, _⟩ := r.get e5
    obtain ⟨w, hw, _⟩ := r2.get e6
    exact ⟨xs, ys, v, w, s, s2, hv, hw⟩
  | rvT ds =>
    obtain ⟨a, xs, rfl, s, r⟩ := h
    have e' : (if i < ds.length then ds[ds.length - 1 - i]? else none) = some d := e
    split at e'
    · rename_i hi
      obtain ⟨v, hv, _⟩ := r.get e'
      rw [r.1] at hv hi
      exact ⟨hi, xs, v, s, hv⟩
    · cases e'
  | rvL k n =>
    obtain ⟨a, rfl, q⟩ := h
    obtain ⟨ds, e1, e2⟩ := Option.bind_eq_some_iff.mp (show (lstOf st k).bind _ = some d from e)
    split at e2
    · rename_i hi
      obtain ⟨xs, s, r⟩ := x.lst_at q e1
      obtain ⟨v, hv, _⟩ := r.get e2
      exact ⟨hi, xs, v, s, hv⟩
    · cases e2
  | keys ds =>
    obtain ⟨P, w, a, o, xs, rfl, q, r⟩ := h
    obtain ⟨y, hy, _⟩ := r.get (show ds[i]? = some d from e)
    exact ⟨q, (List.getElem?_eq_some_iff.mp hy).1⟩
/-- an item's own new pair -/
theorem rv_pair (x : Rp K Tb H m st) {p : Addr} {a b : D} {u w : V} (hp : H p = none) (ra : RV K H m a u) (rb : RV K H m b w) : Ext m H m (upd H p (.tup [u, w])) ∧ Rp K Tb (upd H p (.tup [u, w])) m st ∧ RV K (upd H p (.tup [u, w])) m (.tup [a, b]) (.ref p) :=
  ⟨ext_laid hp, x.laid hp, ⟨p, [u, w], rfl, SqT.of upd_same, (x.rvs (ext_laid hp) (P2.cons ra (P2.one rb))).rvs⟩⟩
theorem RI.yld (x : Rp K Tb H m st) (h : RI K H m T J) (e : nxD T i st = some d) (y : J.yld i H v H') : Ext m H m H' ∧ Rp K Tb H' m st ∧ RV K H' m d v := by
  cases T with
  | tup ds =>
    obtain ⟨a, xs, rfl, s, r⟩ := h
    obtain ⟨rfl, y⟩ := y
    exact ⟨Ext.refl, x, r.2 i d v e (y xs s)⟩
  | lst k =>
    obtain ⟨a, rfl, q⟩ := h
    obtain ⟨rfl, y⟩ := y
    obtain ⟨ds, e1, e2⟩ := Option.bind_eq_some_iff.mp (show (lstOf st k).bind _ = some d from e)
    obtain ⟨xs, s, r⟩ := x.lst_at q e1
    exact ⟨Ext.refl, x, r.2 i d v e2 (y xs s)⟩
  | rng lo c n =>
    have e' : (if i < n then some (D.int (lo + (i : Nat) * c)) else none) = some d := e
    split at e'
    · cases e'
      rcases h with rfl | ⟨rfl, rfl⟩
      · obtain ⟨rfl, rfl⟩ := y
        exact ⟨Ext.refl, x, rfl⟩
      · obtain ⟨rfl, rfl⟩ := y
        refine ⟨Ext.refl, x, ?_⟩
        rw [Int.mul_one]; rfl
    · cases e'
  | enT ds =>
    obtain ⟨a, xs, rfl, s, r⟩ := h
    obtain ⟨p, u, rfl, hp, rfl, y⟩ := y
    obtain ⟨z, w, e1, e2, rfl⟩ := pair2_some (show pair2 _ _ = some d from e)
    cases e1
    exact rv_pair x hp rfl (r.2 i w u e2 (y xs s))
  | enL k =>
    obtain ⟨a, rfl, q⟩ := h
    obtain ⟨p, u, rfl, hp, rfl, y⟩ := y
    obtain ⟨ds, e1, e2⟩ := Option.bind_eq_some_iff.mp (show (lstOf st k).bind _ = some d from e)
    obtain ⟨z, w, e3, e4, rfl⟩ := pair2_some e2
    cases e3
    obtain ⟨xs, s, r⟩ := x.lst_at q e1
    exact rv_pair x hp rfl (r.2 i w u e4 (y xs s))
  | zpT as bs =>
    obtain ⟨a, b, xs, ys, rfl, s, r, s2, r2⟩ := h
    obtain ⟨p, u, w, rfl, hp, rfl, y1, y2⟩ := y
    obtain ⟨z, z2, e1, e2, rfl⟩ := pair2_some (show pair2 _ _ = some d from e)
    exact rv_pair x hp (r.2 i z u e1 (y1 xs s)) (r2.2 i z2 w e2 (y2 ys s2))
  | zpL k j =>
    obtain ⟨a, b, rfl, q, q2⟩ := h
    obtain ⟨p, u, w, rfl, hp, rfl, y1, y2⟩ := y
    obtain ⟨as, e1, e2⟩ := Option.bind_eq_some_iff.mp (show (lstOf st k).bind _ = some d from e)
    obtain ⟨bs, e3, e4⟩ := Option.bind_eq_some_iff.mp e2
    obtain ⟨z, z2, e5, e6, rfl⟩ := pair2_some e4
    obtain ⟨xs, s, r⟩ := x.lst_at q e1
    obtain ⟨ys, s2, r2⟩ := x.lst_at q2 e3
    exact rv_pair x hp (r.2 i z u e5 (y1 xs s)) (r2.2 i z2 w e6 (y2 ys s2))
  | rvT ds =>
    obtain ⟨a, xs, rfl, s, r⟩ := h
    obtain ⟨rfl, y⟩ := y
    have e' : (if i < ds.length then ds[ds.length - 1 - i]? else none) = some d := e
    split at e'
    · have q := y xs s
      rw [← r.1] at q
      exact ⟨Ext.refl, x, r.2 _ d v e' q⟩
    · cases e'
  | rvL k n =>
    obtain ⟨a, rfl, q⟩ := h
    obtain ⟨rfl, y⟩ := y
    obtain ⟨ds, e1, e2⟩ := Option.bind_eq_some_iff.mp (show (lstOf st k).bind _ = some d from e)
    split at e2
    · obtain ⟨xs, s, r⟩ := x.lst_at q e1
      exact ⟨Ext.refl, x, r.2 _ d v e2 (y xs s)⟩
    · cases e2
  | keys ds =>
    obtain ⟨P, w, a, o, xs, rfl, q, r⟩ := h
    obtain ⟨rfl, z, hz, rfl⟩ := y
    exact ⟨Ext.refl, x, r.2 i d z (show ds[i]? = some d from e) hz⟩
theorem RI.stop (x : Rp K Tb H m st) (h : RI K H m T J) (e : stD T i st = true) : J.stop i H := by
  cases T with
  | tup ds =>
    obtain ⟨a, xs, rfl, s, r⟩ := h
    exact ⟨xs, s, by rw [← r.1]; exact of_decide_eq_true e⟩
  | lst k =>
    obtain ⟨a, rfl, q⟩ := h
    cases e1 : lstOf st k with
    | none => simp [stD, e1] at e
    | some ds =>
      simp only [stD, e1] at e
      obtain ⟨xs, s, r⟩ := x.lst_at q e1
      exact ⟨xs, s, by rw [← r.1]; exact of_decide_eq_true e⟩
  | rng lo c n =>
    have e' : n ≤ i := of_decide_eq_true e
    rcases h with rfl | ⟨rfl, rfl⟩
    · exact e'
    · exact e'
  | enT ds =>
    obtain ⟨a, xs, rfl, s, r⟩ := h
    exact ⟨xs, s, by rw [← r.1]; exact of_decide_eq_true e⟩
  | enL k =>
    obtain ⟨a, rfl, q⟩ := h
    cases e1 : lstOf st k with
    | none => simp [stD, e1] at e
    | some ds =>
      simp only [stD, e1] at e
      obtain ⟨xs, s, r⟩ := x.lst_at q e1
      exact ⟨xs, s, by rw [← r.1]; exact of_decide_eq_true e⟩
  | zpT as bs =>
    obtain ⟨a, b, xs, ys, rfl, s, r, s2, r2⟩ := h
    refine ⟨xs, ys, s, s2, ?_⟩
    have e' : min as.length bs.length ≤ i := of_decide_eq_true e
    rw [← r.1, ← r2.1]
    omega
  | zpL k j =>
    obtain ⟨a, b, rfl, q, q2⟩ := h
    cases e1 : lstOf st k with
    | none => simp [stD, e1] at e
    | some as =>
      cases e2 : lstOf st j with
      | none => simp [stD, e1, e2] at e
      | some bs =>
        simp only [stD, e1, e2] at e
        have e' : min as.length bs.length ≤ i := of_decide_eq_true e
        obtain ⟨xs, s, r⟩ := x.lst_at q e1
        obtain ⟨ys, s2, r2⟩ := x.lst_at q2 e2
        refine ⟨xs, ys, s, s2, ?_⟩
        rw [← r.1, ← r2.1]
        omega
  | rvT ds =>
    obtain ⟨a, xs, rfl, s, r⟩ := h
    have e' : ds.length ≤ i := of_decide_eq_true e
    rw [r.1] at e'
    exact e'
  | rvL k n =>
    obtain ⟨a, rfl, q⟩ := h
    exact (show n ≤ i from of_decide_eq_true e)
  | keys ds =>
    obtain ⟨P, w, a, o, xs, rfl, q, r⟩ := h
    have e' : ds.length ≤ i := of_decide_eq_true e
    rw [r.1] at e'
    exact ⟨q, e'⟩
end
end Dz
end
section
set_option Elab.async false
set_option linter.all false
set_option maxRecDepth 100000
set_option maxHeartbeats 1000000
namespace Dz
open PySem L2 PyProof.Rows
/-! ### the defs' world, a context -/
structure FF where
  x : Str
  a : Addr
  fd : FuncData
  ps : List Str
structure Wd where
  g : Str → Option D
  fs : List Df
  fns : List FF
  Tb : TBl
def blts : List Str := ["len", "int", "tuple", "list", "max", "str", "isinstance", "bool", "range", "enumerate", "zip", "reversed", "all", "any", "sum", "sorted", "min", "dict", "set"]
abbrev Wd.C (Z : Wd) (n : Nat) : List CS := calls Z.fs Z.g n
def spD (K : PySem.W.Frag) (Z : Wd) (i f : Nat) : Sp := fun vs H Q _ => ∃ m st ds d st', Rp K Z.Tb H m st ∧ P2 (RV K H m) ds vs ∧ callD Z.fs Z.g i f ds st = some (d, st') ∧ Aft K Z.Tb m H d st' Q
/-- what is the same in a def's body and in its blocks -/
structure Wk (Z : Wd) (X : Cx) (n : Nat) : Prop where
  calm : X.calm = true
  xe : X.xe = fun _ _ => False
  nd : X.N.Nodup
  room : Room n X.A
  glb : ∀ x d, Z.g x = some d → ∃ u v, X.mg x = some u ∧ RelV v u ∧ ∀ H m, RV X.K H m d v
  blt : ∀ x ∈ blts, X.mg x = none
  fnG : ∀ (f : Nat) (F : FF), Z.fns[f]? = some F → X.mg F.x = some (.ref F.a) ∧ PySem.W.keepIn X.K (.ref F.a) = true ∧ Binds X.K F.fd F.ps []
  prg : X.prog = Z.Tb.P
  wld : X.w = Z.Tb.w
  fok : ∀ i, i < n → ∀ (f : Nat) (F : FF), Z.fns[f]? = some F → FnOk X.prog X.w X.K X.mg X.base C8.CX0 (i + 1) F.a F.fd F.ps (spD X.K Z i f)
/-- what the checker knows of a context -/
structure Ck where
  sc : Scope
  N : List Str
  fb : Str → Bool
  /-- generator expressions may stand here -/
  gn : Bool
structure GX (Z : Wd) (X : Cx) (c : Ck) (n : Nat) : Prop extends Wk Z X n where
  scp : X.env.scope = c.sc
  Ns : X.N = c.N
  fb : ∀ x, c.fb x = true → X.fn x = true
  cd : c.gn = true → ∃ (cc P : Addr), GxR.TabB X.base X.mg cc P ∧ X.env.code = .ref cc ∧ P ∈ Z.Tb
/-! ### readings -/
def Sx (K : PySem.W.Frag) (Z : Wd) (σ : L2.St) (H : Hp) (m : List Addr) (ρ : Env) (st : Sto) : Prop := RE K H m ρ σ ∧ Rp K Z.Tb H m st
section
variable {K : PySem.W.Frag} {Z : Wd} {σ : L2.St} {H H' : Hp} {m m' : List Addr} {ρ : Env} {st st' : Sto}
theorem Sx.go (S : Sx K Z σ H m ρ st) (y : Ext m H m' H') (x : Rp K Z.Tb H' m' st') : Sx K Z σ H' m' ρ st' := ⟨S.1.ext S.2 y, x⟩
end
def tE (K : PySem.W.Frag) (Z : Wd) (n : Nat) (e : E) : TE := fun σ H Q => ∃ m ρ st d st', Sx K Z σ H m ρ st ∧ ev e Z.g (Z.C n) ρ st = some (d, st') ∧ Aft K Z.Tb m H d st' Q
def tA (K : PySem.W.Frag) (Z : Wd) (n : Nat) (es : List E) : TA := fun σ H Q => ∃ m ρ st ds st', Sx K Z σ H m ρ st ∧ evs es Z.g (Z.C n) ρ st = some (ds, st') ∧ ∀ vs H' m', Ext m H m' H' → Rp K Z.Tb H' m' st' → P2 (RV K H' m') ds vs → Q vs H'
/-- a test -/
def tTo (K : PySem.W.Frag) (Z : Wd) (f : Env → Sto → Option (Bool × Sto)) : TT := fun σ H Q => ∃ m ρ st b st', Sx K Z σ H m ρ st ∧ f ρ st = some (b, st') ∧ ∀ H' m', Ext m H m' H' → Rp K Z.Tb H' m' st' → Q b H'
/-- a value -/
def tEo (K : PySem.W.Frag) (Z : Wd) (f : Env → Sto → Option (D × Sto)) : TE := fun σ H Q => ∃ m ρ st d st', Sx K Z σ H m ρ st ∧ f ρ st = some (d, st') ∧ Aft K Z.Tb m H d st' Q
abbrev tT (K : PySem.W.Frag) (Z : Wd) (n : Nat) (e : T) : TT := tTo K Z fun ρ st => evT e Z.g (Z.C n) ρ st
section
variable {X : Cx} {x : Expr} {t t' : TE} {u u' : TT}
theorem PE_imp (h : PE X x t) (i : ∀ σ H Q, t' σ H Q → t σ H Q) : PE X x t' := ⟨fun pins s σ H Q I q => h.run pins s σ H Q I (i σ H Q q)⟩
theorem PT_imp (h : PT X x u) (i : ∀ σ H Q, u' σ H Q → u σ H Q) : PT X x u' := ⟨fun pins s σ H Q I q => h.run pins s σ H Q I (i σ H Q q)⟩
theorem PW_imp (h : PW X x u) (i : ∀ σ H Q, u' σ H Q → u σ H Q) : PW X x u' := ⟨fun w pins s σ H Q I q => h.run w pins s σ H Q I (i σ H Q q)⟩
theorem PA_imp {es : List Expr} {t t' : TA} (h : PA X es t) (i : ∀ σ H Q, t' σ H Q → t σ H Q) : PA X es t' := ⟨fun pos pins s σ H Q I q => h.run pos pins s σ H Q I (i σ H Q q)⟩
end
section
variable {K : PySem.W.Frag} {Z : Wd} {n : Nat} {σ : L2.St} {H : Hp} {m : List Addr} {ρ : Env} {st st' : Sto} {d : D} {e : E} {es : List E} {b : Bool}
theorem tE.mk {Q : VK} (S : Sx K Z σ H m ρ st) (h : ev e Z.g (Z.C n) ρ st = some (d, st')) (q : ∀ v H' m', Ext m H m' H' → Sx K Z σ H' m' ρ st' → RV K H' m' d v → Q v H') : tE K Z n e σ H Q :=
  ⟨m, ρ, st, d, st', S, h, fun v H' m' x R r => q v H' m' x (S.go x R) r⟩
theorem tA.mk {Q : List V → Hp → Prop} {ds : List D} (S : Sx K Z σ H m ρ st) (h : evs es Z.g (Z.C n) ρ st = some (ds, st')) (q : ∀ vs H' m', Ext m H m' H' → Sx K Z σ H' m' ρ st' → P2 (RV K H' m') ds vs → Q vs H') : tA K Z n es σ H Q :=
  ⟨m, ρ, st, ds, st', S, h, fun v H' m' x R r => q v H' m' x (S.go x R) r⟩
theorem tTo.mk {f : Env → Sto → Option (Bool × Sto)} {Q : Bool → Hp → Prop} (S : Sx K Z σ H m ρ st) (h : f ρ st = some (b, st')) (q : ∀ H' m', Ext m H m' H' → Sx K Z σ H' m' ρ st' → Q b H') : tTo K Z f σ H Q :=
  ⟨m, ρ, st, b, st', S, h, fun H' m' x R => q H' m' x (S.go x R)⟩
theorem tEo.mk {f : Env → Sto → Option (D × Sto)} {Q : VK} (S : Sx K Z σ H m ρ st) (h : f ρ st = some (d, st')) (q : ∀ v H' m', Ext m H m' H' → Sx K Z σ H' m' ρ st' → RV K H' m' d v → Q v H') : tEo K Z f σ H Q :=
  ⟨m, ρ, st, d, st', S, h, fun v H' m' x R r => q v H' m' x (S.go x R) r⟩
end
/-! ### expressions -/
section
variable {Z : Wd} {X : Cx} {c : Ck} {n : Nat} {a b : Expr} {ea eb : E} {pos : Pos}
def plT : Expr → Bool
  | .UnaryOp .Not _ _ => false
  | .BoolOp .. => false
  | .IfExp .. => false
  | .Compare .. => false
  | _ => true
theorem plT_is {x : Expr} (h : plT x = true) : ∀ env whole, isTrue x env whole = (do let v ← whole; standAt x.pos; holding [v] (truthy v)) := by
  intro env whole
  cases x with
  | UnaryOp op => cases op <;> first | rfl | cases h
  | BoolOp => cases h
  | IfExp => cases h
  | Compare => cases h
  | _ => rfl
theorem s_val {x : Expr} {e : E} (h : PE X x (tE X.K Z n e)) (hx : plT x = true) : PT X x (tT X.K Z n (.val e)) :=
  PT_imp (pt_truth h (plT_is hx _)) fun σ H Q ⟨m, ρ, st, b, st', S, h, q⟩ => by
    obtain ⟨⟨d, st1⟩, e1, h⟩ := Option.bind_eq_some_iff.mp h
    obtain ⟨b1, e2, h⟩ := Option.map_eq_some_iff.mp h
    cases h
    exact tE.mk S e1 fun v H' m' x S1 r => ⟨b, truD_tru S1.2 r e2, q H' m' x S1.2⟩
theorem s_var {i : Nat} {x : Str} (hN : X.N[i]? = some x) (hv : Vis X.env.scope x) (hd : (x == ("__debug__" : Str)) = false) (hcd : (x == ("__classdict__" : Str)) = false) : PE X (.Name x pos) (tE X.K Z n (.var i)) :=
  PE_imp (pe_var hN hv hd hcd) fun σ H Q ⟨m, ρ, st, d, st', S, h, q⟩ => by
    have h : (match ρ[i]? with | some (some d) => some (d, st) | _ => none) = some (d, st') := h
    split at h
    · rename_i e
      cases h
      obtain ⟨v, e1, r⟩ := S.1.at_ i d e
      exact ⟨v, e1, q.here S.2 r⟩
    · cases h
theorem s_con {x : Expr} {v : V} {d : D} {e : E} (h : PE X x (tC v)) (he : ∀ ρ st, ev e Z.g (Z.C n) ρ st = some (d, st)) (r : ∀ H m, RV X.K H m d v) : PE X x (tE X.K Z n e) :=
  PE_imp h fun σ H Q ⟨m, ρ, st, d, st', S, h, q⟩ => by
    rw [he] at h
    cases h
    exact q.here S.2 (r H m)
theorem s_glb {x : Str} {d : D} (G : Wk Z X n) (hg : Gl X x) (hz : Z.g x = some d) (hd : (x == ("__debug__" : Str)) = false) : PE X (.Name x pos) (tE X.K Z n (.glb x)) := by
  obtain ⟨u, v, h1, h2, h3⟩ := G.glb x d hz
  exact s_con (pe_glob hg h1 h2 hd) (d := d) (fun ρ st => by show (Z.g x).map _ = _; rw [hz]; rfl) h3
theorem s_nil : PA X [] (tA X.K Z n []) := PA_imp pa_nil fun σ H Q ⟨m, ρ, st, ds, st', S, h, q⟩ => by
  cases h
  exact q [] H m Ext.refl S.2 P2.nil
theorem s_cons {es : List Expr} {el : List E} (ha : PE X a (tE X.K Z n ea)) (hs : PA X es (tA X.K Z n el)) (hst : starEach (a :: es) X.env = (false, eval a X.env) :: starEach es X.env) : PA X (a :: es) (tA X.K Z n (ea :: el)) :=
  PA_imp (pa_cons ha hs hst) fun σ H Q ⟨m, ρ, st, ds, st', S, h, q⟩ => by
    obtain ⟨⟨d1, st1⟩, e1, h⟩ := Option.bind_eq_some_iff.mp h
    obtain ⟨⟨d2, st2⟩, e2, h⟩ := Option.map_eq_some_iff.mp h
    cases h
    exact tE.mk S e1 fun v H1 m1 x1 S1 r1 => tA.mk S1 e2 fun vs H2 m2 x2 S2 r2 => q _ H2 m2 (x1.trans x2) S2.2 (P2.cons (S1.2.rv x2 r1) r2)
theorem s_tup {es : List Expr} {el : List E} {k : Nat} (hs : PA X es (tA X.K Z n el)) : PE X (.Tuple es k pos) (tE X.K Z n (.tup el)) :=
  PE_imp (pe_tup hs) fun σ H Q ⟨m, ρ, st, d, st', S, h, q⟩ => by
    obtain ⟨⟨ds, st1⟩, e1, h⟩ := Option.bind_eq_some_iff.mp h
    split at h
    · rename_i hz
      cases h
      exact tA.mk S e1 fun vs H1 m1 x1 S1 r1 => ⟨by rw [← r1.1]; exact hz, (q.later x1).tup S1.2 r1⟩
    · cases h
theorem s_lst {es : List Expr} {el : List E} (hs : PA X es (tA X.K Z n el)) : PE X (.List es pos) (tE X.K Z n (.lst el)) :=
  PE_imp (pe_lst hs) fun σ H Q ⟨m, ρ, st, d, st', S, h, q⟩ => by
    obtain ⟨⟨ds, st1⟩, e1, h⟩ := Option.bind_eq_some_iff.mp h
    split at h
    · rename_i hz
      cases h
      exact tA.mk S e1 fun vs H1 m1 x1 S1 r1 => ⟨by rw [← r1.1]; exact hz, (q.later x1).new S1.2 r1⟩
    · cases h
theorem s_bin {o : Bop} (ha : PE X a (tE X.K Z n ea)) (hb : PE X b (tE X.K Z n eb)) : PE X (.BinOp a (bop o) b pos) (tE X.K Z n (.bin o ea eb)) :=
  PE_imp (pe_op (op_bin o) ha hb) fun σ H Q ⟨m, ρ, st, d, st', S, h, q⟩ => by
    obtain ⟨⟨d1, st1⟩, e1, h⟩ := Option.bind_eq_some_iff.mp h
    obtain ⟨⟨d2, st2⟩, e2, h⟩ := Option.bind_eq_some_iff.mp h
    exact tE.mk S e1 fun v H1 m1 x1 S1 r1 => tE.mk S1 e2 fun w H2 m2 x2 S2 r2 => ⟨m2, st2, d1, d2, d, st', S2.2, S1.2.rv x2 r1, r2, h, q.later (x1.trans x2)⟩
theorem s_neg (ha : PE X a (tE X.K Z n ea)) : PE X (.UnaryOp .USub a pos) (tE X.K Z n (.neg ea)) :=
  PE_imp (pe_un un_neg ha) fun σ H Q ⟨m, ρ, st, d, st', S, h, q⟩ => by
    obtain ⟨⟨d1, st1⟩, e1, h⟩ := Option.bind_eq_some_iff.mp h
    split at h
    · rename_i i hi
      cases h
      obtain rfl : d1 = .int i := hi
      exact tE.mk S e1 fun v H1 m1 x1 S1 r1 => by
        cases r1
        exact ⟨i, rfl, (q.later x1).here S1.2 rfl⟩
    · cases h
theorem s_cmp {o : Cop} (G : Wk Z X n) (ha : PE X a (tE X.K Z n ea)) (hb : PE X b (tE X.K Z n eb)) (hm : behindInMarks (cop o) b = false) : PE X (.Compare a [cop o] [b] pos) (tE X.K Z n (.cmp o ea eb)) :=
  PE_imp (pe_cmpR (op_cmp (Tb := Z.Tb) G.room o) ha hb hm) fun σ H Q ⟨m, ρ, st, d, st', S, h, q⟩ => by
    obtain ⟨⟨d1, st1⟩, e1, h⟩ := Option.bind_eq_some_iff.mp h
    obtain ⟨⟨d2, st2⟩, e2, h⟩ := Option.bind_eq_some_iff.mp h
    obtain ⟨k, e3, h⟩ := Option.map_eq_some_iff.mp h
    cases h
    exact tE.mk S e1 fun v H1 m1 x1 S1 r1 => tE.mk S1 e2 fun w H2 m2 x2 S2 r2 => ⟨m2, st2, d1, d2, k, S2.2, S1.2.rv x2 r1, r2, e3, (q.later (x1.trans x2)).here S2.2 rfl⟩
theorem t_cmp {o : Cop} (G : Wk Z X n) (ha : PE X a (tE X.K Z n ea)) (hb : PE X b (tE X.K Z n eb)) (hm : behindInMarks (cop o) b = false) : PT X (.Compare a [cop o] [b] pos) (tT X.K Z n (.cmp o ea eb)) :=
  PT_imp (pt_cmpR (op_cmp (Tb := Z.Tb) G.room o) ha hb hm) fun σ H Q ⟨m, ρ, st, k, st', S, h, q⟩ => by
    obtain ⟨⟨d1, st1⟩, e1, h⟩ := Option.bind_eq_some_iff.mp h
    obtain ⟨⟨d2, st2⟩, e2, h⟩ := Option.bind_eq_some_iff.mp h
    obtain ⟨k, e3, h⟩ := Option.map_eq_some_iff.mp h
    cases h
    exact tE.mk S e1 fun v H1 m1 x1 S1 r1 => tE.mk S1 e2 fun w H2 m2 x2 S2 r2 => ⟨m2, st2, d1, d2, k, S2.2, S1.2.rv x2 r1, r2, e3, k, rfl, q _ _ (x1.trans x2) S2.2⟩
theorem s_chn {o p : Cop} {x : Expr} {ex : E} (G : Wk Z X n) (ha : PE X a (tE X.K Z n ea)) (hb : PE X b (tE X.K Z n eb)) (hc : PE X x (tE X.K Z n ex)) (hm : lastMarks [cop o, cop p] [b, x] = false) :
    PE X (.Compare a [cop o, cop p] [b, x] pos) (tE X.K Z n (.chn o p ea eb ex)) :=
  PE_imp (pe_chain (op_cmp (Tb := Z.Tb) G.room o) (op_cmp (Tb := Z.Tb) G.room p) ha hb hc hm) fun σ H Q ⟨m, ρ, st, d, st', S, h, q⟩ => by
    obtain ⟨⟨d1, st1⟩, e1, h⟩ := Option.bind_eq_some_iff.mp h
    obtain ⟨⟨d2, st2⟩, e2, h⟩ := Option.bind_eq_some_iff.mp h
    obtain ⟨k, e3, h⟩ := Option.bind_eq_some_iff.mp h
    refine tE.mk S e1 fun v H1 m1 x1 S1 r1 => tE.mk S1 e2 fun w H2 m2 x2 S2 r2 => ⟨m2, st2, d1, d2, k, S2.2, S1.2.rv x2 r1, r2, e3, k, rfl, ?_⟩
    split at h
    · rename_i hk
      rw [if_pos hk]
      obtain ⟨⟨d3, st3⟩, e4, h⟩ := Option.bind_eq_some_iff.mp h
      obtain ⟨k2, e5, h⟩ := Option.map_eq_some_iff.mp h
      cases h
      exact tE.mk S2 e4 fun y H3 m3 x3 S3 r3 => ⟨m3, st3, d2, d3, k2, S3.2, S2.2.rv x3 r2, r3, e5, (q.later ((x1.trans x2).trans x3)).here S3.2 rfl⟩
    · rename_i hk
      rw [if_neg hk]
      cases h
      exact (q.later (x1.trans x2)).here S2.2 rfl
theorem t_chn {o p : Cop} {x : Expr} {ex : E} (G : Wk Z X n) (ha : PE X a (tE X.K Z n ea)) (hb : PE X b (tE X.K Z n eb)) (hc : PE X x (tE X.K Z n ex)) (hm : lastMarks [cop o, cop p] [b, x] = false) :
    PT X (.Compare a [cop o, cop p] [b, x] pos) (tT X.K Z n (.chn o p ea eb ex)) :=
  PT_imp (pt_chain (op_cmp (Tb := Z.Tb) G.room o) (op_cmp (Tb := Z.Tb) G.room p) ha hb hc hm) fun σ H Q ⟨m, ρ, st, d, st', S, h, q⟩ => by
    obtain ⟨⟨d1, st1⟩, e1, h⟩ := Option.bind_eq_some_iff.mp h
    obtain ⟨⟨d2, st2⟩, e2, h⟩ := Option.bind_eq_some_iff.mp h
    obtain ⟨k, e3, h⟩ := Option.bind_eq_some_iff.mp h
    refine tE.mk S e1 fun v H1 m1 x1 S1 r1 => tE.mk S1 e2 fun w H2 m2 x2 S2 r2 => ⟨m2, st2, d1, d2, k, S2.2, S1.2.rv x2 r1, r2, e3, k, rfl, ?_⟩
    split at h
    · rename_i hk
      rw [if_pos hk]
      obtain ⟨⟨d3, st3⟩, e4, h⟩ := Option.bind_eq_some_iff.mp h
      obtain ⟨k2, e5, h⟩ := Option.map_eq_some_iff.mp h
      cases h
      exact tE.mk S2 e4 fun y H3 m3 x3 S3 r3 => ⟨m3, st3, d2, d3, _, S3.2, S2.2.rv x3 r2, r3, e5, _, rfl, q _ _ ((x1.trans x2).trans x3) S3.2⟩
    · rename_i hk
      rw [if_neg hk]
      cases h
      exact ⟨_, rfl, q _ _ (x1.trans x2) S2.2⟩
theorem s_not (hv : PE X a (tE X.K Z n ea)) : PE X (.UnaryOp .Not a pos) (tE X.K Z n (.not ea)) :=
  ⟨fun pins s σ H Q I ⟨m, ρ, st, d, st', S, h, q⟩ => by
    obtain ⟨⟨d1, st1⟩, e1, h⟩ := Option.bind_eq_some_iff.mp h
    obtain ⟨k, e2, h⟩ := Option.map_eq_some_iff.mp h
    cases h
    refine UnaryOp_ (thn (hv.run pins s σ H _ I (tE.mk S e1 fun v H1 m1 x1 S1 r1 => show TruV X.K v H1 k ∧ Q (.bl (!k)) H1 from ⟨truD_tru S1.2 r1 e2, (q.later x1).here S1.2 rfl⟩)) fun u s1 ⟨v, H1, I1, r1, t1, q1⟩ => ?_)
    exact not_of (thn (tru_ok pins s1 σ H1 v u _ I1 r1 ⟨k, t1, q1⟩) fun b s2 ⟨H2, I2, q2⟩ => ⟨.bl (!b), H2, I2, rfl, q2⟩)⟩
section
variable {ta tb tc : T}
theorem t_not (ha : PT X a (tT X.K Z n ta)) : PT X (.UnaryOp .Not a pos) (tT X.K Z n (.not ta)) :=
  PT_imp (pt_not ha) fun σ H Q ⟨m, ρ, st, k, st', S, h, q⟩ => by
    obtain ⟨⟨b1, st1⟩, e1, h⟩ := Option.map_eq_some_iff.mp h
    cases h
    exact tTo.mk S e1 fun H1 m1 x1 S1 => q H1 m1 x1 S1.2
/-- and, or as tests -/
abbrev tTA (K : PySem.W.Frag) (Z : Wd) (n : Nat) (es : List T) : TT := tTo K Z fun ρ st => evTA es Z.g (Z.C n) ρ st
abbrev tTO (K : PySem.W.Frag) (Z : Wd) (n : Nat) (es : List T) : TT := tTo K Z fun ρ st => evTO es Z.g (Z.C n) ρ st
theorem w_and1 (ha : PT X a (tT X.K Z n ta)) : PW X (.BoolOp .And [a] pos) (tTA X.K Z n [ta]) :=
  PW_imp (pw_and1 ha) fun σ H Q ⟨m, ρ, st, k, st', S, h, q⟩ => by
    obtain ⟨⟨b1, st1⟩, e1, h⟩ := Option.bind_eq_some_iff.mp h
    cases b1 <;> (cases h; exact tTo.mk S e1 fun H1 m1 x1 S1 => q H1 m1 x1 S1.2)
theorem w_or1 (ha : PT X a (tT X.K Z n ta)) : PW X (.BoolOp .Or [a] pos) (tTO X.K Z n [ta]) :=
  PW_imp (pw_or1 ha) fun σ H Q ⟨m, ρ, st, k, st', S, h, q⟩ => by
    obtain ⟨⟨b1, st1⟩, e1, h⟩ := Option.bind_eq_some_iff.mp h
    cases b1 <;> (cases h; exact tTo.mk S e1 fun H1 m1 x1 S1 => q H1 m1 x1 S1.2)
theorem w_and {rest : List Expr} {tr : List T} (ha : PT X a (tT X.K Z n ta)) (hr : PW X (.BoolOp .And (b :: rest) pos) (tTA X.K Z n tr)) : PW X (.BoolOp .And (a :: b :: rest) pos) (tTA X.K Z n (ta :: tr)) :=
  PW_imp (pw_and ha hr) fun σ H Q ⟨m, ρ, st, k, st', S, h, q⟩ => by
    obtain ⟨⟨b1, st1⟩, e1, h⟩ := Option.bind_eq_some_iff.mp h
    cases b1 with
    | true => exact tTo.mk S e1 fun H1 m1 x1 S1 => by rw [if_pos rfl]; exact tTo.mk S1 h fun H2 m2 x2 S2 => q H2 m2 (x1.trans x2) S2.2
    | false => cases h; exact tTo.mk S e1 fun H1 m1 x1 S1 => by rw [if_neg Bool.false_ne_true]; exact q H1 m1 x1 S1.2
theorem w_or {rest : List Expr} {tr : List T} (ha : PT X a (tT X.K Z n ta)) (hr : PW X (.BoolOp .Or (b :: rest) pos) (tTO X.K Z n tr)) : PW X (.BoolOp .Or (a :: b :: rest) pos) (tTO X.K Z n (ta :: tr)) :=
  PW_imp (pw_or ha hr) fun σ H Q ⟨m, ρ, st, k, st', S, h, q⟩ => by
    obtain ⟨⟨b1, st1⟩, e1, h⟩ := Option.bind_eq_some_iff.mp h
    cases b1 with
    | true => cases h; exact tTo.mk S e1 fun H1 m1 x1 S1 => by rw [if_pos rfl]; exact q H1 m1 x1 S1.2
    | false => exact tTo.mk S e1 fun H1 m1 x1 S1 => by rw [if_neg Bool.false_ne_true]; exact tTo.mk S1 h fun H2 m2 x2 S2 => q H2 m2 (x1.trans x2) S2.2
theorem t_if {x : Expr} (hc : PT X x (tT X.K Z n tc)) (ha : PT X a (tT X.K Z n ta)) (hb : PT X b (tT X.K Z n tb)) : PT X (.IfExp x a b pos) (tT X.K Z n (.ife tc ta tb)) :=
  ⟨fun pins s σ H Q I ⟨m, ρ, st, k, st', S, h, q⟩ => by
    obtain ⟨⟨b1, st1⟩, e1, h⟩ := Option.bind_eq_some_iff.mp h
    show wpAny _ _ (do if ← isTrue x X.env (eval x X.env) then isTrue a X.env (eval a X.env) else isTrue b X.env (eval b X.env)) _ _ _
    refine wpAny_bind (thn (hc.run pins s σ H _ I (tTo.mk (Q := fun c H1 => c = b1 ∧ ∃ m1, Ext m H m1 H1 ∧ Sx X.K Z σ H1 m1 ρ st1) S e1 fun H1 m1 x1 S1 => ⟨rfl, m1, x1, S1⟩)) fun c s1 ⟨H1, I1, hc, m1, x1, S1⟩ => ?_)
    subst hc
    cases c with
    | true => exact ha.run pins s1 σ H1 Q I1 (tTo.mk S1 h fun H2 m2 x2 S2 => q H2 m2 (x1.trans x2) S2.2)
    | false => exact hb.run pins s1 σ H1 Q I1 (tTo.mk S1 h fun H2 m2 x2 S2 => q H2 m2 (x1.trans x2) S2.2)⟩
theorem s_if {x : Expr} (hc : PT X x (tT X.K Z n tc)) (ha : PE X a (tE X.K Z n ea)) (hb : PE X b (tE X.K Z n eb)) : PE X (.IfExp x a b pos) (tE X.K Z n (.ife tc ea eb)) :=
  PE_imp (pe_ifExp hc ha hb) fun σ H Q ⟨m, ρ, st, k, st', S, h, q⟩ => by
    obtain ⟨⟨b1, st1⟩, e1, h⟩ := Option.bind_eq_some_iff.mp h
    cases b1 with
    | true => exact tTo.mk S e1 fun H1 m1 x1 S1 => by rw [if_pos rfl]; exact tE.mk S1 h fun v H2 m2 x2 S2 r2 => q v H2 m2 (x1.trans x2) S2.2 r2
    | false => exact tTo.mk S e1 fun H1 m1 x1 S1 => by rw [if_neg Bool.false_ne_true]; exact tE.mk S1 h fun v H2 m2 x2 S2 r2 => q v H2 m2 (x1.trans x2) S2.2 r2
end
/-- and, or as values -/
abbrev tEA (K : PySem.W.Frag) (Z : Wd) (n : Nat) (es : List E) : TE := tEo K Z fun ρ st => evAnd es Z.g (Z.C n) ρ st
abbrev tEO (K : PySem.W.Frag) (Z : Wd) (n : Nat) (es : List E) : TE := tEo K Z fun ρ st => evOr es Z.g (Z.C n) ρ st
theorem v_one {op : BoolOp} (ha : PE X a (tE X.K Z n ea)) : PE X (.BoolOp op [a] pos) (tEA X.K Z n [ea]) ∧ PE X (.BoolOp op [a] pos) (tEO X.K Z n [ea]) := by
  refine ⟨PE_imp (pe_one ha) fun σ H Q ⟨m, ρ, st, k, st', S, h, q⟩ => ?_, PE_imp (pe_one ha) fun σ H Q ⟨m, ρ, st, k, st', S, h, q⟩ => ?_⟩ <;>
  · obtain ⟨⟨b1, st1⟩, e1, h⟩ := Option.bind_eq_some_iff.mp h
    cases h
    exact tE.mk S e1 fun v H1 m1 x1 S1 r1 => q v H1 m1 x1 S1.2 r1
theorem v_and {rest : List Expr} {er : List E} (hne : er.isEmpty = false) (ha : PE X a (tE X.K Z n ea)) (hr : PE X (.BoolOp .And (b :: rest) pos) (tEA X.K Z n er)) : PE X (.BoolOp .And (a :: b :: rest) pos) (tEA X.K Z n (ea :: er)) :=
  PE_imp (pe_and ha hr) fun σ H Q ⟨m, ρ, st, k, st', S, h, q⟩ => by
    obtain ⟨⟨b1, st1⟩, e1, h⟩ := Option.bind_eq_some_iff.mp h
    simp only [hne, Bool.false_eq_true, if_false] at h
    refine tE.mk S e1 fun v H1 m1 x1 S1 r1 => ?_
    split at h
    · cases r1
      exact ⟨true, rfl, by rw [if_pos rfl]; exact tEo.mk S1 h fun v H2 m2 x2 S2 r2 => q v H2 m2 (x1.trans x2) S2.2 r2⟩
    · cases h
      cases r1
      exact ⟨false, rfl, by rw [if_neg Bool.false_ne_true]; exact q _ H1 m1 x1 S1.2 rfl⟩
    · cases h
theorem v_or {rest : List Expr} {er : List E} (hne : er.isEmpty = false) (ha : PE X a (tE X.K Z n ea)) (hr : PE X (.BoolOp .Or (b :: rest) pos) (tEO X.K Z n er)) : PE X (.BoolOp .Or (a :: b :: rest) pos) (tEO X.K Z n (ea :: er)) :=
  PE_imp (pe_or ha hr) fun σ H Q ⟨m, ρ, st, k, st', S, h, q⟩ => by
    obtain ⟨⟨b1, st1⟩, e1, h⟩ := Option.bind_eq_some_iff.mp h
    simp only [hne, Bool.false_eq_true, if_false] at h
    refine tE.mk S e1 fun v H1 m1 x1 S1 r1 => ?_
    split at h
    · cases h
      cases r1
      exact ⟨true, rfl, by rw [if_pos rfl]; exact q _ H1 m1 x1 S1.2 rfl⟩
    · cases r1
      exact ⟨false, rfl, by rw [if_neg Bool.false_ne_true]; exact tEo.mk S1 h fun v H2 m2 x2 S2 r2 => q v H2 m2 (x1.trans x2) S2.2 r2⟩
    · cases h
end
end Dz
end
section
set_option Elab.async false
set_option linter.all false
set_option maxRecDepth 100000
set_option maxHeartbeats 1000000
namespace Dz
open PySem L2 PyProof.Rows
/-! ### forms of the text -/
def nst : Expr → Bool
  | .Starred .. => false
  | _ => true
def nset : Expr → Bool
  | .Set .. => false
  | _ => true
def nsl : Expr → Bool
  | .Slice .. => false
  | _ => true
def ncl : Expr → Bool
  | .Call .. => false
  | _ => true
theorem star_cons {e : Expr} (h : nst e = true) (es : List Expr) (env : PySem.Env) : starEach (e :: es) env = (false, eval e env) :: starEach es env := by
  cases e <;> first | rfl | cases h
theorem star_plain : ∀ {es : List Expr} (h : es.all nst = true) (pos : Pos) (env : PySem.Env), (backTo pos (starEach es env)).any (·.1) = false
  | [], _, _, _ => rfl
  | e :: es, h, pos, env => by
    rw [List.all_cons, Bool.and_eq_true] at h
    rw [star_cons h.1]
    have ih := star_plain h.2 pos env
    show (false || (backTo pos (starEach es env)).any (·.1)) = false
    rw [ih]; rfl
theorem star_few : ∀ {es : List Expr} (h : es.all nst = true) (pos : Pos) (env : PySem.Env), (backTo pos (starEach es env)).all (fun x => !x.1) = true
  | [], _, _, _ => rfl
  | e :: es, h, pos, env => by
    rw [List.all_cons, Bool.and_eq_true] at h
    rw [star_cons h.1]
    have ih := star_few h.2 pos env
    show (!false && (backTo pos (starEach es env)).all (fun x => !x.1)) = true
    rw [ih]; rfl
theorem nset_behind {b : Expr} (h : nset b = true) (op : CmpOp) : behindInMarks op b = false := by
  cases b <;> first | rfl | cases h
theorem nset_folded {e : Expr} (h : nset e = true) (env : PySem.Env) : ∀ x, foldedSetIterable e env x = pure x := by
  intro x
  cases e <;> first | rfl | cases h
theorem nsl_plain {b : Expr} (h : nsl b = true) : PlainIx b := by
  intro o i
  cases b <;> first | rfl | cases h
theorem ncl_base {o : Expr} (h : ncl o = true) (name : Str) (env : PySem.Env) (w : Sem Value) : attributeBase o name env w = w := by
  cases o <;> first | rfl | cases h
theorem PE_void {X : Cx} {x : Expr} {t : TE} (h : ∀ σ H Q, ¬ t σ H Q) : PE X x t := ⟨fun _ _ σ H Q _ q => (h σ H Q q).elim⟩
section
variable {Z : Wd} {X : Cx} {c : Ck} {n : Nat} {a b : Expr} {ea eb : E} {pos p : Pos} {es : List Expr} {el : List E}
/-- a def of the text -/
theorem s_call {f : Nat} {F : FF} (G : Wk Z X n) (hF : Z.fns[f]? = some F) (hg : Gl X F.x) (hs : PA X es (tA X.K Z n el)) (hst : es.all nst = true) (hl : es.length = el.length) (hd : (F.x == ("__debug__" : Str)) = false) : PE X (.Call (.Name F.x p) es [] pos) (tE X.K Z n (.call f el)) := by
  cases n with
  | zero => exact PE_void fun σ H Q ⟨m, ρ, st, d, st', S, h, q⟩ => by cases h
  | succ k =>
    obtain ⟨h1, h2, h3⟩ := G.fnG f F hF
    have fin : ∀ {σ H Q}, tE X.K Z (k + 1) (.call f el) σ H Q → tA X.K Z (k + 1) el σ H fun vs H1 => spD X.K Z k f (vs ++ []) H1 Q C8.E0 := fun {σ H Q} ⟨m, ρ, st, d, st', S, h, q⟩ => by
      obtain ⟨⟨ds, st1⟩, e1, h⟩ := Option.bind_eq_some_iff.mp h
      exact tA.mk S e1 fun vs H1 m1 x1 S1 r1 => ⟨m1, st1, ds, d, st', S1.2, by rw [List.append_nil]; exact r1, h, q.later x1⟩
    cases es with
    | nil =>
      refine PE_imp (pe_call0 (ds := []) (dvs := []) (E := C8.E0) (G.fok k (Nat.lt_succ_self k) f F hF) G.room hg h1 h2 h3 .nil C8.pass0 hd) fun σ H Q h => ?_
      have z := fin h
      obtain ⟨m, ρ, st, ds, st', S, e, q⟩ := z
      cases el with
      | nil => cases e; exact q [] H m Ext.refl S.2 P2.nil
      | cons a el => cases hl
    | cons e es =>
      rw [List.all_cons, Bool.and_eq_true] at hst
      exact PE_imp (pe_call (ds := []) (dvs := []) (E := C8.E0) (G.fok k (Nat.lt_succ_self k) f F hF) G.room hg h1 h2 h3 .nil C8.pass0 hs hd (star_cons hst.1 es _) (star_plain hst.2 _ _)) fun σ H Q h => fin h
/-- a built-in -/
def bfN : Bf → Str
  | .len => "len"
  | .int => "int"
  | .tuple => "tuple"
  | .list => "list"
  | .max1 => "max"
  | .max2 => "max"
  | .str => "str"
theorem bfN_in (f : Bf) : bfN f ∈ blts := by cases f <;> simp [bfN, blts]
theorem bfN_dbg (f : Bf) : (bfN f == ("__debug__" : Str)) = false := by cases f <;> decide +kernel
theorem bfN_nm (f : Bf) : bfN f ≠ "__name__" := by cases f <;> decide +kernel
theorem bfN_boot (f : Bf) : bootBuiltins (bfN f) = some (bfV f) := by cases f <;> decide +kernel
theorem s_bi {f : Bf} (G : Wk Z X n) (hg : Gl X (bfN f)) (hs : PA X (a :: es) (tA X.K Z n el)) (hst : (a :: es).all nst = true) : PE X (.Call (.Name (bfN f) p) (a :: es) [] pos) (tE X.K Z n (.bi f el)) := by
  have hm := G.blt _ (bfN_in f)
  rw [List.all_cons, Bool.and_eq_true] at hst
  have key : PE X (.Call (.Name (bfN f) p) (a :: es) [] pos) (tCB (rDB X.K Z.Tb (bfD f)) (tA X.K Z n el)) := by
    have hc := bf_ok (Tb := Z.Tb) G.calm f
    have hb := bfN_boot f
    cases f
    · exact pe_callB hc hg hm hb hs (bfN_nm .len) (bfN_dbg .len) (star_cons hst.1 es _) (star_plain hst.2 _ _)
    · exact pe_callTy hc hg hm hb hs (bfN_nm .int) (bfN_dbg .int) (star_cons hst.1 es _) (star_plain hst.2 _ _)
    · exact pe_callTy hc hg hm hb hs (bfN_nm .tuple) (bfN_dbg .tuple) (star_cons hst.1 es _) (star_plain hst.2 _ _)
    · exact pe_callTy hc hg hm hb hs (bfN_nm .list) (bfN_dbg .list) (star_cons hst.1 es _) (star_plain hst.2 _ _)
    · exact pe_callB hc hg hm hb hs (bfN_nm .max1) (bfN_dbg .max1) (star_cons hst.1 es _) (star_plain hst.2 _ _)
    · exact pe_callB hc hg hm hb hs (bfN_nm .max2) (bfN_dbg .max2) (star_cons hst.1 es _) (star_plain hst.2 _ _)
    · exact pe_callTy hc hg hm hb hs (bfN_nm .str) (bfN_dbg .str) (star_cons hst.1 es _) (star_plain hst.2 _ _)
  exact PE_imp key fun σ H Q ⟨m, ρ, st, d, st', S, h, q⟩ => by
    obtain ⟨⟨ds, st1⟩, e1, h⟩ := Option.bind_eq_some_iff.mp h
    exact tA.mk S e1 fun vs H1 m1 x1 S1 r1 => ⟨m1, st1, ds, d, st', S1.2, r1, h, q.later x1⟩
/-- isinstance -/
def tyS : Ty → Str
  | .tuple => "tuple"
  | .int => "int"
  | .bool => "bool"
  | .str => "str"
  | .list => "list"
theorem tyS_in (t : Ty) : tyS t ∈ blts := by cases t <;> simp [tyS, blts]
theorem tyS_dbg (t : Ty) : (tyS t == ("__debug__" : Str)) = false := by cases t <;> decide +kernel
theorem tyS_nm (t : Ty) : tyS t ≠ "__name__" := by cases t <;> decide +kernel
theorem tyS_boot (t : Ty) : bootBuiltins (tyS t) = some (.type (tyN t)) := by cases t <;> decide +kernel
theorem boot_isi : bootBuiltins "isinstance" = some (.builtin "isinstance") := by decide +kernel
theorem s_isi {t : Ty} {p2 : Pos} (G : Wk Z X n) (hg : Gl X "isinstance") (hgt : Gl X (tyS t)) (ha : PE X a (tE X.K Z n ea)) (hst : nst a = true) : PE X (.Call (.Name "isinstance" p) [a, .Name (tyS t) p2] [] pos) (tE X.K Z n (.isi ea t)) := by
  have hty : PE X (.Name (tyS t) p2) (tC (.ty (tyN t))) := pe_bltn hgt (G.blt _ (tyS_in t)) (tyS_boot t) rfl (tyS_nm t) (tyS_dbg t)
  refine PE_imp (pe_callB call_isi hg (G.blt _ (by simp [blts])) boot_isi (pa_cons ha (pa_cons hty pa_nil) (star_cons hst _ _)) (by decide +kernel) (by decide +kernel) (star_cons hst _ _) rfl) fun σ H Q ⟨m, ρ, st, d, st', S, h, q⟩ => ?_
  obtain ⟨⟨d1, st1⟩, e1, h⟩ := Option.bind_eq_some_iff.mp h
  obtain ⟨b, e2, h⟩ := Option.map_eq_some_iff.mp h
  cases h
  refine tE.mk S e1 fun v H1 m1 x1 S1 r1 => ?_
  obtain ⟨u, h1, h2⟩ := isiD_kit S1.2 r1 e2
  exact ⟨v, .ty (tyN t), .type u, .type (tyN t), b, rfl, .ty _, h1, kit_ty h2, (q.later x1).here S1.2 rfl⟩
/-- a list's method -/
def mtN : Mt → Str
  | .append => "append"
  | .extend => "extend"
  | .pop => "pop"
theorem isL_ty {K : PySem.W.Frag} {Tb : TBl} {H : Hp} {m : List Addr} {st : Sto} (R : Rp K Tb H m st) {d : D} {v : V} (r : RV K H m d v) (e : isL d st = true) : tyV K "list" v H := by
  cases d with
  | ref k =>
    obtain ⟨a, rfl, h⟩ := r
    obtain ⟨ds, z⟩ := Option.isSome_iff_exists.mp (show (lstOf st k).isSome = true from e)
    obtain ⟨a', xs, h', h1, _⟩ := R.lst z
    rw [h] at h'; cases h'
    exact .inl ⟨rfl, xs, SqL.of h1⟩
  | _ => cases e
theorem s_mth {mm : Mt} {apos : Pos} (ha : PE X a (tE X.K Z n ea)) (hs : PA X es (tA X.K Z n el)) (hst : es.all nst = true) (hl : es.length = el.length) (hn : es.length < 30) (hb : ncl a = true) (hline : (apos.endLine == pos.line) = true) :
    PE X (.Call (.Attribute a (mtN mm) apos) es [] pos) (tE X.K Z n (.mth mm ea el)) := by
  have hbase := ncl_base hb (mtN mm) X.env (eval a X.env)
  cases es with
  | nil =>
    have key : PE X (.Call (.Attribute a (mtN mm) apos) [] [] pos) (tBM0 X.K "list" (rDM X.K Z.Tb (mtD mm)) (tE X.K Z n ea)) := by
      have hm : MtR X (mtS mm) (rDM X.K Z.Tb (mtD mm)) := mt_ok mm
      cases mm
      · exact pe_bm0 PySem.F.plainAttrs_list PySem.F.slot_list_append PySem.F.type_list_append hm ha hbase hline
      · exact pe_bm0 PySem.F.plainAttrs_list PySem.F.slot_list_extend PySem.F.type_list_extend hm ha hbase hline
      · exact pe_bm0 PySem.F.plainAttrs_list PySem.F.slot_list_pop PySem.F.type_list_pop hm ha hbase hline
    refine PE_imp key fun σ H Q ⟨m, ρ, st, d, st', S, h, q⟩ => ?_
    cases el with
    | cons _ _ => cases hl
    | nil =>
      obtain ⟨⟨d1, st1⟩, e1, h⟩ := Option.bind_eq_some_iff.mp h
      split at h
      · rename_i hi
        exact tE.mk S e1 fun v H1 m1 x1 S1 r1 => ⟨isL_ty S1.2 r1 hi, m1, st1, d1, [], d, st', S1.2, r1, P2.nil, h, q.later x1⟩
      · cases h
  | cons e es =>
    have hst' := hst
    rw [List.all_cons, Bool.and_eq_true] at hst
    have hfew : ((backTo pos (starEach (e :: es) X.env)).all (fun x => !x.1) && (backToKw pos (keywordEach [] X.env)).all (fun x => x.1.isSome)
      && decide ((e :: es).length + ([] : List Keyword).length + (if ([] : List Keyword).isEmpty then 0 else 1) < 30)) = true := by
      rw [star_few hst']
      show (true && true && decide ((e :: es).length + 0 + 0 < 30)) = true
      simpa using hn
    have key : PE X (.Call (.Attribute a (mtN mm) apos) (e :: es) [] pos) (tBM X.K "list" (rDM X.K Z.Tb (mtD mm)) (tE X.K Z n ea) (tA X.K Z n el)) := by
      have hm : MtR X (mtS mm) (rDM X.K Z.Tb (mtD mm)) := mt_ok mm
      cases mm
      · exact pe_bm PySem.F.plainAttrs_list PySem.F.slot_list_append PySem.F.type_list_append hm ha hs hbase hfew hline (star_cons hst.1 es _) (star_plain hst.2 _ _)
      · exact pe_bm PySem.F.plainAttrs_list PySem.F.slot_list_extend PySem.F.type_list_extend hm ha hs hbase hfew hline (star_cons hst.1 es _) (star_plain hst.2 _ _)
      · exact pe_bm PySem.F.plainAttrs_list PySem.F.slot_list_pop PySem.F.type_list_pop hm ha hs hbase hfew hline (star_cons hst.1 es _) (star_plain hst.2 _ _)
    refine PE_imp key fun σ H Q ⟨m, ρ, st, d, st', S, h, q⟩ => ?_
    obtain ⟨⟨d1, st1⟩, e1, h⟩ := Option.bind_eq_some_iff.mp h
    split at h
    · rename_i hi
      obtain ⟨⟨ds, st2⟩, e2, h⟩ := Option.bind_eq_some_iff.mp h
      exact tE.mk S e1 fun v H1 m1 x1 S1 r1 => ⟨isL_ty S1.2 r1 hi, tA.mk S1 e2 fun vs H2 m2 x2 S2 r2 => ⟨m2, st2, d1, ds, d, st', S2.2, S1.2.rv x2 r1, r2, h, q.later (x1.trans x2)⟩⟩
    · cases h
/-- subscripts, slices -/
theorem s_idx (ha : PE X a (tE X.K Z n ea)) (hb : PE X b (tE X.K Z n eb)) (hp : nsl b = true) : PE X (.Subscript a b pos) (tE X.K Z n (.idx ea eb)) :=
  PE_imp (pe_ix (ix_D (Tb := Z.Tb)) ha hb (nsl_plain hp)) fun σ H Q ⟨m, ρ, st, d, st', S, h, q⟩ => by
    obtain ⟨⟨d1, st1⟩, e1, h⟩ := Option.bind_eq_some_iff.mp h
    obtain ⟨⟨d2, st2⟩, e2, h⟩ := Option.bind_eq_some_iff.mp h
    obtain ⟨k, e3, h⟩ := Option.map_eq_some_iff.mp h
    cases h
    exact tE.mk S e1 fun v H1 m1 x1 S1 r1 => tE.mk S1 e2 fun w H2 m2 x2 S2 r2 => ⟨m2, st2, d1, d2, _, S2.2, S1.2.rv x2 r1, r2, e3, q.later (x1.trans x2)⟩
theorem s_slF {p2 : Pos} (ha : PE X a (tE X.K Z n ea)) (hb : PE X b (tE X.K Z n eb)) : PE X (.Subscript a (.Slice (some b) none none p2) pos) (tE X.K Z n (.slF ea eb)) :=
  PE_imp (pe_slice (sl_D (Tb := Z.Tb)) ha (po_some hb) po_none) fun σ H Q ⟨m, ρ, st, d, st', S, h, q⟩ => by
    obtain ⟨⟨d1, st1⟩, e1, h⟩ := Option.bind_eq_some_iff.mp h
    obtain ⟨⟨d2, st2⟩, e2, h⟩ := Option.bind_eq_some_iff.mp h
    split at h
    · rename_i i hi
      obtain rfl : d2 = .int i := hi
      exact tE.mk S e1 fun v H1 m1 x1 S1 r1 => tE.mk S1 e2 fun w H2 m2 x2 S2 r2 => by
        cases r2
        exact ⟨i, rfl, m2, st2, d1, d, st', S2.2, S1.2.rv x2 r1, h, q.later (x1.trans x2)⟩
    · cases h
theorem s_slT {p2 : Pos} (ha : PE X a (tE X.K Z n ea)) (hb : PE X b (tE X.K Z n eb)) : PE X (.Subscript a (.Slice none (some b) none p2) pos) (tE X.K Z n (.slT ea eb)) :=
  PE_imp (pe_slice (sl_D (Tb := Z.Tb)) ha po_none (po_some hb)) fun σ H Q ⟨m, ρ, st, d, st', S, h, q⟩ => by
    obtain ⟨⟨d1, st1⟩, e1, h⟩ := Option.bind_eq_some_iff.mp h
    obtain ⟨⟨d2, st2⟩, e2, h⟩ := Option.bind_eq_some_iff.mp h
    split at h
    · rename_i i hi
      obtain rfl : d2 = .int i := hi
      exact tE.mk S e1 fun v H1 m1 x1 S1 r1 => tE.mk S1 e2 fun w H2 m2 x2 S2 r2 => by
        cases r2
        exact ⟨i, rfl, m2, st2, d1, d, st', S2.2, S1.2.rv x2 r1, h, q.later (x1.trans x2)⟩
    · cases h
theorem s_slB {x : Expr} {ex : E} {p2 : Pos} (ha : PE X a (tE X.K Z n ea)) (hb : PE X b (tE X.K Z n eb)) (hx : PE X x (tE X.K Z n ex)) : PE X (.Subscript a (.Slice (some b) (some x) none p2) pos) (tE X.K Z n (.slB ea eb ex)) :=
  PE_imp (pe_slice (sl_D (Tb := Z.Tb)) ha (po_some hb) (po_some hx)) fun σ H Q ⟨m, ρ, st, d, st', S, h, q⟩ => by
    obtain ⟨⟨d1, st1⟩, e1, h⟩ := Option.bind_eq_some_iff.mp h
    obtain ⟨⟨d2, st2⟩, e2, h⟩ := Option.bind_eq_some_iff.mp h
    obtain ⟨⟨d3, st3⟩, e3, h⟩ := Option.bind_eq_some_iff.mp h
    split at h
    · rename_i i j hi hj
      obtain rfl : d2 = .int i := hi
      obtain rfl : d3 = .int j := hj
      exact tE.mk S e1 fun v H1 m1 x1 S1 r1 => tE.mk S1 e2 fun w H2 m2 x2 S2 r2 => by
        cases r2
        exact ⟨i, rfl, tE.mk S2 e3 fun y H3 m3 x3 S3 r3 => by
          cases r3
          exact ⟨j, rfl, m3, st3, d1, d, st', S3.2, S1.2.rv (x2.trans x3) r1, h, q.later ((x1.trans x2).trans x3)⟩⟩
    · cases h
theorem s_slR {k : Nat} {p1 p2 p3 : Pos} (ha : PE X a (tE X.K Z n ea)) : PE X (.Subscript a (.Slice none none (some (.UnaryOp .USub (.Constant (.int 1) k p1) p2)) p3) pos) (tE X.K Z n (.slR ea)) :=
  PE_imp (pe_revL ha) fun σ H Q ⟨m, ρ, st, d, st', S, h, q⟩ => by
    obtain ⟨⟨d1, st1⟩, e1, h⟩ := Option.bind_eq_some_iff.mp h
    split at h
    · rename_i kk hk
      obtain rfl : d1 = .ref kk := hk
      obtain ⟨ds, e2, h⟩ := Option.map_eq_some_iff.mp h
      cases h
      refine tE.mk S e1 fun v H1 m1 x1 S1 r1 => ?_
      obtain ⟨a', rfl, hm⟩ := r1
      obtain ⟨a'', xs, h', h1, rr, _⟩ := S1.2.lst e2
      rw [hm] at h'; cases h'
      exact ⟨a', xs, rfl, SqL.of h1, (q.later x1).new S1.2 rr.reverse⟩
    · cases h
end
end Dz
end
section
set_option Elab.async false
set_option linter.all false
set_option maxRecDepth 100000
set_option maxHeartbeats 1000000
namespace Dz
open PySem L2 PyProof.Rows
/-! ### iterators -/
def tI (K : PySem.W.Frag) (Z : Wd) (n : Nat) (ik : Ik) (src : List E) : TI := fun σ H R => ∃ m ρ st ds st1 J k, Sx K Z σ H m ρ st ∧ evs src Z.g (Z.C n) ρ st = some (ds, st1) ∧ itD ik ds st1 = some (J, k) ∧ ∀ T H' m', Ext m H m' H' → Rp K Z.Tb H' m' st1 → RI K H' m' J T → R T H'
theorem PI_imp {X : Cx} {tg x : Expr} {t t' : TI} (h : PI X tg x t) (i : ∀ σ H R, t' σ H R → t σ H R) : PI X tg x t' := ⟨fun pins s σ H R I q => h.run pins s σ H R I (i σ H R q)⟩
section
variable {X : Cx} {tg : Expr}
/-- over a list or a tuple -/
def iOneA (K : PySem.W.Frag) (tl : TE) : TI := fun σ H R => tl σ H fun x H1 => ∃ a xs, x = .ref a ∧ ((SqL K H1 a xs ∧ R (Itl K a) H1) ∨ (SqT K H1 a xs ∧ R (Itt K a) H1))
theorem pi_oneA {l : Expr} {tl : TE} (hl : PE X l tl) : PI X tg l (iOneA X.K tl) := by
  refine ⟨fun pins s σ H R I h => ?_⟩
  refine thn (hl.run pins s σ H _ I h) fun v s1 ⟨x, H1, I1, r1, q1⟩ => ?_
  obtain ⟨a, xs, rfl, q⟩ := q1
  cases r1
  rcases q with ⟨hq, q⟩ | ⟨hq, q⟩
  · obtain ⟨its, rv, p, hz⟩ := I1.list hq
    refine wpAny_pyIter_list p.isList ?_
    refine ⟨s1.heap.objs.size, [s1.heap.objs.size], _, _, H1, rfl, I1.kept (t' := s1.toks) fun b o e => Heap.get?_push_of_some _ e, turn_list a _, ⟨_, Heap.get?_push_size _ rfl, rfl, rfl⟩, fun b hb => ?_, q⟩
    have e : b = s1.heap.objs.size := by simpa using hb
    subst e
    exact I1.fpOk (Nat.le_refl _) (I1.hok.fresh (Nat.le_refl _))
  · obtain ⟨its, rv, p, hz⟩ := I1.tuple hq
    refine wpAny_pyIter_tuple (show s1.heap.IsTuple a its.toArray from p) ?_
    refine ⟨s1.heap.objs.size, [s1.heap.objs.size], _, _, H1, rfl, I1.kept (t' := s1.toks) fun b o e => Heap.get?_push_of_some _ e, turn_tuple a _, ⟨_, Heap.get?_push_size _ rfl, rfl, rfl⟩, fun b hb => ?_, q⟩
    have e : b = s1.heap.objs.size := by simpa using hb
    subst e
    exact I1.fpOk (Nat.le_refl _) (I1.hok.fresh (Nat.le_refl _))
end
/-! what itD tells -/
section
variable {ds : List D} {st : Sto} {J : IT} {k : Nat}
theorem it_rng1 (h : itD .rng1 ds st = some (J, k)) : ∃ j, ds = [.int j] ∧ inR j = true ∧ J = .rng 0 1 j.toNat := by
  match ds, h with
  | [.int j], h =>
    have h : (if inR j then some (IT.rng 0 1 j.toNat, j.toNat) else none) = some (J, k) := h
    split at h
    · rename_i hi; cases h; exact ⟨j, rfl, hi, rfl⟩
    · cases h
  | [], h => cases h
  | .non :: _, h => cases h
  | .bl _ :: _, h => cases h
  | .str _ :: _, h => cases h
  | .tup _ :: _, h => cases h
  | .fz _ :: _, h => cases h
  | .ref _ :: _, h => cases h
  | .int _ :: _ :: _, h => cases h
theorem it_rng2 (h : itD .rng2 ds st = some (J, k)) : ∃ i j, ds = [.int i, .int j] ∧ inR i = true ∧ inR j = true ∧ J = .rng i 1 (j - i).toNat := by
  match ds, h with
  | [.int i, .int j], h =>
    have h : (if inR i && inR j then some (IT.rng i 1 (j - i).toNat, (j - i).toNat) else none) = some (J, k) := h
    split at h
    · rename_i hi; rw [Bool.and_eq_true] at hi; cases h; exact ⟨i, j, rfl, hi.1, hi.2, rfl⟩
    · cases h
  | [], h => cases h
  | .non :: _, h => cases h
  | .bl _ :: _, h => cases h
  | .str _ :: _, h => cases h
  | .tup _ :: _, h => cases h
  | .fz _ :: _, h => cases h
  | .ref _ :: _, h => cases h
  | [.int _], h => cases h
  | .int _ :: .non :: _, h => cases h
  | .int _ :: .bl _ :: _, h => cases h
  | .int _ :: .str _ :: _, h => cases h
  | .int _ :: .tup _ :: _, h => cases h
  | .int _ :: .fz _ :: _, h => cases h
  | .int _ :: .ref _ :: _, h => cases h
  | .int _ :: .int _ :: _ :: _, h => cases h
theorem it_rng3 (h : itD .rng3 ds st = some (J, k)) : ∃ i j c, ds = [.int i, .int j, .int c] ∧ (c ≠ 0 ∧ c.natAbs < 1073741824 ∧ Builtin.Range.small i j c = true ∧ 0 ≤ Builtin.Range.rangeSize i j c) ∧ J = .rng i c (Builtin.Range.rangeSize i j c).toNat := by
  match ds, h with
  | [.int i, .int j, .int c], h =>
    have h : (if c ≠ 0 ∧ c.natAbs < 1073741824 ∧ Builtin.Range.small i j c = true ∧ 0 ≤ Builtin.Range.rangeSize i j c then some (IT.rng i c (Builtin.Range.rangeSize i j c).toNat, (Builtin.Range.rangeSize i j c).toNat) else none) = some (J, k) := h
    split at h
    · rename_i hi; cases h; exact ⟨i, j, c, rfl, hi, rfl⟩
    · cases h
  | [], h => cases h
  | .non :: _, h => cases h
  | .bl _ :: _, h => cases h
  | .str _ :: _, h => cases h
  | .tup _ :: _, h => cases h
  | .fz _ :: _, h => cases h
  | .ref _ :: _, h => cases h
  | [.int _], h => cases h
  | .int _ :: .non :: _, h => cases h
  | .int _ :: .bl _ :: _, h => cases h
  | .int _ :: .str _ :: _, h => cases h
  | .int _ :: .tup _ :: _, h => cases h
  | .int _ :: .fz _ :: _, h => cases h
  | .int _ :: .ref _ :: _, h => cases h
  | [.int _, .int _], h => cases h
  | .int _ :: .int _ :: .non :: _, h => cases h
  | .int _ :: .int _ :: .bl _ :: _, h => cases h
  | .int _ :: .int _ :: .str _ :: _, h => cases h
  | .int _ :: .int _ :: .tup _ :: _, h => cases h
  | .int _ :: .int _ :: .fz _ :: _, h => cases h
  | .int _ :: .int _ :: .ref _ :: _, h => cases h
  | .int _ :: .int _ :: .int _ :: _ :: _, h => cases h
def tupJ : Ik → List D → IT
  | .one, xs => .tup xs
  | .enum, xs => .enT xs
  | _, xs => .rvT xs
def lstJ : Ik → Nat → Nat → IT
  | .one, i, _ => .lst i
  | .enum, i, _ => .enL i
  | _, i, n => .rvL i n
theorem it_seq {ik : Ik} (hk : ik = .one ∨ ik = .enum ∨ ik = .rev) (h : itD ik ds st = some (J, k)) :
    (∃ xs, ds = [.tup xs] ∧ J = tupJ ik xs) ∨ (∃ i xs, ds = [.ref i] ∧ lstOf st i = some xs ∧ J = lstJ ik i xs.length) := by
  rcases hk with rfl | rfl | rfl <;>
  · match ds, h with
    | [.tup xs], h => cases h; exact .inl ⟨xs, rfl, rfl⟩
    | [.ref i], h =>
      obtain ⟨xs, e, h⟩ := Option.map_eq_some_iff.mp h
      cases h
      exact .inr ⟨i, xs, rfl, e, rfl⟩
    | [], h => cases h
    | .non :: _, h => cases h
    | .bl _ :: _, h => cases h
    | .str _ :: _, h => cases h
    | .int _ :: _, h => cases h
    | .fz _ :: _, h => cases h
    | .tup _ :: _ :: _, h => cases h
    | .ref _ :: _ :: _, h => cases h
theorem it_zip (h : itD .zip ds st = some (J, k)) : (∃ xs ys, ds = [.tup xs, .tup ys] ∧ J = .zpT xs ys) ∨ (∃ i j xs ys, ds = [.ref i, .ref j] ∧ lstOf st i = some xs ∧ lstOf st j = some ys ∧ J = .zpL i j) := by
  match ds, h with
  | [.tup xs, .tup ys], h => cases h; exact .inl ⟨xs, ys, rfl, rfl⟩
  | [.ref i, .ref j], h =>
    obtain ⟨xs, e, h⟩ := Option.bind_eq_some_iff.mp h
    obtain ⟨ys, e2, h⟩ := Option.map_eq_some_iff.mp h
    cases h
    exact .inr ⟨i, j, xs, ys, rfl, e, e2, rfl⟩
  | [], h => cases h
  | .non :: _, h => cases h
  | .bl _ :: _, h => cases h
  | .str _ :: _, h => cases h
  | .int _ :: _, h => cases h
  | .fz _ :: _, h => cases h
  | [.tup _], h => cases h
  | .tup _ :: .non :: _, h => cases h
  | .tup _ :: .bl _ :: _, h => cases h
  | .tup _ :: .str _ :: _, h => cases h
  | .tup _ :: .int _ :: _, h => cases h
  | .tup _ :: .fz _ :: _, h => cases h
  | .tup _ :: .ref _ :: _, h => cases h
  | .tup _ :: .tup _ :: _ :: _, h => cases h
  | [.ref _], h => cases h
  | .ref _ :: .non :: _, h => cases h
  | .ref _ :: .bl _ :: _, h => cases h
  | .ref _ :: .str _ :: _, h => cases h
  | .ref _ :: .int _ :: _, h => cases h
  | .ref _ :: .fz _ :: _, h => cases h
  | .ref _ :: .tup _ :: _, h => cases h
  | .ref _ :: .ref _ :: _ :: _, h => cases h
end
section
variable {Z : Wd} {X : Cx} {n : Nat} {a b : Expr} {ea eb : E} {pos p : Pos} {es : List Expr} {el : List E} {tg : Expr}
theorem P2.two {K : PySem.W.Frag} {H : Hp} {m : List Addr} {d1 d2 : D} {vs : List V} (h : P2 (RV K H m) [d1, d2] vs) : ∃ v w, vs = [v, w] ∧ RV K H m d1 v ∧ RV K H m d2 w := by
  obtain ⟨v, _, rfl, r, t⟩ := h.cons_l
  obtain ⟨w, _, rfl, r2, t⟩ := t.cons_l
  obtain rfl := t.nil_l
  exact ⟨v, w, rfl, r, r2⟩
theorem P2.three {K : PySem.W.Frag} {H : Hp} {m : List Addr} {d1 d2 d3 : D} {vs : List V} (h : P2 (RV K H m) [d1, d2, d3] vs) : ∃ v w u, vs = [v, w, u] ∧ RV K H m d1 v ∧ RV K H m d2 w ∧ RV K H m d3 u := by
  obtain ⟨v, _, rfl, r, t⟩ := h.cons_l
  obtain ⟨w, u, rfl, r2, r3⟩ := t.two
  exact ⟨v, w, u, rfl, r, r2, r3⟩
theorem evs_one {ds : List D} {st st1 : Sto} {ρ : Env} (h : evs [ea] Z.g (Z.C n) ρ st = some (ds, st1)) : ∃ d, ds = [d] ∧ ev ea Z.g (Z.C n) ρ st = some (d, st1) := by
  obtain ⟨⟨d, st2⟩, e1, h⟩ := Option.bind_eq_some_iff.mp h
  obtain ⟨⟨ds2, st3⟩, e2, h⟩ := Option.map_eq_some_iff.mp h
  cases e2
  cases h
  exact ⟨d, rfl, e1⟩
theorem i_one (ha : PE X a (tE X.K Z n ea)) : PI X tg a (tI X.K Z n .one [ea]) :=
  PI_imp (pi_oneA ha) fun σ H R ⟨m, ρ, st, ds, st1, J, k, S, h, hj, q⟩ => by
    obtain ⟨d, rfl, e⟩ := evs_one h
    refine tE.mk S e fun v H1 m1 x1 S1 r1 => ?_
    rcases it_seq (.inl rfl) hj with ⟨ds, he, rfl⟩ | ⟨k', ds, he, e2, rfl⟩
    · cases he
      obtain ⟨a', xs, rfl, h1, rr⟩ := r1
      exact ⟨a', xs, rfl, .inr ⟨h1, q _ H1 m1 x1 S1.2 ⟨a', xs, rfl, h1, rr.p2⟩⟩⟩
    · cases he
      obtain ⟨a', rfl, hm⟩ := r1
      obtain ⟨a'', xs, h', h1, rr, _⟩ := S1.2.lst e2
      rw [hm] at h'; cases h'
      exact ⟨a', xs, rfl, .inl ⟨SqL.of h1, q _ H1 m1 x1 S1.2 ⟨a', rfl, hm⟩⟩⟩
theorem inR_iff {i : Int} (h : inR i = true) : -(2 ^ 62) ≤ i ∧ i < 2 ^ 62 := by
  unfold inR at h
  rw [Bool.and_eq_true] at h
  exact ⟨of_decide_eq_true h.1, of_decide_eq_true h.2⟩
theorem i_rng1 (G : Wk Z X n) (hg : Gl X "range") (ha : PA X [a] (tA X.K Z n el)) (hst : nst a = true) : PI X tg (.Call (.Name "range" p) [a] [] pos) (tI X.K Z n .rng1 el) :=
  PI_imp (pi_range1 hg (G.blt _ (by simp [blts])) ha (star_cons hst _ _)) fun σ H R ⟨m, ρ, st, ds, st1, J, k, S, h, hj, q⟩ => by
    refine tA.mk S h fun vs H1 m1 x1 S1 r1 => ?_
    obtain ⟨j, rfl, hi, rfl⟩ := it_rng1 hj
    obtain ⟨v, _, rfl, r, t⟩ := r1.cons_l
    obtain rfl := t.nil_l
    cases r
    have z := inR_iff hi
    exact ⟨j, rfl, z.1, z.2, q _ H1 m1 x1 S1.2 (.inr ⟨rfl, rfl⟩)⟩
theorem i_rng2 (G : Wk Z X n) (hg : Gl X "range") (ha : PA X [a, b] (tA X.K Z n el)) (hst : nst a = true) (hst2 : nst b = true) : PI X tg (.Call (.Name "range" p) [a, b] [] pos) (tI X.K Z n .rng2 el) :=
  PI_imp (pi_range2 hg (G.blt _ (by simp [blts])) ha (by rw [star_cons hst, star_cons hst2]; rfl) (star_cons hst2 _ _)) fun σ H R ⟨m, ρ, st, ds, st1, J, k, S, h, hj, q⟩ => by
    refine tA.mk S h fun vs H1 m1 x1 S1 r1 => ?_
    obtain ⟨i, j, rfl, hi, hi2, rfl⟩ := it_rng2 hj
    obtain ⟨v, w, rfl, r, r2⟩ := r1.two
    cases r
    cases r2
    have z := inR_iff hi
    have z2 := inR_iff hi2
    exact ⟨i, j, rfl, ⟨z.1, z.2, z2.1, z2.2⟩, q _ H1 m1 x1 S1.2 (.inr ⟨rfl, rfl⟩)⟩
theorem i_rng3 {x : Expr} (G : Wk Z X n) (hg : Gl X "range") (ha : PA X [a, b, x] (tA X.K Z n el)) (hst : [a, b, x].all nst = true) : PI X tg (.Call (.Name "range" p) [a, b, x] [] pos) (tI X.K Z n .rng3 el) := by
  have hst' := hst
  rw [List.all_cons, Bool.and_eq_true] at hst
  exact PI_imp (pi_range3 hg (G.blt _ (by simp [blts])) ha (star_cons hst.1 _ _) (star_plain hst.2 _ _)) fun σ H R ⟨m, ρ, st, ds, st1, J, k, S, h, hj, q⟩ => by
    refine tA.mk S h fun vs H1 m1 x1 S1 r1 => ?_
    obtain ⟨i, j, c, rfl, hi, rfl⟩ := it_rng3 hj
    obtain ⟨v, w, u, rfl, r, r2, r3⟩ := r1.three
    cases r
    cases r2
    cases r3
    exact ⟨i, j, c, _, rfl, ⟨hi.1, hi.2.1, hi.2.2.1, (Int.toNat_of_nonneg hi.2.2.2).symm⟩, q _ H1 m1 x1 S1.2 (.inl rfl)⟩
theorem i_enum {elts : List Expr} {kk : Nat} {tpos : Pos} (G : Wk Z X n) (hg : Gl X "enumerate") (ha : PA X [a] (tA X.K Z n el)) (hst : nst a = true) : PI X (.Tuple elts kk tpos) (.Call (.Name "enumerate" p) [a] [] pos) (tI X.K Z n .enum el) :=
  PI_imp (pi_enumA hg (G.blt _ (by simp [blts])) ha (star_cons hst _ _)) fun σ H R ⟨m, ρ, st, ds, st1, J, k, S, h, hj, q⟩ => by
    refine tA.mk S h fun vs H1 m1 x1 S1 r1 => ?_
    rcases it_seq (.inr (.inl rfl)) hj with ⟨ds, rfl, rfl⟩ | ⟨k', ds, rfl, e2, rfl⟩
    · obtain ⟨v, _, rfl, r, t⟩ := r1.cons_l
      obtain rfl := t.nil_l
      obtain ⟨a', xs, rfl, h1, rr⟩ := r
      exact ⟨a', xs, rfl, .inr ⟨h1, q _ H1 m1 x1 S1.2 ⟨a', xs, rfl, h1, rr.p2⟩⟩⟩
    · obtain ⟨v, _, rfl, r, t⟩ := r1.cons_l
      obtain rfl := t.nil_l
      obtain ⟨a', rfl, hm⟩ := r
      obtain ⟨a'', xs, h', h1, rr, _⟩ := S1.2.lst e2
      rw [hm] at h'; cases h'
      exact ⟨a', xs, rfl, .inl ⟨SqL.of h1, q _ H1 m1 x1 S1.2 ⟨a', rfl, hm⟩⟩⟩
theorem i_zip {elts : List Expr} {kk : Nat} {tpos : Pos} (G : Wk Z X n) (hg : Gl X "zip") (ha : PA X [a, b] (tA X.K Z n el)) (hst : nst a = true) (hst2 : nst b = true) : PI X (.Tuple elts kk tpos) (.Call (.Name "zip" p) [a, b] [] pos) (tI X.K Z n .zip el) :=
  PI_imp (RZ.pi_zipA hg (G.blt _ (by simp [blts])) ha (star_cons hst _ _) (star_plain (by rw [List.all_cons, hst2]; rfl) _ _)) fun σ H R ⟨m, ρ, st, ds, st1, J, k, S, h, hj, q⟩ => by
    refine tA.mk S h fun vs H1 m1 x1 S1 r1 => ?_
    rcases it_zip hj with ⟨ds, ds2, rfl, rfl⟩ | ⟨k1, k2, ds, ds2, rfl, e2, e3, rfl⟩
    · obtain ⟨v, w, rfl, r, r2⟩ := r1.two
      obtain ⟨a', xs, rfl, h1, rr⟩ := r
      obtain ⟨b', ys, rfl, h2, rr2⟩ := r2
      exact ⟨a', b', xs, ys, rfl, .inr ⟨h1, h2, q _ H1 m1 x1 S1.2 ⟨a', b', xs, ys, rfl, h1, rr.p2, h2, rr2.p2⟩⟩⟩
    · obtain ⟨v, w, rfl, r, r2⟩ := r1.two
      obtain ⟨a', rfl, hm⟩ := r
      obtain ⟨b', rfl, hm2⟩ := r2
      obtain ⟨a'', xs, h', h1, rr, _⟩ := S1.2.lst e2
      rw [hm] at h'; cases h'
      obtain ⟨b'', ys, h', h2, rr2, _⟩ := S1.2.lst e3
      rw [hm2] at h'; cases h'
      exact ⟨a', b', xs, ys, rfl, .inl ⟨SqL.of h1, SqL.of h2, q _ H1 m1 x1 S1.2 ⟨a', b', rfl, hm, hm2⟩⟩⟩
/-- the keys of a locked dict -/
def iKeysD (P : Program) (w : World) (td : TE) : TI := fun σ H R => td σ H fun x H1 => ∃ d o xs, x = .ref d ∧ H1 d = some (.frz o (DicO P w d xs)) ∧ R (ItkD P w d o xs) H1
theorem pi_keysD {P : Program} {w : World} {e : Expr} {td : TE} (he : PE X e td) : PI X tg e (iKeysD P w td) := by
  refine ⟨fun pins s σ H R I h => ?_⟩
  refine thn (he.run pins s σ H _ I h) fun u s1 ⟨x, H1, I1, rx, d, o, xs, ex, hd, q⟩ => ?_
  subst ex
  obtain rfl : u = Value.ref d := rx
  obtain ⟨hs, hgd, hx, es, ep, hdt, hsz, ent⟩ := frzD I1 hd
  refine iter_keys hs hgd hx hdt (pi_one (tk := s1.toks) I1 _ (turn_keysD _ hdt) ⟨_, Heap.get?_push_size _ rfl, rfl, ?_⟩ q)
  rw [hsz] <;> rfl
theorem it_dic {ds : List D} {st : Sto} {J : IT} {k : Nat} (h : itD .dic ds st = some (J, k)) : ∃ i kvs, ds = [.ref i] ∧ st[i]? = some (.dic true kvs) ∧ J = .keys (kvs.map (·.2.1)) := by
  match ds, h with
  | [.ref i], h =>
    have h : (match st[i]? with | some (.dic true kvs) => some (IT.keys (kvs.map (·.2.1)), kvs.length) | _ => none) = some (J, k) := h
    split at h
    · rename_i kvs e
      cases h
      exact ⟨i, kvs, rfl, e, rfl⟩
    · cases h
  | [], h => cases h
  | .non :: _, h => cases h
  | .bl _ :: _, h => cases h
  | .str _ :: _, h => cases h
  | .int _ :: _, h => cases h
  | .fz _ :: _, h => cases h
  | .tup _ :: _, h => cases h
  | .ref _ :: _ :: _, h => cases h
theorem P2.mapL {α β γ : Type} {R : α → β → Prop} {S : γ → β → Prop} {f : α → γ} {as : List α} {bs : List β} (h : P2 R as bs) (g : ∀ a b, R a b → S (f a) b) : P2 S (as.map f) bs := ⟨by simp [h.1], fun i c b x y => by
  rw [List.getElem?_map] at x
  obtain ⟨a, e, rfl⟩ := Option.map_eq_some_iff.mp x
  exact g a b (h.2 i a b e y)⟩
theorem i_dic (ha : PE X a (tE X.K Z n ea)) : PI X tg a (tI X.K Z n .dic [ea]) :=
  PI_imp (pi_keysD (P := Z.Tb.P) (w := Z.Tb.w) ha) fun σ H R ⟨m, ρ, st, ds, st1, J, k, S, h, hj, q⟩ => by
    obtain ⟨d, rfl, e⟩ := evs_one h
    refine tE.mk S e fun v H1 m1 x1 S1 r1 => ?_
    obtain ⟨i, kvs, he, e2, rfl⟩ := it_dic hj
    cases he
    obtain ⟨a', rfl, hm⟩ := r1
    obtain ⟨xs, o, h1, rr⟩ := S1.2.obj i a' _ hm e2
    exact ⟨a', o, xs, rfl, h1, q _ H1 m1 x1 S1.2 ⟨_, _, a', o, xs, rfl, h1, rr.mapL fun _ _ z => z.2.2.1⟩⟩
theorem i_rev (G : Wk Z X n) (hg : Gl X "reversed") (ha : PE X a (tE X.K Z n ea)) (hst : nst a = true) : PI X tg (.Call (.Name "reversed" p) [a] [] pos) (tI X.K Z n .rev [ea]) :=
  PI_imp (RT.pi_revA hg (G.blt _ (by simp [blts])) ha (star_cons hst _ _)) fun σ H R ⟨m, ρ, st, ds, st1, J, k, S, h, hj, q⟩ => by
    obtain ⟨d, rfl, e⟩ := evs_one h
    refine tE.mk S e fun v H1 m1 x1 S1 r1 => ?_
    rcases it_seq (.inr (.inr rfl)) hj with ⟨ds, he, rfl⟩ | ⟨k', ds, he, e2, rfl⟩
    · cases he
      obtain ⟨a', xs, rfl, h1, rr⟩ := r1
      exact ⟨a', xs, rfl, .inr ⟨h1, q _ H1 m1 x1 S1.2 ⟨a', xs, rfl, h1, rr.p2⟩⟩⟩
    · cases he
      obtain ⟨a', rfl, hm⟩ := r1
      obtain ⟨a'', xs, h', h1, rr, _⟩ := S1.2.lst e2
      rw [hm] at h'; cases h'
      exact ⟨a', xs, rfl, .inl ⟨SqL.of h1, q _ H1 m1 x1 S1.2 ⟨a', by rw [rr.1], hm⟩⟩⟩
end
end Dz
end
section
set_option Elab.async false
set_option linter.all false
set_option maxRecDepth 100000
set_option maxHeartbeats 1000000
namespace Dz
open PySem L2 PyProof.Rows
/-! ### targets -/
mutual
def tgI : Tg → List Nat
  | .nm i => [i]
  | .tp ts => tgIs ts
def tgIs : List Tg → List Nat
  | [] => []
  | t :: ts => tgI t ++ tgIs ts
end
theorem wipe_get (σ : L2.St) (j : Nat) : ∀ vs : List Nat, (L2.wipe σ vs)[j]? = if j ∈ vs then σ[j]?.map (fun _ => none) else σ[j]?
  | [] => by simp [L2.wipe]
  | v :: vs => by
    unfold L2.wipe
    rw [List.getElem?_set, wipe_get σ j vs, L2.wipe_length]
    by_cases h : v = j
    · subst h
      simp
      by_cases h2 : v < σ.length
      · simp [h2]
      · simp [h2]
    · rw [if_neg h]
      by_cases h2 : j ∈ vs
      · simp [h2]
      · rw [if_neg h2, if_neg (by rw [List.mem_cons, not_or]; exact ⟨fun e => h e.symm, h2⟩)]
theorem wipe_set {σ : L2.St} {i : Nat} {x : Option V} {vs : List Nat} (h : i ∈ vs) : L2.wipe (σ.set i x) vs = L2.wipe σ vs := by
  apply List.ext_getElem?
  intro j
  rw [wipe_get, wipe_get, List.getElem?_set]
  by_cases hj : i = j
  · subst hj
    simp [h]
    by_cases h2 : i < σ.length
    · simp [h2]
    · simp [h2]
  · rw [if_neg hj]
theorem wipe_twice (σ : L2.St) (vs : List Nat) : L2.wipe (L2.wipe σ vs) vs = L2.wipe σ vs := by
  apply List.ext_getElem?
  intro j
  rw [wipe_get, wipe_get]
  by_cases h : j ∈ vs
  · simp only [h, if_true]; cases σ[j]? <;> rfl
  · simp [h]
def gT (K : PySem.W.Frag) (Z : Wd) (tg : Tg) : TG := fun v σ H Q => ∃ m ρ st d ρ', Sx K Z σ H m ρ st ∧ RV K H m d v ∧ asgD tg d st ρ = some ρ' ∧ ∀ σ', RE K H m ρ' σ' → (∀ vs, (∀ i ∈ tgI tg, i ∈ vs) → L2.wipe σ' vs = L2.wipe σ vs) → Q σ' H
def gTs (K : PySem.W.Frag) (Z : Wd) (tgs : List Tg) : TGs := fun vs σ H Q => ∃ m ρ st ds ρ', Sx K Z σ H m ρ st ∧ P2 (RV K H m) ds vs ∧ asgDs tgs ds st ρ = some ρ' ∧ ∀ σ', RE K H m ρ' σ' → (∀ vs, (∀ i ∈ tgIs tgs, i ∈ vs) → L2.wipe σ' vs = L2.wipe σ vs) → Q σ' H
theorem PG_imp {X : Cx} {x : Expr} {t t' : TG} (h : PG X x t) (i : ∀ v σ H Q, t' v σ H Q → t v σ H Q) : PG X x t' := ⟨fun pins s σ H v u Q I r q => h.run pins s σ H v u Q I r (i v σ H Q q)⟩
theorem PGs_imp {X : Cx} {x : List Expr} {t t' : TGs} (h : PGs X x t) (i : ∀ v σ H Q, t' v σ H Q → t v σ H Q) : PGs X x t' := ⟨fun pins s σ H v u Q I r q => h.run pins s σ H v u Q I r (i v σ H Q q)⟩
theorem asg_cons {e : Expr} (h : nst e = true) (es : List Expr) (env : PySem.Env) : assignEach (e :: es) env = (false, assign e env) :: assignEach es env := by
  cases e <;> first | rfl | cases h
theorem asg_len : ∀ {es : List Expr} (h : es.all nst = true) (env : PySem.Env), (assignEach es env).length = es.length ∧ (assignEach es env).findIdx? (·.1) = none
  | [], _, _ => ⟨rfl, rfl⟩
  | e :: es, h, env => by
    rw [List.all_cons, Bool.and_eq_true] at h
    rw [asg_cons h.1]
    have ih := asg_len h.2 env
    refine ⟨by simp [ih.1], ?_⟩
    rw [List.findIdx?_cons, ih.2]
    rfl
section
variable {Z : Wd} {X : Cx} {n : Nat} {pos p : Pos}
theorem g_nm {i : Nat} {x : Str} (hN : X.N.Nodup) (hi : X.N[i]? = some x) (hx : Loc X.env.scope x) (hf : X.fn x = true ∨ X.env.scope.names.lookup x = some .local) : PG X (.Name x pos) (gT X.K Z (.nm i)) :=
  PG_imp (pg_name hN hi hx hf) fun v σ H Q ⟨m, ρ, st, d, ρ', S, r, e, q⟩ => by
    have e : (if i < ρ.length then some (ρ.set i (some d)) else none) = some ρ' := e
    split at e
    · cases e
      exact q _ (S.1.set r i) fun vs h => wipe_set (h i (by simp [tgI]))
    · cases e
theorem g_nil : PGs X [] (gTs X.K Z []) := PGs_imp pgs_nil fun v σ H Q ⟨m, ρ, st, ds, ρ', S, r, e, q⟩ => by
  cases ds with
  | nil => cases e; exact ⟨r.nil_l, q _ S.1 fun vs h => rfl⟩
  | cons => cases e
theorem g_cons {e : Expr} {es : List Expr} {t : Tg} {ts : List Tg} (h1 : PG X e (gT X.K Z t)) (h2 : PGs X es (gTs X.K Z ts)) (hst : nst e = true) : PGs X (e :: es) (gTs X.K Z (t :: ts)) :=
  PGs_imp (pgs_cons h1 h2 (by rw [asg_cons hst]; rfl)) fun v σ H Q ⟨m, ρ, st, ds, ρ', S, r, e, q⟩ => by
    cases ds with
    | nil => cases e
    | cons d ds =>
      obtain ⟨ρ1, e1, e2⟩ := Option.bind_eq_some_iff.mp e
      obtain ⟨v1, vs, rfl, r1, rr⟩ := r.cons_l
      refine ⟨v1, vs, rfl, m, ρ, st, d, ρ1, S, r1, e1, fun σ1 E1 w1 => ⟨m, ρ1, st, ds, ρ', ⟨E1, S.2⟩, rr, e2, fun σ2 E2 w2 => q σ2 E2 fun vs hv => ?_⟩⟩
      rw [w2 vs fun i hi => hv i (by simp [tgIs, hi]), w1 vs fun i hi => hv i (by simp [tgIs, hi])]
theorem asgDs_len : ∀ {ts : List Tg} {ds : List D} {st : Sto} {ρ ρ' : Env}, asgDs ts ds st ρ = some ρ' → ts.length = ds.length
  | [], [], _, _, _, _ => rfl
  | t :: ts, d :: ds, st, ρ, ρ', e => by
    obtain ⟨ρ1, e1, e2⟩ := Option.bind_eq_some_iff.mp e
    rw [List.length_cons, List.length_cons, asgDs_len e2]
  | [], d :: ds, _, _, _, e => by cases e
  | t :: ts, [], _, _, _, e => by cases e
theorem g_tp {es : List Expr} {k : Nat} {ts : List Tg} (hc : X.calm = true) (h : PGs X es (gTs X.K Z ts)) (hst : es.all nst = true) (hl : es.length = ts.length) : PG X (.Tuple es k pos) (gT X.K Z (.tp ts)) :=
  PG_imp (pg_tupA (n := es.length) hc h (asg_len hst _).1 (asg_len hst _).2) fun v σ H Q ⟨m, ρ, st, d, ρ', S, r, e, q⟩ => by
    cases d with
    | tup ds =>
      have e : asgDs ts ds st ρ = some ρ' := e
      obtain ⟨a, xs, rfl, h1, rr⟩ := r
      exact ⟨a, xs, rfl, .inl h1, by rw [← rr.p2.1, hl, asgDs_len e], m, ρ, st, ds, ρ', S, rr.p2, e, fun σ' E' w => q σ' E' w⟩
    | ref kk =>
      obtain ⟨ds, e1, e⟩ := Option.bind_eq_some_iff.mp e
      obtain ⟨a, rfl, hm⟩ := r
      obtain ⟨a', xs, h', h1, rr, _⟩ := S.2.lst e1
      rw [hm] at h'; cases h'
      exact ⟨a, xs, rfl, .inr (SqL.of h1), by rw [← rr.1, hl, asgDs_len e], m, ρ, st, ds, ρ', S, rr, e, fun σ' E' w => q σ' E' w⟩
    | _ => cases e
end
/-! ### a list that is no object of the store yet -/
section
variable {K : PySem.W.Frag} {Tb : TBl} {H H' : Hp} {m m' : List Addr} {st st' : Sto} {A : Addr} {xs ys : List V}
theorem sqT_off (hD : H A = some (.lst xs)) (a : Addr) (zs : List V) (h : SqT K H a zs) : SqT K (upd H A (.lst ys)) a zs := by
  rcases h with (h | ⟨o, h⟩) | h
  · exact .inl (.inl (by rw [upd_ne (fun z => by subst z; rw [hD] at h; cases h)]; exact h))
  · exact .inl (.inr ⟨o, by rw [upd_ne (fun z => by subst z; rw [hD] at h; cases h)]; exact h⟩)
  · exact .inr h
theorem sqF_off (hD : H A = some (.lst xs)) (a : Addr) (zs : List V) (h : SqF K H a zs) : SqF K (upd H A (.lst ys)) a zs := by
  rcases h with ⟨o, h⟩ | h
  · exact .inl ⟨o, by rw [upd_ne (fun z => by subst z; rw [hD] at h; cases h)]; exact h⟩
  · exact .inr h
theorem rv_off (hD : H A = some (.lst xs)) {d : D} {v : V} (r : RV K H m d v) : RV K (upd H A (.lst ys)) m d v := RV.ext (sqT_off hD) (sqF_off hD) (fun _ _ e => e) d r
theorem RI.off (hD : H A = some (.lst xs)) {J : IT} {T : It} (h : RI K H m J T) : RI K (upd H A (.lst ys)) m J T := by
  cases J with
  | tup ds => obtain ⟨a, zs, e, s, r⟩ := h; exact ⟨a, zs, e, sqT_off hD a zs s, r.mono fun _ _ r => rv_off hD r⟩
  | lst k => exact h
  | rng => exact h
  | enT ds => obtain ⟨a, zs, e, s, r⟩ := h; exact ⟨a, zs, e, sqT_off hD a zs s, r.mono fun _ _ r => rv_off hD r⟩
  | enL k => exact h
  | zpT as bs => obtain ⟨a, b, zs, ws, e, s, r, s2, r2⟩ := h; exact ⟨a, b, zs, ws, e, sqT_off hD a zs s, r.mono fun _ _ r => rv_off hD r, sqT_off hD b ws s2, r2.mono fun _ _ r => rv_off hD r⟩
  | zpL k j => exact h
  | rvT ds => obtain ⟨a, zs, e, s, r⟩ := h; exact ⟨a, zs, e, sqT_off hD a zs s, r.mono fun _ _ r => rv_off hD r⟩
  | rvL k n => exact h
  | keys ds => obtain ⟨P, w, a, o, zs, e, q, r⟩ := h; exact ⟨P, w, a, o, zs, e, by rw [upd_ne (fun z => by subst z; rw [hD] at q; cases q)]; exact q, r.mono fun _ _ r => rv_off hD r⟩
theorem Rp.off (R : Rp K Tb H m st) (hD : H A = some (.lst xs)) (hm : A ∉ m) : Rp K Tb (upd H A (.lst ys)) m st :=
  ⟨R.len, R.nd, fun k a o e1 e2 => by
    have z := R.obj k a o e1 e2
    have ne : a ≠ A := fun z => hm (z ▸ List.mem_of_getElem? e1)
    exact z.imp (fun r => rv_off hD r) (upd_ne ne), fun P hP => tab_upd (fun ps z => by rw [hD] at z; cases z) (R.tab P hP)⟩
theorem Ext.off (x : Ext m H m' H') (hD : H A = none) : Ext m H m' (upd H' A (.lst ys)) :=
  ⟨x.new, fun b u e h1 h2 => by rw [upd_ne (ne_of_none e hD)]; exact x.keep b u e h1 h2, fun b e => upd_some (x.stay b e), fun b o u e => by rw [upd_ne (ne_of_none e hD)]; exact x.frz b o u e⟩
theorem Ext.notin (x : Ext m H m' H') (hD : H A ≠ none) (hm : A ∉ m) : A ∉ m' := fun h => by
  obtain ⟨n, rfl, hn⟩ := x.new
  rcases List.mem_append.mp h with h | h
  · exact hm h
  · exact hD (hn A h)
/-- the list becomes an object of the store -/
theorem Rp.adopt (R : Rp K Tb H m st) (hD : H A = some (.lst xs)) (hm : A ∉ m) {ds : List D} (r : P2 (RV K H m) ds xs) : Rp K Tb H (m ++ [A]) (st ++ [.lst ds]) := by
  have up : ∀ {d v}, RV K H m d v → RV K H (m ++ [A]) d v := fun {d v} r => RV.ext (fun _ _ h => h) (fun _ _ h => h) (fun k a e => by
    obtain ⟨hi, _⟩ := List.getElem?_eq_some_iff.mp e
    rw [List.getElem?_append_left hi]; exact e) d r
  refine ⟨by simp [R.len], ?_, fun k a o e1 e2 => ?_, R.tab⟩
  · rw [List.nodup_append]
    refine ⟨R.nd, by simp, fun a ha b hb => ?_⟩
    simp at hb
    subst hb
    exact fun e => hm (e ▸ ha)
  · by_cases hk : k < m.length
    · rw [List.getElem?_append_left hk] at e1
      rw [List.getElem?_append_left (by rw [← R.len]; exact hk)] at e2
      exact (R.obj k a o e1 e2).imp (fun r => up r) rfl
    · rw [List.getElem?_append_right (by omega)] at e1
      rw [List.getElem?_append_right (by rw [← R.len]; omega), ← R.len] at e2
      cases hz : k - m.length with
      | zero =>
        rw [hz] at e1 e2
        cases e1
        cases e2
        exact ⟨xs, hD, r.mono fun _ _ r => up r⟩
      | succ j => rw [hz] at e1; simp at e1
theorem Ext.adopt (x : Ext m H m' H') (hD : H A = none) : Ext m H (m' ++ [A]) H' := by
  obtain ⟨n, rfl, hn⟩ := x.new
  refine ⟨⟨n ++ [A], by simp, fun b hb => ?_⟩, x.keep, x.stay, x.frz⟩
  rcases List.mem_append.mp hb with h | h
  · exact hn b h
  · simp at h; subst h; exact hD
theorem Ext.none_of (x : Ext m H m' H') (h : H' A = none) : H A = none := by
  cases q : H A with
  | none => rfl
  | some u => exact absurd h (x.stay A (by rw [q]; simp))
end
/-! ### comprehensions -/
section
variable {Z : Wd} {X : Cx} {n : Nat} {K : PySem.W.Frag}
/-- a turn's body -/
def bodyC (Z : Wd) (n : Nat) (ρ : Env) (tg : Tg) (cnd : List T) (elt : E) (own : List Nat) : D → Sto → Option (Option D × Sto) := fun x s =>
  (asgD tg x s (wipeD ρ own)).bind fun ρ1 => (evTA cnd Z.g (Z.C n) ρ1 s).bind fun c => if c.1 then (ev elt Z.g (Z.C n) ρ1 c.2).map fun y => (some y.1, y.2) else some (none, c.2)
theorem lc_read {ik : Ik} {src : List E} {tg : Tg} {cnd : List T} {elt : E} {own : List Nat} (htg : ∀ i ∈ tgI tg, i ∈ own) {σ : L2.St} {H : Hp} {Q : VK} (h : tE K Z n (.lc ik src tg cnd elt own) σ H Q) :
    tLc (tI K Z n ik src) (gT K Z tg) (tTA K Z n cnd) (tE K Z n elt) own σ H Q := by
  obtain ⟨m, ρ, st, d, st', S, h, q⟩ := h
  obtain ⟨⟨ds, st1⟩, e1, h⟩ := Option.bind_eq_some_iff.mp h
  obtain ⟨⟨J, k⟩, e2, h⟩ := Option.bind_eq_some_iff.mp h
  obtain ⟨⟨acc, st2⟩, e3, h⟩ := Option.map_eq_some_iff.mp h
  cases h
  refine ⟨m, ρ, st, ds, st1, J, k, S, e1, e2, fun T H1 m1 x1 R1 rJ A hA => ?_⟩
  have S1 : Sx K Z σ H1 m1 ρ st1 := S.go x1 R1
  have e3 : loopC J (bodyC Z n ρ tg cnd elt own) k 0 [] st1 = some (acc, st2) := e3
  refine ⟨fun i μ H' => ∃ m' s' ac xs, Ext m1 H1 m' H' ∧ Rp K Z.Tb H' m' s' ∧ A ∉ m' ∧ H' A = some (.lst xs) ∧ P2 (RV K H' m') ac xs ∧ loopC J (bodyC Z n ρ tg cnd elt own) μ i ac s' = some (acc, st2),
    ⟨k, m1, st1, [], [], ext_laid hA, R1.laid hA, R1.fresh hA, upd_same, P2.nil, e3⟩, ?_⟩
  rintro i μ H' ⟨m', s', ac, xs, x2, R2, hm, hl, rac, e⟩
  have rJ' := rJ.ext R1 x2
  cases μ with
  | zero =>
    have e : (if stD J i s' then some (ac, s') else none) = some (acc, st2) := e
    split at e
    · rename_i hs
      cases e
      refine .inl ⟨rJ'.stop R2 hs, q _ H' (m' ++ [A]) ((x1.trans x2).adopt (x1.none_of hA)) (R2.adopt hl hm rac) ⟨A, rfl, by rw [← R2.len]; simp⟩⟩
    · cases e
  | succ r =>
    obtain ⟨x, ex, e⟩ := Option.bind_eq_some_iff.mp e
    obtain ⟨⟨o, s3⟩, eb, e⟩ := Option.bind_eq_some_iff.mp e
    obtain ⟨ρ1, ea, eb⟩ := Option.bind_eq_some_iff.mp eb
    obtain ⟨⟨c, s4⟩, ec, eb⟩ := Option.bind_eq_some_iff.mp eb
    refine .inr ⟨rJ'.go R2 ex, _, fun H'' w => ⟨r, Nat.lt_succ_self r, w⟩, fun v H3 y => ?_⟩
    obtain ⟨x3, R3, rv⟩ := rJ'.yld R2 ex y
    have S3 : Sx K Z (L2.wipe σ own) H3 m' (wipeD ρ own) s' := ⟨(S1.1.ext R1 (x2.trans x3)).wipe own, R3⟩
    refine ⟨m', _, s', x, ρ1, S3, rv, ea, fun σ2 E2 w2 => ⟨by rw [w2 own htg, wipe_twice], ?_⟩⟩
    have hl3 : H3 A = some (.lst xs) := x3.keep A _ hl hm trivial
    refine tTo.mk ⟨E2, R3⟩ ec fun H4 m4 x4 S4 => ?_
    have hl4 : H4 A = some (.lst xs) := x4.keep A _ hl3 hm trivial
    have hm4 : A ∉ m4 := x4.notin (by rw [hl3]; simp) hm
    cases c with
    | true =>
      rw [if_pos rfl]
      obtain ⟨⟨y1, s5⟩, ey, eb⟩ := Option.map_eq_some_iff.mp (show (ev elt Z.g (Z.C n) ρ1 s4).map _ = some (o, s3) from eb)
      cases eb
      have e : (if ac.length < sizeLine then loopC J (bodyC Z n ρ tg cnd elt own) r (i + 1) (ac ++ [y1]) s5 else none) = some (acc, st2) := e
      split at e
      · rename_i hz
        refine tE.mk S4 ey fun w H5 m5 x5 S5 rw5 => ?_
        have hl5 : H5 A = some (.lst xs) := x5.keep A _ hl4 hm4 trivial
        have hm5 : A ∉ m5 := x5.notin (by rw [hl4]; simp) hm4
        have rac5 := S4.2.rvs x5 (S3.2.rvs x4 (R2.rvs x3 rac))
        refine ⟨xs, hl5, by rw [← rac.1]; exact hz, m5, s5, ac ++ [y1], xs ++ [w], ((((x2.trans x3).trans x4).trans x5)).off hA, S5.2.off hl5 hm5, hm5, upd_same, ?_, e⟩
        exact (rac5.append (P2.one rw5)).mono fun _ _ r => rv_off hl5 r
      · cases e
    | false =>
      rw [if_neg Bool.false_ne_true]
      cases eb
      exact ⟨m4, _, ac, xs, (x2.trans x3).trans x4, S4.2, hm4, hl4, S3.2.rvs x4 (R2.rvs x3 rac), e⟩
theorem lc2_read {ik ik1 : Ik} {src src1 : List E} {tg tg1 : Tg} {cnd cnd1 : List T} {elt : E} {own own1 : List Nat} (htg : ∀ i ∈ tgI tg, i ∈ own) (htg1 : ∀ i ∈ tgI tg1, i ∈ own1) {σ : L2.St} {H : Hp} {Q : VK} (h : tE K Z n (.lc2 ik src tg cnd ik1 src1 tg1 cnd1 elt own own1) σ H Q) :
    tLc2 (tI K Z n ik src) (gT K Z tg) (tTA K Z n cnd) (tI K Z n ik1 src1) (gT K Z tg1) (tTA K Z n cnd1) (tE K Z n elt) own own1 σ H Q := by
  obtain ⟨m, ρ, st, d, st', S, h, q⟩ := h
  obtain ⟨⟨ds, st1⟩, e1, h⟩ := Option.bind_eq_some_iff.mp h
  obtain ⟨⟨J, k⟩, e2, h⟩ := Option.bind_eq_some_iff.mp h
  obtain ⟨⟨acc, st2⟩, e3, h⟩ := Option.map_eq_some_iff.mp h
  cases h
  refine ⟨m, ρ, st, ds, st1, J, k, S, e1, e2, fun T H1 m1 x1 R1 rJ A hA => ?_⟩
  have S1 : Sx K Z σ H1 m1 ρ st1 := S.go x1 R1
  generalize hB : (fun (x : D) (acc : List D) (s : Sto) => (asgD tg x s (wipeD ρ own)).bind fun ρ1 => (evTA cnd Z.g (Z.C n) ρ1 s).bind fun c => if c.1 then
          (evs src1 Z.g (Z.C n) ρ1 c.2).bind fun r1 => (itD ik1 r1.1 r1.2).bind fun J1 =>
            loopC J1.1 (bodyC Z n ρ1 tg1 cnd1 elt own1) J1.2 0 acc r1.2
        else some (acc, c.2)) = B
  have e3 : loopC2 J B k 0 [] st1 = some (acc, st2) := by rw [← hB]; exact e3
  refine ⟨fun i μ H' => ∃ m' s' ac xs, Ext m1 H1 m' H' ∧ Rp K Z.Tb H' m' s' ∧ A ∉ m' ∧ H' A = some (.lst xs) ∧ P2 (RV K H' m') ac xs ∧ loopC2 J B μ i ac s' = some (acc, st2),
    ⟨k, m1, st1, [], [], ext_laid hA, R1.laid hA, R1.fresh hA, upd_same, P2.nil, e3⟩, ?_⟩
  rintro i μ H' ⟨m', s', ac, xs, x2, R2, hm, hl, rac, e⟩
  have rJ' := rJ.ext R1 x2
  cases μ with
  | zero =>
    have e : (if stD J i s' then some (ac, s') else none) = some (acc, st2) := e
    split at e
    · rename_i hs
      cases e
      refine .inl ⟨rJ'.stop R2 hs, q _ H' (m' ++ [A]) ((x1.trans x2).adopt (x1.none_of hA)) (R2.adopt hl hm rac) ⟨A, rfl, by rw [← R2.len]; simp⟩⟩
    · cases e
  | succ r =>
    obtain ⟨x, ex, e⟩ := Option.bind_eq_some_iff.mp e
    obtain ⟨⟨ac', s3⟩, eb, e⟩ := Option.bind_eq_some_iff.mp e
    rw [← hB] at eb
    obtain ⟨ρ1, ea, eb⟩ := Option.bind_eq_some_iff.mp eb
    obtain ⟨⟨c, s4⟩, ec, eb⟩ := Option.bind_eq_some_iff.mp eb
    refine .inr ⟨rJ'.go R2 ex, _, fun H'' w => ⟨r, Nat.lt_succ_self r, w⟩, fun v H3 y => ?_⟩
    obtain ⟨x3, R3, rv⟩ := rJ'.yld R2 ex y
    have S3 : Sx K Z (L2.wipe σ own) H3 m' (wipeD ρ own) s' := ⟨(S1.1.ext R1 (x2.trans x3)).wipe own, R3⟩
    refine ⟨m', _, s', x, ρ1, S3, rv, ea, fun σ2 E2 w2 => ⟨by rw [w2 own htg, wipe_twice], ?_⟩⟩
    have hl3 : H3 A = some (.lst xs) := x3.keep A _ hl hm trivial
    refine tTo.mk ⟨E2, R3⟩ ec fun H4 m4 x4 S4 => ?_
    have hl4 : H4 A = some (.lst xs) := x4.keep A _ hl3 hm trivial
    have hm4 : A ∉ m4 := x4.notin (by rw [hl3]; simp) hm
    cases c with
    | true =>
      rw [if_pos rfl]
      obtain ⟨⟨ds1, s5⟩, e5, eb⟩ := Option.bind_eq_some_iff.mp (show (evs src1 Z.g (Z.C n) ρ1 s4).bind _ = some (ac', s3) from eb)
      obtain ⟨⟨J1, k1⟩, e6, eb⟩ := Option.bind_eq_some_iff.mp eb
      refine ⟨m4, ρ1, s4, ds1, s5, J1, k1, S4, e5, e6, fun T1 H5 m5 x5 R5 rJ1 => ?_⟩
      have S5 : Sx K Z σ2 H5 m5 ρ1 s5 := S4.go x5 R5
      have hl5 : H5 A = some (.lst xs) := x5.keep A _ hl4 hm4 trivial
      have hm5 : A ∉ m5 := x5.notin (by rw [hl4]; simp) hm4
      have rac5 := S4.2.rvs x5 (S3.2.rvs x4 (R2.rvs x3 rac))
      refine ⟨fun j μ H' => ∃ m' s' ac xs, Ext m1 H1 m' H' ∧ RE K H' m' ρ1 σ2 ∧ RI K H' m' J1 T1 ∧ Rp K Z.Tb H' m' s' ∧ A ∉ m' ∧ H' A = some (.lst xs) ∧ P2 (RV K H' m') ac xs ∧ loopC J1 (bodyC Z n ρ1 tg1 cnd1 elt own1) μ j ac s' = some (ac', s3),
        ⟨k1, m5, s5, ac, xs, ((x2.trans x3).trans x4).trans x5, S5.1, rJ1, S5.2, hm5, hl5, rac5, eb⟩, ?_⟩
      rintro j ν H6 ⟨m6, s6, ac6, xs6, x6, E6, rJ6, R6, hm6, hl6, rac6, e7⟩
      cases ν with
      | zero =>
        have e7 : (if stD J1 j s6 then some (ac6, s6) else none) = some (ac', s3) := e7
        split at e7
        · rename_i hs
          cases e7
          exact .inl ⟨rJ6.stop R6 hs, m6, _, _, xs6, x6, R6, hm6, hl6, rac6, e⟩
        · cases e7
      | succ r1 =>
        obtain ⟨z, ez, e7⟩ := Option.bind_eq_some_iff.mp e7
        obtain ⟨⟨o, s7⟩, eb, e7⟩ := Option.bind_eq_some_iff.mp e7
        obtain ⟨ρ2, ea2, eb⟩ := Option.bind_eq_some_iff.mp eb
        obtain ⟨⟨c2, s8⟩, ec2, eb⟩ := Option.bind_eq_some_iff.mp eb
        refine .inr ⟨rJ6.go R6 ez, _, fun H'' w => ⟨r1, Nat.lt_succ_self r1, w⟩, fun v7 H7 y7 => ?_⟩
        obtain ⟨x7, R7, rv7⟩ := rJ6.yld R6 ez y7
        have S7 : Sx K Z (L2.wipe σ2 own1) H7 m6 (wipeD ρ1 own1) s6 := ⟨(E6.ext R6 x7).wipe own1, R7⟩
        refine ⟨m6, _, s6, z, ρ2, S7, rv7, ea2, fun σ3 E3 w3 => ⟨by rw [w3 own1 htg1, wipe_twice], ?_⟩⟩
        have hl7 : H7 A = some (.lst xs6) := x7.keep A _ hl6 hm6 trivial
        refine tTo.mk ⟨E3, R7⟩ ec2 fun H8 m8 x8 S8 => ?_
        have hl8 : H8 A = some (.lst xs6) := x8.keep A _ hl7 hm6 trivial
        have hm8 : A ∉ m8 := x8.notin (by rw [hl7]; simp) hm6
        cases c2 with
        | true =>
          rw [if_pos rfl]
          obtain ⟨⟨y1, s9⟩, ey, eb⟩ := Option.map_eq_some_iff.mp (show (ev elt Z.g (Z.C n) ρ2 s8).map _ = some (o, s7) from eb)
          cases eb
          have e7 : (if ac6.length < sizeLine then loopC J1 (bodyC Z n ρ1 tg1 cnd1 elt own1) r1 (j + 1) (ac6 ++ [y1]) s9 else none) = some (ac', s3) := e7
          split at e7
          · rename_i hz
            refine tE.mk S8 ey fun w H9 m9 x9 S9 rw9 => ?_
            have hl9 : H9 A = some (.lst xs6) := x9.keep A _ hl8 hm8 trivial
            have hm9 : A ∉ m9 := x9.notin (by rw [hl8]; simp) hm8
            have rac9 := S8.2.rvs x9 (S7.2.rvs x8 (R6.rvs x7 rac6))
            have E9 := E6.ext R6 ((x7.trans x8).trans x9)
            have J9 := rJ6.ext R6 ((x7.trans x8).trans x9)
            refine ⟨xs6, hl9, by rw [← rac6.1]; exact hz, m9, s9, ac6 ++ [y1], xs6 ++ [w], (((x6.trans x7).trans x8).trans x9).off hA, ?_, ?_, S9.2.off hl9 hm9, hm9, upd_same, ?_, e7⟩
            · exact ⟨E9.len, fun i d e => by obtain ⟨v, e1, r⟩ := E9.at_ i d e; exact ⟨v, e1, rv_off hl9 r⟩⟩
            · exact RI.off hl9 J9
            · exact (rac9.append (P2.one rw9)).mono fun _ _ r => rv_off hl9 r
          · cases e7
        | false =>
          rw [if_neg Bool.false_ne_true]
          cases eb
          exact ⟨m8, _, ac6, xs6, (x6.trans x7).trans x8, E6.ext R6 (x7.trans x8), rJ6.ext R6 (x7.trans x8), S8.2, hm8, hl8, S7.2.rvs x8 (R6.rvs x7 rac6), e7⟩
    | false =>
      rw [if_neg Bool.false_ne_true]
      cases eb
      exact ⟨m4, _, _, xs, (x2.trans x3).trans x4, S4.2, hm4, hl4, S3.2.rvs x4 (R2.rvs x3 rac), e⟩
end
end Dz
end
section
set_option Elab.async false
set_option linter.all false
set_option maxRecDepth 100000
set_option maxHeartbeats 1000000
namespace Dz
open PySem L2 PyProof.Rows
/-! ### statements -/
def Fin (K : PySem.W.Frag) (Z : Wd) (D : Ends) (m : List Addr) (H : Hp) (ρ : Env) (st : Sto) : Fl → Prop
  | .nx => ∀ σ' H' m', Ext m H m' H' → Sx K Z σ' H' m' ρ st → D.nx σ' H'
  | .bk => ∀ σ' H' m', Ext m H m' H' → Sx K Z σ' H' m' ρ st → D.bk σ' H'
  | .ct => ∀ σ' H' m', Ext m H m' H' → Sx K Z σ' H' m' ρ st → D.ct σ' H'
  | .rt d => ∀ v H' m', Ext m H m' H' → Rp K Z.Tb H' m' st → RV K H' m' d v → D.rt v H'
def tSo (K : PySem.W.Frag) (Z : Wd) (f : Env → Sto → Option (Fl × Env × Sto)) : TS := fun D σ H => ∃ m ρ st fl ρ' st', Sx K Z σ H m ρ st ∧ f ρ st = some (fl, ρ', st') ∧ Fin K Z D m H ρ' st' fl
abbrev tS (K : PySem.W.Frag) (Z : Wd) (n : Nat) (s : S) : TS := tSo K Z fun ρ st => ex s Z.g (Z.C n) ρ st
abbrev tSs (K : PySem.W.Frag) (Z : Wd) (n : Nat) (s : List S) : TS := tSo K Z fun ρ st => exs s Z.g (Z.C n) ρ st
theorem PS_imp {X : Cx} {x : Stmt} {t t' : TS} (h : PS X x t) (i : ∀ D σ H, t' D σ H → t D σ H) : PS X x t' := ⟨fun pins s σ H D I q => h.run pins s σ H D I (i D σ H q)⟩
theorem PSs_imp {X : Cx} {x : List Stmt} {t t' : TS} (h : PSs X x t) (i : ∀ D σ H, t' D σ H → t D σ H) : PSs X x t' := ⟨fun pins s σ H D I q => h.run pins s σ H D I (i D σ H q)⟩
section
variable {K : PySem.W.Frag} {Z : Wd} {D : Ends} {m m' : List Addr} {H H' : Hp} {ρ : Env} {st : Sto} {fl : Fl}
theorem Fin.later (h : Fin K Z D m H ρ st fl) (x : Ext m H m' H') : Fin K Z D m' H' ρ st fl := by
  cases fl with
  | nx => exact fun σ' H2 m2 y S => h σ' H2 m2 (x.trans y) S
  | bk => exact fun σ' H2 m2 y S => h σ' H2 m2 (x.trans y) S
  | ct => exact fun σ' H2 m2 y S => h σ' H2 m2 (x.trans y) S
  | rt d => exact fun v H2 m2 y R r => h v H2 m2 (x.trans y) R r
end
section
variable {Z : Wd} {X : Cx} {n : Nat} {a b : Expr} {ea eb : E} {pos p : Pos} {es : List Expr} {el : List E} {tg : Expr}
theorem ss_nil : PSs X [] (tSs X.K Z n []) := PSs_imp pss_nil fun D σ H ⟨m, ρ, st, fl, ρ', st', S, h, q⟩ => by
  cases h
  exact q σ H m Ext.refl S
theorem ss_cons {x : Stmt} {xs : List Stmt} {s : S} {ss : List S} (h1 : PS X x (tS X.K Z n s)) (h2 : PSs X xs (tSs X.K Z n ss)) : PSs X (x :: xs) (tSs X.K Z n (s :: ss)) :=
  PSs_imp (pss_cons h1 h2) fun D σ H ⟨m, ρ, st, fl, ρ', st', S, h, q⟩ => by
    obtain ⟨⟨f1, ρ1, st1⟩, e1, h⟩ := Option.bind_eq_some_iff.mp h
    refine ⟨m, ρ, st, f1, ρ1, st1, S, e1, ?_⟩
    cases f1 with
    | nx => exact fun σ' H' m' x S' => ⟨m', ρ1, st1, fl, ρ', st', S', h, q.later x⟩
    | bk => cases h; exact q
    | ct => cases h; exact q
    | rt d => cases h; exact q
theorem st_pass : PS X (.Pass pos) (tS X.K Z n .pass) := PS_imp ps_pass fun D σ H ⟨m, ρ, st, fl, ρ', st', S, h, q⟩ => by cases h; exact q σ H m Ext.refl S
theorem st_brk : PS X (.Break pos) (tS X.K Z n .brk) := PS_imp ps_break fun D σ H ⟨m, ρ, st, fl, ρ', st', S, h, q⟩ => by cases h; exact q σ H m Ext.refl S
theorem st_cnt : PS X (.Continue pos) (tS X.K Z n .cnt) := PS_imp ps_continue fun D σ H ⟨m, ρ, st, fl, ρ', st', S, h, q⟩ => by cases h; exact q σ H m Ext.refl S
theorem st_doc {x : Str} {j : Nat} {p2 : Pos} : PS X (.Expr (.Constant (.str x) j pos) p2) (tS X.K Z n .pass) := PS_imp ps_doc fun D σ H ⟨m, ρ, st, fl, ρ', st', S, h, q⟩ => by cases h; exact q σ H m Ext.refl S
theorem st_retN : PS X (.Return none pos) (tS X.K Z n .retN) := PS_imp ps_retN fun D σ H ⟨m, ρ, st, fl, ρ', st', S, h, q⟩ => by cases h; exact q .non H m Ext.refl S.2 rfl
theorem st_ret (ha : PE X a (tE X.K Z n ea)) : PS X (.Return (some a) pos) (tS X.K Z n (.ret ea)) := PS_imp (ps_ret ha) fun D σ H ⟨m, ρ, st, fl, ρ', st', S, h, q⟩ => by
  obtain ⟨⟨d, st1⟩, e1, h⟩ := Option.map_eq_some_iff.mp h
  cases h
  exact tE.mk S e1 fun v H1 m1 x1 S1 r1 => q v H1 m1 x1 S1.2 r1
def ncomp : Expr → Bool
  | .ListComp .. => false
  | .SetComp .. => false
  | .DictComp .. => false
  | _ => true
theorem ncomp_sw {e : Expr} (h : ncomp e = true) (t : Option Expr) (l : Nat) (env : PySem.Env) : swapsWith e t l env = pure false := by
  cases e <;> first | rfl | cases h
theorem st_expr (ha : PE X a (tE X.K Z n ea)) (hc : ncomp a = true) : PS X (.Expr a pos) (tS X.K Z n (.expr ea)) := PS_imp (ps_expr ha (ncomp_sw hc _ _ _)) fun D σ H ⟨m, ρ, st, fl, ρ', st', S, h, q⟩ => by
  obtain ⟨⟨d, st1⟩, e1, h⟩ := Option.map_eq_some_iff.mp h
  cases h
  exact tE.mk S e1 fun v H1 m1 x1 S1 r1 => q σ H1 m1 x1 S1
def ntup : Expr → Bool
  | .Tuple .. => false
  | _ => true
def nlis : Expr → Bool
  | .List .. => false
  | _ => true
theorem ntup_sw {t e : Expr} (h : ntup e = true ∨ (ntup t = true ∧ nlis t = true)) (env : PySem.Env) : swappedStores [t] e env = pure none := by
  rcases h with h | ⟨h, h2⟩
  · cases e <;> first | (cases h; done) | (cases t <;> rfl)
  · cases t <;> first | (cases h; done) | (cases h2; done) | rfl
theorem asg_read {tgm : Tg} {K : PySem.W.Frag} {D : Ends} {σ : L2.St} {H : Hp} (h : tS K Z n (.asg tgm ea) D σ H) : tAsg (tE K Z n ea) (gT K Z tgm) D σ H := by
  obtain ⟨m, ρ, st, fl, ρ', st', S, h, q⟩ := h
  obtain ⟨⟨d, st1⟩, e1, h⟩ := Option.bind_eq_some_iff.mp h
  obtain ⟨ρ1, e2, h⟩ := Option.map_eq_some_iff.mp h
  cases h
  exact tE.mk S e1 fun v H1 m1 x1 S1 r1 => ⟨m1, ρ, _, d, _, S1, r1, e2, fun σ' E' _ => q σ' H1 m1 x1 ⟨E', S1.2⟩⟩
theorem st_asg {tgm : Tg} (ha : PE X a (tE X.K Z n ea)) (hg : PG X tg (gT X.K Z tgm)) (hc : ncomp a = true) (hst : nst tg = true) (hw : ntup a = true ∨ (ntup tg = true ∧ nlis tg = true)) :
    PS X (.Assign [tg] a pos) (tS X.K Z n (.asg tgm ea)) :=
  PS_imp (ps_asg ha hg (ncomp_sw hc _ _ _) (ntup_sw hw _) (by rw [asg_cons hst]; rfl)) fun D σ H h => asg_read h
/-- name = [..] -/
theorem nm_read {i : Nat} {K : PySem.W.Frag} {D : Ends} {σ : L2.St} {H : Hp} (h : tS K Z n (.asg (.nm i) ea) D σ H) : tAsg (tE K Z n ea) (gName i) D σ H := by
  obtain ⟨m, ρ, st, fl, ρ', st', S, h, q⟩ := h
  obtain ⟨⟨d, st1⟩, e1, h⟩ := Option.bind_eq_some_iff.mp h
  obtain ⟨ρ1, e2, h⟩ := Option.map_eq_some_iff.mp h
  cases h
  have e2 : (if i < ρ.length then some (ρ.set i (some d)) else none) = some ρ' := e2
  split at e2
  · cases e2
    exact tE.mk S e1 fun v H1 m1 x1 S1 r1 => q _ H1 m1 x1 ⟨S1.1.set r1 i, S1.2⟩
  · cases e2
theorem lset_read {i : Nat} {ik : Ik} {src : List E} {tgm : Tg} {cnd : List T} {elt : E} {own : List Nat} {K : PySem.W.Frag} (htg : ∀ i ∈ tgI tgm, i ∈ own) {D : Ends} {σ : L2.St} {H : Hp} (h : tS K Z n (.asg (.nm i) (.lc ik src tgm cnd elt own)) D σ H) :
    tAsg (tLc (tI K Z n ik src) (gT K Z tgm) (tTA K Z n cnd) (tE K Z n elt) own) (gName i) D σ H := lc_read htg (nm_read h)
theorem lset2_read {i : Nat} {ik ik1 : Ik} {src src1 : List E} {tgm tg1 : Tg} {cnd cnd1 : List T} {elt : E} {own own1 : List Nat} {K : PySem.W.Frag} (htg : ∀ i ∈ tgI tgm, i ∈ own) (htg1 : ∀ i ∈ tgI tg1, i ∈ own1) {D : Ends} {σ : L2.St} {H : Hp} (h : tS K Z n (.asg (.nm i) (.lc2 ik src tgm cnd ik1 src1 tg1 cnd1 elt own own1)) D σ H) :
    tAsg (tLc2 (tI K Z n ik src) (gT K Z tgm) (tTA K Z n cnd) (tI K Z n ik1 src1) (gT K Z tg1) (tTA K Z n cnd1) (tE K Z n elt) own own1) (gName i) D σ H := lc2_read htg htg1 (nm_read h)
/-- a, b = x, y -/
theorem st_par {i j : Nat} {x y : Str} {px py pt : Pos} {kt k2 pt2} (G : Wk Z X n) (hi : X.N[i]? = some x) (hj : X.N[j]? = some y) (hij : i ≠ j)
    (hx : X.env.scope.names.lookup x = some .local) (hy : X.env.scope.names.lookup y = some .local) (ha : PA X [a, b] (tA X.K Z n [ea, eb]))
    (hw : swappedStores [.Tuple [.Name x px, .Name y py] kt pt] (.Tuple [a, b] k2 pt2) X.env = pure (some [x, y])) :
    PS X (.Assign [.Tuple [.Name x px, .Name y py] kt pt] (.Tuple [a, b] k2 pt2) pos) (tS X.K Z n (.asg (.tp [.nm i, .nm j]) (.tup [ea, eb]))) :=
  PS_imp (ps_par G.calm G.nd hi hj hij hx hy ha hw) fun D σ H ⟨m, ρ, st, fl, ρ', st', S, h, q⟩ => by
    obtain ⟨⟨d, st1⟩, e1, h⟩ := Option.bind_eq_some_iff.mp h
    obtain ⟨ρ1, e2, h⟩ := Option.map_eq_some_iff.mp h
    cases h
    obtain ⟨⟨ds, st2⟩, e3, e1⟩ := Option.bind_eq_some_iff.mp (show (evs [ea, eb] Z.g (Z.C n) ρ st).bind _ = some (d, st1) from e1)
    split at e1
    · cases e1
      have e2 : asgDs [.nm i, .nm j] ds _ ρ = some _ := e2
      have hl := asgDs_len e2
      refine tA.mk S e3 fun vs H1 m1 x1 S1 r1 => ?_
      match ds, hl with
      | [d1, d2], _ =>
        obtain ⟨v, w, rfl, r, r2⟩ := r1.two
        refine ⟨v, w, rfl, q _ H1 m1 x1 ⟨?_, S1.2⟩⟩
        obtain ⟨ρ1, f1, e2⟩ := Option.bind_eq_some_iff.mp e2
        obtain ⟨ρ2, f2, e2⟩ := Option.bind_eq_some_iff.mp e2
        cases e2
        have f1 : (if i < ρ.length then some (ρ.set i (some d1)) else none) = some _ := f1
        have f2 : (if j < _ then some (List.set _ j (some d2)) else none) = some _ := f2
        split at f1
        · cases f1
          split at f2
          · cases f2
            exact (S1.1.set r i).set r2 j
          · cases f2
        · cases f1
    · cases e1
theorem st_par3 {i j l : Nat} {x y z : Str} {u : Expr} {eu : E} {px py pz pt : Pos} {kt k2 pt2} (G : Wk Z X n) (hi : X.N[i]? = some x) (hj : X.N[j]? = some y) (hl : X.N[l]? = some z) (hij : i ≠ j) (hil : i ≠ l) (hjl : j ≠ l)
    (hx : X.env.scope.names.lookup x = some .local) (hy : X.env.scope.names.lookup y = some .local) (hz : X.env.scope.names.lookup z = some .local) (ha : PA X [a, b, u] (tA X.K Z n [ea, eb, eu]))
    (hw : swappedStores [.Tuple [.Name x px, .Name y py, .Name z pz] kt pt] (.Tuple [a, b, u] k2 pt2) X.env = pure (some [x, y, z])) :
    PS X (.Assign [.Tuple [.Name x px, .Name y py, .Name z pz] kt pt] (.Tuple [a, b, u] k2 pt2) pos) (tS X.K Z n (.asg (.tp [.nm i, .nm j, .nm l]) (.tup [ea, eb, eu]))) :=
  PS_imp (ps_par3 G.calm G.nd hi hj hl hij hil hjl hx hy hz ha hw) fun D σ H ⟨m, ρ, st, fl, ρ', st', S, h, q⟩ => by
    obtain ⟨⟨d, st1⟩, e1, h⟩ := Option.bind_eq_some_iff.mp h
    obtain ⟨ρ1, e2, h⟩ := Option.map_eq_some_iff.mp h
    cases h
    obtain ⟨⟨ds, st2⟩, e3, e1⟩ := Option.bind_eq_some_iff.mp (show (evs [ea, eb, eu] Z.g (Z.C n) ρ st).bind _ = some (d, st1) from e1)
    split at e1
    · cases e1
      have e2 : asgDs [.nm i, .nm j, .nm l] ds _ ρ = some _ := e2
      have hl := asgDs_len e2
      refine tA.mk S e3 fun vs H1 m1 x1 S1 r1 => ?_
      match ds, hl with
      | [d1, d2, d3], _ =>
        obtain ⟨v, w, w2, rfl, r, r2, r3⟩ := r1.three
        refine ⟨v, w, w2, rfl, q _ H1 m1 x1 ⟨?_, S1.2⟩⟩
        obtain ⟨ρ1, f1, e2⟩ := Option.bind_eq_some_iff.mp e2
        obtain ⟨ρ2, f2, e2⟩ := Option.bind_eq_some_iff.mp e2
        obtain ⟨ρ3, f3, e2⟩ := Option.bind_eq_some_iff.mp e2
        cases e2
        have f1 : (if i < ρ.length then some (ρ.set i (some d1)) else none) = some _ := f1
        have f2 : (if j < _ then some (List.set _ j (some d2)) else none) = some _ := f2
        have f3 : (if l < _ then some (List.set _ l (some d3)) else none) = some _ := f3
        split at f1
        · cases f1
          split at f2
          · cases f2
            split at f3
            · cases f3
              exact ((S1.1.set r i).set r2 j).set r3 l
            · cases f3
          · cases f2
        · cases f1
    · cases e1
/-- o[i] = v -/
theorem nsl_asg {i : Expr} (h : nsl i = true) (o : Expr) (env : PySem.Env) : ∀ v, assign (.Subscript o i pos) env v = (do
      let ov ← holding [v] (eval o env)
      let iv ← holding [v, ov] (eval i env)
      standAt pos
      holding [v, ov, iv] (setItem ov iv v)
      release [v, ov, iv] []) := by
  intro v
  cases i <;> first | rfl | cases h
theorem st_asub {o i : Expr} {eo ei : E} {ps : Pos} (ho : PE X o (tE X.K Z n eo)) (hi : PE X i (tE X.K Z n ei)) (ha : PE X a (tE X.K Z n ea)) (hc : ncomp a = true) (hs : nsl i = true) :
    PS X (.Assign [.Subscript o i ps] a pos) (tS X.K Z n (.asub eo ei ea)) :=
  PS_imp (ps_asg ha (pg_sub ho hi (set_D (Tb := Z.Tb)) (nsl_asg hs _ _)) (ncomp_sw hc (some (.Subscript o i ps)) pos.line X.env) (ntup_sw (.inr ⟨rfl, rfl⟩) _) rfl) fun D σ H ⟨m, ρ, st, fl, ρ', st', S, h, q⟩ => by
    obtain ⟨⟨d1, st1⟩, e1, h⟩ := Option.bind_eq_some_iff.mp h
    obtain ⟨⟨d2, st2⟩, e2, h⟩ := Option.bind_eq_some_iff.mp h
    obtain ⟨⟨d3, st3⟩, e3, h⟩ := Option.bind_eq_some_iff.mp h
    obtain ⟨st4, e4, h⟩ := Option.map_eq_some_iff.mp h
    cases h
    exact tE.mk S e1 fun v H1 m1 x1 S1 r1 => tE.mk S1 e2 fun w H2 m2 x2 S2 r2 => tE.mk S2 e3 fun y H3 m3 x3 S3 r3 =>
      ⟨m3, st3, d2, d3, d1, st', S3.2, S2.2.rv x3 r2, r3, S1.2.rv (x2.trans x3) r1, e4, fun H4 m4 x4 R4 => q σ H4 m4 (((x1.trans x2).trans x3).trans x4) (S3.go x4 R4)⟩
/-- x += e, x -= e -/
theorem st_aug {i : Nat} {x : Str} {o : Bop} {px : Pos} (hN : X.N.Nodup) (hi : X.N[i]? = some x) (hx : Loc X.env.scope x) (ha : PE X a (tE X.K Z n ea)) (hf : X.fn x = true ∨ X.env.scope.names.lookup x = some .local) :
    PS X (.AugAssign (.Name x px) (bop o) a pos) (tS X.K Z n (.aug i o ea)) := by
  have key : ∀ (f : Int → Int → Int), PIp X (bop o) (ipI f) → (∀ (ρ : Env) (st : Sto) fl ρ' st', ex (.aug i o ea) Z.g (Z.C n) ρ st = some (fl, ρ', st') → ∃ x y, ρ[i]? = some (some (.int x)) ∧ ev ea Z.g (Z.C n) ρ st = some (.int y, st') ∧ fl = .nx ∧ ρ' = ρ.set i (some (.int (f x y)))) →
      PS X (.AugAssign (.Name x px) (bop o) a pos) (tS X.K Z n (.aug i o ea)) := fun f hf2 hi2 =>
    PS_imp (ps_aug hN hi hx ha hf2 hf) fun D σ H ⟨m, ρ, st, fl, ρ', st', S, h, q⟩ => by
      obtain ⟨x, y, h1, h2, rfl, rfl⟩ := hi2 ρ st fl ρ' st' h
      obtain ⟨v, e1, r⟩ := S.1.at_ i _ h1
      cases r
      exact ⟨_, e1, tE.mk S h2 fun w H1 m1 x1 S1 r1 => by
        cases r1
        exact ⟨x, y, rfl, rfl, q _ H1 m1 x1 ⟨S1.1.set (d := .int (f x y)) rfl i, S1.2⟩⟩⟩
  have inv : ∀ (ρ : Env) (st : Sto) fl ρ' st', ex (.aug i o ea) Z.g (Z.C n) ρ st = some (fl, ρ', st') → ∃ x y, ρ[i]? = some (some (.int x)) ∧ ev ea Z.g (Z.C n) ρ st = some (.int y, st') ∧ fl = .nx ∧ ((o = .add ∧ ρ' = ρ.set i (some (.int (x + y)))) ∨ (o = .sub ∧ ρ' = ρ.set i (some (.int (x - y))))) := fun ρ st fl ρ' st' h => by
    unfold ex at h
    split at h
    · rename_i x0 hx0
      obtain ⟨⟨d, st1⟩, e1, h⟩ := Option.bind_eq_some_iff.mp h
      cases x0 with
      | int a0 =>
        cases d with
        | int b0 =>
          cases o with
          | add => cases h; exact ⟨_, _, hx0, e1, rfl, .inl ⟨rfl, rfl⟩⟩
          | sub => cases h; exact ⟨_, _, hx0, e1, rfl, .inr ⟨rfl, rfl⟩⟩
          | _ => cases h
        | _ => cases h
      | _ => cases h
    · cases h
  cases o with
  | add =>
    exact key _ ip_add fun ρ st fl ρ' st' h => by
      obtain ⟨x, y, h1, h2, h3, h4⟩ := inv ρ st fl ρ' st' h
      rcases h4 with ⟨_, h4⟩ | ⟨h4, _⟩
      · exact ⟨x, y, h1, h2, h3, h4⟩
      · cases h4
  | sub =>
    exact key _ ip_sub fun ρ st fl ρ' st' h => by
      obtain ⟨x, y, h1, h2, h3, h4⟩ := inv ρ st fl ρ' st' h
      rcases h4 with ⟨h4, _⟩ | ⟨_, h4⟩
      · cases h4
      · exact ⟨x, y, h1, h2, h3, h4⟩
  | _ =>
    exact ⟨fun _ _ _ _ _ _ ⟨m, ρ, st, fl, ρ', st', S, h, q⟩ => by
      obtain ⟨x, y, h1, h2, h3, h4⟩ := inv ρ st fl ρ' st' h
      rcases h4 with ⟨h4, _⟩ | ⟨h4, _⟩ <;> cases h4⟩
theorem st_if {c : Expr} {tc : T} {xs ys : List Stmt} {ss rs : List S} (hc : PT X c (tT X.K Z n tc)) (h1 : PSs X xs (tSs X.K Z n ss)) (h2 : PSs X ys (tSs X.K Z n rs)) : PS X (.If c xs ys pos) (tS X.K Z n (.ife tc ss rs)) :=
  PS_imp (ps_if hc h1 h2) fun D σ H ⟨m, ρ, st, fl, ρ', st', S, h, q⟩ => by
    obtain ⟨⟨b, st1⟩, e1, h⟩ := Option.bind_eq_some_iff.mp h
    refine tTo.mk S e1 fun H1 m1 x1 S1 => ?_
    cases b with
    | true => rw [if_pos rfl]; exact ⟨m1, ρ, st1, fl, ρ', st', S1, h, q.later x1⟩
    | false => rw [if_neg Bool.false_ne_true]; exact ⟨m1, ρ, st1, fl, ρ', st', S1, h, q.later x1⟩
theorem passes (G : Wk Z X n) : PassesOwn (model X.prog X.w) X.A X.env X.xe := by rw [G.xe]; exact PassesOwn.never
theorem st_whl {c : Expr} {tc : T} {xs : List Stmt} {ss : List S} (G : Wk Z X n) (hc : PT X c (tT X.K Z n tc)) (h1 : PSs X xs (tSs X.K Z n ss)) : PS X (.While c xs [] pos) (tS X.K Z n (.whl tc ss)) :=
  PS_imp (ps_while (passes G) hc h1) fun D σ H ⟨m, ρ, st, fl, ρ', st', S, h, q⟩ => by
    have h : loopW (fun ρ s => evT tc Z.g (Z.C n) ρ s) (fun ρ s => exs ss Z.g (Z.C n) ρ s) KW ρ st = some (fl, ρ', st') := h
    generalize KW = kw at h
    refine ⟨fun μ σ1 H1 => ∃ m1 ρ1 st1, Ext m H m1 H1 ∧ Sx X.K Z σ1 H1 m1 ρ1 st1 ∧ loopW (fun ρ s => evT tc Z.g (Z.C n) ρ s) (fun ρ s => exs ss Z.g (Z.C n) ρ s) μ ρ1 st1 = some (fl, ρ', st'), ⟨kw, m, ρ, st, Ext.refl, S, h⟩, ?_⟩
    rintro μ σ1 H1 ⟨m1, ρ1, st1, x1, S1, e⟩
    cases μ with
    | zero => cases e
    | succ r =>
      obtain ⟨⟨b, st2⟩, e1, e⟩ := Option.bind_eq_some_iff.mp e
      refine tTo.mk S1 e1 fun H2 m2 x2 S2 => ?_
      cases b with
      | true =>
        rw [if_pos rfl]
        obtain ⟨⟨f1, ρ2, st3⟩, e2, e⟩ := Option.bind_eq_some_iff.mp (show (exs ss Z.g (Z.C n) ρ1 st2).bind _ = some (fl, ρ', st') from e)
        refine ⟨_, fun σ' H' w => ⟨r, Nat.lt_succ_self r, w⟩, m2, ρ1, st2, f1, ρ2, st3, S2, e2, ?_⟩
        cases f1 with
        | nx => exact fun σ3 H3 m3 x3 S3 => ⟨m3, ρ2, st3, (x1.trans x2).trans x3, S3, e⟩
        | ct => exact fun σ3 H3 m3 x3 S3 => ⟨m3, ρ2, st3, (x1.trans x2).trans x3, S3, e⟩
        | bk => cases e; exact fun σ3 H3 m3 x3 S3 => q σ3 H3 m3 ((x1.trans x2).trans x3) S3
        | rt d => cases e; exact fun v H3 m3 x3 R3 r3 => q v H3 m3 ((x1.trans x2).trans x3) R3 r3
      | false =>
        rw [if_neg Bool.false_ne_true]
        cases e
        exact q σ1 H2 m2 (x1.trans x2) S2
theorem st_for {iter : Expr} {ik : Ik} {src : List E} {tgm : Tg} {xs : List Stmt} {ss : List S} (G : Wk Z X n) (hi : PI X tg iter (tI X.K Z n ik src)) (hg : PG X tg (gT X.K Z tgm)) (h1 : PSs X xs (tSs X.K Z n ss)) (hs : nset iter = true) :
    PS X (.For tg iter xs [] pos) (tS X.K Z n (.for_ ik src tgm ss)) :=
  PS_imp (ps_for (passes G) G.calm hi hg h1 (nset_folded hs _)) fun Dd σ H ⟨m, ρ, st, fl, ρ', st', S, h, q⟩ => by
    obtain ⟨⟨ds, st1⟩, e1, h⟩ := Option.bind_eq_some_iff.mp h
    obtain ⟨⟨J, k⟩, e2, h⟩ := Option.bind_eq_some_iff.mp h
    refine ⟨m, ρ, st, ds, st1, J, k, S, e1, e2, fun T H1 m1 x1 R1 rJ => ?_⟩
    generalize hB : (fun (x : D) (ρ : Env) (s : Sto) => (asgD tgm x s ρ).bind fun ρ1 => exs ss Z.g (Z.C n) ρ1 s) = B
    have h : loopF J B k 0 ρ st1 = some (fl, ρ', st') := by rw [← hB]; exact h
    refine ⟨fun i μ σ2 H2 => ∃ m2 ρ2 st2, Ext m1 H1 m2 H2 ∧ Sx X.K Z σ2 H2 m2 ρ2 st2 ∧ loopF J B μ i ρ2 st2 = some (fl, ρ', st'), ⟨k, m1, ρ, st1, Ext.refl, S.go x1 R1, h⟩, ?_⟩
    rintro i μ σ2 H2 ⟨m2, ρ2, st2, x2, S2, e⟩
    have rJ' := rJ.ext R1 x2
    cases μ with
    | zero =>
      have e : (if stD J i st2 then some (Fl.nx, ρ2, st2) else none) = some (fl, ρ', st') := e
      split at e
      · rename_i hs
        cases e
        exact .inl ⟨rJ'.stop S2.2 hs, q σ2 H2 m2 (x1.trans x2) S2⟩
      · cases e
    | succ r =>
      obtain ⟨x, ex, e⟩ := Option.bind_eq_some_iff.mp e
      obtain ⟨⟨f1, ρ3, st3⟩, eb, e⟩ := Option.bind_eq_some_iff.mp e
      rw [← hB] at eb
      obtain ⟨ρ1, ea, eb⟩ := Option.bind_eq_some_iff.mp eb
      refine .inr ⟨rJ'.go S2.2 ex, _, fun σ' H' w => ⟨r, Nat.lt_succ_self r, w⟩, fun v H3 y => ?_⟩
      obtain ⟨x3, R3, rv⟩ := rJ'.yld S2.2 ex y
      refine ⟨m2, ρ2, st2, x, ρ1, S2.go x3 R3, rv, ea, fun σ3 E3 _ => ⟨m2, ρ1, st2, f1, ρ3, st3, ⟨E3, R3⟩, eb, ?_⟩⟩
      cases f1 with
      | nx => exact fun σ4 H4 m4 x4 S4 => ⟨m4, ρ3, st3, (x2.trans x3).trans x4, S4, e⟩
      | ct => exact fun σ4 H4 m4 x4 S4 => ⟨m4, ρ3, st3, (x2.trans x3).trans x4, S4, e⟩
      | bk => cases e; exact fun σ4 H4 m4 x4 S4 => q σ4 H4 m4 (((x1.trans x2).trans x3).trans x4) S4
      | rt d => cases e; exact fun v4 H4 m4 x4 R4 r4 => q v4 H4 m4 (((x1.trans x2).trans x3).trans x4) R4 r4
end
end Dz
end
section
set_option Elab.async false
set_option linter.all false
set_option maxRecDepth 100000
set_option maxHeartbeats 1000000
namespace Dz
open PySem L2 PyProof.Rows
/-! ### dicts in the heap -/
section
variable {X : Cx} {pins : List (Addr × Obj)} {σ : L2.St} {H : Hp} {s : Shared} {m : List Addr}
mutual
theorem nested_of (I : Inv X pins σ H s) : ∀ (d : D) {v : V} {u : Value} {k : NestedKey}, RV X.K H m d v → RelV v u → keyD d = some k → NestedIs s.heap k u
  | .non, _, _, _, r, e, h => by cases r; cases h; cases e; exact .none
  | .bl b, _, _, _, r, e, h => by cases r; cases h; cases e; exact .bool rfl
  | .int i, _, _, _, r, e, h => by cases r; cases h; obtain ⟨t, rfl⟩ := e; exact .int _ _
  | .str x, _, _, _, r, e, h => by cases r; cases h; obtain ⟨t, rfl⟩ := e; exact .text _ _
  | .tup ds, _, _, _, r, e, h => by
    obtain ⟨a, xs, rfl, hT, r⟩ := r
    cases e
    obtain ⟨ks, h1, rfl⟩ := Option.map_eq_some_iff.mp (show (keyDs ds).map NestedKey.tup = some _ from h)
    obtain ⟨its, rv, ⟨o, ho, hc, n, hd⟩, _⟩ := I.tuple hT
    exact .tup ho hc hd (by simpa using nesteds_of I ds r rv h1)
  | .fz _, _, _, _, r, e, h => by cases h
  | .ref _, _, _, _, r, e, h => by cases h
theorem nesteds_of (I : Inv X pins σ H s) : ∀ (ds : List D) {vs : List V} {us : List Value} {ks : List NestedKey}, RVs X.K H m ds vs → Vals vs us → keyDs ds = some ks → NestedAll s.heap ks us
  | [], _, _, _, r, e, h => by cases r; cases h; cases e; exact .nil
  | d :: ds, _, _, _, r, e, h => by
    obtain ⟨v, vs, rfl, r1, r2⟩ := r
    obtain ⟨k, h1, h⟩ := Option.bind_eq_some_iff.mp (show ((keyD d).bind fun k => (keyDs ds).map fun ks => k :: ks) = some _ from h)
    obtain ⟨ks, h2, rfl⟩ := Option.map_eq_some_iff.mp h
    cases e with
    | cons e1 e2 => exact .cons (nested_of I d r1 e1 h1) (nesteds_of I ds r2 e2 h2)
end
theorem kOf_some {d : D} {k : NestedKey} (h : kOf d = some k) : keyD d = some k ∧ k.depth ≤ 8 := by
  unfold kOf at h
  split at h
  · obtain ⟨k', e, h⟩ := Option.bind_eq_some_iff.mp h
    split at h
    · rename_i hd
      cases h
      exact ⟨e, hd⟩
    · cases h
  · cases h
/-- a value that is a key -/
theorem key_is (I : Inv X pins σ H s) {d : D} {v : V} {u : Value} {k : NestedKey} {P : Program} {w : World} (r : RV X.K H m d v) (e : RelV v u) (h : kOf d = some k) : ∃ b, v = .ref b ∧ u = .ref b ∧ (nestedKind P w).is s.heap k b := by
  obtain ⟨h1, h2⟩ := kOf_some h
  cases d with
  | tup ds =>
    have z := nested_of I (.tup ds) r e h1
    obtain ⟨b, xs, rfl, _⟩ := r
    cases e
    exact ⟨b, rfl, rfl, z, h2⟩
  | _ => cases h
end
theorem Paired.p2 {α β : Type} {R : α → β → Prop} : ∀ {as : List α} {bs : List β}, Paired R as bs → P2 R as bs
  | _, _, .nil => P2.nil
  | _, _, .cons r t => P2.cons r (Paired.p2 t)
theorem P2.paired {α β : Type} {R : α → β → Prop} : ∀ {as : List α} {bs : List β}, P2 R as bs → Paired R as bs
  | [], bs, h => by rw [h.nil_l]; exact .nil
  | a :: as, bs, h => by
    obtain ⟨b, bs', rfl, r, t⟩ := h.cons_l
    exact .cons r (P2.paired t)
theorem P2.comp {α β γ : Type} {R : α → β → Prop} {S : β → γ → Prop} {T : α → γ → Prop} {as : List α} {bs : List β} {cs : List γ} (h : P2 R as bs) (g : P2 S bs cs) (f : ∀ a b c, R a b → S b c → T a c) : P2 T as cs := ⟨h.1.trans g.1, fun i a c x y => by
  obtain ⟨b, e, r⟩ := h.get x
  exact f a b c r (g.2 i b c e y)⟩
/-! ### a store at a key, in any list of entries -/
def putG {α : Type} (f : α → NestedKey) (ch : α → α) (new : α) (k : NestedKey) (l : List α) : List α := if l.any (fun x => decide (f x = k)) then l.map (fun x => if f x = k then ch x else x) else l ++ [new]
theorem P2.putG {α β : Type} {R : α → β → Prop} {f : α → NestedKey} {g : β → NestedKey} {ca : α → α} {cb : β → β} {na : α} {nb : β} {k : NestedKey} {as : List α} {bs : List β} (h : P2 R as bs) (hk : ∀ a b, R a b → f a = g b)
    (hu : ∀ a b, R a b → f a = k → R (ca a) (cb b)) (hn : R na nb) : P2 R (Dz.putG f ca na k as) (Dz.putG g cb nb k bs) := by
  have e : as.any (fun x => decide (f x = k)) = bs.any (fun x => decide (g x = k)) := by
    rw [Bool.eq_iff_iff, List.any_eq_true, List.any_eq_true]
    constructor
    · rintro ⟨a, ha, q⟩
      obtain ⟨i, hi⟩ := List.mem_iff_getElem?.mp ha
      obtain ⟨b, hb, r⟩ := h.get hi
      exact ⟨b, List.mem_of_getElem? hb, by rw [← hk a b r]; exact q⟩
    · rintro ⟨b, hb, q⟩
      obtain ⟨i, hi⟩ := List.mem_iff_getElem?.mp hb
      obtain ⟨a, ha, r⟩ := h.get' hi
      exact ⟨a, List.mem_of_getElem? ha, by rw [hk a b r]; exact q⟩
  unfold Dz.putG
  rw [← e]
  split
  · refine ⟨by simp [h.1], fun i x y hx hy => ?_⟩
    rw [List.getElem?_map] at hx hy
    obtain ⟨a, ha, rfl⟩ := Option.map_eq_some_iff.mp hx
    obtain ⟨b, hb, rfl⟩ := Option.map_eq_some_iff.mp hy
    have r := h.2 i a b ha hb
    rw [← hk a b r]
    split
    · rename_i q
      exact hu a b r q
    · exact r
  · exact h.append (P2.one hn)
theorem any_some {α β : Type} (p : α → Bool) (f : α → β) (l : List α) : ((l.find? p).map f).isSome = l.any p := by
  induction l with
  | nil => rfl
  | cons x l ih =>
    rw [List.find?_cons, List.any_cons]
    cases p x with
    | true => rfl
    | false => simpa using ih
theorem dPut_G (kvs : KVs) (k : NestedKey) (kd v : D) : dPut kvs k kd v = putG (·.1) (fun x => (x.1, x.2.1, v)) (k, kd, v) k kvs := by
  unfold dPut putG dGet
  rw [any_some]
theorem storedH_G (ys : List (NestedKey × Addr × Value)) (k : NestedKey) (a : Addr) (u : Value) : storedH ys k a u = putG (·.1) (fun x => (x.1, x.2.1, u)) (k, a, u) k ys := by
  unfold storedH putG atKey
  rw [any_some]
  split
  · refine List.map_congr_left fun x _ => ?_
    unfold putAt
    rfl
  · rfl
theorem putG_len {α : Type} (f : α → NestedKey) (ch : α → α) (new : α) (k : NestedKey) (l : List α) : (putG f ch new k l).length ≤ l.length + 1 := by
  unfold putG
  split <;> simp
/-! ### the dict of the store -/
/-- an entry of the heap -/
def RKY (K : PySem.W.Frag) (H : Hp) (m : List Addr) (p : NestedKey × D × D) (y : NestedKey × Addr × Value) : Prop := p.1 = y.1 ∧ RV K H m p.2.1 (.ref y.2.1) ∧ ∃ v, RV K H m p.2.2 v ∧ RelV v y.2.2
theorem P2.look {K : PySem.W.Frag} {H : Hp} {m : List Addr} {k : NestedKey} : ∀ {kvs : KVs} {ys : List (NestedKey × Addr × Value)}, P2 (RKY K H m) kvs ys → (dGet kvs k = none ∧ atKey ys k = none) ∨ ∃ d b u v, dGet kvs k = some d ∧ atKey ys k = some (b, u) ∧ RV K H m d v ∧ RelV v u
  | [], ys, h => by rw [h.nil_l]; exact .inl ⟨rfl, rfl⟩
  | p :: kvs, ys, h => by
    obtain ⟨y, ys', rfl, r, t⟩ := h.cons_l
    unfold dGet atKey
    rw [List.find?_cons, List.find?_cons, ← r.1]
    by_cases hk : p.1 = k
    · rw [decide_eq_true hk]
      obtain ⟨_, _, v, r1, r2⟩ := r
      exact .inr ⟨p.2.2, y.2.1, y.2.2, v, rfl, rfl, r1, r2⟩
    · rw [decide_eq_false hk]
      exact P2.look t
section
variable {X : Cx} {pins : List (Addr × Obj)} {σ : L2.St} {H : Hp} {s : Shared} {m : List Addr} {Tb : TBl} {st : Sto}
theorem dicOf_some {d : D} {lk : Bool} {kvs : KVs} (h : dicOf st d = some (lk, kvs)) : ∃ i, d = .ref i ∧ st[i]? = some (.dic lk kvs) := by
  unfold dicOf at h
  split at h
  · split at h
    · rename_i i lk' kvs' e
      cases h
      exact ⟨_, rfl, e⟩
    · cases h
  · cases h
/-- what stands at a dict's address -/
structure DicAt (X : Cx) (Tb : TBl) (H : Hp) (m : List Addr) (s : Shared) (a : Addr) (lk : Bool) (kvs : KVs) (xs : List (NestedKey × Addr × V)) (ys : List (NestedKey × Addr × Value)) : Prop where
  kx : P2 (RKV X.K H m) kvs xs
  xy : P2 (fun (p : NestedKey × Addr × V) (q : NestedKey × Addr × Value) => p.1 = q.1 ∧ p.2.1 = q.2.1 ∧ RelV p.2.2 q.2.2) xs ys
  ky : P2 (RKY X.K H m) kvs ys
  z : xs.length ≤ sizeLine
  sy : (a == sysModules) = false
  at_ : s.heap.DictOfH (nestedKind X.prog X.w) a ys
  un : lk = false → H a = some (DicO Tb.P Tb.w a xs)
theorem dic_at (hP : X.prog = Tb.P) (hw : X.w = Tb.w) (I : Inv X pins σ H s) (R : Rp X.K Tb H m st) {i : Nat} {a : Addr} {lk : Bool} {kvs : KVs} (hk : m[i]? = some a) (hs : st[i]? = some (.dic lk kvs)) : ∃ xs ys, DicAt X Tb H m s a lk kvs xs ys := by
  have r := R.obj i a _ hk hs
  have key : ∃ xs, P2 (RKV X.K H m) kvs xs ∧ (lk = false → H a = some (DicO Tb.P Tb.w a xs)) ∧ ObjOk X.prog X.w H s.heap a (DicO Tb.P Tb.w a xs) := by
    cases lk with
    | false =>
      obtain ⟨xs, e, kx⟩ := r
      exact ⟨xs, kx, fun _ => e, I.hok a _ e⟩
    | true =>
      obtain ⟨xs, o, e, kx⟩ := r
      exact ⟨xs, kx, fun z => (Bool.noConfusion z), (I.hok a _ e).2⟩
  obtain ⟨xs, kx, un, ⟨z, sy, o, es, ep, ys, ho, hx, hd, he, hn, pr⟩, _⟩ := key
  have xy := Paired.p2 pr
  have ky : P2 (RKY X.K H m) kvs ys := kx.comp xy fun p q y r1 r2 => ⟨r1.1.trans r2.1, by rw [← r2.2.1]; exact r1.2.2.1, q.2.2, r1.2.2.2, r2.2.2⟩
  refine ⟨xs, ys, kx, xy, ky, z, sy, ⟨o, es, ep, ho, hx, hd, by rw [hP, hw]; exact he, fun y hy => ?_, hn⟩, un⟩
  obtain ⟨j, hj⟩ := List.mem_iff_getElem?.mp hy
  obtain ⟨q, hq, r2⟩ := xy.get' hj
  obtain ⟨p, hp, r1⟩ := kx.get' hq
  obtain ⟨b, e1, e2, z⟩ := key_is (P := X.prog) (w := X.w) I r1.2.2.1 (show RelV (.ref q.2.1) (.ref q.2.1) from rfl) r1.2.1
  cases e1
  rw [← r2.1, ← r2.2.1, ← r1.1]
  exact z
theorem dicO_ok {P' : Program} {w' : World} {P : Program} {w : World} {h : Heap} {a : Addr} {xs : List (NestedKey × Addr × V)} {ys : List (NestedKey × Addr × Value)} {o : Obj} {es : Array DictEntry} {ep : Nat} (z : xs.length ≤ sizeLine) (sy : (a == sysModules) = false)
    (ho : h.get? a = some o) (hx : o.ExactDict) (hd : o.data = .dict es ep) (he : es.toList = ys.map (entryOfKey (nestedKind P w))) (hn : (ys.map (·.1)).Nodup) (pr : P2 (fun (p : NestedKey × Addr × V) (q : NestedKey × Addr × Value) => p.1 = q.1 ∧ p.2.1 = q.2.1 ∧ RelV p.2.2 q.2.2) xs ys) :
    ObjOk P' w' H h a (DicO P w a xs) :=
  ⟨⟨z, sy, o, es, ep, ys, ho, hx, hd, he, hn, pr.paired⟩, ⟨o, ho⟩, fun h1 h2 ⟨z, sy, o, es, ep, ys, ho, r⟩ k => ⟨z, sy, o, es, ep, ys, k o ho, r⟩⟩
end
theorem room_D {prog : Program} {w : World} {k : Nat} {A : Around} (r : Room k A) : (nestedKind prog w).room A.in1 := by
  have := r.un
  show A.units + 1 + 8 < cLine
  omega
theorem room_D2 {prog : Program} {w : World} {k : Nat} {A : Around} (r : Room k A) : (nestedKind prog w).room A.in1.in1 := by
  have := r.un
  show A.units + 1 + 1 + 8 < cLine
  omega
section
variable {Z : Wd} {X : Cx} {n : Nat} {a b c : Expr} {ea eb ec : E} {pos p : Pos}
/-- d[k] -/
theorem s_dget (G : Wk Z X n) (ha : PE X a (tE X.K Z n ea)) (hb : PE X b (tE X.K Z n eb)) (hp : nsl b = true) : PE X (.Subscript a b pos) (tE X.K Z n (.dget ea eb)) := by
  refine ⟨fun pins s σ H Q I ⟨m, ρ, st, d, st', S, h, q⟩ => ?_⟩
  obtain ⟨⟨d1, st1⟩, e1, h⟩ := Option.bind_eq_some_iff.mp h
  obtain ⟨⟨d2, st2⟩, e2, h⟩ := Option.bind_eq_some_iff.mp h
  obtain ⟨k, e3, h⟩ := Option.map_eq_some_iff.mp h
  cases h
  refine subD_of PySem.F.slot_dict_getitem.lookup (nsl_plain hp) (thn (ha.run pins s σ H (fun x H1 => ∃ m1, Ext m H m1 H1 ∧ Sx X.K Z σ H1 m1 ρ st1 ∧ RV X.K H1 m1 d1 x) I (tE.mk S e1 fun v H1 m1 x1 S1 r1 => ⟨m1, x1, S1, r1⟩))
    fun u s1 ⟨x, H1, I1, rx, m1, x1, S1, r1⟩ => thn (hb.run pins s1 σ H1 (fun y H2 => ∃ m2, Ext m1 H1 m2 H2 ∧ Sx X.K Z σ H2 m2 ρ st2 ∧ RV X.K H2 m2 d2 y) I1 (tE.mk S1 e2 fun v H2 m2 x2 S2 r2 => ⟨m2, x2, S2, r2⟩))
      fun iv s2 ⟨y, H2, I2, ry, m2, x2, S2, r2⟩ => ?_)
  obtain ⟨⟨lk, kvs⟩, f1, e3⟩ := Option.bind_eq_some_iff.mp e3
  obtain ⟨kk, f2, f3⟩ := Option.bind_eq_some_iff.mp e3
  obtain ⟨i, rfl, hs⟩ := dicOf_some f1
  obtain ⟨ad, rfl, hm⟩ := S1.2.rv x2 r1
  cases rx
  obtain ⟨xs, ys, Q1⟩ := dic_at G.prg G.wld I2 S2.2 hm hs
  obtain ⟨bk, e4, rfl, hk⟩ := key_is (P := X.prog) (w := X.w) I2 r2 ry f2
  refine ⟨Q1.at_.typeIs, ?_⟩
  rcases Q1.ky.look (k := kk) with ⟨g1, _⟩ | ⟨d', b', u', v', g1, g2, g3, g4⟩
  · have f3 : dGet kvs kk = some _ := f3
    rw [g1] at f3; cases f3
  · have f3 : dGet kvs kk = some _ := f3
    rw [g1] at f3; cases f3
    refine wpAny_getItem_heap (room_D G.room) hk Q1.at_ g2 ?_
    exact ⟨v', H2, I2.tok _, g4, (q.later (x1.trans x2)).here S2.2 g3⟩
/-- k in d, k not in d -/
def dop (neg : Bool) : CmpOp := if neg then .NotIn else .In
def rDIn (K : PySem.W.Frag) (Tb : TBl) (neg : Bool) : R2 := fun x y H Q => ∃ m st dx dy b, Rp K Tb H m st ∧ RV K H m dx x ∧ RV K H m dy y ∧ dinD neg dx dy st = some b ∧ Q (.bl b) H
theorem op_din (G : Wk Z X n) (neg : Bool) : OpR X (compareOp (dop neg)) (rDIn X.K Z.Tb neg) := by
  intro pins s σ H x y v u Q I rx ry ⟨m, st, dx, dy, bb, R, r1, r2, h, q⟩
  obtain ⟨⟨lk, kvs⟩, f1, h⟩ := Option.bind_eq_some_iff.mp h
  obtain ⟨kk, f2, f3⟩ := Option.map_eq_some_iff.mp h
  obtain ⟨i, rfl, hs⟩ := dicOf_some f1
  obtain ⟨ad, rfl, hm⟩ := r2
  cases ry
  obtain ⟨xs, ys, Q1⟩ := dic_at G.prg G.wld I R hm hs
  obtain ⟨bk, e4, rfl, hk⟩ := key_is (P := X.prog) (w := X.w) I r1 rx f2
  have e5 : (dGet kvs kk).isSome = (atKey ys kk).isSome := by
    rcases Q1.ky.look (k := kk) with ⟨g1, g2⟩ | ⟨d', b', u', v', g1, g2, _⟩ <;> rw [g1, g2] <;> rfl
  cases neg with
  | false =>
    have f3 : (dGet kvs kk).isSome = bb := f3
    refine wpAny_in_heap (room_D G.room) hk Q1.sy Q1.at_ ?_
    rw [← e5, f3]
    exact ⟨.bl bb, H, I.tok _, rfl, q⟩
  | true =>
    have f3 : (!(dGet kvs kk).isSome) = bb := f3
    refine wpAny_notIn_heap (room_D G.room) hk Q1.sy Q1.at_ ?_
    rw [← e5, f3]
    exact ⟨.bl bb, H, I.tok _, rfl, q⟩
theorem t_din {neg : Bool} (G : Wk Z X n) (ha : PE X a (tE X.K Z n ea)) (hb : PE X b (tE X.K Z n eb)) (hm : behindInMarks (dop neg) b = false) : PT X (.Compare a [dop neg] [b] pos) (tT X.K Z n (.din neg ea eb)) :=
  PT_imp (pt_cmpR (op_din G neg) ha hb hm) fun σ H Q ⟨m, ρ, st, k, st', S, h, q⟩ => by
    obtain ⟨⟨d1, st1⟩, e1, h⟩ := Option.bind_eq_some_iff.mp h
    obtain ⟨⟨d2, st2⟩, e2, h⟩ := Option.bind_eq_some_iff.mp h
    obtain ⟨k, e3, h⟩ := Option.map_eq_some_iff.mp h
    cases h
    exact tE.mk S e1 fun v H1 m1 x1 S1 r1 => tE.mk S1 e2 fun w H2 m2 x2 S2 r2 => ⟨m2, st2, d1, d2, k, S2.2, S1.2.rv x2 r1, r2, e3, k, rfl, q _ _ (x1.trans x2) S2.2⟩
/-- {} -/
theorem s_dnew (G : Wk Z X n) : PE X (.Dict [] [] pos) (tE X.K Z n .dnew) := ⟨fun pins s σ H Q I ⟨m, ρ, st, d, st', S, h, q⟩ => by
  cases h
  have hn := I.hok.fresh (Nat.le_refl _)
  have hob : ∀ H', ObjOk X.prog X.w H' (s.heap.push { cls := .type "dict", data := .dict #[] }) s.heap.objs.size (DicO Z.Tb.P Z.Tb.w s.heap.objs.size []) := fun H' =>
    dicO_ok (ys := []) (Nat.zero_le _) (beq_eq_false_iff_ne.mpr (Ne.symm (Nat.ne_of_lt I.big))) (Heap.get?_push_size _ rfl) ⟨rfl, rfl, rfl⟩ (es := #[]) (ep := 0) rfl rfl List.nodup_nil P2.nil
  refine wpAny_Dict_empty ⟨.ref s.heap.objs.size, _, I.laid (a := s.heap.objs.size) (o := DicO Z.Tb.P Z.Tb.w s.heap.objs.size []) (t' := s.toks) (fun _ _ q => Heap.get?_push_of_some _ q) (Nat.le_refl _) (hob _), rfl, ?_⟩
  exact q _ _ _ (ext_new hn) (S.2.newO hn ⟨[], upd_same, P2.nil⟩) ⟨_, rfl, by rw [← S.2.len]; simp⟩⟩
end
end Dz
end
section
set_option Elab.async false
set_option linter.all false
set_option maxRecDepth 100000
set_option maxHeartbeats 1000000
namespace Dz
open PySem L2 PyProof.Rows
/-! ### an object's place is written over -/
section
variable {K : PySem.W.Frag} {Tb : TBl} {H H' : Hp} {m m' : List Addr} {st : Sto} {A : Addr} {u0 u : HO}
theorem sqT_ob (hD : H A = some u0) (h0 : IsOb u0) (a : Addr) (zs : List V) (h : SqT K H a zs) : SqT K (upd H A u) a zs := by
  rcases h with (h | ⟨o, h⟩) | h
  · exact .inl (.inl (by rw [upd_ne (fun z => by subst z; rw [hD] at h; cases h; exact h0)]; exact h))
  · exact .inl (.inr ⟨o, by rw [upd_ne (fun z => by subst z; rw [hD] at h; cases h; exact h0)]; exact h⟩)
  · exact .inr h
theorem sqF_ob (hD : H A = some u0) (h0 : IsOb u0) (a : Addr) (zs : List V) (h : SqF K H a zs) : SqF K (upd H A u) a zs := by
  rcases h with ⟨o, h⟩ | h
  · exact .inl ⟨o, by rw [upd_ne (fun z => by subst z; rw [hD] at h; cases h; exact h0)]; exact h⟩
  · exact .inr h
theorem rv_ob (hD : H A = some u0) (h0 : IsOb u0) {d : D} {v : V} (r : RV K H m d v) : RV K (upd H A u) m d v := RV.ext (sqT_ob hD h0) (sqF_ob hD h0) (fun _ _ e => e) d r
theorem re_ob (hD : H A = some u0) (h0 : IsOb u0) {ρ : Env} {σ : L2.St} (E : RE K H m ρ σ) : RE K (upd H A u) m ρ σ := ⟨E.len, fun i d e => by
  obtain ⟨v, e1, r⟩ := E.at_ i d e
  exact ⟨v, e1, rv_ob hD h0 r⟩⟩
theorem Rp.swap (R : Rp K Tb H m st) {k : Nat} {o' : O} (hk : m[k]? = some A) (hD : H A = some u0) (h0 : IsOb u0) (r : RO K Tb (upd H A u) m A o') : Rp K Tb (upd H A u) m (st.set k o') := by
  have hkl : k < st.length := by rw [← R.len]; exact (List.getElem?_eq_some_iff.mp hk).1
  refine ⟨by simp [R.len], R.nd, fun j b o e1 e2 => ?_, fun P hP => tab_upd (fun ps z => by rw [hD] at z; cases z; exact h0) (R.tab P hP)⟩
  by_cases hj : j = k
  · subst hj
    rw [hk] at e1; cases e1
    rw [List.getElem?_set_self hkl] at e2
    cases e2
    exact r
  · rw [List.getElem?_set_ne (fun z => hj z.symm)] at e2
    refine (R.obj j b o e1 e2).imp (fun r => rv_ob hD h0 r) (upd_ne fun z => ?_)
    subst z
    obtain ⟨h1, e3⟩ := List.getElem?_eq_some_iff.mp e1
    obtain ⟨h2, e4⟩ := List.getElem?_eq_some_iff.mp hk
    exact hj (nodup_at R.nd h1 h2 (e3.trans e4.symm))
/-- the heap stays -/
theorem Rp.re (R : Rp K Tb H m st) {k : Nat} {o' : O} (hk : m[k]? = some A) (r : RO K Tb H m A o') : Rp K Tb H m (st.set k o') := by
  have hkl : k < st.length := by rw [← R.len]; exact (List.getElem?_eq_some_iff.mp hk).1
  refine ⟨by simp [R.len], R.nd, fun j b o e1 e2 => ?_, R.tab⟩
  by_cases hj : j = k
  · subst hj
    rw [hk] at e1; cases e1
    rw [List.getElem?_set_self hkl] at e2
    cases e2
    exact r
  · rw [List.getElem?_set_ne (fun z => hj z.symm)] at e2
    exact R.obj j b o e1 e2
/-- from ahead of a lock to behind it -/
theorem Ext.lock {φ : Heap → Prop} {od : Obj} (hm : A ∈ m) (hD : H A = some (.ext φ)) (x : Ext m (upd H A (.frz od (.ext φ))) m' H') : Ext m H m' (upd H' A (.ext φ)) := by
  have ne : ∀ b, b ≠ A → (upd H A (.frz od (.ext φ))) b = H b := fun b h => upd_ne h
  obtain ⟨nn, e, hn⟩ := x.new
  refine ⟨⟨nn, e, fun b hb => ?_⟩, fun b v e h1 h2 => ?_, fun b e => ?_, fun b o v e => ?_⟩
  · have := hn b hb
    by_cases hA : b = A
    · subst hA; rw [upd_same] at this; cases this
    · rw [ne b hA] at this; exact this
  · have hA : b ≠ A := fun z => h1 (z ▸ hm)
    rw [upd_ne hA]
    exact x.keep b v (by rw [ne b hA]; exact e) h1 h2
  · by_cases hA : b = A
    · subst hA; rw [upd_same]; simp
    · rw [upd_ne hA]; exact x.stay b (by rw [ne b hA]; exact e)
  · have hA : b ≠ A := fun z => by subst z; rw [hD] at e; cases e
    rw [upd_ne hA]
    exact x.frz b o v (by rw [ne b hA]; exact e)
end
theorem lockD_some {i : Nat} {ρ : Env} {st : Sto} {k : Nat} {lk : Bool} {kvs : KVs} {st1 : Sto} (h : lockD i ρ st = some (k, lk, kvs, st1)) : ρ[i]? = some (some (.ref k)) ∧ st[k]? = some (.dic lk kvs) ∧ st1 = st.set k (.dic true kvs) := by
  unfold lockD at h
  split at h
  · rename_i e
    split at h
    · rename_i e2
      cases h
      exact ⟨e, e2, rfl⟩
    · cases h
  · cases h
theorem set_self {α : Type} {l : List α} {k : Nat} {x : α} (h : l[k]? = some x) : l.set k x = l := by
  obtain ⟨hk, rfl⟩ := List.getElem?_eq_some_iff.mp h
  exact List.set_getElem_self hk
section
variable {K : PySem.W.Frag} {Z : Wd} {σ : L2.St} {H : Hp} {m : List Addr} {ρ : Env} {st st1 : Sto} {k : Nat} {kvs : KVs} {i : Nat}
/-- a dict that is locked already -/
theorem lock_on (S : Sx K Z σ H m ρ st) (h : lockD i ρ st = some (k, true, kvs, st1)) : st1 = st ∧ ∀ {σ' H' m' ρ' st'}, Ext m H m' H' → Sx K Z σ' H' m' ρ' st' → Sx K Z σ' H' m' ρ' (freeD k true kvs st') := by
  obtain ⟨h1, h2, rfl⟩ := lockD_some h
  refine ⟨set_self h2, fun {σ' H' m' ρ' st'} x S' => ⟨S'.1, ?_⟩⟩
  obtain ⟨v, _, a, rfl, hm⟩ := S.1.at_ i _ h1
  obtain ⟨xs, o, e, kx⟩ := S.2.obj k a _ hm h2
  exact S'.2.re (x.names k a hm) ⟨xs, o, x.frz a o _ e, kx.mono fun _ _ r => r.imp fun r => S.2.rv x r⟩
/-- .. that is not -/
theorem lock_off (S : Sx K Z σ H m ρ st) (h : lockD i ρ st = some (k, false, kvs, st1)) : ∃ a xs, H a = some (DicO Z.Tb.P Z.Tb.w a xs) ∧ ∀ od, Sx K Z σ (upd H a (.frz od (DicO Z.Tb.P Z.Tb.w a xs))) m ρ st1 ∧
    ∀ {m' H'}, Ext m (upd H a (.frz od (DicO Z.Tb.P Z.Tb.w a xs))) m' H' → H' a = some (.frz od (DicO Z.Tb.P Z.Tb.w a xs)) ∧ Ext m H m' (upd H' a (DicO Z.Tb.P Z.Tb.w a xs)) ∧ (∀ {d v}, RV K H' m' d v → RV K (upd H' a (DicO Z.Tb.P Z.Tb.w a xs)) m' d v) ∧
      (∀ {st'}, Rp K Z.Tb H' m' st' → Rp K Z.Tb (upd H' a (DicO Z.Tb.P Z.Tb.w a xs)) m' (freeD k false kvs st')) ∧ (∀ {ρ' σ'}, RE K H' m' ρ' σ' → RE K (upd H' a (DicO Z.Tb.P Z.Tb.w a xs)) m' ρ' σ') := by
  obtain ⟨h1, h2, rfl⟩ := lockD_some h
  obtain ⟨v, _, a, rfl, hm⟩ := S.1.at_ i _ h1
  obtain ⟨xs, e, kx⟩ := S.2.obj k a _ hm h2
  have ob : IsOb (DicO Z.Tb.P Z.Tb.w a xs) := trivial
  refine ⟨a, xs, e, fun od => ⟨⟨re_ob e ob S.1, S.2.swap hm e ob ⟨xs, od, upd_same, kx.mono fun _ _ r => r.imp fun r => rv_ob e ob r⟩⟩, fun {m' H'} x => ?_⟩⟩
  have e' := x.frz a od _ upd_same
  have ob' : IsOb (.frz od (DicO Z.Tb.P Z.Tb.w a xs)) := trivial
  have xl := Ext.lock (List.mem_of_getElem? hm) e x
  exact ⟨e', xl, fun r => rv_ob e' ob' r, fun R => R.swap (xl.names k a hm) e' ob' ⟨xs, upd_same, kx.mono fun _ _ r => r.imp fun r => S.2.rv xl r⟩, fun E => re_ob e' ob' E⟩
end
section
variable {Z : Wd} {X : Cx} {n : Nat} {a b c : Expr} {ea eb ec : E} {pos p : Pos}
theorem st_lock {i : Nat} {x : Stmt} {s : S} (h : PS X x (tS X.K Z n s)) : PS X x (tS X.K Z n (.lock i s)) := by
  refine ⟨fun pins sh σ H D I ⟨m, ρ, st, fl, ρ', st', S, hx, q⟩ => ?_⟩
  obtain ⟨⟨k, lk, kvs, st1⟩, e1, hx⟩ := Option.bind_eq_some_iff.mp hx
  obtain ⟨⟨f1, ρ1, st2⟩, e2, hx⟩ := Option.bind_eq_some_iff.mp hx
  split at hx
  · cases hx
    cases lk with
    | true =>
      obtain ⟨rfl, back⟩ := lock_on S e1
      refine h.run pins sh σ H D I ⟨m, ρ, st1, f1, ρ1, st2, S, e2, ?_⟩
      cases f1 with
      | nx => exact fun σ' H' m' y S' => q σ' H' m' y (back y S')
      | bk => exact fun σ' H' m' y S' => q σ' H' m' y (back y S')
      | ct => exact fun σ' H' m' y S' => q σ' H' m' y (back y S')
      | rt d =>
        intro v H' m' y R r
        have z := back (σ' := []) (ρ' := []) y ⟨⟨rfl, fun i d e => by simp at e⟩, R⟩
        exact q v H' m' y z.2 r
    | false =>
      obtain ⟨ad, xs, e, f⟩ := lock_off S e1
      refine (ps_lock h).run pins sh σ H D I ⟨ad, _, e, trivial, fun od => ?_⟩
      obtain ⟨S1, f⟩ := f od
      refine ⟨m, ρ, st1, f1, ρ1, st2, S1, e2, ?_⟩
      cases f1 with
      | nx => exact fun σ' H' m' y S' => ⟨(f y).1, q σ' _ m' (f y).2.1 ⟨(f y).2.2.2.2 S'.1, (f y).2.2.2.1 S'.2⟩⟩
      | bk => exact fun σ' H' m' y S' => ⟨(f y).1, q σ' _ m' (f y).2.1 ⟨(f y).2.2.2.2 S'.1, (f y).2.2.2.1 S'.2⟩⟩
      | ct => exact fun σ' H' m' y S' => ⟨(f y).1, q σ' _ m' (f y).2.1 ⟨(f y).2.2.2.2 S'.1, (f y).2.2.2.1 S'.2⟩⟩
      | rt d => exact fun v H' m' y R r => ⟨(f y).1, q v _ m' (f y).2.1 ((f y).2.2.2.1 R) ((f y).2.2.1 r)⟩
  · cases hx
theorem s_lockE {i : Nat} {x : Expr} {e : E} (h : PE X x (tE X.K Z n e)) : PE X x (tE X.K Z n (.lockE i e)) := by
  refine ⟨fun pins sh σ H Q I ⟨m, ρ, st, d, st', S, hx, q⟩ => ?_⟩
  obtain ⟨⟨k, lk, kvs, st1⟩, e1, hx⟩ := Option.bind_eq_some_iff.mp hx
  obtain ⟨⟨d1, st2⟩, e2, hx⟩ := Option.bind_eq_some_iff.mp hx
  split at hx
  · cases hx
    cases lk with
    | true =>
      obtain ⟨rfl, back⟩ := lock_on S e1
      exact h.run pins sh σ H Q I (tE.mk S e2 fun v H' m' y S' r => q v H' m' y (back y S').2 r)
    | false =>
      obtain ⟨ad, xs, e, f⟩ := lock_off S e1
      refine (pe_lock h).run pins sh σ H Q I ⟨ad, _, e, trivial, fun od => ?_⟩
      obtain ⟨S1, f⟩ := f od
      exact tE.mk S1 e2 fun v H' m' y S' r => ⟨(f y).1, q v _ m' (f y).2.1 ((f y).2.2.2.1 S'.2) ((f y).2.2.1 r)⟩
  · cases hx
theorem dsetD_some {o k v : D} {st st' : Sto} (h : dsetD o k v st = some st') : ∃ i kvs kk, o = .ref i ∧ st[i]? = some (.dic false kvs) ∧ kOf k = some kk ∧ kvs.length < sizeLine ∧ st' = st.set i (.dic false (dPut kvs kk k v)) := by
  unfold dsetD at h
  split at h
  · split at h
    · rename_i i _ kvs hs
      obtain ⟨kk, f2, h⟩ := Option.bind_eq_some_iff.mp h
      split at h
      · rename_i hz
        cases h
        exact ⟨i, kvs, kk, rfl, hs, f2, hz, rfl⟩
      · cases h
    · cases h
  · cases h
/-- d[k] = v -/
theorem st_dset (G : Wk Z X n) (ha : PE X a (tE X.K Z n ea)) (hb : PE X b (tE X.K Z n eb)) (hc : PE X c (tE X.K Z n ec)) (hn : ncomp c = true) {ps : Pos} : PS X (.Assign [.Subscript a b ps] c pos) (tS X.K Z n (.dset ea eb ec)) := by
  refine ⟨fun pins s σ H D I ⟨m, ρ, st, fl, ρ', st', S, h, q⟩ => ?_⟩
  obtain ⟨⟨d3, st1⟩, e1, h⟩ := Option.bind_eq_some_iff.mp h
  obtain ⟨⟨d1, st2⟩, e2, h⟩ := Option.bind_eq_some_iff.mp h
  obtain ⟨⟨d2, st3⟩, e3, h⟩ := Option.bind_eq_some_iff.mp h
  obtain ⟨st4, e4, h⟩ := Option.map_eq_some_iff.mp h
  cases h
  refine wpAny_Assign_Subscript (thn (hc.run pins s σ H (fun x H1 => ∃ m1, Ext m H m1 H1 ∧ Sx X.K Z σ H1 m1 ρ st1 ∧ RV X.K H1 m1 d3 x) I (tE.mk S e1 fun v H1 m1 x1 S1 r1 => ⟨m1, x1, S1, r1⟩))
    fun r s1 ⟨v, H1, I1, rv, m1, x1, S1, r1⟩ => thn (ha.run pins s1 σ H1 (fun x H2 => ∃ m2, Ext m1 H1 m2 H2 ∧ Sx X.K Z σ H2 m2 ρ st2 ∧ RV X.K H2 m2 d1 x) I1 (tE.mk S1 e2 fun v H2 m2 x2 S2 r2 => ⟨m2, x2, S2, r2⟩))
      fun u s2 ⟨x, H2, I2, rx, m2, x2, S2, r2⟩ => thn (hb.run pins s2 σ H2 (fun y H3 => ∃ m3, Ext m2 H2 m3 H3 ∧ Sx X.K Z σ H3 m3 ρ st3 ∧ RV X.K H3 m3 d2 y) I2 (tE.mk S2 e3 fun v H3 m3 x3 S3 r3 => ⟨m3, x3, S3, r3⟩))
        fun iv s3 ⟨y, H3, I3, ry, m3, x3, S3, r3⟩ => ?_) (ncomp_sw hn _ _ _)
  obtain ⟨i, kvs, kk, rfl, hs, f2, hz, rfl⟩ := dsetD_some e4
  obtain ⟨ad, rfl, hm⟩ := S2.2.rv x3 r2
  cases rx
  obtain ⟨xs, ys, Q1⟩ := dic_at G.prg G.wld I3 S3.2 hm hs
  have hH := Q1.un rfl
  obtain ⟨bk, e5, rfl, hk⟩ := key_is (P := X.prog) (w := X.w) I3 r3 ry f2
  subst e5
  have lx : xs.length = kvs.length := Q1.kx.1.symm
  have ly : ys.length = xs.length := Q1.xy.1.symm
  refine wpAny_setItem_heap (hsz := by rw [ly]; exact Q1.z) (room_D G.room) hk Q1.at_ fun h' dd' hs' => ?_
  obtain ⟨ob, es, ep, hq, g2, g3, g4, _, g5⟩ := dd'
  rw [storedH_G] at g4 g5
  have fz : ∀ o u, H3 ad ≠ some (.frz o u) := fun o u z => by rw [hH] at z; cases z
  have mm := List.mem_of_getElem? hm
  have rvv : RV X.K H3 m3 d3 v := S2.2.rv x3 (S1.2.rv x2 r1)
  have In := d_write (t' := s3.toks + (nestedKind X.prog X.w).draws kk) (ob := DicO Z.Tb.P Z.Tb.w ad (putG (·.1) (fun x => (x.1, x.2.1, v)) (kk, bk, v) kk xs)) I3 (by rw [hH]; exact True.intro) hs' ⟨ob, hq⟩ (dicO_ok (by have := putG_len (fun x : NestedKey × Addr × V => x.1) (fun x => (x.1, x.2.1, v)) (kk, bk, v) kk xs; omega) Q1.sy hq g2 g3 (by rw [← G.prg, ← G.wld]; exact g4) g5
    (Q1.xy.putG (fun _ _ r => r.1) (fun _ _ r _ => ⟨r.1, r.2.1, rv⟩) ⟨rfl, rfl, rv⟩))
  have xp := ext_put (u := DicO Z.Tb.P Z.Tb.w ad (putG (·.1) (fun x => (x.1, x.2.1, v)) (kk, bk, v) kk xs)) mm fz
  have kx' : P2 (RKV X.K (upd H3 ad (DicO Z.Tb.P Z.Tb.w ad (putG (·.1) (fun x => (x.1, x.2.1, v)) (kk, bk, v) kk xs))) m3) (dPut kvs kk d2 d3) (putG (·.1) (fun x => (x.1, x.2.1, v)) (kk, bk, v) kk xs) := by
    rw [dPut_G]
    exact (Q1.kx.mono fun _ _ r => r.imp fun r => S3.2.rv xp r).putG (fun _ _ r => r.1) (fun _ _ r _ => ⟨r.1, r.2.1, r.2.2.1, S3.2.rv xp rvv⟩) ⟨rfl, f2, S3.2.rv xp r3, S3.2.rv xp rvv⟩
  have Rn := S3.2.putO (o' := .dic false (dPut kvs kk d2 d3)) hm hs fz ⟨_, upd_same, kx'⟩
  exact ⟨σ, _, In, q σ _ m3 (((x1.trans x2).trans x3).trans xp) ⟨S3.1.ext S3.2 xp, Rn⟩⟩
end
end Dz
end
section
set_option Elab.async false
set_option linter.all false
set_option maxRecDepth 100000
set_option maxHeartbeats 1000000
namespace Dz
open PySem L2 PyProof.Rows
/-! ### dict(pairs) -/
theorem foldl_len {α β : Type} (f : List α → β → List α) (h : ∀ l b, (f l b).length ≤ l.length + 1) : ∀ (bs : List β) (l : List α), (bs.foldl f l).length ≤ l.length + bs.length
  | [], l => Nat.le_refl _
  | b :: bs, l => by
    have := foldl_len f h bs (f l b)
    have := h l b
    simp only [List.foldl_cons, List.length_cons]
    omega
theorem foldl_P2 {α β γ δ : Type} {R : α → β → Prop} {S : γ → δ → Prop} {f : List α → γ → List α} {g : List β → δ → List β} (h : ∀ as bs c d, P2 R as bs → S c d → P2 R (f as c) (g bs d)) :
    ∀ {cs : List γ} {ds : List δ} {as : List α} {bs : List β}, P2 S cs ds → P2 R as bs → P2 R (cs.foldl f as) (ds.foldl g bs)
  | [], ds, as, bs, r, t => by rw [r.nil_l]; exact t
  | c :: cs, ds, as, bs, r, t => by
    obtain ⟨d, ds', rfl, r1, r2⟩ := r.cons_l
    show P2 R (cs.foldl f (f as c)) (ds'.foldl g (g bs d))
    exact foldl_P2 h r2 (h as bs c d t r1)
abbrev XY (p : NestedKey × Addr × V) (q : NestedKey × Addr × Value) : Prop := p.1 = q.1 ∧ p.2.1 = q.2.1 ∧ RelV p.2.2 q.2.2
def putX (xs : List (NestedKey × Addr × V)) (p : NestedKey × Addr × V) : List (NestedKey × Addr × V) := putG (·.1) (fun x => (x.1, x.2.1, p.2.2)) p p.1 xs
section
variable {X : Cx} {pins : List (Addr × Obj)} {σ : L2.St} {H : Hp} {s : Shared} {m : List Addr} {Tb : TBl} {st : Sto}
theorem pairs_at (I : Inv X pins σ H s) : ∀ {ds : List D} {vs : List V} {us : List Value} {kvs : KVs}, P2 (RV X.K H m) ds vs → Vals vs us → pairsD ds = some kvs →
    ∃ (L : List (Addr × NestedKey × Addr × Value)) (xs : List (NestedKey × Addr × V)), us = L.map (fun t => Value.ref t.1) ∧ (∀ t ∈ L, s.heap.IsTuple t.1 #[.ref t.2.2.1, t.2.2.2] ∧ (nestedKind X.prog X.w).is s.heap t.2.1 t.2.2.1) ∧ P2 (RKV X.K H m) kvs xs ∧ P2 XY xs (L.map (·.2))
  | [], vs, us, kvs, r, e, h => by
    obtain rfl := r.nil_l
    cases e; cases h
    exact ⟨[], [], rfl, by simp, P2.nil, P2.nil⟩
  | d :: ds, vs, us, kvs, r, e, h => by
    obtain ⟨v, vs', rfl, r1, r2⟩ := r.cons_l
    cases e with
    | cons e1 e2 =>
      match d, h with
      | .tup [kd, vd], h =>
        obtain ⟨kk, h1, h⟩ := Option.bind_eq_some_iff.mp (show ((kOf kd).bind fun kk => (pairsD ds).map fun r => (kk, kd, vd) :: r) = some kvs from h)
        obtain ⟨kvs', h2, rfl⟩ := Option.map_eq_some_iff.mp h
        obtain ⟨L, xs, rfl, hL, p1, p2⟩ := pairs_at I r2 e2 h2
        obtain ⟨T, zs, rfl, hT, rz⟩ := r1
        cases e1
        obtain ⟨vk, _, rfl, rk, t⟩ := rz
        obtain ⟨vv, _, rfl, rv, t⟩ := t
        obtain rfl : _ = [] := t
        obtain ⟨its, rs, p, _⟩ := I.tuple hT
        cases rs with
        | cons f1 f2 =>
          cases f2 with
          | cons f2 f3 =>
            cases f3
            obtain ⟨b, rfl, rfl, hk⟩ := key_is (P := X.prog) (w := X.w) I rk f1 h1
            refine ⟨(T, kk, b, _) :: L, (kk, b, vv) :: xs, rfl, fun t ht => ?_, P2.cons ⟨rfl, h1, rk, rv⟩ p1, P2.cons ⟨rfl, rfl, f2⟩ p2⟩
            rcases List.mem_cons.mp ht with rfl | ht
            · exact ⟨p, hk⟩
            · exact hL t ht
theorem pairsD_len : ∀ {ds : List D} {kvs : KVs}, pairsD ds = some kvs → kvs.length = ds.length
  | [], _, h => by cases h; rfl
  | .tup [kd, vd] :: ds, kvs, h => by
    obtain ⟨kk, h1, h⟩ := Option.bind_eq_some_iff.mp (show ((kOf kd).bind fun kk => (pairsD ds).map fun r => (kk, kd, vd) :: r) = some kvs from h)
    obtain ⟨kvs', h2, rfl⟩ := Option.map_eq_some_iff.mp h
    rw [List.length_cons, List.length_cons, pairsD_len h2]
def dfl : Addr × NestedKey × Addr × Value := (0, .none, 0, .none)
theorem storedAll_eq (ps : List (NestedKey × Addr × Value)) : storedAllH [] ps = ps.foldl (fun acc p => putG (·.1) (fun x => (x.1, x.2.1, p.2.2)) p p.1 acc) [] := by
  unfold storedAllH
  congr 1
  funext acc p
  exact storedH_G acc p.1 p.2.1 p.2.2
theorem putAll_eq (ps : KVs) : putAll ps = ps.foldl (fun acc p => putG (·.1) (fun x => (x.1, x.2.1, p.2.2)) p p.1 acc) [] := by
  unfold putAll
  congr 1
  funext acc p
  exact dPut_G acc p.1 p.2.1 p.2.2
/-- what follows where the pairs have been put into a new dict -/
theorem dict_made (hP : X.prog = Tb.P) (hw : X.w = Tb.w) (I : Inv X pins σ H s) (R : Rp X.K Tb H m st) {kvs : KVs} {xs : List (NestedKey × Addr × V)} {ps : List (NestedKey × Addr × Value)} (p1 : P2 (RKV X.K H m) kvs xs) (p2 : P2 XY xs ps) (hz : kvs.length ≤ sizeLine)
    {h' : Heap} {tk : Nat} {ad : Addr} (hle : s.heap.objs.size ≤ ad) (dd : h'.DictOfH (nestedKind X.prog X.w) ad (storedAllH [] ps)) (keep : ∀ b o, s.heap.get? b = some o → h'.get? b = some o) {Q : VK}
    (q : Aft X.K Tb m H (.ref st.length) (st ++ [.dic false (putAll kvs)]) Q) : EP X pins σ Q (.ref ad) { s with heap := h', toks := tk } := by
  obtain ⟨ob, es, ep, hq, g2, g3, g4, _, g5⟩ := dd
  rw [storedAll_eq] at g4 g5
  have hn := I.hok.fresh hle
  have t1 : P2 XY (xs.foldl putX []) (ps.foldl (fun acc p => putG (·.1) (fun x => (x.1, x.2.1, p.2.2)) p p.1 acc) []) := foldl_P2 (fun as bs c d t r => by
    unfold putX
    rw [← r.1]
    exact t.putG (fun _ _ r => r.1) (fun _ _ z _ => ⟨z.1, z.2.1, r.2.2⟩) r) p2 P2.nil
  have hl : (xs.foldl putX []).length ≤ sizeLine := by
    have := foldl_len putX (fun l b => putG_len _ _ _ _ l) xs []
    have e : kvs.length = xs.length := p1.1
    simp only [List.length_nil, Nat.zero_add] at this
    omega
  have hob : ∀ H', ObjOk X.prog X.w H' h' ad (DicO Tb.P Tb.w ad (xs.foldl putX [])) := fun H' =>
    dicO_ok hl (beq_eq_false_iff_ne.mpr (Ne.symm (Nat.ne_of_lt (Nat.lt_of_lt_of_le I.big hle)))) hq g2 g3 (by rw [← hP, ← hw]; exact g4) g5 t1
  have xn := ext_new (m := m) (u := DicO Tb.P Tb.w ad (xs.foldl putX [])) hn
  have t2 : P2 (RKV X.K (upd H ad (DicO Tb.P Tb.w ad (xs.foldl putX []))) (m ++ [ad])) (putAll kvs) (xs.foldl putX []) := by
    rw [putAll_eq]
    exact foldl_P2 (S := RKV X.K (upd H ad (DicO Tb.P Tb.w ad (xs.foldl putX []))) (m ++ [ad])) (fun as bs c d t r => by
      unfold putX
      rw [← r.1]
      exact t.putG (fun _ _ r => r.1) (fun _ _ z _ => ⟨z.1, z.2.1, z.2.2.1, r.2.2.2⟩) r) (p1.mono fun _ _ r => r.imp fun r => R.rv xn r) P2.nil
  exact ⟨.ref ad, _, I.laid (a := ad) (o := DicO Tb.P Tb.w ad (xs.foldl putX [])) (t' := tk) keep hle (hob _), rfl, q _ _ _ xn (R.newO hn ⟨_, upd_same, t2⟩) ⟨_, rfl, by rw [← R.len]; simp⟩⟩
end
def rDof (K : PySem.W.Frag) (Tb : TBl) : List V → Hp → VK → Prop := fun vs H Q => ∃ m st dx d st', Rp K Tb H m st ∧ P2 (RV K H m) [dx] vs ∧ dofD dx st = some (d, st') ∧ Aft K Tb m H d st' Q
section
variable {Z : Wd} {X : Cx} {n : Nat} {a b c : Expr} {ea eb ec : E} {pos p : Pos}
theorem cr_dof (G : Wk Z X n) : CallR X (.type "dict") (rDof X.K Z.Tb) := by
  intro pins s σ H xs us Q I rx ⟨m, st, dx, d, st', R, r, h, q⟩
  obtain ⟨v, _, rfl, r1, t⟩ := r.cons_l
  obtain rfl := t.nil_l
  obtain ⟨u, rfl, ru⟩ := rx.one
  obtain ⟨ds, e1, h⟩ := Option.bind_eq_some_iff.mp h
  obtain ⟨kvs, e2, h⟩ := Option.bind_eq_some_iff.mp h
  split at h
  · rename_i hz
    cases h
    have hk := pairsD_len e2
    -- the pairs stand at L
    have go : ∀ (T : String) (items : Array Value) (L : List (Addr × NestedKey × Addr × Value)) (x' : List (NestedKey × Addr × V)) (ad : Addr), u = .ref ad →
        items.toList = L.map (fun t => Value.ref t.1) → (∀ t ∈ L, s.heap.IsTuple t.1 #[.ref t.2.2.1, t.2.2.2] ∧ (nestedKind X.prog X.w).is s.heap t.2.1 t.2.2.1) → P2 (RKV X.K H m) kvs x' → P2 XY x' (L.map (·.2)) →
        (∀ Ts ps, PairItems s.heap items Ts ps → ∃ fp, PairArg X.prog X.w T ad fp [] ps.length (PairRel ps) (fun h => PlainSeq T h ad items ∧ PairItems h items Ts ps)) → PlainSeq T s.heap ad items →
        wpAny (model X.prog X.w) X.A (call (.type "dict") [u]) (EP X pins σ Q) X.xe s := by
      intro T items L x' ad hu hi hL p1 p2 hA hp
      subst hu
      have hi' : ∀ j : Nat, items[j]? = (L[j]?).map fun t : Addr × NestedKey × Addr × Value => Value.ref t.1 := fun j => by rw [← Array.getElem?_toList, hi, List.getElem?_map]
      have pit : PairItems s.heap items (fun j : Nat => (L.getD j dfl).1) (L.map fun t => (Value.ref t.2.2.1, t.2.2.2)) := by
        refine ⟨by rw [← Array.length_toList, hi]; simp, fun j k v e => ?_⟩
        rw [List.getElem?_map] at e
        obtain ⟨t, et, e⟩ := Option.map_eq_some_iff.mp e
        cases e
        have g : L.getD j dfl = t := by rw [List.getD_eq_getElem?_getD, et]; rfl
        refine ⟨by rw [hi', et]; show some (Value.ref t.1) = some (Value.ref (L.getD j dfl).1); rw [g], ?_⟩
        show PairAt s.heap (L.getD j dfl).1 _ _
        rw [g]
        exact .inl (hL t (List.mem_of_getElem? et)).1
      obtain ⟨fp, PA⟩ := hA _ _ pit
      have lk : kvs.length = L.length := by rw [p1.1, p2.1]; simp
      refine call_dict_pairsH (knd := nestedKind X.prog X.w) (ps := L.map (·.2)) PA (I.ok.hd G.calm) (room_D2 G.room) ⟨hp, pit⟩ ⟨by simp, fun i key v e => ?_⟩ (fun h' hk' x hx => ?_) (by simp; omega) fun h' tk dd keep => ?_
      · have e : (L.map fun t => (Value.ref t.2.2.1, t.2.2.2))[i]? = some (key, v) := e
        rw [List.getElem?_map] at e
        obtain ⟨t, et, e⟩ := Option.map_eq_some_iff.mp e
        cases e
        exact ⟨t.2.1, t.2.2.1, by rw [List.getElem?_map, et]; rfl, rfl⟩
      · obtain ⟨t, ht, rfl⟩ := List.mem_map.mp hx
        exact nestedKind_stays.stays (fun b o vs nn e _ => hk' b o (Nat.ne_of_lt (Heap.lt_size e)) (by simp) e) (hL t ht).2
      · exact dict_made G.prg G.wld I R p1 p2 (by omega) (Nat.le_refl _) dd (fun b o e => keep b o (by simp) e) q
    split at e1
    · obtain ⟨ad, rfl, hm⟩ := r1
      cases ru
      obtain ⟨a', vs, h', h1, rr, _⟩ := R.lst e1
      rw [hm] at h'; cases h'
      obtain ⟨z, its, nn, rv, ho⟩ := I.hok _ _ h1
      obtain ⟨L, x', e3, hL, p1, p2⟩ := pairs_at I rr rv e2
      exact go "list" its.toArray L x' _ rfl (by simpa using e3) hL p1 p2 (fun Ts ps h => ⟨_, PairArg.list _ its.toArray Ts ps⟩) ⟨_, nn, ho, rfl, rfl, rfl⟩
    · cases e1
  · cases h
theorem boot_dict : bootBuiltins "dict" = some (.type "dict") := by decide +kernel
theorem s_dof (G : Wk Z X n) (hg : Gl X "dict") (ha : PE X a (tE X.K Z n ea)) (hst : nst a = true) : PE X (.Call (.Name "dict" p) [a] [] pos) (tE X.K Z n (.dof ea)) :=
  PE_imp (pe_callTy (cr_dof G) hg (G.blt _ (by simp [blts])) boot_dict (pa_cons ha pa_nil (star_cons hst _ _)) (by decide +kernel) (by decide +kernel) (star_cons hst _ _) rfl) fun σ H Q ⟨m, ρ, st, d, st', S, h, q⟩ => by
    obtain ⟨⟨d1, st1⟩, e1, h⟩ := Option.bind_eq_some_iff.mp h
    exact tE.mk S e1 fun v H1 m1 x1 S1 r1 => ⟨m1, st1, d1, d, st', S1.2, P2.one r1, h, q.later x1⟩
end
end Dz
end
section
set_option Elab.async false
set_option linter.all false
set_option maxRecDepth 100000
set_option maxHeartbeats 1000000
namespace Dz
open PySem L2 PyProof.Rows
/-! ### dict(zip(a, b)), a and b tuples: the pair that was handed out first is still out at the later turns -/
section
variable {prog : Program} {w : World} {A : Around} {E : Value → Shared → Prop} {s : Shared} {z TI TO T i1 i2 l1 l2 : Addr} {f : Bool} {oT : Obj} {k1 k2 : Nat} {xs ys : Array Value}
theorem zt_item {x y : Value} {Q : Option Value → Shared → Prop} (D : ZipApart z TI TO i1 i2 l1 l2) (hz : IsZipHeld s.heap z TI TO T f) (hT : s.heap.get? T = some oT) (hTI : IsPair s.heap TI (.ref i1) (.ref i2))
    (a1 : s.heap.IsTupleIter i1 l1 k1) (a2 : s.heap.IsTupleIter i2 l2 k2) (t1 : s.heap.IsTuple l1 xs) (t2 : s.heap.IsTuple l2 ys) (hx : xs[k1]? = some x) (hy : ys[k2]? = some y)
    (hQ : ∀ h', IsZipHeld h' z TI TO T true → h'.IsTupleIter i1 l1 (k1 + 1) → h'.IsTupleIter i2 l2 (k2 + 1) → IsPair h' s.heap.objs.size x y →
      (∀ c o, c ≠ z → c ≠ i1 → c ≠ i2 → s.heap.get? c = some o → h'.get? c = some o) → Q (some (.ref s.heap.objs.size)) { s with heap := h' }) : wpAny (model prog w) A (pyNext (.ref z)) Q E s := by
  have ty : s.TypeIs (.ref z) "zip" := ⟨_, hz, rfl⟩
  have body : ∀ A' : Around, wpAny (model prog w) A' (Builtin.«zip.__next__» ⟨[.ref z], []⟩) (fun fin s' => ∃ v, fin = .done (.ret v) ∧ Q (some v) s') (fun e s' => False) s := by
    intro A'
    show wpAny _ _ (field (.ref z) 2 >>= fun _ => _) _ _ _
    refine wpAny_bind (wpAny_field hz rfl (x := .bool false) rfl ?_)
    show wpAny _ _ (field (.ref z) 3 >>= fun _ => _) _ _ _
    refine wpAny_bind (wpAny_field hz rfl (x := .ref TI) rfl (wpAny_bind (wpAny_seqItems hTI rfl ?_)))
    show wpAny _ _ (Builtin.SmallTypes.ownedTupleIsFree (.ref z) >>= fun _ => _) _ _ _
    refine wpAny_bind (wpAny_tupleHeld_zip hz hT fun g1 hz1 e1 => ?_)
    simp only [Bool.false_eq_true, if_false]
    refine wpAny_bind ?_
    rw [← Array.forIn_toList]
    simp only [List.forIn_cons, List.forIn_nil]
    refine wpAny_bind (wpAny_bind (wpAny_holding ?_))
    show wpAny _ _ (Builtin.SmallTypes.nextOf (.ref i1) >>= fun _ => _) _ _ _
    have b1 := a1.extBut e1.extBut D.i1z
    have c1 := t1.extBut e1.extBut D.l1z
    refine wpAny_bind (RZ.nextOf_tuple_item (s := { s with heap := g1 }) b1 c1 hx fun g2 n1 e2 => wpAny_pure (wpAny_pure ?_))
    refine wpAny_bind (wpAny_bind (wpAny_holding ?_))
    show wpAny _ _ (Builtin.SmallTypes.nextOf (.ref i2) >>= fun _ => _) _ _ _
    have b2 := (a2.extBut e1.extBut D.i2z).extBut e2.extBut D.i12.symm
    have c2 := (t2.extBut e1.extBut D.l2z).extBut e2.extBut D.l2i1
    refine wpAny_bind (RZ.nextOf_tuple_item (s := { s with heap := g2 }) b2 c2 hy fun g3 n2 e3 => wpAny_pure (wpAny_pure (wpAny_pure ?_)))
    show wpAny _ _ (newTuple [x, y] >>= fun _ => _) _ _ _
    refine wpAny_bind (wpAny_newTuple (wpAny_pure ⟨_, rfl, ?_⟩))
    show Q (some (.ref g3.objs.size)) _
    have sz : g3.objs.size = s.heap.objs.size := by rw [e3.1, e2.1, e1.1]
    have old : ∀ c o, c ≠ z → c ≠ i1 → c ≠ i2 → s.heap.get? c = some o → g3.get? c = some o := fun c o d1 d2 d3 e => e3.extBut c o d3 (e2.extBut c o d2 (e1.extBut c o d1 e))
    have pr : IsPair (g3.push { cls := .type "tuple", data := .seq #[x, y] }) g3.objs.size x y := Heap.get?_push_size _ rfl
    have hz3 : IsZipHeld g3 z TI TO T true := e3.extBut _ _ D.i2z.symm (e2.extBut _ _ D.i1z.symm hz1)
    rw [sz] at pr ⊢
    exact hQ _ (Heap.get?_push_of_some _ hz3) ((n1.extBut e3.extBut D.i12).at fun o e => Heap.get?_push_of_some _ e) (n2.at fun o e => Heap.get?_push_of_some _ e) pr fun c o d1 d2 d3 e => Heap.get?_push_of_some _ (old c o d1 d2 d3 e)
  unfold pyNext
  refine wpAny_bind (wpAny_attempt (wpAny_callSpecial?_slot (name := Str.ofString "__next__") ty F.slot_zip_next (wpAny_call_entry F.slot_zip_next ty F.entry_zip_next ?_ (F.args_zip_next_1 _))))
  exact wpAny_mono (body _) (fun fin s' ⟨v, e, q⟩ => ⟨v, e, wpAny_pure q⟩) fun _ _ x => x.elim
theorem zt_end {Q : Option Value → Shared → Prop} (hh : A.handled = none) (D : ZipApart z TI TO i1 i2 l1 l2) (hz : IsZipHeld s.heap z TI TO T f) (hT : s.heap.get? T = some oT) (hTI : IsPair s.heap TI (.ref i1) (.ref i2))
    (a1 : s.heap.IsTupleIter i1 l1 k1) (a2 : s.heap.IsTupleIter i2 l2 k2) (t1 : s.heap.IsTuple l1 xs) (t2 : s.heap.IsTuple l2 ys) (hend : xs[k1]? = none ∨ ys[k2]? = none)
    (hQ : ∀ h', (∀ c o, c ≠ z → c ≠ i1 → c ≠ i2 → s.heap.get? c = some o → h'.get? c = some o) → Q none { s with heap := h' }) : wpAny (model prog w) A (pyNext (.ref z)) Q E s := by
  have ty : s.TypeIs (.ref z) "zip" := ⟨_, hz, rfl⟩
  have body : ∀ A' : Around, A'.handled = none → wpAny (model prog w) A' (Builtin.«zip.__next__» ⟨[.ref z], []⟩) (fun fin s' => False) (fun e s' => ∃ h' b, e = .ref b ∧ s' = { s with heap := h' } ∧ (∀ c o, c ≠ z → c ≠ i1 → c ≠ i2 → s.heap.get? c = some o → h'.get? c = some o) ∧ ∃ o, h'.get? b = some o ∧ o.cls = .type "StopIteration") s := by
    intro A' hA'
    show wpAny _ _ (field (.ref z) 2 >>= fun _ => _) _ _ _
    refine wpAny_bind (wpAny_field hz rfl (x := .bool false) rfl ?_)
    show wpAny _ _ (field (.ref z) 3 >>= fun _ => _) _ _ _
    refine wpAny_bind (wpAny_field hz rfl (x := .ref TI) rfl (wpAny_bind (wpAny_seqItems hTI rfl ?_)))
    show wpAny _ _ (Builtin.SmallTypes.ownedTupleIsFree (.ref z) >>= fun _ => _) _ _ _
    refine wpAny_bind (wpAny_tupleHeld_zip hz hT fun g1 hz1 e1 => ?_)
    simp only [Bool.false_eq_true, if_false]
    refine wpAny_bind ?_
    rw [← Array.forIn_toList]
    simp only [List.forIn_cons, List.forIn_nil]
    refine wpAny_bind (wpAny_bind (wpAny_holding ?_))
    show wpAny _ _ (Builtin.SmallTypes.nextOf (.ref i1) >>= fun _ => _) _ _ _
    have b1 := a1.extBut e1.extBut D.i1z
    have c1 := t1.extBut e1.extBut D.l1z
    cases hx : xs[k1]? with
    | none =>
      refine wpAny_bind (RZ.nextOf_tuple_end (s := { s with heap := g1 }) hA' b1 c1 hx fun g2 e e2 he => ?_)
      exact ⟨g2, e, rfl, rfl, fun c o d1 d2 _ q => e2 c o d2 (e1.extBut c o d1 q), he⟩
    | some x =>
      have hy : ys[k2]? = none := hend.resolve_left (by rw [hx]; simp)
      refine wpAny_bind (RZ.nextOf_tuple_item (s := { s with heap := g1 }) b1 c1 hx fun g2 n1 e2 => wpAny_pure (wpAny_pure ?_))
      refine wpAny_bind (wpAny_bind (wpAny_holding ?_))
      show wpAny _ _ (Builtin.SmallTypes.nextOf (.ref i2) >>= fun _ => _) _ _ _
      have b2 := (a2.extBut e1.extBut D.i2z).extBut e2.extBut D.i12.symm
      have c2 := (t2.extBut e1.extBut D.l2z).extBut e2.extBut D.l2i1
      refine wpAny_bind (RZ.nextOf_tuple_end (s := { s with heap := g2 }) hA' b2 c2 hy fun g3 e e3 he => ?_)
      exact ⟨g3, e, rfl, rfl, fun c o d1 d2 d3 q => e3 c o d3 (e2.extBut c o d2 (e1.extBut c o d1 q)), he⟩
  unfold pyNext
  refine wpAny_bind (wpAny_attempt (wpAny_callSpecial?_slot (name := Str.ofString "__next__") ty F.slot_zip_next (wpAny_call_entry F.slot_zip_next ty F.entry_zip_next ?_ (F.args_zip_next_1 _))))
  refine wpAny_mono (body _ hh) (fun fin s' q => q.elim) fun e s' ⟨h', b, e1, e2, keep, o, ho, hc⟩ => ?_
  subst e1 e2
  exact wpAny_bind (wpAny_isInstance (T := "StopIteration") (b := true) ⟨o, ho, hc⟩ isSubtype_stop (wpAny_pure (hQ _ keep)))
/-- where the walk stands -/
def ZtAt (z TI TO i1 i2 l1 l2 : Addr) (xs ys : Array Value) (d : Addr) (i : Nat) (h : Heap) : Prop :=
  IsPair h TI (.ref i1) (.ref i2) ∧ h.IsTupleIter i1 l1 i ∧ h.IsTupleIter i2 l2 i ∧ h.IsTuple l1 xs ∧ h.IsTuple l2 ys ∧
    ((IsZip h z TI TO .none ∧ ∃ a b, IsPair h TO a b) ∨ ∃ T f oT, IsZipHeld h z TI TO T f ∧ h.get? T = some oT ∧ T ≠ z ∧ T ≠ i1 ∧ T ≠ i2 ∧ T ≠ d)
theorem zt_src (hh : A.handled = none) (D : ZipApart z TI TO i1 i2 l1 l2) {d : Addr} (hd : d ∉ [z, TI, TO, i1, i2, l1, l2]) : PairSrc prog w A z d [z, TO, i1, i2] (min xs.size ys.size) (fun i k v => xs[i]? = some k ∧ ys[i]? = some v) (ZtAt z TI TO i1 i2 l1 l2 xs ys d) := by
  simp only [List.mem_cons, List.not_mem_nil, or_false, not_or] at hd
  obtain ⟨d1, d2, d3, d4, d5, d6, d7⟩ := hd
  refine { off := by simp [d1, d3, d4, d5], frame := fun i h1 h2 ⟨p, a1, a2, t1, t2, q⟩ keep => ?_, item := fun i s1 Q1 E1 hi ⟨p, a1, a2, t1, t2, q⟩ hds k => ?_, done := fun s1 Q1 E1 ⟨p, a1, a2, t1, t2, q⟩ k => ?_ }
  · refine ⟨keep _ _ (Ne.symm d2) p, a1.at fun o => keep _ o (Ne.symm d4), a2.at fun o => keep _ o (Ne.symm d5), t1.at fun o => keep _ o (Ne.symm d6), t2.at fun o => keep _ o (Ne.symm d7), ?_⟩
    rcases q with ⟨hz, a, b, hTO⟩ | ⟨T, f, oT, hz, hT, r1, r2, r3, r4⟩
    · exact .inl ⟨keep _ _ (Ne.symm d1) hz, a, b, keep _ _ (Ne.symm d3) hTO⟩
    · exact .inr ⟨T, f, oT, keep _ _ (Ne.symm d1) hz, keep _ _ r4 hT, r1, r2, r3, r4⟩
  · obtain ⟨u, eu⟩ : ∃ u, xs[i]? = some u := ⟨_, Array.getElem?_eq_getElem (show i < xs.size by omega)⟩
    obtain ⟨v, ev⟩ : ∃ v, ys[i]? = some v := ⟨_, Array.getElem?_eq_getElem (show i < ys.size by omega)⟩
    have off : ∀ {c o}, s1.heap.get? c = some o → s1.heap.objs.size ≠ c := fun e => Nat.ne_of_gt (Heap.lt_size e)
    obtain ⟨o1, f1, _⟩ := id a1
    obtain ⟨o2, f2, _⟩ := id a2
    rcases q with ⟨hz, a, b, hTO⟩ | ⟨T, f, oT, hz, hT, r1, r2, r3, r4⟩
    · refine RZ.pyNext_zipT_item D hz p hTO a1 a2 t1 t2 eu ev fun h' g1 g2 g3 g4 g5 _ keep => ?_
      refine k _ u v h' s1.toks ⟨eu, ev⟩ (.inl ⟨_, g5, rfl, _, rfl⟩) ⟨keep _ _ D.TIz D.TITO D.TIi1 D.TIi2 p, g3, g4, t1.at fun o => keep _ o D.l1z D.l1TO D.l1i1 D.l1i2, t2.at fun o => keep _ o D.l2z D.l2TO D.l2i1 D.l2i2, .inr ⟨_, false, _, g1, g5, off hz, off f1, off f2, Nat.ne_of_gt hds⟩⟩ fun c o hc => ?_
      simp only [List.mem_cons, List.not_mem_nil, or_false, not_or] at hc
      exact keep c o hc.1 hc.2.1 hc.2.2.1 hc.2.2.2
    · refine zt_item D hz hT p a1 a2 t1 t2 eu ev fun h' g1 g3 g4 g5 keep => ?_
      refine k _ u v h' s1.toks ⟨eu, ev⟩ (.inl ⟨_, g5, rfl, _, rfl⟩) ⟨keep _ _ D.TIz D.TIi1 D.TIi2 p, g3, g4, t1.at fun o => keep _ o D.l1z D.l1i1 D.l1i2, t2.at fun o => keep _ o D.l2z D.l2i1 D.l2i2, .inr ⟨T, true, oT, g1, keep _ _ r1 r2 r3 hT, r1, r2, r3, r4⟩⟩ fun c o hc => ?_
      simp only [List.mem_cons, List.not_mem_nil, or_false, not_or] at hc
      exact keep c o hc.1 hc.2.2.1 hc.2.2.2
  · have he : xs[min xs.size ys.size]? = none ∨ ys[min xs.size ys.size]? = none := by
      by_cases hle : xs.size ≤ ys.size
      · exact .inl (Array.getElem?_eq_none (by omega))
      · exact .inr (Array.getElem?_eq_none (by omega))
    rcases q with ⟨hz, a, b, hTO⟩ | ⟨T, f, oT, hz, hT, r1, r2, r3, r4⟩
    · refine RZ.pyNext_zipT_end hh D hz p hTO a1 a2 t1 t2 he fun h' keep => k h' s1.toks fun c o hc => ?_
      simp only [List.mem_cons, List.not_mem_nil, or_false, not_or] at hc
      exact keep c o hc.1 hc.2.1 hc.2.2.1 hc.2.2.2
    · refine zt_end hh D hz hT p a1 a2 t1 t2 he fun h' keep => k h' s1.toks fun c o hc => ?_
      simp only [List.mem_cons, List.not_mem_nil, or_false, not_or] at hc
      exact keep c o hc.1 hc.2.2.1 hc.2.2.2
theorem zt_arg (D : ZipApart z TI TO i1 i2 l1 l2) : PairArg prog w "zip" z [z, TI, TO, i1, i2, l1, l2] [z, TO, i1, i2] (min xs.size ys.size) (fun i k v => xs[i]? = some k ∧ ys[i]? = some v)
    (fun h => (IsZip h z TI TO .none ∧ ∃ a b, IsPair h TO a b) ∧ IsPair h TI (.ref i1) (.ref i2) ∧ h.IsTupleIter i1 l1 0 ∧ h.IsTupleIter i2 l2 0 ∧ h.IsTuple l1 xs ∧ h.IsTuple l2 ys) where
  type := fun s ok => ⟨_, ok.1.1, rfl⟩
  notDict := by decide
  keep := fun h h' ⟨⟨hz, a, b, q⟩, p, a1, a2, t1, t2⟩ k => ⟨⟨k _ _ hz, a, b, k _ _ q⟩, k _ _ p, a1.at fun o => k _ o, a2.at fun o => k _ o, t1.at fun o => k _ o, t2.at fun o => k _ o⟩
  there := fun h ⟨⟨hz, a, b, q⟩, p, ⟨o1, f1, _⟩, ⟨o2, f2, _⟩, ⟨o3, f3, _⟩, ⟨o4, f4, _⟩⟩ c hc => by
    simp only [List.mem_cons, List.not_mem_nil, or_false] at hc
    rcases hc with rfl | rfl | rfl | rfl | rfl | rfl | rfl
    · exact ⟨_, hz⟩
    · exact ⟨_, p⟩
    · exact ⟨_, q⟩
    · exact ⟨_, f1⟩
    · exact ⟨_, f2⟩
    · exact ⟨_, f3⟩
    · exact ⟨_, f4⟩
  sub := fun c hc => by
    simp only [List.mem_cons, List.not_mem_nil, or_false] at hc ⊢
    rcases hc with rfl | rfl | rfl | rfl <;> simp
  noKeys := fun A s Q E hA ok h => getAttrOr_miss_zip ok.1.1 rfl rfl rfl zip_no_keys (by decide +kernel) hA h
  iter := fun A s d Q E hA ⟨⟨hz, a, b, q⟩, p, a1, a2, t1, t2⟩ hd hdf h =>
    wpAny_pyIter_zip hz (h z [z, TO, i1, i2] _ s.heap s.toks (zt_src hA D hdf) ⟨p, a1, a2, t1, t2, .inl ⟨hz, a, b, q⟩⟩ (fun _ _ e => e) fun c hc => .inl hc)
end
end Dz
end
section
set_option Elab.async false
set_option linter.all false
set_option maxRecDepth 100000
set_option maxHeartbeats 1000000
namespace Dz
open PySem L2 PyProof.Rows
section
variable {X : Cx} {pins : List (Addr × Obj)} {σ : L2.St} {H : Hp} {s : Shared} {m : List Addr}
theorem zip_at (I : Inv X pins σ H s) : ∀ {as bs : List D} {vs ws : List V} {us uw : List Value} {kvs : KVs}, P2 (RV X.K H m) as vs → P2 (RV X.K H m) bs ws → Vals vs us → Vals ws uw → zipKD as bs = some kvs →
    ∃ (xs : List (NestedKey × Addr × V)) (ps : List (NestedKey × Addr × Value)), P2 (RKV X.K H m) kvs xs ∧ P2 XY xs ps ∧ ps.length = min us.length uw.length ∧
      (∀ (i : Nat) (key v : Value), us[i]? = some key → uw[i]? = some v → ∃ k b, ps[i]? = some (k, b, v) ∧ key = .ref b) ∧ ∀ x ∈ ps, (nestedKind X.prog X.w).is s.heap x.1 x.2.1
  | [], bs, vs, ws, us, uw, kvs, r1, r2, e1, e2, h => by
    obtain rfl := r1.nil_l
    cases e1
    cases h
    exact ⟨[], [], P2.nil, P2.nil, by simp, fun i key v z => by simp at z, by simp⟩
  | a :: as, [], vs, ws, us, uw, kvs, r1, r2, e1, e2, h => by
    obtain rfl := r2.nil_l
    cases e2
    cases h
    exact ⟨[], [], P2.nil, P2.nil, by simp, fun i key v _ z => by simp at z, by simp⟩
  | a :: as, b :: bs, vs, ws, us, uw, kvs, r1, r2, e1, e2, h => by
    obtain ⟨v, vs', rfl, f1, g1⟩ := r1.cons_l
    obtain ⟨w, ws', rfl, f2, g2⟩ := r2.cons_l
    cases e1 with
    | cons h1 t1 =>
      cases e2 with
      | cons h2 t2 =>
        obtain ⟨kk, k1, h⟩ := Option.bind_eq_some_iff.mp (show ((kOf a).bind fun kk => (zipKD as bs).map fun r => (kk, a, b) :: r) = some kvs from h)
        obtain ⟨kvs', k2, rfl⟩ := Option.map_eq_some_iff.mp h
        obtain ⟨xs, ps, p1, p2, p3, p4, p5⟩ := zip_at I g1 g2 t1 t2 k2
        obtain ⟨ad, rfl, rfl, hk⟩ := key_is (P := X.prog) (w := X.w) I f1 h1 k1
        refine ⟨(kk, ad, w) :: xs, (kk, ad, _) :: ps, P2.cons ⟨rfl, k1, f1, f2⟩ p1, P2.cons ⟨rfl, rfl, h2⟩ p2, by simp only [List.length_cons, p3]; omega, fun i key v e e' => ?_, fun x hx => ?_⟩
        · cases i with
          | zero => simp at e e'; subst e e'; exact ⟨kk, ad, rfl, rfl⟩
          | succ i => exact p4 i key v (by simpa using e) (by simpa using e')
        · rcases List.mem_cons.mp hx with rfl | hx
          · exact hk
          · exact p5 x hx
theorem zipKD_len : ∀ {as bs : List D} {kvs : KVs}, zipKD as bs = some kvs → kvs.length ≤ as.length
  | [], _, _, h => by cases h; exact Nat.le_refl _
  | a :: as, [], _, h => by cases h; exact Nat.zero_le _
  | a :: as, b :: bs, kvs, h => by
    obtain ⟨kk, k1, h⟩ := Option.bind_eq_some_iff.mp (show ((kOf a).bind fun kk => (zipKD as bs).map fun r => (kk, a, b) :: r) = some kvs from h)
    obtain ⟨kvs', k2, rfl⟩ := Option.map_eq_some_iff.mp h
    have := zipKD_len k2
    simp only [List.length_cons]; omega
end
theorem dzpD_some {x y d : D} {st st' : Sto} (h : dzpD x y st = some (d, st')) : ∃ as bs kvs, x = .tup as ∧ y = .tup bs ∧ zipKD as bs = some kvs ∧ as.length ≤ sizeLine ∧ d = .ref st.length ∧ st' = st ++ [.dic false (putAll kvs)] := by
  unfold dzpD at h
  split at h
  · rename_i as bs
    obtain ⟨kvs, e3, h⟩ := Option.bind_eq_some_iff.mp h
    split at h
    · rename_i hz
      cases h
      exact ⟨as, bs, kvs, rfl, rfl, e3, hz, rfl, rfl⟩
    · cases h
  · cases h
section
variable {Z : Wd} {X : Cx} {n : Nat} {a b : Expr} {ea eb : E} {pos pos2 p p2 : Pos}
theorem s_dzp (G : Wk Z X n) (hgd : Gl X "dict") (hgz : Gl X "zip") (ha : PA X [a, b] (tA X.K Z n [ea, eb])) (h1 : nst a = true) (h2 : nst b = true) : PE X (.Call (.Name "dict" p) [.Call (.Name "zip" p2) [a, b] [] pos2] [] pos) (tE X.K Z n (.dzp ea eb)) := by
  refine ⟨fun pins s σ H Q I ⟨m, ρ, st, d, st', S, h, q⟩ => ?_⟩
  obtain ⟨⟨d1, st1⟩, e1, h⟩ := Option.bind_eq_some_iff.mp h
  obtain ⟨⟨d2, st2⟩, e2, h⟩ := Option.bind_eq_some_iff.mp h
  have e12 : evs [ea, eb] Z.g (Z.C n) ρ st = some ([d1, d2], st2) := by
    show (ev ea Z.g (Z.C n) ρ st).bind _ = _
    rw [e1]
    show Option.map _ ((ev eb Z.g (Z.C n) ρ st1).bind _) = _
    rw [e2]; rfl
  obtain ⟨as, bs, kvs, rfl, rfl, e3, hz, rfl, rfl⟩ := dzpD_some h
  refine Call_ (ld_blt I hgd (G.blt _ (by simp [blts])) boot_dict (callWith_type1 (args_cons ?_ (star_cons rfl _ _)) (star_cons rfl _ _) rfl) (by decide +kernel) (by decide +kernel))
  refine Call_ (ld_blt I hgz (G.blt _ (by simp [blts])) boot_zip (callWith_type1 (thn (ha.run pos2 pins s σ H (fun vs H1 => ∃ m1, Ext m H m1 H1 ∧ Sx X.K Z σ H1 m1 ρ st2 ∧ P2 (RV X.K H1 m1) [.tup as, .tup bs] vs) I (tA.mk S e12 fun vs H1 m1 x1 S1 r1 => ⟨m1, x1, S1, r1⟩))
    fun us s1 ⟨vs, H1, I1, r1, m1, x1, S1, rr⟩ => ?_) (star_cons h1 _ _) (star_plain (by rw [List.all_cons, h2]; rfl) _ _)) (by decide +kernel) (by decide +kernel))
  obtain ⟨v, w, rfl, ra, rb⟩ := rr.two
  obtain ⟨aa, xs, rfl, hTa, ra⟩ := ra
  obtain ⟨ab, ys, rfl, hTb, rb⟩ := rb
  cases r1 with
  | cons q1 r1 =>
    cases r1 with
    | cons q2 r1 =>
      cases r1
      cases q1
      cases q2
      obtain ⟨its, rv, pt, _⟩ := I1.tuple hTa
      obtain ⟨its2, rv2, pt2, _⟩ := I1.tuple hTb
      obtain ⟨o1, ho1, _⟩ := id pt
      obtain ⟨o2, ho2, _⟩ := id pt2
      have lta := Heap.lt_size ho1
      have ltb := Heap.lt_size ho2
      obtain ⟨xk, ps, p1, p2', p3, p4, p5⟩ := zip_at I1 ra.p2 rb.p2 rv rv2 e3
      refine RZ.call_zipT (show s1.heap.IsTuple aa its.toArray from pt) (show s1.heap.IsTuple ab its2.toArray from pt2) fun h' hz' hTI hTO i1 i2 hsz hk => args_nil ?_
      have I2 : Inv X pins σ H1 { s1 with heap := h' } := I1.kept (t' := s1.toks) hk
      have tl : as.length = its.length := by rw [ra.p2.1, rv.length]
      have kl := zipKD_len e3
      have off4 : ∀ c : Addr, c < s1.heap.objs.size → c ∉ [s1.heap.objs.size + 4, s1.heap.objs.size + 3, s1.heap.objs.size, s1.heap.objs.size + 1] := fun c lt => by
        simp only [List.mem_cons, List.not_mem_nil, or_false, not_or]
        exact ⟨Nat.ne_of_lt (Nat.lt_of_lt_of_le lt (Nat.le_add_right _ _)), Nat.ne_of_lt (Nat.lt_of_lt_of_le lt (Nat.le_add_right _ _)), Nat.ne_of_lt lt, Nat.ne_of_lt (Nat.lt_of_lt_of_le lt (Nat.le_add_right _ _))⟩
      refine call_dict_pairsH (s := { s1 with heap := h' }) (knd := nestedKind X.prog X.w) (ps := ps) (zt_arg (xs := its.toArray) (ys := its2.toArray) (PySem.W.ktu_apart s1.heap.objs.size aa ab lta ltb)) (I.ok.hd G.calm) (room_D2 G.room)
        ⟨⟨hz', _, _, hTO⟩, hTI, i1, i2, Heap.IsTuple.at (show s1.heap.IsTuple aa its.toArray from pt) fun o => hk _ o, Heap.IsTuple.at (show s1.heap.IsTuple ab its2.toArray from pt2) fun o => hk _ o⟩
        ⟨by rw [p3]; simp, fun i key v ⟨e, e'⟩ => p4 i key v (by simpa using e) (by simpa using e')⟩ (fun h'' keep x hx => ?_) (by simp; omega) fun h'' tk dd keep => ?_
      · refine nestedKind_stays.stays (fun c o vs nn e _ => ?_) (p5 x hx)
        have lt := Heap.lt_size e
        exact keep c o (by show c ≠ h'.objs.size; rw [hsz]; exact Nat.ne_of_lt (Nat.lt_of_lt_of_le lt (Nat.le_add_right _ _))) (off4 c lt) (hk c o e)
      · have hle : s1.heap.objs.size ≤ h'.objs.size := by omega
        refine dict_made (h' := h'') (tk := tk) G.prg G.wld I1 S1.2 p1 p2' (by omega) hle dd (fun c o e => ?_) (q.later x1)
        have lt := Heap.lt_size e
        exact keep c o (off4 c lt) (hk c o e)
end
end Dz
end
section
set_option Elab.async false
set_option linter.all false
set_option maxRecDepth 100000
set_option maxHeartbeats 1000000
namespace Dz
open PySem PySem.Spec L2 PyProof.Rows GenW
/-! ### what a generator hands out -/
inductive Tr (J : IT) (body : D → Sto → Option (Option D × Sto)) : Nat → Nat → Sto → List (D × Sto) → Option Sto → Prop
  | stop {r i : Nat} {st : Sto} : Tr J body r i st [] none
  | fin {i : Nat} {st : Sto} (h : stD J i st = true) : Tr J body 0 i st [] (some st)
  | skip {r i : Nat} {st st1 : Sto} {x : D} {tr : List (D × Sto)} {e : Option Sto} (hx : nxD J i st = some x) (hb : body x st = some (none, st1)) (ht : Tr J body r (i + 1) st1 tr e) : Tr J body (r + 1) i st tr e
  | yld {r i : Nat} {st st1 : Sto} {x y : D} {tr : List (D × Sto)} {e : Option Sto} (hx : nxD J i st = some x) (hb : body x st = some (some y, st1)) (ht : Tr J body r (i + 1) st1 tr e) : Tr J body (r + 1) i st ((y, st1) :: tr) e
def CF (c : Cn) : D → List (D × Sto) → Option Sto → D → Sto → Prop
  | acc, [], some st, d, st' => conE c acc = some d ∧ st' = st
  | _, [], none, _, _ => False
  | acc, (y, s1) :: tr, e, d, st' => ∃ z, conD c acc y s1 = some z ∧ ((z.1 = true ∧ tr = [] ∧ e = none ∧ d = z.2 ∧ st' = s1) ∨ (z.1 = false ∧ CF c z.2 tr e d st'))
theorem loopG_tr {c : Cn} {J : IT} {body : D → Sto → Option (Option D × Sto)} {d : D} {st' : Sto} : ∀ (r i : Nat) (acc : D) (st : Sto), loopG c J body r i acc st = some (d, st') → ∃ tr e, Tr J body r i st tr e ∧ CF c acc tr e d st'
  | 0, i, acc, st, h => by
    have h : (if stD J i st then (conE c acc).map fun d => (d, st) else none) = some (d, st') := h
    split at h
    · rename_i hs
      obtain ⟨d', e1, h⟩ := Option.map_eq_some_iff.mp h
      cases h
      exact ⟨[], some st', .fin hs, e1, rfl⟩
    · cases h
  | r + 1, i, acc, st, h => by
    obtain ⟨x, ex, h⟩ := Option.bind_eq_some_iff.mp h
    obtain ⟨⟨o, st1⟩, eb, h⟩ := Option.bind_eq_some_iff.mp h
    cases o with
    | none =>
      obtain ⟨tr, e, h1, h2⟩ := loopG_tr r (i + 1) acc st1 h
      exact ⟨tr, e, .skip ex eb h1, h2⟩
    | some y =>
      obtain ⟨z, ez, h⟩ := Option.bind_eq_some_iff.mp h
      cases hz : z.1 with
      | true =>
        simp only [hz, if_true] at h
        cases h
        exact ⟨[(y, st')], none, .yld ex eb .stop, z, ez, .inl ⟨hz, rfl, rfl, rfl, rfl⟩⟩
      | false =>
        simp only [hz, Bool.false_eq_true, if_false] at h
        obtain ⟨tr, e, h1, h2⟩ := loopG_tr r (i + 1) z.2 st1 h
        exact ⟨(y, st1) :: tr, e, .yld ex eb h1, z, ez, .inr ⟨hz, h2⟩⟩
/-! ### the generator's context -/
def genX (X : Cx) (A : Around) (s : Shared) (H : Hp) (cenv : PySem.Env) (fp : List Addr) (pn : List (Addr × Obj)) : Cx :=
  { X with A := A, s_0 := s, H_0 := H, env := cenv, outer := X.stack, stack := cenv :: X.stack, ex := fp, fn := fun _ => false, calm := true, pn := pn, xe := fun _ _ => False }
theorem inv_gen {X : Cx} {pins : List (Addr × Obj)} {σ : L2.St} {H : Hp} {s : Shared} {scope : Scope} {own : List (Str × Nat)} {fp : List Addr} {pn : List (Addr × Obj)} {A : Around} {code : Value} {cenv : PySem.Env} {h5 : Heap} {g5 : Array GenState} {d5 : Drawn} {t5 : Nat} {mm : Str → Option Value}
    (I : Inv X pins σ H s) (ok : BlkOk X.N X.env.scope scope own) (hN : X.N.Nodup) (hcell : ∀ y ∈ scope.names, y.2 ≠ .cell) (hfp : ∀ b ∈ fp, FpOk X pins H b ∧ b < s.heap.objs.size)
    (hcenv : cenv = genEnv scope (cloFrom X.env.cells scope.names []) s.heap.objs.size code builtinsNs X.env) (hA : A.handled = none) (hAf : A.frames = some (cenv :: X.stack))
    (kp : ∀ b o, s.heap.get? b = some o → h5.get? b = some o) (hns : h5.Ns s.heap.objs.size mm) (hg : AllBare g5) (hpn : ∀ p ∈ pn, h5.get? p.1 = some p.2 ∧ s.heap.objs.size < p.1 ∧ ∀ v, p.2.data ≠ .cell v) :
    Inv (genX X A s H cenv fp pn) [] (L2.wipe σ (own.map (·.2))) H { s with heap := h5, gens := g5, drawn := d5, toks := t5 } := by
  subst hcenv
  have hfree : ∀ y ∈ scope.names, y.2 = .free → ∃ c, X.env.cells.lookup y.1 = some c := fun y hy e => by
    rcases ok.free y hy e with k | k
    · exact I.ok.has _ (.inl k)
    · exact I.ok.has _ (.inr k)
  have cm : ∀ {y c}, (cloFrom X.env.cells scope.names []).lookup y = some c → X.env.cells.lookup y = some c := fun {y c} e => by
    rcases cloFrom_mem (PySem.mem_of_lookup e) with hm | ⟨h1, h2⟩
    · cases hm
    · obtain ⟨c1, hc⟩ := hfree _ h1 rfl
      have hc : X.env.cells.lookup y = some c1 := hc
      have e2 : c = c1 := by
        rw [h2, hc] <;> rfl
      rw [e2]
      exact hc
  have look : ∀ {y}, scope.names.lookup y = some .free → ∃ c, (cloFrom X.env.cells scope.names []).lookup y = some c := fun {y} hl =>
    mem_lookup (cloFrom_has (cells := X.env.cells) (acc := []) (PySem.mem_of_lookup hl))
  refine ⟨⟨I.ok.mod, ok.kind, I.ok.glob, rfl, Nat.le_refl _, fun y z c e1 e2 => I.ok.inj y z c (cm e1) (cm e2), fun y hy => ?_, fun y c z _ => ?_, fun _ => hA, hAf, .inr ⟨rfl, rfl⟩, fun b hb => ⟨Nat.ne_of_lt (hfp b hb).2, fun y c e z => (hfp b hb).1.2.2.2.2.1 y c (cm e) z⟩,
      I.bs, Nat.le_trans I.ok.bsz I.sz, fun b o e hb => ?_, fun b hb z => ?_, I.stack, I.stkFree⟩,
    rfl, hg, Un.kept kp, ⟨_, hns, fun i y av e1 e2 e3 => ?_⟩, fun y c e => ?_, I.hok.fresh (Nat.le_refl _), fun y c e => I.freeC y c (cm e), fun p hp => ?_, I.hok.kept kp, by rw [L2.wipe_length]; exact I.len⟩
  · have hy : scope.names.lookup y = some .cell ∨ scope.names.lookup y = some .free := hy
    rcases hy with hy | hy
    · exact absurd rfl (hcell _ (PySem.mem_of_lookup hy))
    · exact look hy
  · have z : false = true := z
    cases z
  · rcases (hfp b hb).1.2.2.2.1 with z | z
    · exact I.ok.noex b o e z
    · exact absurd (Nat.lt_of_lt_of_le (Heap.lt_size e) (Nat.le_trans I.ok.bsz z)) (Nat.lt_irrefl _)
  · rcases List.mem_cons.mp (I.stkSub b z) with z | z
    · exact (hfp b hb).1.2.1 z
    · exact (hfp b hb).1.2.2.1 z
  · obtain ⟨e2, hne⟩ := wipe_some e2
    have no : ∀ k', scope.names.lookup y = some k' → ¬ (k' = .local ∨ k' = .cell) := fun k' e hh => by
      rcases ok.own _ (PySem.mem_of_lookup e) hh with e' | e'
      · obtain ⟨p, hp, hpy⟩ := List.mem_map.mp e'
        have e3 := ok.ix p hp
        have : p.1 = y := hpy
        rw [this] at e3
        exact hne (List.mem_map.mpr ⟨p, hp, nodup_ix hN e3 e1⟩)
      · exact e' (List.mem_of_getElem? e1)
    have e3 : Vis scope y := e3
    rcases e3 with e3 | e3 | e3
    · exact absurd (.inl rfl) (no _ e3)
    · exact absurd (.inr rfl) (no _ e3)
    · obtain ⟨m, hn, hl⟩ := I.loc
      have hvis : Vis X.env.scope y := (ok.free _ (PySem.mem_of_lookup e3) rfl).elim (fun k => .inr (.inl k)) (fun k => .inr (.inr k))
      obtain ⟨w, r, q⟩ := hl i y av e1 e2 hvis
      obtain ⟨c, h2⟩ := look e3
      refine ⟨w, r, .inr ⟨.inr e3, c, h2, ?_⟩⟩
      have c1 := cm h2
      rcases q with ⟨k, _⟩ | ⟨_, c', e', z⟩
      · have k : X.env.scope.names.lookup y = some .local := k
        rcases ok.free _ (PySem.mem_of_lookup e3) rfl with k' | k' <;> rw [show X.env.scope.names.lookup y = _ from k'] at k <;> cases k
      · rw [c1] at e'; cases e'
        exact z.keeps kp
  · obtain ⟨w', z⟩ := I.cell y c (cm e)
    exact ⟨w', z.keeps kp⟩
  · have hp : p ∈ pn := (List.mem_append.mp hp).elim (fun z => z) (fun z => by cases z)
    obtain ⟨h1, h2, h3⟩ := hpn p hp
    exact ⟨h1, I.hok.fresh (Nat.le_of_lt h2), Nat.ne_of_gt h2, fun z => by
      rcases List.mem_cons.mp (I.stkSub p.1 z) with z | z
      · have := I.lt; rw [← z] at this; exact absurd (Nat.lt_trans h2 this) (Nat.lt_irrefl _)
      · exact I.nofs (Nat.le_of_lt h2) z, h3⟩
/-! ### while the generator sleeps -/
structure SleptS (SS : List Addr) (s s' : Shared) : Prop where
  os : s'.os = s.os
  bare : AllBare s'.gens
  keep : ∀ b o, b ∉ SS → s.heap.get? b = some o → s'.heap.get? b = some o
  own : ∀ b ∈ SS, ∃ o, s'.heap.get? b = some o ∧ ∀ v, o.data ≠ .cell v
/-- an address that is ours alone -/
def Ours (X : Cx) (b : Addr) : Prop := b ≠ X.env.locals ∧ b ∉ X.fs ∧ (b ∈ X.ex ∨ X.s_0.heap.objs.size ≤ b) ∧ (∀ x c, X.env.cells.lookup x = some c → c ≠ b) ∧ ∀ p ∈ X.pn, p.1 ≠ b
theorem Inv.slept {X : Cx} {σ : L2.St} {H : Hp} {s s' : Shared} {SS : List Addr} (I : Inv X [] σ H s) (hS : ∀ b ∈ SS, H b = none ∧ Ours X b) (z : SleptS SS s s') : Inv X [] σ H s' := by
  obtain ⟨z1, z2, z3, z4⟩ := z
  obtain ⟨hh, g, d, t, o⟩ := s'
  have ho : o = s.os := z1
  subst ho
  have nt : ∀ b u, H b = some u → b ∉ SS := fun b u q hb => by rw [(hS b hb).1] at q; cases q
  refine I.step (g' := g) (t' := t) (d' := d) (ch := SS) (fun b hb => ?_)
    (fun b ob _ _ hc q _ => z3 b ob hc q) (fun b ob _ _ hc q _ => ⟨ob.slots, z3 b ob hc q⟩) (fun _ _ _ _ n => n) (fun b ob hc q => ⟨ob, z3 b ob hc q⟩)
    (fun _ _ q => q) (fun _ _ _ q => q) (fun b ps q => ⟨#[], by rw [q]; simp⟩) (fun m hm => ?_) (fun b u q => ?_) z2
  · obtain ⟨_, h1, h2, h3, h4, h5⟩ := hS b hb
    exact ⟨h3, h1, h4, fun p hp => h5 p (by simpa using hp)⟩
  · obtain ⟨ob, es, ep, ho, r⟩ := hm
    exact ⟨ob, es, ep, z3 _ ob (fun hb => (hS _ hb).2.1 rfl) ho, r⟩
  · refine (I.hok b u q).stay (fun c v hc y => z3 c v ?_ y) (fun _ y => y) fun _ _ y => y
    rcases hc with y | y
    · rw [y]; exact nt b u q
    · exact nt c _ y
end Dz
end
section
set_option Elab.async false
set_option linter.all false
set_option maxRecDepth 100000
set_option maxHeartbeats 1000000
namespace Dz
open PySem PySem.Spec L2 PyProof.Rows GenW
section
variable {Z : Wd} {X : Cx} {n : Nat}
/-- the fixed data of a generator that runs in X -/
structure GD (Z : Wd) (X : Cx) (n : Nat) where
  A : Around
  tgx : Expr
  itx : Expr
  ifs : List Expr
  eltx : Expr
  scope : Scope
  pos : Pos
  it : Addr
  fp : List Addr
  tn : Nat → Heap → Prop
  T : It
  J : IT
  tg : Tg
  cnd : List Dz.T
  elt : E
  own : List Nat
  ρ : Env
  σ : L2.St
  H3 : Hp
  m3 : List Addr
  st3 : Sto
  SS : List Addr
  Car : Nat → Shared → Hp → List Addr → Prop
  Put : Value → Shared → Shared → Prop
  tr : List (D × Sto)
  e : Option Sto
abbrev GD.ge (g : GD Z X n) : Expr := .GeneratorExp g.eltx [⟨g.tgx, g.itx, g.ifs, 0⟩] g.scope g.pos
abbrev GD.lc (g : GD Z X n) : Code := .compLoop g.ge 0 (.ref g.it) .none X.env
abbrev GD.sc (g : GD Z X n) : Code := .compStart g.ge 0 (.ref g.it) .none X.env
abbrev GD.body (g : GD Z X n) := bodyC Z n g.ρ g.tg g.cnd g.elt g.own
structure GD.Ok0 (g : GD Z X n) : Prop where
  G : Wk Z X n
  hh : g.A.handled = none
  hA : X.A = g.A.over g.lc []
  co : X.env.scope.isCoroutine = false
  pg : PG X g.tgx (gT X.K Z g.tg)
  pt : PTs X g.ifs (tTA X.K Z n g.cnd)
  pe : PE X g.eltx (tE X.K Z n g.elt)
  T : Turn X.prog X.w X.K g.tgx g.T g.fp g.it g.tn
  rJ : RI X.K g.H3 g.m3 g.J g.T
  R3 : Rp X.K Z.Tb g.H3 g.m3 g.st3
  E3 : RE X.K g.H3 g.m3 (wipeD g.ρ g.own) (L2.wipe g.σ g.own)
  htg : ∀ i ∈ tgI g.tg, i ∈ g.own
  stat : ∀ b ∈ g.fp, Ours X b
structure GD.Ok (g : GD Z X n) : Prop extends GD.Ok0 g where
  ss : ∀ b ∈ g.SS, Ours X b ∧ b ∉ g.fp
  car : ∀ (j : Nat) (s s' : Shared) (H H' : Hp) (m m' : List Addr) (st : Sto), g.Car j s H m → Rp X.K Z.Tb H m st → Ext m H m' H' → (∀ b ∈ g.SS, s'.heap.get? b = s.heap.get? b) → g.Car j s' H' m'
  put : ∀ (j : Nat) (s s' : Shared) (H : Hp) (m : List Addr) (st : Sto) (d : D) (x : V) (v : Value), g.Car j s H m → g.tr[j]? = some (d, st) → Rp X.K Z.Tb H m st → RV X.K H m d x → RelV x v → SleptS g.SS s s' → g.Put v s s' → g.Car (j + 1) s' H m
  puth : ∀ (v : Value) (s s' s'' : Shared), s''.heap = s'.heap → g.Put v s s' → g.Put v s s''
structure GD.At (g : GD Z X n) (i j : Nat) (s : Shared) (H : Hp) (m : List Addr) (st : Sto) : Prop where
  inv : Inv X [] (L2.wipe g.σ g.own) H s
  rp : Rp X.K Z.Tb H m st
  ext : Ext g.m3 g.H3 m H
  tn : g.tn i s.heap
  fp : ∀ b ∈ g.fp, H b = none
  ss : ∀ b ∈ g.SS, H b = none ∧ ∃ o, s.heap.get? b = some o ∧ ∀ v, o.data ≠ .cell v
  car : g.Car j s H m
abbrev Same (SS : List Addr) (s s' : Shared) : Prop := ∀ b ∈ SS, s'.heap.get? b = s.heap.get? b
def GD.P (g : GD Z X n) : Nat → Shared → Shared → Prop := fun k s₀ s => k = 0 ∧ ∃ stE H m, g.e = some stE ∧ Inv X [] (L2.wipe g.σ g.own) H s ∧ Rp X.K Z.Tb H m stE ∧ Ext g.m3 g.H3 m H ∧ (∀ b ∈ g.SS, H b = none ∧ ∃ o, s.heap.get? b = some o) ∧ g.Car g.tr.length s H m ∧ Same g.SS s₀ s
abbrev GD.R (g : GD Z X n) : GenEnd := fun k s₀ r s => r = .ok .next ∧ g.P k s₀ s
def GD.Y (g : GD Z X n) : Protocol := fun k s₀ v s kap => ∃ d st H m x i, g.tr[g.tr.length - 1 - k]? = some (d, st) ∧ g.At i (g.tr.length - 1 - k) s H m st ∧ RV X.K H m d x ∧ RelV x v ∧ Same g.SS s₀ s ∧
  (¬ (k = 0 ∧ g.e = none) → ∀ s', SleptS g.SS s s' → g.Put v s s' → kap (.send .none) s')
theorem GD.At.pinS {g : GD Z X n} (O : g.Ok) {i j : Nat} {s : Shared} {H : Hp} {m : List Addr} {st : Sto} (a : g.At i j s H m st) : Inv X (pinsAt g.SS s.heap) (L2.wipe g.σ g.own) H s ∧ ∀ b ∈ g.fp, FpOk X (pinsAt g.SS s.heap) H b := by
  have I := a.inv.pinned (fp := g.SS) (fun b hb => ?_) (fun b hb => (a.ss b hb).2)
  · refine ⟨I, fun b hb => ?_⟩
    obtain ⟨h1, h2, h3, h4, h5⟩ := O.stat b hb
    refine ⟨a.fp b hb, h1, h2, h3, h4, fun p hp => ?_⟩
    rcases List.mem_append.mp hp with z | z
    · exact h5 p z
    · intro e
      exact (O.ss p.1 (of_pinsAt z).1).2 (e ▸ hb)
  · obtain ⟨h1, h2, h3, h4, h5⟩ := (O.ss b hb).1
    exact ⟨(a.ss b hb).1, h1, h2, h3, h4, fun p hp => h5 p (by simpa using hp)⟩
theorem same_of {SS : List Addr} {σ : L2.St} {H' : Hp} {s s' : Shared} {extra : List (Addr × Obj)} (ho : ∀ b ∈ SS, ∃ o, s.heap.get? b = some o) (I : Inv X (pinsAt SS s.heap ++ extra) σ H' s') : Same SS s s' ∧ ∀ b ∈ SS, H' b = none := by
  refine ⟨fun b hb => ?_, fun b hb => ?_⟩ <;> obtain ⟨o, e⟩ := ho b hb
  · rw [e]
    exact (I.pin (b, o) (List.mem_append_right _ (List.mem_append_left _ (mem_pinsAt hb e)))).1
  · exact (I.pin (b, o) (List.mem_append_right _ (List.mem_append_left _ (mem_pinsAt hb e)))).2.1
theorem hE (G : Wk Z X n) {α : Type} {t : Sem α} {Q : α → Shared → Prop} {s : Shared} (h : wpAny (model X.prog X.w) X.A t Q X.xe s) : wpAny (model X.prog X.w) X.A t Q (fun _ _ => False) s := by rw [← G.xe]; exact h
theorem seg_loop {g : GD Z X n} (O : g.Ok) : ∀ {r i : Nat} {st : Sto} {tr : List (D × Sto)} {e : Option Sto}, Tr g.J g.body r i st tr e → ¬ (tr = [] ∧ e = none) → e = g.e → ∀ (j : Nat), tr = g.tr.drop j → j ≤ g.tr.length →
    ∀ (s₀ s : Shared) (H : Hp) (m : List Addr), g.At i j s H m st → Same g.SS s₀ s → Seg (model X.prog X.w) g.A g.R g.Y tr.length s₀ g.lc ((model X.prog X.w).den g.lc) [] s := by
  intro r i st tr e t
  induction t with
  | stop => intro hn; exact absurd ⟨rfl, rfl⟩ hn
  | @fin i st hs =>
    intro _ he j hj hjl s₀ s H m a hsame
    show Seg _ g.A _ _ _ s₀ _ ((compTurn g.ge 0 (.ref g.it) .none X.env).onRaise (leaving X.env)) [] s
    rw [compTurn_gen, Sem.onRaise_eq_wrap]
    refine seg_bind_wrap (wpAny_standAt ?_)
    refine seg_bind_wrap ?_
    rw [← O.hA]
    obtain ⟨I1, f1⟩ := a.pinS O
    have stop := (O.rJ.ext O.R3 a.ext).stop a.rp hs
    refine thnF (O.T.done X rfl rfl rfl O.G.calm i _ s _ H (fun _ _ => False) I1 f1 a.tn stop) fun q s6 ⟨hq, I6⟩ => ?_
    subst hq
    obtain ⟨q1, q2⟩ := same_of (extra := []) (fun b hb => let ⟨o, e, _⟩ := (a.ss b hb).2; ⟨o, e⟩) (by rw [List.append_nil]; exact I6)
    have hl : j = g.tr.length := by
      have := congrArg List.length hj
      simp at this
      omega
    refine seg_end (.ok .next) ⟨rfl, rfl, st, H, m, he.symm, I6.pins_of (fun p hp => by cases hp), a.rp, a.ext, fun b hb => ⟨q2 b hb, by rw [q1 b hb]; obtain ⟨o, e, _⟩ := (a.ss b hb).2; exact ⟨o, e⟩⟩, ?_, fun b hb => (q1 b hb).trans (hsame b hb)⟩
    rw [← hl]
    exact O.car j s s6 H H m m st a.car a.rp Ext.refl q1
  | @skip r i st st1 x tr e hx hb ht ih =>
    intro hn he j hj hjl s₀ s H m a hsame
    show Seg _ g.A _ _ _ s₀ _ ((compTurn g.ge 0 (.ref g.it) .none X.env).onRaise (leaving X.env)) [] s
    rw [compTurn_gen, Sem.onRaise_eq_wrap]
    refine seg_bind_wrap (wpAny_standAt ?_)
    refine seg_bind_wrap ?_
    rw [← O.hA]
    obtain ⟨I1, f1⟩ := a.pinS O
    have rJ := O.rJ.ext O.R3 a.ext
    refine thnF (O.T.item X rfl rfl rfl O.G.calm i _ s _ H (fun _ _ => False) I1 f1 a.tn (rJ.go a.rp hx)) fun q s1 ⟨u, hq, h1⟩ => ?_
    subst hq
    refine seg_bind_wrap ?_
    rw [← O.hA]
    refine thnF h1 fun _ s2 ⟨xv, H2, I2, r2, y2, tn2, n2⟩ => ?_
    obtain ⟨x2, R2, rv2⟩ := rJ.yld a.rp hx y2
    have f2 : ∀ b ∈ g.fp, FpOk X (pinsAt g.SS s.heap) H2 b := fun b hb => ⟨n2 b hb, (f1 b hb).2⟩
    have I2' := I2.pinned f2 (O.T.obj _ _ tn2)
    obtain ⟨ρ1, ea, eb⟩ := Option.bind_eq_some_iff.mp hb
    obtain ⟨⟨c, st2⟩, ec, eb⟩ := Option.bind_eq_some_iff.mp eb
    have S2 : Sx X.K Z (L2.wipe g.σ g.own) H2 m (wipeD g.ρ g.own) st := ⟨O.E3.ext O.R3 (a.ext.trans x2), R2⟩
    refine seg_bind_wrap ?_
    rw [← O.hA]
    have gt : gT X.K Z g.tg xv (L2.wipe g.σ g.own) H2 (fun σ' H' => H' = H2 ∧ RE X.K H2 m ρ1 σ' ∧ L2.wipe σ' g.own = L2.wipe g.σ g.own) :=
      ⟨m, _, st, x, ρ1, S2, rv2, ea, fun σ' E' w => ⟨rfl, E', by rw [w g.own O.htg, wipe_twice]⟩⟩
    refine thnF (hE O.G (O.pg.run _ s2 _ H2 xv u _ I2' r2 gt)) fun _ s3 ⟨σ3, H3, I3, eH, E3, w3⟩ => ?_
    subst eH
    refine seg_bind_wrap ?_
    rw [← O.hA]
    refine thnF (hE O.G (O.pt.run _ s3 σ3 H3 (fun b H4 => b = c ∧ ∃ m4, Ext m H3 m4 H4 ∧ Sx X.K Z σ3 H4 m4 ρ1 st2) I3 (tTo.mk ⟨E3, R2⟩ ec fun H4 m4 x4 S4 => ⟨rfl, m4, x4, S4⟩))) fun ok s4 ⟨H4, I4, hok, m4, x4, S4⟩ => ?_
    subst hok
    -- what stays true to the turn's end
    have back : ∀ {s' : Shared} {H' : Hp} {m' : List Addr} {st' : Sto}, Inv X (pinsAt g.SS s.heap ++ pinsAt g.fp s2.heap) σ3 H' s' → Ext m4 H4 m' H' → Rp X.K Z.Tb H' m' st' → g.At (i + 1) j s' H' m' st' ∧ Same g.SS s s' := fun {s' H' m' st'} I' x' R' => by
      obtain ⟨q1, q2⟩ := same_of (fun b hb => let ⟨o, e, _⟩ := (a.ss b hb).2; ⟨o, e⟩) I'
      have pin' : ∀ b ∈ g.fp, ∀ o, s2.heap.get? b = some o → s'.heap.get? b = some o ∧ H' b = none := fun b hb o e =>
        let z := I'.pin (b, o) (List.mem_append_right _ (List.mem_append_right _ (mem_pinsAt hb e)))
        ⟨z.1, z.2.1⟩
      have hl : (L2.wipe g.σ g.own).length = σ3.length := by rw [← w3, L2.wipe_length]
      have I0 : Inv X [] σ3 H' s' := I'.pins_of (fun p hp => by cases hp)
      refine ⟨⟨I0.weak hl (fun k v e => ?_), R', ((a.ext.trans x2).trans x4).trans x', O.T.keep _ _ _ tn2 fun b hb o e => (pin' b hb o e).1, fun b hb => ?_, fun b hb => ⟨q2 b hb, ?_⟩, O.car j s s' H H' m m' st a.car a.rp ((x2.trans x4).trans x') q1⟩, q1⟩
      · rw [← w3] at e
        exact (wipe_some e).1
      · obtain ⟨o, e, _⟩ := O.T.obj _ _ tn2 b hb
        exact (pin' b hb o e).2
      · rw [q1 b hb]
        exact (a.ss b hb).2
    cases ok with
    | true =>
      obtain ⟨_, _, eb⟩ := Option.map_eq_some_iff.mp (show (ev g.elt Z.g (Z.C n) ρ1 st2).map _ = some (none, st1) from eb)
      cases eb
    | false =>
      cases eb
      simp only [Bool.false_eq_true, if_false]
      obtain ⟨a', q⟩ := back I4 Ext.refl S4.2
      exact seg_again rfl (ih hn he j hj hjl s₀ s4 H4 m4 a' fun b hb => (q b hb).trans (hsame b hb))
  | @yld r i st st1 x y tr e hx hb ht ih =>
    intro hn he j hj hjl s₀ s H m a hsame
    show Seg _ g.A _ _ _ s₀ _ ((compTurn g.ge 0 (.ref g.it) .none X.env).onRaise (leaving X.env)) [] s
    rw [compTurn_gen, Sem.onRaise_eq_wrap]
    refine seg_bind_wrap (wpAny_standAt ?_)
    refine seg_bind_wrap ?_
    rw [← O.hA]
    obtain ⟨I1, f1⟩ := a.pinS O
    have rJ := O.rJ.ext O.R3 a.ext
    refine thnF (O.T.item X rfl rfl rfl O.G.calm i _ s _ H (fun _ _ => False) I1 f1 a.tn (rJ.go a.rp hx)) fun q s1 ⟨u, hq, h1⟩ => ?_
    subst hq
    refine seg_bind_wrap ?_
    rw [← O.hA]
    refine thnF h1 fun _ s2 ⟨xv, H2, I2, r2, y2, tn2, n2⟩ => ?_
    obtain ⟨x2, R2, rv2⟩ := rJ.yld a.rp hx y2
    have f2 : ∀ b ∈ g.fp, FpOk X (pinsAt g.SS s.heap) H2 b := fun b hb => ⟨n2 b hb, (f1 b hb).2⟩
    have I2' := I2.pinned f2 (O.T.obj _ _ tn2)
    obtain ⟨ρ1, ea, eb⟩ := Option.bind_eq_some_iff.mp hb
    obtain ⟨⟨c, st2⟩, ec, eb⟩ := Option.bind_eq_some_iff.mp eb
    have S2 : Sx X.K Z (L2.wipe g.σ g.own) H2 m (wipeD g.ρ g.own) st := ⟨O.E3.ext O.R3 (a.ext.trans x2), R2⟩
    refine seg_bind_wrap ?_
    rw [← O.hA]
    have gt : gT X.K Z g.tg xv (L2.wipe g.σ g.own) H2 (fun σ' H' => H' = H2 ∧ RE X.K H2 m ρ1 σ' ∧ L2.wipe σ' g.own = L2.wipe g.σ g.own) :=
      ⟨m, _, st, x, ρ1, S2, rv2, ea, fun σ' E' w => ⟨rfl, E', by rw [w g.own O.htg, wipe_twice]⟩⟩
    refine thnF (hE O.G (O.pg.run _ s2 _ H2 xv u _ I2' r2 gt)) fun _ s3 ⟨σ3, H3, I3, eH, E3, w3⟩ => ?_
    subst eH
    refine seg_bind_wrap ?_
    rw [← O.hA]
    refine thnF (hE O.G (O.pt.run _ s3 σ3 H3 (fun b H4 => b = c ∧ ∃ m4, Ext m H3 m4 H4 ∧ Sx X.K Z σ3 H4 m4 ρ1 st2) I3 (tTo.mk ⟨E3, R2⟩ ec fun H4 m4 x4 S4 => ⟨rfl, m4, x4, S4⟩))) fun ok s4 ⟨H4, I4, hok, m4, x4, S4⟩ => ?_
    subst hok
    -- what stays true to the turn's end
    have back : ∀ {s' : Shared} {H' : Hp} {m' : List Addr} {st' : Sto}, Inv X (pinsAt g.SS s.heap ++ pinsAt g.fp s2.heap) σ3 H' s' → Ext m4 H4 m' H' → Rp X.K Z.Tb H' m' st' → g.At (i + 1) j s' H' m' st' ∧ Same g.SS s s' := fun {s' H' m' st'} I' x' R' => by
      obtain ⟨q1, q2⟩ := same_of (fun b hb => let ⟨o, e, _⟩ := (a.ss b hb).2; ⟨o, e⟩) I'
      have pin' : ∀ b ∈ g.fp, ∀ o, s2.heap.get? b = some o → s'.heap.get? b = some o ∧ H' b = none := fun b hb o e =>
        let z := I'.pin (b, o) (List.mem_append_right _ (List.mem_append_right _ (mem_pinsAt hb e)))
        ⟨z.1, z.2.1⟩
      have hl : (L2.wipe g.σ g.own).length = σ3.length := by rw [← w3, L2.wipe_length]
      have I0 : Inv X [] σ3 H' s' := I'.pins_of (fun p hp => by cases hp)
      refine ⟨⟨I0.weak hl (fun k v e => ?_), R', ((a.ext.trans x2).trans x4).trans x', O.T.keep _ _ _ tn2 fun b hb o e => (pin' b hb o e).1, fun b hb => ?_, fun b hb => ⟨q2 b hb, ?_⟩, O.car j s s' H H' m m' st a.car a.rp ((x2.trans x4).trans x') q1⟩, q1⟩
      · rw [← w3] at e
        exact (wipe_some e).1
      · obtain ⟨o, e, _⟩ := O.T.obj _ _ tn2 b hb
        exact (pin' b hb o e).2
      · rw [q1 b hb]
        exact (a.ss b hb).2
    cases ok with
    | false => cases eb
    | true =>
      obtain ⟨⟨y', st3⟩, ey, eb⟩ := Option.map_eq_some_iff.mp (show (ev g.elt Z.g (Z.C n) ρ1 st2).map _ = some (some y, st1) from eb)
      cases eb
      simp only [if_true]
      have hy : ∀ v, yieldOut X.env v = yieldValue v := fun v => by simp only [yieldOut, O.co, Bool.false_eq_true, if_false]
      simp only [hy]
      rw [Sem.bind_eq_wrap', Sem.bind_eq_wrap', Sem.wrap_wrap, Sem.wrap_wrap]
      refine seg_wrap ?_
      rw [← O.hA]
      refine thnF (hE O.G (O.pe.run _ s4 σ3 H4 (fun v H5 => ∃ m5, Ext m4 H4 m5 H5 ∧ Sx X.K Z σ3 H5 m5 ρ1 st3 ∧ RV X.K H5 m5 y' v) I4 (tE.mk S4 ey fun v H5 m5 x5 S5 r5 => ⟨m5, x5, S5, r5⟩))) fun w s5 ⟨v5, H5, I5, r5, m5, x5, S5, rv5⟩ => ?_
      obtain ⟨a', q⟩ := back I5 x5 S5.2
      have hjlt : j < g.tr.length := by
        rcases Nat.lt_or_ge j g.tr.length with z | z
        · exact z
        · rw [List.drop_of_length_le z] at hj; cases hj
      have hd : g.tr[j]? = some (y', st3) ∧ tr = g.tr.drop (j + 1) := by
        rw [List.drop_eq_getElem_cons hjlt] at hj
        injection hj with h1 h2
        exact ⟨by rw [List.getElem?_eq_getElem hjlt, h1], h2⟩
      have hlen : tr.length + (j + 1) = g.tr.length := by
        rw [hd.2, List.length_drop]; omega
      have hidx : g.tr.length - 1 - tr.length = j := by omega
      refine seg_at (seg_yield rfl rfl rfl ⟨y', st3, H5, m5, v5, i + 1, by rw [hidx]; exact hd.1, by rw [hidx]; exact a', rv5, r5, fun b hb => (q b hb).trans (hsame b hb), fun hne s' sl pt => ?_⟩)
      have a2 : g.At (i + 1) (j + 1) s' H5 m5 st3 := by
        refine ⟨Inv.slept a'.inv (fun b hb => ⟨(a'.ss b hb).1, (O.ss b hb).1⟩) sl, a'.rp, a'.ext, O.T.keep _ _ _ a'.tn fun b hb o e => sl.keep b o (fun hs => (O.ss b hs).2 hb) e, a'.fp, fun b hb => ⟨(a'.ss b hb).1, sl.own b hb⟩, O.put j s5 s' H5 m5 st3 y' v5 w a'.car hd.1 a'.rp rv5 r5 sl pt⟩
      refine seg_again rfl (ih (fun z => hne ⟨by rw [z.1]; rfl, by rw [← he]; exact z.2⟩) he (j + 1) hd.2 hjlt s' s' H5 m5 a2 fun b hb => rfl)
end
end Dz
end
section
set_option Elab.async false
set_option linter.all false
set_option maxRecDepth 100000
set_option maxHeartbeats 1000000
namespace Dz
open PySem PySem.Spec L2 PyProof.Rows GenW
section
variable {Z : Wd} {X : Cx} {n : Nat}
theorem seg_start {g : GD Z X n} (O : g.Ok) {r : Nat} {st : Sto} (t : Tr g.J g.body r 0 st g.tr g.e) (hn : ¬ (g.tr = [] ∧ g.e = none)) {s : Shared} {H : Hp} {m : List Addr} (a : g.At 0 0 s H m st) :
    Seg (model X.prog X.w) g.A g.R g.Y g.tr.length s g.sc ((model X.prog X.w).den g.sc) [] s := by
  have loop := seg_loop O t hn rfl 0 (by simp) (Nat.zero_le _) s s H m a fun b _ => rfl
  show Seg _ g.A _ _ _ s _ ((compStart g.ge 0 (.ref g.it) .none X.env).onRaise (leaving X.env)) [] s
  unfold compStart
  rw [Sem.onRaise_eq_wrap]
  show Seg _ g.A _ _ _ s _ ((ask >>= _).wrap _ _ _ _) [] s
  refine seg_bind_wrap (wpAny_askSetting ?_)
  split
  · exact seg_again rfl loop
  · first
      | exact seg_bind_wrap (wpAny_rule (seg_bind_wrap (wpAny_standAt (seg_bind_wrap (O.T.self _ 0 _ _ _ a.tn (seg_again rfl loop))))))
      | (refine seg_bind_wrap (wpAny_rule ?_); show Seg _ g.A _ _ _ s _ ((standAt g.itx.pos >>= _).wrap _ _ _ _) [] s; exact seg_bind_wrap (wpAny_standAt (seg_bind_wrap (O.T.self _ 0 _ _ _ a.tn (seg_again rfl loop)))))
/-- the generator's object at a, its state at gi -/
structure GObj (X : Cx) (a : Addr) (gi : Nat) : Prop where
  ex : ∃ go : Obj, (a, go) ∈ X.pn ∧ ∀ h : Heap, h.get? a = some go → h.IsGen a gi
structure GD.Rdy (g : GD Z X n) (a : Addr) (gi k : Nat) (s : Shared) : Prop where
  gen : s.heap.IsGen a gi
  lim : s.heap.NoLimit
  go : ∃ gs, s.gens[gi]? = some gs ∧ gs.Goes (model X.prog X.w) g.A g.R g.Y k (.send .none) (s.setGen gi .running)
/-- how it ends -/
structure GD.Done (g : GD Z X n) (s : Shared) (H : Hp) (m : List Addr) (st : Sto) : Prop where
  inv : Inv X [] (L2.wipe g.σ g.own) H s
  rp : Rp X.K Z.Tb H m st
  ext : Ext g.m3 g.H3 m H
theorem slept_gen {SS : List Addr} {s : Shared} {gi : Nat} {x : GenState} {h' : Heap} (hb : AllBare s.gens) (hx : x.bare = true) (hk : ∀ b o, s.heap.get? b = some o → h'.get? b = some o) (ho : ∀ b ∈ SS, ∃ o, s.heap.get? b = some o ∧ ∀ v, o.data ≠ .cell v) : SleptS SS s { s.setGen gi x with heap := h' } :=
  ⟨rfl, allBare_setGen hb hx, fun b o _ e => hk b o e, fun b hb => let ⟨o, e, d⟩ := ho b hb; ⟨o, hk b o e, d⟩⟩
theorem slept_heap {SS : List Addr} {s s' s'' : Shared} (x : SleptS SS s s') (h1 : s''.os = s'.os) (h2 : AllBare s''.gens) (h3 : s''.heap = s'.heap) : SleptS SS s s'' :=
  ⟨h1.trans x.os, h2, fun b o hb e => by rw [h3]; exact x.keep b o hb e, fun b hb => by rw [h3]; exact x.own b hb⟩
theorem gen_next {g : GD Z X n} (O : g.Ok) {A1 : Around} {a : Addr} {gi k j : Nat} (B : GObj X a gi) (hA : g.A = A1.in1) (hroom : A1.depth < recursionLimit) (pute : ∀ i j s H m st v, g.At i j s H m st → ∃ s', SleptS g.SS s s' ∧ g.Put v s s') {s : Shared} {Q : Option Value → Shared → Prop} {E : Value → Shared → Prop}
    (rdy : g.Rdy a gi k s) (hj : k + j = g.tr.length) (hke : k = 0 → g.e ≠ none)
    (hY : ∀ v s1 gs' d st H m x i, k ≠ 0 → g.tr[j]? = some (d, st) → g.At i j s1 H m st → RV X.K H m d x → RelV x v → Same g.SS s s1 → SleptS g.SS s1 (s1.setGen gi gs') → (s1.setGen gi gs').gens[gi]? = some gs' →
      (¬ (k = 1 ∧ g.e = none) → ∀ s3, SleptS g.SS s1 s3 → g.Put v s1 s3 → s3.gens[gi]? = some gs' → g.Rdy a gi (k - 1) s3) → Q (some v) (s1.setGen gi gs'))
    (hP : ∀ s' st H m, k = 0 → g.e = some st → g.Done s' H m st → (∀ b ∈ g.SS, H b = none) → g.Car g.tr.length s' H m → Same g.SS s s' → Q none s') : wpAny (model X.prog X.w) A1 (pyNext (.ref a)) Q E s := by
  obtain ⟨hg, hl, gs, hgs, hgo⟩ := rdy
  have hgl : gi < s.gens.size := (Array.getElem?_eq_some_iff.mp hgs).1
  obtain ⟨go, hpn, hgen⟩ := B.ex
  have hh : A1.handled = none := by have := O.hh; rw [hA] at this; exact this
  rw [hA] at hgo
  refine wpAny_gsz (n := gi + 1) hgl (wpAny_pyNext_genexpQ (P := g.P) hh hl hroom hg hgs hgo (fun v s1 gs' hbare hv => ?_) (fun s1 hp h' hk => ?_))
  · intro hsz
    obtain ⟨d, st, H, m, x, i, h1, h2, h3, h4, h5, h6⟩ := hv
    have hsz1 : gi < s1.gens.size := by
      have q : (s1.setGen gi gs').gens.size = s1.gens.size := setGen_size _ _ _
      have hsz' : gi + 1 ≤ (s1.setGen gi gs').gens.size := hsz
      omega
    cases k with
    | zero =>
      obtain ⟨s', z1, z2⟩ := pute _ _ _ _ _ _ v h2
      exact (h6 (fun z => hke rfl z.2) s' z1 z2).elim
    | succ k =>
      have hidx : g.tr.length - 1 - (k + 1 - 1) = j := by omega
      rw [hidx] at h1 h2
      have hsame : Same g.SS s s1 := fun b hb => h5 b hb
      refine hY v s1 gs' d st H m x i (by omega) h1 h2 h3 h4 hsame (slept_gen (h' := s1.heap) h2.inv.bare hbare (fun b o e => e) fun b hb => (h2.ss b hb).2) (setGen_at hsz1) fun hne s3 sl pt hg3 => ?_
      have I3 := Inv.slept h2.inv (fun b hb => ⟨(h2.ss b hb).1, (O.ss b hb).1⟩) sl
      have eg : s3.heap.get? a = some go := sl.keep a go (fun hb => (O.ss a hb).1.2.2.2.2 _ hpn rfl) (h2.inv.pin _ (List.mem_append_left _ hpn)).1
      refine ⟨hgen _ eg, I3.nolimit, gs', hg3, ?_⟩
      have := h6 (fun z => hne ⟨by omega, z.2⟩) (s3.setGen gi .running) (slept_heap sl rfl (allBare_setGen sl.bare rfl) rfl) (O.puth v s1 s3 _ rfl pt)
      rw [hA]
      exact this
  · intro _
    obtain ⟨hk0, st, H, m, h1, h2, h3, h4, h5, h6, h7⟩ := hp
    have sl : SleptS [] s1 { s1.setGen gi .finished with heap := h' } := slept_gen h2.bare rfl hk fun b hb => by cases hb
    have I' := Inv.slept h2 (fun b hb => by cases hb) sl
    have hsame : Same g.SS s s1 := fun b hb => h7 b hb
    have hh5 : ∀ b ∈ g.SS, h'.get? b = s1.heap.get? b := fun b hb => by
      obtain ⟨_, o, e⟩ := h5 b hb
      rw [e, hk b o e]
    exact hP _ st H m hk0 h1 ⟨I', h3, h4⟩ (fun b hb => (h5 b hb).1) (O.car _ s1 _ H H m m st h6 h3 Ext.refl fun b hb => hh5 b hb) fun b hb => (hh5 b hb).trans (hsame b hb)
end
end Dz
end
section
set_option Elab.async false
set_option linter.all false
set_option maxRecDepth 100000
set_option maxHeartbeats 1000000
namespace Dz
open PySem PySem.Spec L2 PyProof.Rows GenW
section
variable {Z : Wd} {X : Cx} {n : Nat}
abbrev in5 (A : Around) : Around := A.in1.in1.in1.in1.in1
theorem rdy_start {g : GD Z X n} (O : g.Ok) {a : Addr} {gi r : Nat} {st : Sto} (B : GObj X a gi) (t : Tr g.J g.body r 0 st g.tr g.e) (hn : ¬ (g.tr = [] ∧ g.e = none)) {s : Shared} {H : Hp} {m : List Addr} (at0 : g.At 0 0 s H m st)
    (hgs : s.gens[gi]? = some (.fresh g.sc)) : g.Rdy a gi g.tr.length s := by
  obtain ⟨go, hpn, hgen⟩ := B.ex
  have sl : SleptS [] s (s.setGen gi .running) := slept_gen (h' := s.heap) at0.inv.bare rfl (fun b o e => e) fun b hb => by cases hb
  have at1 : g.At 0 0 (s.setGen gi .running) H m st := ⟨Inv.slept at0.inv (fun b hb => by cases hb) sl, at0.rp, at0.ext, at0.tn, at0.fp, at0.ss, O.car _ s _ H H m m st at0.car at0.rp Ext.refl fun b _ => rfl⟩
  exact ⟨hgen _ (at0.inv.pin _ (List.mem_append_left _ hpn)).1, at0.inv.nolimit, _, hgs, rfl, seg_start O t hn at1⟩
theorem pute_triv {g : GD Z X n} (hput : ∀ v s s', g.Put v s s') : ∀ i j s H m st v, g.At i j s H m st → ∃ s', SleptS g.SS s s' ∧ g.Put v s s' := fun i j s H m st v a =>
  ⟨s, ⟨rfl, a.inv.bare, fun b o _ e => e, fun b hb => (a.ss b hb).2⟩, hput v s s⟩
theorem drop_cons {α : Type} {l t : List α} {x : α} {j : Nat} (h : x :: t = l.drop j) : l[j]? = some x ∧ t = l.drop (j + 1) ∧ j < l.length := by
  have hj : j < l.length := by
    rcases Nat.lt_or_ge j l.length with z | z
    · exact z
    · rw [List.drop_of_length_le z] at h; cases h
  rw [List.drop_eq_getElem_cons hj] at h
  injection h with h1 h2
  exact ⟨by rw [List.getElem?_eq_getElem hj, h1], h2, hj⟩
theorem drop_len {α : Type} {l t : List α} {j : Nat} (h : t = l.drop j) (hj : j ≤ l.length) : t.length + j = l.length := by
  rw [h, List.length_drop]; omega
theorem CF.ne {c : Cn} {acc d : D} {tr : List (D × Sto)} {e : Option Sto} {st' : Sto} (h : CF c acc tr e d st') : tr.length = 0 → e ≠ none := fun hl he => by
  cases tr with
  | nil => subst he; exact h
  | cons => cases hl
theorem all_loop {g : GD Z X n} (O : g.Ok) (hput : ∀ v s s', g.Put v s s') {A : Around} {a : Addr} {gi : Nat} (B : GObj X a gi) (hA : g.A = in5 A) (hroom : A.in1.in1.in1.in1.depth < recursionLimit) {R : Result → Shared → Prop} {d : D} {st' : Sto}
    (fin : ∀ s' H m b, d = .bl b → g.Done s' H m st' → R (.ok (.ret (.bool b))) s') : ∀ (tr : List (D × Sto)) (j : Nat), tr = g.tr.drop j → j ≤ g.tr.length → CF .all (.bl true) tr g.e d st' → ∀ s, g.Rdy a gi tr.length s →
    codeAny (model X.prog X.w) A (.builtin "all.loop" ⟨[.ref a], []⟩) R s := by
  intro tr
  induction tr with
  | nil =>
    intro j hj hjl cf s rdy
    refine codeAny_builtin F.entry_all_loop ?_
    rw [Around.under_plainId F.plain_all_loop _]
    show wpAny _ A.in1 (pyNext (.ref a) >>= _) _ _ s
    refine wpAny_bind (wpAny_of_in1 (wpAny_of_in1 (wpAny_of_in1 (gen_next O B hA hroom (pute_triv hput) rdy (drop_len hj hjl) cf.ne (fun v s1 gs' d st H m x i hk => (hk rfl).elim) fun s' st H m _ he dn _ _ _ => ?_))))
    refine wpAny_bind (wpAny_rule (wpAny_pure ?_))
    rw [he] at cf
    obtain ⟨c1, rfl⟩ := cf
    cases c1
    exact fin s' H m true rfl dn
  | cons y tr ih =>
    intro j hj hjl cf s rdy
    obtain ⟨h1, h2, h3⟩ := drop_cons hj
    obtain ⟨y, sy⟩ := y
    refine codeAny_builtin F.entry_all_loop ?_
    rw [Around.under_plainId F.plain_all_loop _]
    show wpAny _ A.in1 (pyNext (.ref a) >>= _) _ _ s
    refine wpAny_bind (wpAny_of_in1 (wpAny_of_in1 (wpAny_of_in1 (gen_next O B hA hroom (pute_triv hput) rdy (drop_len hj hjl) cf.ne (fun v s1 gs' d' st H m x i hk ht at1 rv rr hs sl hg3 again => ?_) fun s' st H m hk => ?_))))
    · rw [h1] at ht
      cases ht
      obtain ⟨z, ez, cf⟩ := cf
      cases y with
      | bl b =>
        cases ez
        cases rv
        obtain rfl : v = Value.bool b := rr
        refine wpAny_bind (wpAny_holding (wpAny_truthy_bool ?_))
        refine wpAny_bind (wpAny_letGo ?_)
        cases b with
        | true =>
          simp only [if_true]
          rcases cf with ⟨z, _⟩ | ⟨_, cf⟩
          · cases z
          · refine wpAny_pure ⟨plainId_quiet F.plain_all_loop _, ih (j + 1) h2 h3 cf _ ?_⟩
            have := again (fun z => cf.ne (by have := z.1; simp at this; simp [this]) z.2) _ sl (hput _ _ _) hg3
            simpa using this
        | false =>
          simp only [Bool.false_eq_true, if_false]
          rcases cf with ⟨_, _, _, rfl, rfl⟩ | ⟨z, _⟩
          · refine wpAny_bind (wpAny_rule (wpAny_pure ?_))
            exact fin _ H m false rfl ⟨Inv.slept at1.inv (fun b hb => ⟨(at1.ss b hb).1, (O.ss b hb).1⟩) sl, at1.rp, at1.ext⟩
          · cases z
      | _ => cases ez
    · simp at hk
theorem any_loop {g : GD Z X n} (O : g.Ok) (hput : ∀ v s s', g.Put v s s') {A : Around} {a : Addr} {gi : Nat} (B : GObj X a gi) (hA : g.A = in5 A) (hroom : A.in1.in1.in1.in1.depth < recursionLimit) {R : Result → Shared → Prop} {d : D} {st' : Sto}
    (fin : ∀ s' H m b, d = .bl b → g.Done s' H m st' → R (.ok (.ret (.bool b))) s') : ∀ (tr : List (D × Sto)) (j : Nat), tr = g.tr.drop j → j ≤ g.tr.length → CF .any (.bl false) tr g.e d st' → ∀ s, g.Rdy a gi tr.length s →
    codeAny (model X.prog X.w) A (.builtin "any.loop" ⟨[.ref a], []⟩) R s := by
  intro tr
  induction tr with
  | nil =>
    intro j hj hjl cf s rdy
    refine codeAny_builtin F.entry_any_loop ?_
    rw [Around.under_plainId F.plain_any_loop _]
    show wpAny _ A.in1 (pyNext (.ref a) >>= _) _ _ s
    refine wpAny_bind (wpAny_of_in1 (wpAny_of_in1 (wpAny_of_in1 (gen_next O B hA hroom (pute_triv hput) rdy (drop_len hj hjl) cf.ne (fun v s1 gs' d st H m x i hk => (hk rfl).elim) fun s' st H m _ he dn _ _ _ => ?_))))
    refine wpAny_bind (wpAny_rule (wpAny_pure ?_))
    rw [he] at cf
    obtain ⟨c1, rfl⟩ := cf
    cases c1
    exact fin s' H m false rfl dn
  | cons y tr ih =>
    intro j hj hjl cf s rdy
    obtain ⟨h1, h2, h3⟩ := drop_cons hj
    obtain ⟨y, sy⟩ := y
    refine codeAny_builtin F.entry_any_loop ?_
    rw [Around.under_plainId F.plain_any_loop _]
    show wpAny _ A.in1 (pyNext (.ref a) >>= _) _ _ s
    refine wpAny_bind (wpAny_of_in1 (wpAny_of_in1 (wpAny_of_in1 (gen_next O B hA hroom (pute_triv hput) rdy (drop_len hj hjl) cf.ne (fun v s1 gs' d' st H m x i hk ht at1 rv rr hs sl hg3 again => ?_) fun s' st H m hk => ?_))))
    · rw [h1] at ht
      cases ht
      obtain ⟨z, ez, cf⟩ := cf
      cases y with
      | bl b =>
        cases ez
        cases rv
        obtain rfl : v = Value.bool b := rr
        refine wpAny_bind (wpAny_holding (wpAny_truthy_bool ?_))
        refine wpAny_bind (wpAny_letGo ?_)
        cases b with
        | false =>
          simp only [Bool.false_eq_true, if_false]
          rcases cf with ⟨z, _⟩ | ⟨_, cf⟩
          · cases z
          · refine wpAny_pure ⟨plainId_quiet F.plain_any_loop _, ih (j + 1) h2 h3 cf _ ?_⟩
            have := again (fun z => cf.ne (by have := z.1; simp at this; simp [this]) z.2) _ sl (hput _ _ _) hg3
            simpa using this
        | true =>
          simp only [if_true]
          rcases cf with ⟨_, _, _, rfl, rfl⟩ | ⟨z, _⟩
          · refine wpAny_bind (wpAny_rule (wpAny_pure ?_))
            exact fin _ H m true rfl ⟨Inv.slept at1.inv (fun b hb => ⟨(at1.ss b hb).1, (O.ss b hb).1⟩) sl, at1.rp, at1.ext⟩
          · cases z
      | _ => cases ez
    · simp at hk
/-- sum: the list at S holds what is summed so far -/
abbrev lstS (xs : Array Value) (c : Nat) : Obj := { cls := .type "list", dict := none, data := .seq xs c, slots := #[] }
theorem lstS_nocell (xs : Array Value) (c : Nat) : ∀ v, (lstS xs c).data ≠ .cell v := fun v z => by cases z
theorem slept_upd {SS : List Addr} {s s' : Shared} {S : Addr} {ys zs : Array Value} {c : Nat} {f : Obj → Obj} {tk : Nat} (h : SleptS [S] s s') (e : s'.heap.get? S = some (lstS ys c)) {c' : Nat} (e' : (s'.heap.update S f).get? S = some (lstS zs c')) : SleptS [S] s { s' with heap := s'.heap.update S f, toks := tk } :=
  ⟨h.os, h.bare, fun b o hb x => (Heap.get?_update_other _ _ (fun z => hb (by rw [← z]; exact List.mem_singleton.mpr rfl))).trans (h.keep b o hb x), fun b hb => by
    rw [List.mem_singleton.mp hb]
    exact ⟨_, e', lstS_nocell _ _⟩⟩
theorem inL_iff {i : Int} (h : inL i = true) : -(2 ^ 63) ≤ i ∧ i < 2 ^ 63 := by
  unfold inL at h
  rw [Bool.and_eq_true] at h
  exact ⟨of_decide_eq_true h.1, of_decide_eq_true h.2⟩
theorem sum_loop {g : GD Z X n} (O : g.Ok) (hput : ∀ v s s', g.Put v s s') {A : Around} {a S : Addr} {gi : Nat} (hSS : g.SS = [S]) (B : GObj X a gi) (hA : g.A = in5 A) (hroom : A.in1.in1.in1.in1.depth < recursionLimit) {R : Result → Shared → Prop} {d : D} {st' : Sto}
    (fin : ∀ s' H m i t, d = .int i → g.Done s' H m st' → R (.ok (.ret (.int i t))) s') : ∀ (tr : List (D × Sto)) (j : Nat) (i : Int), tr = g.tr.drop j → j ≤ g.tr.length → CF .sum (.int i) tr g.e d st' → ∀ s t c, s.heap.get? S = some (lstS #[.int i t] c) → g.Rdy a gi tr.length s →
    codeAny (model X.prog X.w) A (.builtin "sum.loop" ⟨[.ref a, .ref S, rawInt 0, rawInt 0], []⟩) R s := by
  intro tr
  induction tr with
  | nil =>
    intro j i hj hjl cf s t c hS rdy
    refine codeAny_builtin F.entry_sum_loop ?_
    rw [Around.under_plainId F.plain_sum_loop _]
    show wpAny _ A.in1 (seqItems? (.ref S) >>= _) _ _ s
    refine wpAny_bind (wpAny_seqItems hS rfl ?_)
    show wpAny _ A.in1 (tryCatch (pyNext (.ref a)) _ >>= _) _ _ s
    refine wpAny_bind (wpAny_tryCatch (wpAny_of_in1 (wpAny_of_in1 (wpAny_of_in1 (gen_next O B hA hroom (pute_triv hput) rdy (drop_len hj hjl) cf.ne (fun v s1 gs' d st H m x i hk => (hk rfl).elim) fun s' st H m _ he dn _ _ _ => ?_)))))
    rw [he] at cf
    obtain ⟨c1, rfl⟩ := cf
    cases c1
    exact wpAny_pure (fin s' H m i t rfl dn)
  | cons y tr ih =>
    intro j i hj hjl cf s t c hS rdy
    obtain ⟨h1, h2, h3⟩ := drop_cons hj
    obtain ⟨y, sy⟩ := y
    refine codeAny_builtin F.entry_sum_loop ?_
    rw [Around.under_plainId F.plain_sum_loop _]
    show wpAny _ A.in1 (seqItems? (.ref S) >>= _) _ _ s
    refine wpAny_bind (wpAny_seqItems hS rfl ?_)
    show wpAny _ A.in1 (tryCatch (pyNext (.ref a)) _ >>= _) _ _ s
    refine wpAny_bind (wpAny_tryCatch (wpAny_of_in1 (wpAny_of_in1 (wpAny_of_in1 (gen_next O B hA hroom (pute_triv hput) rdy (drop_len hj hjl) cf.ne (fun v s1 gs' d' st H m x i' hk ht at1 rv rr hs sl hg3 again => ?_) fun s' st H m hk => ?_)))))
    · rw [h1] at ht
      cases ht
      obtain ⟨z, ez, cf⟩ := cf
      cases y with
      | int k =>
        have ez : (if inL i && inL k && inL (i + k) then some (false, D.int (i + k)) else none) = some z := ez
        split at ez
        · rename_i hc
          cases ez
          rw [Bool.and_eq_true, Bool.and_eq_true] at hc
          obtain ⟨⟨c1, c2⟩, c3⟩ := hc
          have c2 := inL_iff c2
          have c3 := inL_iff c3
          cases rv
          obtain ⟨tv, rfl⟩ := rr
          have hS1 : (s1.setGen gi gs').heap.get? S = some (lstS #[.int i t] c) := (hs S (by rw [hSS]; exact List.mem_singleton.mpr rfl)).trans hS
          have hc : ((decide (-(2 ^ 63) ≤ k) && decide (k < 2 ^ 63)) && (decide (-(2 ^ 63) ≤ i + k) && decide (i + k < 2 ^ 63))) = true := by
            simp only [Bool.and_eq_true, decide_eq_true_eq]
            exact ⟨c2, c3⟩
          show wpAny _ A.in1 (if (_ : Bool) = true then (mkInt (i + k) >>= _) else _) _ _ _
          split
          · refine wpAny_bind (wpAny_mkInt ?_)
            show wpAny _ A.in1 (updateSeq S (fun _ => #[.int (i + k) (s1.setGen gi gs').toks]) >>= _) _ _ _
            refine wpAny_bind ?_
            rcases cf with ⟨z, _⟩ | ⟨_, cf⟩
            · cases z
            · rw [hSS] at sl
              have e' := Heap.get?_update_self (Obj.mapSeq (fun _ => #[Value.int (i + k) (s1.setGen gi gs').toks])) hS1 rfl
              have sl' := slept_upd (SS := g.SS) (tk := (s1.setGen gi gs').toks + 1) sl hS1 e'
              rw [← hSS] at sl'
              have sl'' := sl'
              refine wpAny_updateSeq hS1 rfl (wpAny_pure ⟨plainId_quiet F.plain_sum_loop _, ih (j + 1) (i + k) h2 h3 cf _ _ _ e' ?_⟩)
              have := again (fun z => cf.ne (by have := z.1; simp at this; simp [this]) z.2) _ sl'' (hput _ _ _) hg3
              simpa using this
          · rename_i hneg
            exact absurd hc hneg
        · cases ez
      | _ => cases ez
    · simp at hk
/-- max: the list at S holds the greatest so far, twice -/
theorem max_name : (toString "max" ++ toString ".loop" : String) = "max.loop" := by decide
theorem max_loop {g : GD Z X n} (O : g.Ok) (hput : ∀ v s s', g.Put v s s') {A : Around} {a S : Addr} {gi : Nat} (hSS : g.SS = [S]) (B : GObj X a gi) (hA : g.A = in5 A) (hroom : A.in1.in1.in1.in1.depth < recursionLimit) {R : Result → Shared → Prop} {d : D} {st' : Sto}
    (fin : ∀ s' H m i t, d = .int i → g.Done s' H m st' → R (.ok (.ret (.int i t))) s') : ∀ (tr : List (D × Sto)) (j : Nat) (i : Int), tr = g.tr.drop j → j ≤ g.tr.length → CF .max (.int i) tr g.e d st' → ∀ s t c, s.heap.get? S = some (lstS #[.int i t, .int i t] c) → g.Rdy a gi tr.length s →
    codeAny (model X.prog X.w) A (.builtin "max.loop" ⟨[.ref a, .none, .ref S], []⟩) R s := by
  have hname := max_name
  intro tr
  induction tr with
  | nil =>
    intro j i hj hjl cf s t c hS rdy
    refine codeAny_builtin F.entry_max_loop ?_
    rw [Around.under_plainId F.plain_max_loop _]
    show wpAny _ A.in1 (seqItems? (.ref S) >>= _) _ _ s
    refine wpAny_bind (wpAny_seqItems hS rfl ?_)
    show wpAny _ A.in1 (tryCatch (pyNext (.ref a)) _ >>= _) _ _ s
    refine wpAny_bind (wpAny_tryCatch (wpAny_of_in1 (wpAny_of_in1 (wpAny_of_in1 (gen_next O B hA hroom (pute_triv hput) rdy (drop_len hj hjl) cf.ne (fun v s1 gs' d st H m x i hk => (hk rfl).elim) fun s' st H m _ he dn hSn _ hs => ?_)))))
    rw [he] at cf
    obtain ⟨c1, rfl⟩ := cf
    cases c1
    have hS1 : s'.heap.get? S = some (lstS #[.int i t, .int i t] c) := (hs S (by rw [hSS]; exact List.mem_singleton.mpr rfl)).trans hS
    show wpAny _ A.in1 (updateSeq S (fun _ => #[]) >>= _) _ _ _
    refine wpAny_bind ?_
    have e' := Heap.get?_update_self (Obj.mapSeq (fun _ => (#[] : Array Value))) hS1 rfl
    refine wpAny_updateSeq hS1 rfl (wpAny_bind (wpAny_letGo (wpAny_pure ?_)))
    have sl' : SleptS [S] s' { s' with heap := s'.heap.update S (Obj.mapSeq (fun _ => (#[] : Array Value))) } := slept_upd (SS := g.SS) (tk := s'.toks) ⟨rfl, dn.inv.bare, fun b o _ e => e, fun b hb => by rw [List.mem_singleton.mp hb]; exact ⟨_, hS1, lstS_nocell _ _⟩⟩ hS1 e'
    exact fin _ H m i t rfl ⟨Inv.slept dn.inv (fun b hb => ⟨hSn b (by rw [hSS]; exact hb), (O.ss b (by rw [hSS]; exact hb)).1⟩) sl', dn.rp, dn.ext⟩
  | cons y tr ih =>
    intro j i hj hjl cf s t c hS rdy
    obtain ⟨h1, h2, h3⟩ := drop_cons hj
    obtain ⟨y, sy⟩ := y
    refine codeAny_builtin F.entry_max_loop ?_
    rw [Around.under_plainId F.plain_max_loop _]
    show wpAny _ A.in1 (seqItems? (.ref S) >>= _) _ _ s
    refine wpAny_bind (wpAny_seqItems hS rfl ?_)
    show wpAny _ A.in1 (tryCatch (pyNext (.ref a)) _ >>= _) _ _ s
    refine wpAny_bind (wpAny_tryCatch (wpAny_of_in1 (wpAny_of_in1 (wpAny_of_in1 (gen_next O B hA hroom (pute_triv hput) rdy (drop_len hj hjl) cf.ne (fun v s1 gs' d' st H m x i' hk ht at1 rv rr hs sl hg3 again => ?_) fun s' st H m hk => ?_)))))
    · rw [h1] at ht
      cases ht
      obtain ⟨z, ez, cf⟩ := cf
      cases y with
      | int k =>
        cases ez
        rcases cf with ⟨z, _⟩ | ⟨_, cf⟩
        · cases z
        cases rv
        obtain ⟨tv, rfl⟩ := rr
        have hS1 : (s1.setGen gi gs').heap.get? S = some (lstS #[.int i t, .int i t] c) := (hs S (by rw [hSS]; exact List.mem_singleton.mpr rfl)).trans hS
        show wpAny _ A.in1 (tryCatch (holding [.int k tv, .int k tv] (richCompare .Gt (.int k tv) (.int i t) >>= _)) _ >>= _) _ _ _
        obtain ⟨bt, hcmp, h01⟩ : ∃ bt, CmpOf X.prog X.w A.in1 .Gt (fun p v => ∃ t, v = .int (if p = 0 then k else i) t) bt ∧ bt 0 1 = decide (i < k) := ⟨_, CmpOf.ints_gt _ fun p v h => h, by simp⟩
        refine wpAny_bind (wpAny_tryCatch (wpAny_holding (wpAny_bind (hcmp 0 1 (.int k tv) (.int i t) _ _ _ ⟨tv, rfl⟩ ⟨t, rfl⟩ ?_))))
        refine wpAny_bind (wpAny_holding (wpAny_truthy_bool ?_))
        refine wpAny_bind (wpAny_letGo (wpAny_pure ?_))
        cases hb : bt 0 1 with
        | true =>
          have hlt : i < k := by rw [hb] at h01; exact of_decide_eq_true h01.symm
          simp only [hlt, if_true] at cf ⊢
          refine wpAny_bind ?_
          rw [hSS] at sl
          have e' := Heap.get?_update_self (Obj.mapSeq (fun _ => #[Value.int k tv, Value.int k tv])) hS1 rfl
          have sl' := slept_upd (SS := g.SS) (tk := (s1.setGen gi gs').toks) sl hS1 e'
          rw [← hSS] at sl'
          refine wpAny_updateSeq hS1 rfl (wpAny_bind (wpAny_letGo ?_))
          rw [hname]
          refine wpAny_pure ⟨plainId_quiet F.plain_max_loop _, ih (j + 1) k h2 h3 cf _ _ _ e' ?_⟩
          have := again (fun z => cf.ne (by have := z.1; simp at this; simp [this]) z.2) _ sl' (hput _ _ _) hg3
          simpa using this
        | false =>
          have hlt : ¬ i < k := by rw [hb] at h01; exact of_decide_eq_false h01.symm
          simp only [hlt, Bool.false_eq_true, if_false] at cf ⊢
          refine wpAny_bind (wpAny_letGo ?_)
          rw [hname]
          refine wpAny_pure ⟨plainId_quiet F.plain_max_loop _, ih (j + 1) i h2 h3 cf _ _ _ hS1 ?_⟩
          have := again (fun z => cf.ne (by have := z.1; simp at this; simp [this]) z.2) _ sl (hput _ _ _) hg3
          simpa using this
      | _ => cases ez
    · simp at hk
theorem max_first {g : GD Z X n} (O : g.Ok) (hput : ∀ v s s', g.Put v s s') {A : Around} {a S : Addr} {gi : Nat} (hSS : g.SS = [S]) (B : GObj X a gi) (hA : g.A = in5 A) (hroom : A.in1.in1.in1.in1.depth < recursionLimit) {R : Result → Shared → Prop} {d : D} {st' : Sto}
    (fin : ∀ s' H m i t, d = .int i → g.Done s' H m st' → R (.ok (.ret (.int i t))) s') (cf : CF .max .non g.tr g.e d st') {s : Shared} {c : Nat} (hS : s.heap.get? S = some (lstS #[] c)) (rdy : g.Rdy a gi g.tr.length s) :
    codeAny (model X.prog X.w) A (.builtin "max.loop" ⟨[.ref a, .none, .ref S], []⟩) R s := by
  have hname := max_name
  cases htr : g.tr with
  | nil =>
    rw [htr] at cf
    cases he : g.e with
    | none => rw [he] at cf; exact cf.elim
    | some st => rw [he] at cf; obtain ⟨c1, _⟩ := cf; cases c1
  | cons y tr =>
    obtain ⟨y, sy⟩ := y
    have cf' := cf
    rw [htr] at cf'
    refine codeAny_builtin F.entry_max_loop ?_
    rw [Around.under_plainId F.plain_max_loop _]
    show wpAny _ A.in1 (seqItems? (.ref S) >>= _) _ _ s
    refine wpAny_bind (wpAny_seqItems hS rfl ?_)
    show wpAny _ A.in1 (tryCatch (pyNext (.ref a)) _ >>= _) _ _ s
    refine wpAny_bind (wpAny_tryCatch (wpAny_of_in1 (wpAny_of_in1 (wpAny_of_in1 (gen_next (j := 0) O B hA hroom (pute_triv hput) rdy rfl cf.ne (fun v s1 gs' d' st H m x i' hk ht at1 rv rr hs sl hg3 again => ?_) fun s' st H m hk => ?_)))))
    · rw [htr] at ht
      cases ht
      obtain ⟨z, ez, cf'⟩ := cf'
      cases y with
      | int k =>
        cases ez
        rcases cf' with ⟨z, _⟩ | ⟨_, cf'⟩
        · cases z
        cases rv
        obtain ⟨tv, rfl⟩ := rr
        have hS1 : (s1.setGen gi gs').heap.get? S = some (lstS #[] c) := (hs S (by rw [hSS]; exact List.mem_singleton.mpr rfl)).trans hS
        show wpAny _ A.in1 (updateSeq S (fun _ => #[.int k tv, .int k tv]) >>= _) _ _ _
        refine wpAny_bind ?_
        rw [hSS] at sl
        have e' := Heap.get?_update_self (Obj.mapSeq (fun _ => #[Value.int k tv, Value.int k tv])) hS1 rfl
        have sl' := slept_upd (SS := g.SS) (tk := (s1.setGen gi gs').toks) sl hS1 e'
        rw [← hSS] at sl'
        have sl'' := sl'
        refine wpAny_updateSeq hS1 rfl ?_
        rw [hname]
        have hj : tr = g.tr.drop 1 := by rw [htr]; rfl
        refine wpAny_pure ⟨plainId_quiet F.plain_max_loop _, max_loop O hput hSS B hA hroom fin tr 1 k hj (by rw [htr]; simp) cf' _ _ _ e' ?_⟩
        have := again (fun z => cf'.ne (by have := z.1; rw [htr] at this; simp at this; simp [this]) z.2) _ sl'' (hput _ _ _) hg3
        rw [htr] at this
        simpa using this
      | _ => cases ez
    · rw [htr] at hk; simp at hk
end
end Dz
end
section
set_option Elab.async false
set_option linter.all false
set_option maxRecDepth 100000
set_option maxHeartbeats 1000000
namespace Dz
open PySem PySem.Spec L2 PyProof.Rows GenW
section
variable {Z : Wd} {X : Cx} {n : Nat}
theorem cf_tuple : ∀ {tr : List (D × Sto)} {ds : List D} {e : Option Sto} {d : D} {st' : Sto}, CF .tuple (.tup ds) tr e d st' → e = some st' ∧ d = .tup (ds ++ tr.map (·.1)) ∧ (ds.length + tr.length ≤ sizeLine ∨ tr = [])
  | [], ds, some st, d, st', h => by
    obtain ⟨h1, rfl⟩ := h
    cases h1
    exact ⟨rfl, by simp, .inr rfl⟩
  | [], ds, none, d, st', h => h.elim
  | (y, sy) :: tr, ds, e, d, st', h => by
    obtain ⟨z, ez, h⟩ := h
    have ez : (if ds.length < sizeLine then some (false, D.tup (ds ++ [y])) else none) = some z := ez
    split at ez
    · rename_i hl
      cases ez
      rcases h with ⟨z, _⟩ | ⟨_, h⟩
      · cases z
      · obtain ⟨h1, h2, h3⟩ := cf_tuple h
        refine ⟨h1, by rw [h2]; simp, .inl ?_⟩
        rcases h3 with h3 | h3
        · simp at h3 ⊢; omega
        · subst h3; simp; omega
    · cases ez
/-- what stands in the list that is filled -/
def CarT (K : PySem.W.Frag) (S : Addr) (ds : List D) : Nat → Shared → Hp → List Addr → Prop := fun j s H m => ∃ (acc : Array Value) (c : Nat) (vs : List V), s.heap.get? S = some (lstS acc c) ∧ Vals vs acc.toList ∧ P2 (RV K H m) (ds.take j) vs
def PutT (S : Addr) : Value → Shared → Shared → Prop := fun v s s' => ∀ (acc : Array Value) (c : Nat), s.heap.get? S = some (lstS acc c) → ∃ c', s'.heap.get? S = some (lstS (acc.push v) c')
theorem ext_loop {g : GD Z X n} (O : g.Ok) {A : Around} {a S : Addr} {gi : Nat} (hSS : g.SS = [S]) (hcar : g.Car = CarT X.K S (g.tr.map (·.1))) (hput : g.Put = PutT S) (B : GObj X a gi) (hA : g.A = in5 A) (hroom : A.in1.in1.in1.in1.depth < recursionLimit)
    {R : Result → Shared → Prop} {res : Value} {st' : Sto} (he : g.e = some st') (hsz : g.tr.length ≤ sizeLine ∨ g.tr = [])
    (fin : ∀ s' H m acc c vs, g.Done s' H m st' → s'.heap.get? S = some (lstS acc c) → H S = none → Vals vs acc.toList → P2 (RV X.K H m) (g.tr.map (·.1)) vs → R (.ok (.ret res)) s') : ∀ (tr : List (D × Sto)) (j : Nat), tr = g.tr.drop j → j ≤ g.tr.length → ∀ s, g.Rdy a gi tr.length s →
    codeAny (model X.prog X.w) A (.builtin "list.extend.loop" ⟨[.ref S, .ref a, res], []⟩) R s := by
  have hSm : S ∈ g.SS := by rw [hSS]; exact List.mem_singleton.mpr rfl
  have hne : ∀ {k : Nat}, k = 0 → g.e ≠ none := fun _ z => by rw [he] at z; cases z
  have pute : ∀ i j s H m st v, g.At i j s H m st → ∃ s', SleptS g.SS s s' ∧ g.Put v s s' := fun i j s H m st v a => by
    have hc := a.car
    rw [hcar] at hc
    obtain ⟨acc, c, vs, hS, _⟩ := hc
    have e' := Heap.get?_update_self (Obj.mapSeq (·.push v)) hS rfl
    refine ⟨{ s with heap := s.heap.update S (Obj.mapSeq (·.push v)) }, ?_, ?_⟩
    · rw [hSS]
      exact slept_upd (SS := g.SS) (tk := s.toks) ⟨rfl, a.inv.bare, fun b o _ e => e, fun b hb => by rw [List.mem_singleton.mp hb]; exact ⟨_, hS, lstS_nocell _ _⟩⟩ hS e'
    · rw [hput]
      intro acc' c' h'
      rw [hS] at h'
      cases h'
      exact ⟨_, e'⟩
  intro tr
  induction tr with
  | nil =>
    intro j hj hjl s rdy
    refine codeAny_builtin F.entry_extend_loop ?_
    rw [Around.under_plainId F.plain_extend_loop _]
    show wpAny _ A.in1 (pyNext (.ref a) >>= _) _ _ s
    refine wpAny_bind (wpAny_of_in1 (wpAny_of_in1 (wpAny_of_in1 (gen_next O B hA hroom pute rdy (drop_len hj hjl) hne (fun v s1 gs' d st H m x i hk => (hk rfl).elim) fun s' st H m _ he2 dn hn hc _ => ?_))))
    rw [he] at he2
    cases he2
    rw [hcar] at hc
    obtain ⟨acc, c, vs, hS, hv, hp⟩ := hc
    rw [List.take_of_length_le (by simp)] at hp
    exact wpAny_pure (fin s' H m acc c vs dn hS (hn S hSm) hv hp)
  | cons y tr ih =>
    intro j hj hjl s rdy
    obtain ⟨h1, h2, h3⟩ := drop_cons hj
    obtain ⟨y, sy⟩ := y
    refine codeAny_builtin F.entry_extend_loop ?_
    rw [Around.under_plainId F.plain_extend_loop _]
    show wpAny _ A.in1 (pyNext (.ref a) >>= _) _ _ s
    refine wpAny_bind (wpAny_of_in1 (wpAny_of_in1 (wpAny_of_in1 (gen_next O B hA hroom pute rdy (drop_len hj hjl) hne (fun v s1 gs' d' st H m x i' hk ht at1 rv rr hs sl hg3 again => ?_) fun s' st H m hk => ?_))))
    · have hc := at1.car
      rw [hcar] at hc
      obtain ⟨acc, c, vs, hS, hv, hp⟩ := hc
      have hS1 : (s1.setGen gi gs').heap.get? S = some (lstS acc c) := hS
      have hasz : acc.size = j := by
        have q1 := hv.length
        have q2 := hp.1
        simp at q1 q2
        omega
      have hlt : acc.size < sizeLine := by
        rcases hsz with z | z
        · omega
        · rw [z] at h3; simp at h3
      show wpAny _ A.in1 (updateSeq S (·.push v) >>= _) _ _ _
      refine wpAny_bind ?_
      rw [hSS] at sl
      have e' := Heap.get?_update_self (Obj.mapSeq (·.push v)) hS1 rfl
      have sl' := slept_upd (SS := g.SS) (tk := (s1.setGen gi gs').toks) sl hS1 e'
      rw [← hSS] at sl'
      refine wpAny_updateSeq hS1 rfl (wpAny_pure ⟨plainId_quiet F.plain_extend_loop _, ih (j + 1) h2 h3 _ ?_⟩) (by omega) (by show (acc.push v).size ≤ sizeLine + 1; rw [Array.size_push]; omega)
      have := again (fun z => hne (k := 0) rfl z.2) _ sl' (by
        rw [hput]
        intro acc' c' h'
        rw [hS] at h'
        cases h'
        exact ⟨_, e'⟩) hg3
      simpa using this
    · simp at hk
end
end Dz
end
section
set_option Elab.async false
set_option linter.all false
set_option maxRecDepth 100000
set_option maxHeartbeats 1000000
namespace Dz
open PySem PySem.Spec L2 PyProof.Rows GenW
/-! ### the code's table grows -/
section
variable {K : PySem.W.Frag} {Tb : TBl} {H : Hp} {m : List Addr} {st : Sto} {P : Addr} {ps ps' : Array Value}
theorem sqT_tbl (hP : H P = some (.tbl ps)) (a : Addr) (zs : List V) (h : SqT K H a zs) : SqT K (upd H P (.tbl ps')) a zs := by
  rcases h with (h | ⟨o, h⟩) | h
  · exact .inl (.inl (by rw [upd_ne (fun z => by subst z; rw [hP] at h; cases h)]; exact h))
  · exact .inl (.inr ⟨o, by rw [upd_ne (fun z => by subst z; rw [hP] at h; cases h)]; exact h⟩)
  · exact .inr h
theorem Ext.tbl (hP : H P = some (.tbl ps)) : Ext m H m (upd H P (.tbl ps')) :=
  ⟨⟨[], by simp, fun b hb => by cases hb⟩, fun b u e _ hu => by rw [upd_ne (fun z => by subst z; rw [hP] at e; cases e; exact hu)]; exact e, fun b e => upd_some e, fun b o u e => by rw [upd_ne (fun z => by subst z; rw [hP] at e; cases e)]; exact e⟩
theorem Rp.tbl (R : Rp K Tb H m st) (hP : H P = some (.tbl ps)) (ht : TriplesOk ps'.toList) : Rp K Tb (upd H P (.tbl ps')) m st :=
  ⟨R.len, R.nd, fun k a o e1 e2 => (R.obj k a o e1 e2).carry R (Ext.tbl hP) (upd_ne fun z => by
    subst z
    obtain ⟨xs, e, q⟩ := R.some_of (List.mem_of_getElem? e1)
    rw [hP] at e; cases e; exact q), fun Q hQ => by
    obtain ⟨qs, e, t⟩ := R.tab Q hQ
    by_cases h : Q = P
    · subst h; exact ⟨ps', upd_same, ht⟩
    · exact ⟨qs, by rw [upd_ne h]; exact e, t⟩⟩
end
/-! ### a generator expression is made -/
section
variable {Z : Wd} {X : Cx} {n : Nat}
/-- room for the generator's frame -/
structure RoomG (n : Nat) (A : Around) : Prop where
  hd : A.handled = none
  dp : A.depth + 3 * n + 6 < recursionLimit
  un : A.units + 16 * n + 208 < cLine
theorem RoomG.of {A : Around} (r : Room (n + 1) A) : RoomG n A := ⟨r.hd, by have := r.dp; omega, by have := r.un; omega⟩
theorem RoomG.in2 {A : Around} (r : Room (n + 1) A) : RoomG n A.in1.in1 := ⟨r.hd, by have := r.dp; show A.depth + 3 * n + 6 < _; omega, by have := r.un; show A.units + 1 + 1 + 16 * n + 208 < _; omega⟩
theorem RoomG.over {A : Around} (r : RoomG n A) {elt : Expr} {gs : List Comprehension} {scope : Scope} {pos : Pos} {it : Value} {env : PySem.Env} : Room n ((in5 A).over (.compLoop (.GeneratorExp elt gs scope pos) 0 it .none env) []) := by
  have h1 := r.dp
  have h2 := r.un
  refine ⟨r.hd, ?_, ?_⟩
  · show A.depth + 0 + (1 + 0 + 0 + 0) + 3 * n + 5 < _
    omega
  · show A.units + 1 + 1 + 1 + 1 + 1 + 0 + 3 * 1 + 16 * n + 200 < _
    omega
/-- all that is known of a generator that has just been made -/
structure Made (Z : Wd) (X : Cx) (n : Nat) (A : Around) (pins : List (Addr × Obj)) (σ : L2.St) (H : Hp) (m : List Addr) (J : IT) (body : D → Sto → Option (Option D × Sto)) (st1 : Sto) (a : Addr) (s5 : Shared) : Prop where
  ex : ∃ (A1 : Around) (s3 : Shared) (H3 : Hp) (cenv : PySem.Env) (fp : List Addr) (pn : List (Addr × Obj)) (gi : Nat) (g : GD Z (genX X A1 s3 H3 cenv fp pn) n),
    GObj (genX X A1 s3 H3 cenv fp pn) a gi ∧ g.Ok0 ∧ g.A = in5 A ∧ g.J = J ∧ g.body = body ∧ g.st3 = st1 ∧ Ext m H g.m3 g.H3 ∧ Inv (genX X A1 s3 H3 cenv fp pn) [] (L2.wipe g.σ g.own) g.H3 s5 ∧ g.tn 0 s5.heap ∧ (∀ b ∈ g.fp, g.H3 b = none) ∧
    s5.gens[gi]? = some (.fresh g.sc) ∧ ∀ σ' H' s', Inv (genX X A1 s3 H3 cenv fp pn) [] σ' H' s' → Inv X pins σ H' s'
theorem gen_make {pins : List (Addr × Obj)} {σ : L2.St} {H : Hp} {s : Shared} {m : List Addr} {ρ : Env} {st st1 : Sto} {ik : Ik} {src : List E} {tg : Tg} {cnd : List Dz.T} {elt : E} {ds : List D} {J : IT} {k : Nat} {eltx tgx itx : Expr} {ifs : List Expr} {scope : Scope} {own : List (Str × Nat)} {pos : Pos} {c P : Addr} {A : Around} {Q : Value → Shared → Prop}
    (G : Wk Z X (n + 1)) (I : Inv X pins σ H s) (rA : RoomG n A) (hAf : A.frames = X.A.frames) (hi : PI X tgx itx (tI X.K Z (n + 1) ik src)) (ok : BlkOk X.N X.env.scope scope own) (hcell : ∀ y ∈ scope.names, y.2 ≠ .cell) (h0 : scope.names.lookup (".0" : Str) = some NameKind.local) (hco : scope.isCoroutine = false)
    (TB : GxR.TabB X.base X.mg c P) (hcode : X.env.code = .ref c) (hPt : P ∈ Z.Tb) (hs : ∀ v, genFold itx X.env v = pure v) (htg : ∀ i ∈ tgI tg, i ∈ own.map (·.2))
    (hpg : ∀ (A1 : Around) (s3 : Shared) (H3 : Hp) (cenv : PySem.Env) (fp : List Addr) (pn : List (Addr × Obj)), cenv.scope = scope → Wk Z (genX X A1 s3 H3 cenv fp pn) n → PG (genX X A1 s3 H3 cenv fp pn) tgx (gT X.K Z tg) ∧ PTs (genX X A1 s3 H3 cenv fp pn) ifs (tTA X.K Z n cnd) ∧ PE (genX X A1 s3 H3 cenv fp pn) eltx (tE X.K Z n elt))
    (S : Sx X.K Z σ H m ρ st) (e1 : evs src Z.g (Z.C (n + 1)) ρ st = some (ds, st1)) (e2 : itD ik ds st1 = some (J, k))
    (hQ : ∀ a s5, Made Z X n A pins σ H m J (bodyC Z n ρ tg cnd elt (own.map (·.2))) st1 a s5 → Q (.ref a) s5) :
    wpAny (model X.prog X.w) X.A (eval (.GeneratorExp eltx [⟨tgx, itx, ifs, 0⟩] scope pos) X.env) Q X.xe s := by
  have hfree : ∀ y ∈ scope.names, y.2 = .free → ∃ c, X.env.cells.lookup y.1 = some c := fun y hy e => by
    rcases ok.free y hy e with k | k
    · exact I.ok.has _ (.inl k)
    · exact I.ok.has _ (.inr k)
  refine wpAny_GeneratorExp_make hco (closure_ok hfree) hcell h0 ok.kind G.room.depth ?_ hs
  refine thn (hi.run pins s σ H (fun T H1 => ∃ m1, Ext m H m1 H1 ∧ Rp X.K Z.Tb H1 m1 st1 ∧ RI X.K H1 m1 J T) I ⟨m, ρ, st, ds, st1, J, k, S, e1, e2, fun T H1 m1 x1 R1 rJ => ⟨m1, x1, R1, rJ⟩⟩) fun xv s1 h1 => thn h1 fun itv s2 h2 => ?_
  obtain ⟨it, fp, tn, T, H1, rfl, I2, Tn, st2, f2, m1, x1, R1, rJ⟩ := h2
  obtain ⟨ps, hP, ht⟩ := R1.tab P hPt
  have hPs : s2.heap.get? P = some { cls := .none, data := .fields ps } := I2.hok P _ hP
  have cd : PySem.W.CodeHd s2.heap c P := TB.code.keeps fun b u e => I2.bk b u e
  have cont : ∀ (code : Value) (h3 : Heap) (tk : Nat) (more : Array Value), Heap.ExtBut P s2.heap h3 → h3.get? P = some { cls := .none, data := .fields (ps ++ more) } → TriplesOk (ps ++ more).toList →
      wpAny (model X.prog X.w) X.A (builtinsFor X.env.globals X.env.builtins) (fun bi s₄ =>
        ∀ h', h'.Ns s₄.heap.objs.size (fun y => if y = ".0" then some (.ref it) else none) → Heap.SameBut s₄.heap.objs.size (s₄.heap.push { cls := .type "frame", data := .dict #[] }) h' →
          Q (.ref h'.objs.size) { s₄ with
            gens := s₄.gens.push (.fresh (.compStart (.GeneratorExp eltx [⟨tgx, itx, ifs, 0⟩] scope pos) 0 (.ref it) .none (genEnv scope (cloFrom X.env.cells scope.names []) s₄.heap.objs.size code bi X.env))),
            toks := s₄.toks + 1 + 1 + 1,
            heap := h'.push { cls := .type "generator", data := .fields #[.int s₄.gens.size 0, .str "<genexpr>" (s₄.toks + 1), .str (X.env.qual ++ "<genexpr>") (s₄.toks + 1 + 1)] } }) X.xe { s2 with heap := h3, toks := tk } := by
    intro code h3 tk more hx hP3 ht3
    obtain ⟨bm, ob, b1, b2, b3, b4, b5, b6, b7, b8⟩ := TB.bm
    have keep3 : ∀ b u, b ≠ P → s2.heap.get? b = some u → h3.get? b = some u := fun b u hb e => hx b u hb e
    refine wpAny_builtinsFor (m := X.mg) (by rw [I2.ok.glob]; exact (I2.mod.glob.keeps I2.bk).extBut hx TB.gP) b1 b2 (keep3 _ _ b4 (I2.bk _ _ b5)) b6 b7 b8 ?_
    have I3 : Inv X pins σ (upd H1 P (.tbl (ps ++ more))) { s2 with heap := h3, toks := tk } := GxR.inv_tab (g' := s2.gens) (d' := s2.drawn) I2 hP keep3 hP3 I2.bare
    have R3 := R1.tbl (ps' := ps ++ more) hP ht3
    have x3 : Ext m1 H1 m1 (upd H1 P (.tbl (ps ++ more))) := Ext.tbl hP
    have nP : ∀ b, H1 b = none → b ≠ P := fun b e z => by rw [z, hP] at e; cases e
    have f3 : ∀ b ∈ fp, FpOk X pins (upd H1 P (.tbl (ps ++ more))) b := fun b hb => ⟨by rw [upd_ne (nP b (f2 b hb).1)]; exact (f2 b hb).1, (f2 b hb).2⟩
    have st3 : tn 0 h3 := Tn.keep _ _ _ st2 fun b hb o e => keep3 b o (nP b (f2 b hb).1) e
    generalize hH3 : upd H1 P (.tbl (ps ++ more)) = H3 at I3 R3 x3 f3
    generalize hs3 : ({ s2 with heap := h3, toks := tk } : Shared) = s3 at I3
    have eh3 : s3.heap = h3 := by rw [← hs3]
    have f3' : ∀ b ∈ fp, FpOk X pins H3 b ∧ b < s3.heap.objs.size := fun b hb => ⟨f3 b hb, by
      obtain ⟨o, e, _⟩ := Tn.obj _ _ st3 b hb
      rw [eh3]; exact Heap.lt_size e⟩
    intro h' hn' hs'
    have hsz : h'.objs.size = s3.heap.objs.size + 1 := by rw [hs'.1, Heap.size_push]
    have keep' : ∀ b o, s3.heap.get? b = some o → h'.get? b = some o := fun b o e => hs'.extBut b o (Nat.ne_of_lt (Heap.lt_size e)) (Heap.get?_push_of_some _ e)
    generalize hgo : ({ cls := .type "generator", data := .fields #[.int s3.gens.size 0, .str "<genexpr>" (s3.toks + 1), .str (X.env.qual ++ "<genexpr>") (s3.toks + 1 + 1)] } : Obj) = go
    have hgod : go.data = .fields #[.int s3.gens.size 0, .str "<genexpr>" (s3.toks + 1), .str (X.env.qual ++ "<genexpr>") (s3.toks + 1 + 1)] := by rw [← hgo]
    have hgoc : go.cls = .type "generator" := by rw [← hgo]
    have hgos : go.slots = #[] := by rw [← hgo]
    have hgof : (h'.push go).get? h'.objs.size = some go := by rw [← hgo]; exact Heap.get?_push_size _ rfl
    have kp5 : ∀ b o, s3.heap.get? b = some o → (h'.push go).get? b = some o := fun b o e => Heap.get?_push_of_some _ (keep' b o e)
    generalize hce : genEnv scope (cloFrom X.env.cells scope.names []) s3.heap.objs.size code builtinsNs X.env = cenv
    have hcs : cenv.scope = scope := by rw [← hce]; rfl
    have hA1 : ((in5 A).over (.compLoop (.GeneratorExp eltx [⟨tgx, itx, ifs, 0⟩] scope pos) 0 (.ref it) .none cenv) []).frames = some (cenv :: X.stack) := by
      show (A.frames).map ((cenv :: []) ++ ·) = _
      rw [hAf, I3.ok.frames]; rfl
    have hpn : ∀ p ∈ [(h'.objs.size, go)], (h'.push go).get? p.1 = some p.2 ∧ s3.heap.objs.size < p.1 ∧ ∀ v, p.2.data ≠ .cell v := fun p hp => by
      rw [List.mem_singleton.mp hp]
      exact ⟨hgof, by show _ < h'.objs.size; rw [hsz]; exact Nat.lt_succ_self _, fun v z => by rw [hgod] at z; cases z⟩
    have I5 := inv_gen (A := (in5 A).over (.compLoop (.GeneratorExp eltx [⟨tgx, itx, ifs, 0⟩] scope pos) 0 (.ref it) .none cenv) []) (pn := [(h'.objs.size, go)]) (code := code) (cenv := cenv) (d5 := s3.drawn) (t5 := s3.toks + 1 + 1 + 1) I3 ok G.nd hcell f3' hce.symm rA.hd hA1 kp5 (hn'.push _)
      (AllBare.push (g := .fresh (.compStart (.GeneratorExp eltx [⟨tgx, itx, ifs, 0⟩] scope pos) 0 (.ref it) .none cenv)) I3.bare rfl) hpn
    have W : Wk Z (genX X ((in5 A).over (.compLoop (.GeneratorExp eltx [⟨tgx, itx, ifs, 0⟩] scope pos) 0 (.ref it) .none cenv) []) s3 H3 cenv fp [(h'.objs.size, go)]) n :=
      ⟨rfl, rfl, G.nd, rA.over, G.glb, G.blt, G.fnG, G.prg, G.wld, fun i hi => G.fok i (Nat.lt_succ_of_lt hi)⟩
    obtain ⟨pg, pt, pe⟩ := hpg _ s3 H3 cenv fp [(h'.objs.size, go)] hcs W
    refine hQ _ _ ⟨_, s3, H3, cenv, fp, [(h'.objs.size, go)], s3.gens.size,
      { A := in5 A, tgx := tgx, itx := itx, ifs := ifs, eltx := eltx, scope := scope, pos := pos, it := it, fp := fp, tn := tn, T := T, J := J, tg := tg, cnd := cnd, elt := elt, own := own.map (·.2), ρ := ρ, σ := σ, H3 := H3, m3 := m1, st3 := st1, SS := [], Car := fun _ _ _ _ => True, Put := fun _ _ _ => True, tr := [], e := none },
      ⟨go, List.mem_singleton.mpr rfl, fun h e => ⟨go, _, _, e, hgoc, hgod, hgos⟩⟩,
      ⟨W, rA.hd, rfl, by show cenv.scope.isCoroutine = false; rw [hcs]; exact hco, pg, pt, pe, Tn, rJ.ext R1 x3, R3, ((S.1.ext S.2 x1).ext R1 x3).wipe _, htg, fun b hb => ?_⟩, rfl, rfl, rfl, rfl, x1.trans x3, I5, ?_, fun b hb => (f3 b hb).1, ?_, fun σ' H' s' I' => ?_⟩
    · refine ⟨(I5.ok.exf b hb).1, I5.ok.exfs b hb, .inl hb, (I5.ok.exf b hb).2, fun p hp => ?_⟩
      have hp : p = (h'.objs.size, go) := List.mem_singleton.mp hp
      rw [hp]
      have := (f3' b hb).2
      show h'.objs.size ≠ b
      rw [hsz]
      exact Nat.ne_of_gt (Nat.lt_succ_of_lt this)
    · exact Tn.keep _ _ _ st3 fun b hb o e => kp5 b o (by rw [eh3]; exact e)
    · exact Array.getElem?_push_size ..
    · exact I3.call' (ch := fp) I'.os I'.base I'.hok I'.bare fun b hb => ⟨(f3 b hb).2.2.2.1, (f3 b hb).2.1, (f3 b hb).2.2.2.2.1, (f3 b hb).2.2.2.2.2⟩
  refine ⟨I2.nolimit, ?_⟩
  cases hf : codeAmong pos ps.toList with
  | none =>
    refine wpAny_genexprCodeX hcode (cd.code hPs ht) (cd.tab hPs) hf fun c' h' tk hx hge hlt hco' _ htab' _ => ?_
    obtain ⟨o1, vs, f1, tf, fl, tg, inF, tx, tt, op, _, _, _, _, _, _, _, _, _, htr, _⟩ := hco'
    exact cont _ h' tk _ hx htab'.2 htr
  | some cv =>
    refine wpAny_genexprCode_hit hcode (cd.code hPs ht) hf ?_
    exact cont cv s2.heap s2.toks #[] (Heap.ExtBut.refl _ _) (by simpa using hPs) (by simpa using ht)
end
end Dz
end
section
set_option Elab.async false
set_option linter.all false
set_option maxRecDepth 100000
set_option maxHeartbeats 1000000
namespace Dz
open PySem PySem.Spec L2 PyProof.Rows GenW
section
variable {Z : Wd} {X : Cx} {n : Nat}
abbrev GD.upd (g : GD Z X n) (SS : List Addr) (Car : Nat → Shared → Hp → List Addr → Prop) (Put : Value → Shared → Shared → Prop) (tr : List (D × Sto)) (e : Option Sto) : GD Z X n := { g with SS := SS, Car := Car, Put := Put, tr := tr, e := e }
theorem gen_run {A : Around} {pins : List (Addr × Obj)} {σ : L2.St} {H : Hp} {m : List Addr} {J : IT} {body : D → Sto → Option (Option D × Sto)} {st1 : Sto} {a : Addr} {s5 s' : Shared} (M : Made Z X n A pins σ H m J body st1 a s5)
    {k : Nat} {tr : List (D × Sto)} {e : Option Sto} (t : Tr J body k 0 st1 tr e) (hne : ¬ (tr = [] ∧ e = none)) (SS : List Addr) (Car : Nat → Shared → Hp → List Addr → Prop) (Put : Value → Shared → Shared → Prop)
    (car : ∀ (j : Nat) (s s' : Shared) (H H' : Hp) (m m' : List Addr) (st : Sto), Car j s H m → Rp X.K Z.Tb H m st → Ext m H m' H' → (∀ b ∈ SS, s'.heap.get? b = s.heap.get? b) → Car j s' H' m')
    (put : ∀ (j : Nat) (s s' : Shared) (H : Hp) (m : List Addr) (st : Sto) (d : D) (x : V) (v : Value), Car j s H m → tr[j]? = some (d, st) → Rp X.K Z.Tb H m st → RV X.K H m d x → RelV x v → SleptS SS s s' → Put v s s' → Car (j + 1) s' H m)
    (puth : ∀ (v : Value) (s s' s'' : Shared), s''.heap = s'.heap → Put v s s' → Put v s s'') (kept : SleptS [] s5 s') (hg5 : s'.gens = s5.gens) (hSS : ∀ b ∈ SS, s5.heap.objs.size ≤ b ∧ ∃ o, s'.heap.get? b = some o ∧ ∀ v, o.data ≠ .cell v) (car0 : ∀ H m, Car 0 s' H m) :
    ∃ (A1 : Around) (s3 : Shared) (H3 : Hp) (cenv : PySem.Env) (fp : List Addr) (pn : List (Addr × Obj)) (gi : Nat) (g : GD Z (genX X A1 s3 H3 cenv fp pn) n), g.Ok ∧ GObj (genX X A1 s3 H3 cenv fp pn) a gi ∧ g.A = in5 A ∧ g.SS = SS ∧ g.Car = Car ∧ g.Put = Put ∧ g.tr = tr ∧ g.e = e ∧ g.Rdy a gi tr.length s' ∧
      ∀ s' H' m' st', g.Done s' H' m' st' → Inv X pins σ H' s' ∧ Ext m H m' H' ∧ Rp X.K Z.Tb H' m' st' := by
  obtain ⟨A1, s3, H3, cenv, fp, pn, gi, g, B, O, hA, hJ, hbody, hst, hext, I5, htn, hfp, hgs, back⟩ := M.ex
  have lt5 : ∀ b ∈ g.fp, b < s5.heap.objs.size := fun b hb => let ⟨o, e, _⟩ := O.T.obj _ _ htn b hb; Heap.lt_size e
  have new : ∀ b ∈ SS, g.H3 b = none ∧ Ours (genX X A1 s3 H3 cenv fp pn) b ∧ b ∉ g.fp := fun b hb => by
    obtain ⟨h1, _⟩ := hSS b hb
    obtain ⟨f0, f1, f2, f3, f4, f5⟩ := I5.fpOk h1 (I5.hok.fresh h1)
    exact ⟨f0, ⟨f1, f2, f3, f4, fun p hp => f5 p (List.mem_append_left _ hp)⟩, fun hm => absurd (Nat.lt_of_lt_of_le (lt5 b hm) h1) (Nat.lt_irrefl _)⟩
  have O' : (g.upd SS Car Put tr e).Ok := ⟨⟨O.G, O.hh, O.hA, O.co, O.pg, O.pt, O.pe, O.T, O.rJ, O.R3, O.E3, O.htg, O.stat⟩, fun b hb => (new b hb).2, car, put, puth⟩
  have a0 : (g.upd SS Car Put tr e).At 0 0 s' g.H3 g.m3 g.st3 := ⟨Inv.slept I5 (fun b hb => by cases hb) kept, O.R3, Ext.refl, O.T.keep _ _ _ htn fun b hb o eo => kept.keep b o (by simp) eo, hfp, fun b hb => ⟨(new b hb).1, (hSS b hb).2⟩, car0 _ _⟩
  refine ⟨A1, s3, H3, cenv, fp, pn, gi, g.upd SS Car Put tr e, O', B, hA, rfl, rfl, rfl, rfl, rfl, ?_, fun s' H' m' st' dn => ⟨back _ _ _ dn.inv, hext.trans dn.ext, dn.rp⟩⟩
  have t' : Tr (g.upd SS Car Put tr e).J (g.upd SS Car Put tr e).body k 0 g.st3 tr e := by
    show Tr g.J g.body k 0 g.st3 tr e
    rw [hJ, hbody, hst]; exact t
  exact rdy_start O' B t' hne a0 (by rw [hg5]; exact hgs)
/-- a generator expression as an argument -/
structure GArg (Z : Wd) (X : Cx) (n : Nat) (ik : Ik) (src : List E) (tg : Tg) (cnd : List Dz.T) (elt : E) (own : List Nat) (eltx tgx itx : Expr) (ifs : List Expr) (scope : Scope) : Prop where
  G : Wk Z X (n + 1)
  hi : PI X tgx itx (tI X.K Z (n + 1) ik src)
  cd : ∃ (c P : Addr), GxR.TabB X.base X.mg c P ∧ X.env.code = .ref c ∧ P ∈ Z.Tb
  ok : ∃ own' : List (Str × Nat), own'.map (·.2) = own ∧ BlkOk X.N X.env.scope scope own'
  cell : ∀ y ∈ scope.names, y.2 ≠ .cell
  dot : scope.names.lookup (".0" : Str) = some NameKind.local
  co : scope.isCoroutine = false
  fold : ∀ v, genFold itx X.env v = pure v
  htg : ∀ i ∈ tgI tg, i ∈ own
  body : ∀ (A1 : Around) (s3 : Shared) (H3 : Hp) (cenv : PySem.Env) (fp : List Addr) (pn : List (Addr × Obj)), cenv.scope = scope → Wk Z (genX X A1 s3 H3 cenv fp pn) n → PG (genX X A1 s3 H3 cenv fp pn) tgx (gT X.K Z tg) ∧ PTs (genX X A1 s3 H3 cenv fp pn) ifs (tTA X.K Z n cnd) ∧ PE (genX X A1 s3 H3 cenv fp pn) eltx (tE X.K Z n elt)
variable {ik : Ik} {src : List E} {tg : Tg} {cnd : List Dz.T} {elt : E} {own : List Nat} {eltx tgx itx : Expr} {ifs : List Expr} {scope : Scope} {gpos p pos : Pos}
theorem GArg.make (Ga : GArg Z X n ik src tg cnd elt own eltx tgx itx ifs scope) {c : Cn} {pins : List (Addr × Obj)} {σ : L2.St} {H : Hp} {s : Shared} {Q : VK} (I : Inv X pins σ H s) {A : Around} (rA : RoomG n A) (hAf : A.frames = X.A.frames) (h : tE X.K Z (n + 1) (.gen c ik src tg cnd elt own) σ H Q) :
    ∃ m st1 J body k tr e d st', Tr J body k 0 st1 tr e ∧ CF c (con0 c) tr e d st' ∧ Aft X.K Z.Tb m H d st' Q ∧
      ∀ Q2 : Value → Shared → Prop, (∀ a s5, Made Z X n A pins σ H m J body st1 a s5 → Q2 (.ref a) s5) → wpAny (model X.prog X.w) X.A (eval (.GeneratorExp eltx [⟨tgx, itx, ifs, 0⟩] scope gpos) X.env) Q2 X.xe s := by
  obtain ⟨m, ρ, st, d, st', S, h, q⟩ := h
  obtain ⟨⟨ds, st1⟩, e1, h⟩ := Option.bind_eq_some_iff.mp h
  obtain ⟨⟨J, k⟩, e2, h⟩ := Option.bind_eq_some_iff.mp h
  have h : loopG c J (bodyC Z n ρ tg cnd elt own) k 0 (con0 c) st1 = some (d, st') := h
  obtain ⟨tr, e, t, cf⟩ := loopG_tr k 0 _ st1 h
  obtain ⟨cc, P, TB, hcode, hPt⟩ := Ga.cd
  obtain ⟨own', ho, ok⟩ := Ga.ok
  subst ho
  exact ⟨m, st1, J, _, k, tr, e, d, st', t, cf, q, fun Q2 hQ => gen_make Ga.G I rA hAf Ga.hi ok Ga.cell Ga.dot Ga.co TB hcode hPt Ga.fold Ga.htg Ga.body S e1 e2 hQ⟩
theorem CF.ne' {c : Cn} {acc d : D} {tr : List (D × Sto)} {e : Option Sto} {st' : Sto} (h : CF c acc tr e d st') : ¬ (tr = [] ∧ e = none) := fun z => h.ne (by rw [z.1]; rfl) z.2
theorem kept_refl {s : Shared} (h : AllBare s.gens) : SleptS [] s s := ⟨rfl, h, fun b o _ e => e, fun b hb => by cases hb⟩
theorem Made.bare {A : Around} {pins : List (Addr × Obj)} {σ : L2.St} {H : Hp} {m : List Addr} {J : IT} {body : D → Sto → Option (Option D × Sto)} {st1 : Sto} {a : Addr} {s5 : Shared} (M : Made Z X n A pins σ H m J body st1 a s5) : AllBare s5.gens ∧ ∃ gi, s5.heap.IsGen a gi := by
  obtain ⟨A1, s3, H3, cenv, fp, pn, gi, g, B, O, hA, hJ, hbody, hst, hext, I5, htn, hfp, hgs, back⟩ := M.ex
  obtain ⟨go, hpn, hgen⟩ := B.ex
  exact ⟨I5.bare, gi, hgen _ (I5.pin _ (List.mem_append_left _ hpn)).1⟩
theorem room_in4 {A : Around} (r : Room (n + 1) A) : A.in1.in1.in1.in1.depth < recursionLimit := r.depth
theorem s_all (Ga : GArg Z X n ik src tg cnd elt own eltx tgx itx ifs scope) (hg : Gl X "all") : PE X (.Call (.Name "all" p) [.GeneratorExp eltx [⟨tgx, itx, ifs, 0⟩] scope gpos] [] pos) (tE X.K Z (n + 1) (.gen .all ik src tg cnd elt own)) := by
  refine ⟨fun pins s σ H Q I h => ?_⟩
  have G := Ga.G
  obtain ⟨m, st1, J, body, k, tr, e, d, st', t, cf, q, mk⟩ := Ga.make (gpos := gpos) I (RoomG.of G.room) rfl h
  refine wpAny_Call_Name_kw (ld_blt I hg (G.blt _ (by simp [blts])) boot_all ?_)
  refine PyProof.Rows.callWith_builtin1 ?_ (star_cons rfl [] _) rfl
  rw [star_cons rfl]
  show wpAny _ _ (spliced ((false, eval (.GeneratorExp eltx [⟨tgx, itx, ifs, 0⟩] scope gpos) X.env) :: backTo pos (starEach [] X.env))) _ _ s
  refine Calls.spliced_cons (mk _ fun a s5 M => ?_)
  refine Calls.spliced_nil ?_
  obtain ⟨hb, gi', hgen⟩ := M.bare
  refine call_function_tree F.kind_all F.plain_all F.entry_all (F.args_all1 _) ?_
  unfold Builtin.«all»
  refine wpAny_bind (m := oneArg "all" _) (wpAny_pure ?_)
  refine wpAny_bind (wpAny_pyIter_gen hgen ?_)
  obtain ⟨A1, s3, H3, cenv, fp, pn, gi, g, O, B, hA, hSS, hC, hP, htr, he, rdy, back⟩ := gen_run M t cf.ne' [] (fun _ _ _ _ => True) (fun _ _ _ => True) (fun _ _ _ _ _ _ _ _ _ _ _ _ => trivial) (fun _ _ _ _ _ _ _ _ _ _ _ _ _ _ _ _ => trivial) (fun _ _ _ _ _ _ => trivial) (kept_refl hb) rfl (fun b hb => by cases hb) (fun _ _ => trivial)
  refine wpAny_pure ⟨plainId_quiet F.plain_all_loop _, all_loop (d := d) (st' := st') O (fun _ _ _ => by rw [hP]; trivial) B hA (room_in4 G.room) (fun s' H' m' b hd dn => ?_) tr 0 (by rw [htr]; rfl) (Nat.zero_le _) (by rw [he]; exact cf) _ rdy⟩
  obtain ⟨I', x', R'⟩ := back s' H' m' st' dn
  exact ⟨.bl b, H', I', rfl, q _ H' m' x' R' (by rw [hd]; rfl)⟩
theorem s_any (Ga : GArg Z X n ik src tg cnd elt own eltx tgx itx ifs scope) (hg : Gl X "any") : PE X (.Call (.Name "any" p) [.GeneratorExp eltx [⟨tgx, itx, ifs, 0⟩] scope gpos] [] pos) (tE X.K Z (n + 1) (.gen .any ik src tg cnd elt own)) := by
  refine ⟨fun pins s σ H Q I h => ?_⟩
  have G := Ga.G
  obtain ⟨m, st1, J, body, k, tr, e, d, st', t, cf, q, mk⟩ := Ga.make (gpos := gpos) I (RoomG.of G.room) rfl h
  refine wpAny_Call_Name_kw (ld_blt I hg (G.blt _ (by simp [blts])) boot_any ?_)
  refine PyProof.Rows.callWith_builtin1 ?_ (star_cons rfl [] _) rfl
  rw [star_cons rfl]
  show wpAny _ _ (spliced ((false, eval (.GeneratorExp eltx [⟨tgx, itx, ifs, 0⟩] scope gpos) X.env) :: backTo pos (starEach [] X.env))) _ _ s
  refine Calls.spliced_cons (mk _ fun a s5 M => ?_)
  refine Calls.spliced_nil ?_
  obtain ⟨hb, gi', hgen⟩ := M.bare
  refine call_function_tree F.kind_any F.plain_any F.entry_any (F.args_any1 _) ?_
  unfold Builtin.«any»
  refine wpAny_bind (m := oneArg "any" _) (wpAny_pure ?_)
  refine wpAny_bind (wpAny_pyIter_gen hgen ?_)
  obtain ⟨A1, s3, H3, cenv, fp, pn, gi, g, O, B, hA, hSS, hC, hP, htr, he, rdy, back⟩ := gen_run M t cf.ne' [] (fun _ _ _ _ => True) (fun _ _ _ => True) (fun _ _ _ _ _ _ _ _ _ _ _ _ => trivial) (fun _ _ _ _ _ _ _ _ _ _ _ _ _ _ _ _ => trivial) (fun _ _ _ _ _ _ => trivial) (kept_refl hb) rfl (fun b hb => by cases hb) (fun _ _ => trivial)
  refine wpAny_pure ⟨plainId_quiet F.plain_any_loop _, any_loop (d := d) (st' := st') O (fun _ _ _ => by rw [hP]; trivial) B hA (room_in4 G.room) (fun s' H' m' b hd dn => ?_) tr 0 (by rw [htr]; rfl) (Nat.zero_le _) (by rw [he]; exact cf) _ rdy⟩
  obtain ⟨I', x', R'⟩ := back s' H' m' st' dn
  exact ⟨.bl b, H', I', rfl, q _ H' m' x' R' (by rw [hd]; rfl)⟩
theorem kept_push {s : Shared} (h : AllBare s.gens) (o : Obj) (tk : Nat) : SleptS [] s { s with heap := s.heap.push o, toks := tk } := ⟨rfl, h, fun b o _ e => Heap.get?_push_of_some _ e, fun b hb => by cases hb⟩
theorem s_sum (Ga : GArg Z X n ik src tg cnd elt own eltx tgx itx ifs scope) (hg : Gl X "sum") : PE X (.Call (.Name "sum" p) [.GeneratorExp eltx [⟨tgx, itx, ifs, 0⟩] scope gpos] [] pos) (tE X.K Z (n + 1) (.gen .sum ik src tg cnd elt own)) := by
  refine ⟨fun pins s σ H Q I h => ?_⟩
  have G := Ga.G
  obtain ⟨m, st1, J, body, k, tr, e, d, st', t, cf, q, mk⟩ := Ga.make (gpos := gpos) I (RoomG.of G.room) rfl h
  refine wpAny_Call_Name_kw (ld_blt I hg (G.blt _ (by simp [blts])) boot_sum ?_)
  refine PyProof.Rows.callWith_builtin1 ?_ (star_cons rfl [] _) rfl
  rw [star_cons rfl]
  show wpAny _ _ (spliced ((false, eval (.GeneratorExp eltx [⟨tgx, itx, ifs, 0⟩] scope gpos) X.env) :: backTo pos (starEach [] X.env))) _ _ s
  refine Calls.spliced_cons (mk _ fun a s5 M => ?_)
  refine Calls.spliced_nil ?_
  obtain ⟨hb, gi', hgen⟩ := M.bare
  refine call_function_tree F.kind_sum F.plain_sum F.entry_sum (F.args_sum1 _) ?_
  unfold Builtin.«sum»
  simp only [List.length_cons, List.length_nil]
  rw [if_neg (by decide)]
  refine wpAny_bind (wpAny_of_eq (show Builtin.Builtins.bindParams "sum" ["start"] 0 { } = pure [none] from rfl) ?_)
  refine wpAny_bind (wpAny_pyIter_gen hgen ?_)
  refine wpAny_bind (wpAny_mkInt ?_)
  refine wpAny_bind (wpAny_pure ?_)
  simp only [List.forIn_cons, List.forIn_nil]
  refine wpAny_bind (wpAny_bind (wpAny_bind (wpAny_isInstance (T := "int") (b := false) (typeIs_int _ _ _) PySem.sub_int_str ?_)))
  simp only [Bool.false_eq_true, if_false]
  refine wpAny_pure (wpAny_bind (wpAny_bind (wpAny_isInstance (T := "int") (b := false) (typeIs_int _ _ _) PySem.sub_int_bytes ?_)))
  simp only [Bool.false_eq_true, if_false]
  refine wpAny_pure (wpAny_bind (wpAny_bind (wpAny_isInstance (T := "int") (b := false) (typeIs_int _ _ _) PySem.sub_int_bytearray ?_)))
  simp only [Bool.false_eq_true, if_false]
  refine wpAny_pure (wpAny_pure ?_)
  refine wpAny_bind (wpAny_newObj_type ?_)
  obtain ⟨A1, s3, H3, cenv, fp, pn, gi, g, O, B, hA, hSS, hC, hP, htr, he, rdy, back⟩ := gen_run M t cf.ne' [s5.heap.objs.size] (fun _ _ _ _ => True) (fun _ _ _ => True) (fun _ _ _ _ _ _ _ _ _ _ _ _ => trivial) (fun _ _ _ _ _ _ _ _ _ _ _ _ _ _ _ _ => trivial) (fun _ _ _ _ _ _ => trivial) (kept_push hb (lstS #[.int 0 s5.toks] 0) (s5.toks + 1)) rfl
    (fun b hb => by rw [List.mem_singleton.mp hb]; exact ⟨Nat.le_refl _, _, Heap.get?_push_size (o := lstS #[.int 0 s5.toks] 0) _ rfl, lstS_nocell _ _⟩) (fun _ _ => trivial)
  refine wpAny_pure ⟨plainId_quiet F.plain_sum_loop _, sum_loop (d := d) (st' := st') (S := s5.heap.objs.size) O (fun _ _ _ => by rw [hP]; trivial) hSS B hA (room_in4 G.room) (fun s' H' m' i ti hd dn => ?_) tr 0 0 (by rw [htr]; rfl) (Nat.zero_le _) (by rw [he]; exact cf) _ _ _ (Heap.get?_push_size _ rfl) rdy⟩
  obtain ⟨I', x', R'⟩ := back s' H' m' st' dn
  exact ⟨.int i, H', I', ⟨ti, rfl⟩, q _ H' m' x' R' (by rw [hd]; rfl)⟩
theorem s_max (Ga : GArg Z X n ik src tg cnd elt own eltx tgx itx ifs scope) (hg : Gl X "max") : PE X (.Call (.Name "max" p) [.GeneratorExp eltx [⟨tgx, itx, ifs, 0⟩] scope gpos] [] pos) (tE X.K Z (n + 1) (.gen .max ik src tg cnd elt own)) := by
  refine ⟨fun pins s σ H Q I h => ?_⟩
  have G := Ga.G
  obtain ⟨m, st1, J, body, k, tr, e, d, st', t, cf, q, mk⟩ := Ga.make (gpos := gpos) I (RoomG.of G.room) rfl h
  refine wpAny_Call_Name_kw (ld_blt I hg (G.blt _ (by simp [blts])) boot_max ?_)
  refine PyProof.Rows.callWith_builtin1 ?_ (star_cons rfl [] _) rfl
  rw [star_cons rfl]
  show wpAny _ _ (spliced ((false, eval (.GeneratorExp eltx [⟨tgx, itx, ifs, 0⟩] scope gpos) X.env) :: backTo pos (starEach [] X.env))) _ _ s
  refine Calls.spliced_cons (mk _ fun a s5 M => ?_)
  refine Calls.spliced_nil ?_
  obtain ⟨hb, gi', hgen⟩ := M.bare
  have hname := max_name
  refine call_function_tree F.kind_max F.plain_max F.entry_max (F.args_max1 _) ?_
  show wpAny _ X.A.in1 (Builtin.Builtins.bindParams "max" ["key", "default"] 0 ⟨[], []⟩ >>= _) _ _ s5
  refine wpAny_bind (wpAny_of_eq (show Builtin.Builtins.bindParams "max" ["key", "default"] 0 ⟨[], []⟩ = pure [none, none] from rfl) ?_)
  refine wpAny_bind (wpAny_pure ?_)
  refine wpAny_bind (wpAny_pyIter_gen hgen ?_)
  refine wpAny_bind (wpAny_newObj_type ?_)
  rw [hname]
  obtain ⟨A1, s3, H3, cenv, fp, pn, gi, g, O, B, hA, hSS, hC, hP, htr, he, rdy, back⟩ := gen_run M t cf.ne' [s5.heap.objs.size] (fun _ _ _ _ => True) (fun _ _ _ => True) (fun _ _ _ _ _ _ _ _ _ _ _ _ => trivial) (fun _ _ _ _ _ _ _ _ _ _ _ _ _ _ _ _ => trivial) (fun _ _ _ _ _ _ => trivial) (kept_push hb (lstS #[] 0) s5.toks) rfl
    (fun b hb => by rw [List.mem_singleton.mp hb]; exact ⟨Nat.le_refl _, _, Heap.get?_push_size (o := lstS #[] 0) _ rfl, lstS_nocell _ _⟩) (fun _ _ => trivial)
  refine wpAny_pure ⟨plainId_quiet F.plain_max_loop _, max_first (d := d) (st' := st') (S := s5.heap.objs.size) O (fun _ _ _ => by rw [hP]; trivial) hSS B hA (room_in4 G.room) (fun s' H' m' i ti hd dn => ?_) (by rw [he, htr]; exact cf) (Heap.get?_push_size _ rfl) (by rw [htr]; exact rdy)⟩
  obtain ⟨I', x', R'⟩ := back s' H' m' st' dn
  exact ⟨.int i, H', I', ⟨ti, rfl⟩, q _ H' m' x' R' (by rw [hd]; rfl)⟩
end
end Dz
end
section
set_option Elab.async false
set_option linter.all false
set_option maxRecDepth 100000
set_option maxHeartbeats 1000000
namespace Dz
open PySem PySem.Spec L2 PyProof.Rows GenW
open AutoSeq1 (wpAny_loadPart')
section
variable {prog : Program} {w : World} {A : Around} {E : Value → Shared → Prop} {s : Shared}
theorem collect_at {a : Addr} {gi : Nat} {Q : List Value → Shared → Prop} (hg : s.heap.IsGen a gi)
    (h : ∀ (h' : Heap) (c : Nat), (∀ b o, s.heap.get? b = some o → h'.get? b = some o) → h'.get? s.heap.objs.size = some (lstS #[] c) →
      codeAny (model prog w) A (.builtin "list.extend.loop" ⟨[.ref s.heap.objs.size, .ref a, .ref s.heap.objs.size], []⟩) (fun r s'' => match r with | .ok (.ret v) => v = .ref s.heap.objs.size ∧ ∃ acc c, s''.heap.get? s.heap.objs.size = some (lstS acc c) ∧ Q acc.toList s'' | _ => False) { s with heap := h' }) :
    wpAny (model prog w) A (collect (.ref a)) Q E s := by
  have hlt : a < s.heap.objs.size := by obtain ⟨o, _, _, ho, _⟩ := hg; exact Heap.lt_size ho
  have hSI : s.heap.objs.size ≠ a := Nat.ne_of_gt hlt
  unfold collect
  refine wpAny_bind (wpAny_runValue (codeAny_builtin F.entry_proto_collect ?_))
  rw [Around.under_plainId F.plain_proto_collect _]
  show wpAny _ A.in1 (newList [] >>= fun l => again (.builtin "list.__iadd__" ⟨[l, .ref a], []⟩)) _ _ s
  refine wpAny_bind (wpAny_newObj_type ?_)
  refine wpAny_pure ⟨plainId_quiet F.plain_list_iadd _, codeAny_builtin F.entry_list_iadd ?_⟩
  rw [Around.under_plainId F.plain_list_iadd _]
  have g1 : (s.heap.push { cls := .type "list", data := .seq ([] : List Value).toArray }).IsGen a gi := hg.push _
  show wpAny _ A.in1 (Builtin.List.listExtendWith (.ref s.heap.objs.size) (.ref a) (.ref s.heap.objs.size)) _ _ _
  unfold Builtin.List.listExtendWith
  refine wpAny_bind (wpAny_typeOf (Heap.IsGen.typeIs (s := { s with heap := s.heap.push { cls := .type "list", data := .seq ([] : List Value).toArray } }) g1) ?_)
  have h1 : Builtin.List.listSameRef (.ref s.heap.objs.size) (.ref a) = false := by simp [Builtin.List.listSameRef, hSI]
  have h2 : (Value.type "generator" == Value.type "list") = false := by decide
  have h3 : (Value.type "generator" == Value.type "tuple") = false := by decide
  simp only [h1, h2, h3, Bool.or_false, Bool.false_eq_true, if_false]
  refine wpAny_bind (wpAny_pyIter_gen (s := { s with heap := s.heap.push { cls := .type "list", data := .seq ([] : List Value).toArray } }) g1 ?_)
  refine wpAny_bind (wpAny_holding ?_)
  unfold Builtin.List.listLengthHint
  refine wpAny_bind (wpAny_specialOf (Heap.IsGen.typeIs (s := { s with heap := s.heap.push { cls := .type "list", data := .seq ([] : List Value).toArray } }) g1) F.gen_no_len ?_)
  show wpAny _ A.in1 (specialOf (Value.ref a) (Str.ofString "__length_hint__") >>= _) _ _ _
  refine wpAny_bind (wpAny_specialOf (Heap.IsGen.typeIs (s := { s with heap := s.heap.push { cls := .type "list", data := .seq ([] : List Value).toArray } }) g1) F.gen_no_hint ?_)
  refine wpAny_pure ?_
  show wpAny _ A.in1 (rule "list.extend.makes-room" >>= fun _ => Builtin.List.listTouch (.ref s.heap.objs.size) >>= fun _ =>
    again (.builtin "list.extend.loop" ⟨[.ref s.heap.objs.size, .ref a, .ref s.heap.objs.size], []⟩)) _ _ _
  refine wpAny_bind (wpAny_rule ?_)
  have hS₁ : (s.heap.push { cls := .type "list", data := .seq ([] : List Value).toArray }).get? s.heap.objs.size = some { cls := .type "list", data := .seq ([] : List Value).toArray } := Heap.get?_push_size _ rfl
  refine wpAny_bind ?_
  show wpAny _ A.in1 (updateSeq s.heap.objs.size (·.push .none) >>= fun _ => updateSeq s.heap.objs.size (·.pop)) _ _ _
  refine wpAny_bind (wpAny_updateSeq hS₁ rfl ?_)
  have hS₂ := Heap.get?_update_self (Obj.mapSeq (·.push Value.none)) hS₁ rfl
  refine wpAny_updateSeq hS₂ rfl ?_
  have hS₃ := Heap.get?_update_self (Obj.mapSeq (·.pop)) hS₂ rfl
  have oth : ∀ b o, s.heap.get? b = some o →
      (((s.heap.push { cls := .type "list", data := .seq ([] : List Value).toArray }).update s.heap.objs.size (Obj.mapSeq (·.push Value.none))).update s.heap.objs.size (Obj.mapSeq (·.pop))).get? b = some o :=
    fun b o e => (Heap.get?_update_other _ _ (Nat.ne_of_gt (Heap.lt_size e))).trans ((Heap.get?_update_other _ _ (Nat.ne_of_gt (Heap.lt_size e))).trans (Heap.get?_push_of_some _ e))
  refine wpAny_pure ⟨plainId_quiet F.plain_extend_loop _, codeAny_mono (h _ _ oth hS₃) fun r s'' hr => ?_⟩
  cases r with
  | error e => exact hr.elim
  | ok fl =>
    cases fl with
    | ret v =>
      obtain ⟨rfl, acc, c, hS, hq⟩ := hr
      show wpAny _ A (load s.heap.objs.size >>= _) _ _ s''
      refine wpAny_bind (wpAny_load hS ?_)
      exact wpAny_pure hq
    | _ => exact hr.elim
theorem code_tuple_at {a : Addr} {gi : Nat} {Q₁ : Value → Shared → Prop} (hg : s.heap.IsGen a gi)
    (h : ∀ (Q : List Value → Shared → Prop) (E : Value → Shared → Prop), (∀ acc s', acc.length ≤ sizeLine → Q₁ (.ref s'.heap.objs.size) { s' with heap := s'.heap.push { cls := .type "tuple", data := .seq acc.toArray } } → Q acc s') → wpAny (model prog w) A.in1 (collect (.ref a)) Q E s) :
    codeAny (model prog w) A (.call (.builtin "tuple.__new__") ⟨[.type "tuple", .ref a], []⟩) (wants Q₁ E) s := by
  refine codeAny_of_tree ?_
  show wpAny _ A.in1 (do checkBuiltinCall "tuple.__new__" ⟨[.type "tuple", .ref a], []⟩; again (.builtin "tuple.__new__" ⟨[.type "tuple", .ref a], []⟩)) _ _ s
  refine wpAny_bind (wpAny_of_eq (F.newCall_tuple_1 _) (wpAny_pure ⟨plainId_quiet F.plain_tuple_new _, codeAny_builtin F.entry_tuple_new ?_⟩))
  rw [Around.under_plainId F.plain_tuple_new _]
  have hsub := sub_tuple_self
  have hinit := init_tuple_lookup
  have hmh := madeHere_tuple
  have hTI : s.TypeIs (.ref a) "generator" := Heap.IsGen.typeIs hg
  wp_walk using wpAny_typeOf hTI, h
  intro acc s' hz hq
  show wpAny _ _ (Builtin.Tuple.tupleExact acc.toArray >>= fun v => ret v) _ _ _
  unfold Builtin.Tuple.tupleExact
  refine wpAny_bind (wpAny_newObj_type ?_ (by show acc.toArray.size ≤ sizeLine; rw [List.size_toArray]; exact hz))
  exact wpAny_pure hq
end
section
variable {Z : Wd} {X : Cx} {n : Nat} {ik : Ik} {src : List E} {tg : Tg} {cnd : List Dz.T} {elt : E} {own : List Nat} {eltx tgx itx : Expr} {ifs : List Expr} {scope : Scope} {gpos p pos : Pos}
theorem s_tuple (Ga : GArg Z X n ik src tg cnd elt own eltx tgx itx ifs scope) (hg : Gl X "tuple") : PE X (.Call (.Name "tuple" p) [.GeneratorExp eltx [⟨tgx, itx, ifs, 0⟩] scope gpos] [] pos) (tE X.K Z (n + 1) (.gen .tuple ik src tg cnd elt own)) := by
  refine ⟨fun pins s σ H Q I h => ?_⟩
  have G := Ga.G
  obtain ⟨m, st1, J, body, k, tr, e, d, st', t, cf, q, mk⟩ := Ga.make (gpos := gpos) (A := X.A.in1.in1) I (RoomG.in2 G.room) rfl h
  refine wpAny_Call_Name_kw (ld_blt I hg (G.blt _ (by simp [blts])) PyProof.Rows.boot_tuple ?_)
  refine PyProof.Rows.callWith_type1 ?_ (star_cons rfl [] _) rfl
  rw [star_cons rfl]
  show wpAny _ _ (spliced ((false, eval (.GeneratorExp eltx [⟨tgx, itx, ifs, 0⟩] scope gpos) X.env) :: backTo pos (starEach [] X.env))) _ _ s
  refine Calls.spliced_cons (mk _ fun a s5 M => ?_)
  refine Calls.spliced_nil ?_
  obtain ⟨hb, gi', hgen⟩ := M.bare
  obtain ⟨he1, rfl, hsz⟩ := cf_tuple cf
  refine callType_codes (Q₁ := fun obj s₁ => s₁.TypeIs obj "tuple" ∧ EP X pins σ Q obj s₁) F.called_tuple (F.typeCall_tuple_1 _) F.entry_object_init (code_tuple_at hgen fun Q2 E2 hQ2 => ?_) fun obj s₁ h₁ => ?_
  · refine collect_at hgen fun h' c hk hS => ?_
    obtain ⟨A1, s3, H3, cenv, fp, pn, gi, g, O, B, hA, hSS, hC, hP, htr, he, rdy, back⟩ := gen_run (s' := { s5 with heap := h' }) M t cf.ne' [s5.heap.objs.size] (CarT X.K s5.heap.objs.size (tr.map (·.1))) (PutT s5.heap.objs.size)
      (fun j s s' H H' m m' st ⟨acc, c, vs, c1, c2, c3⟩ R x hs => ⟨acc, c, vs, (hs _ (List.mem_singleton.mpr rfl)).trans c1, c2, R.rvs x c3⟩)
      (fun j s s' H m st d x v ⟨acc, c, vs, c1, c2, c3⟩ ht R rv rr sl pt => by
        obtain ⟨c', e'⟩ := pt acc c c1
        refine ⟨acc.push v, c', vs ++ [x], e', by rw [Array.toList_push]; exact c2.append (.cons rr .nil), ?_⟩
        have : (tr.map (·.1)).take (j + 1) = (tr.map (·.1)).take j ++ [d] := by
          rw [List.take_succ, List.getElem?_map, ht]; rfl
        rw [this]
        exact c3.append (P2.one rv))
      (fun v s s' s'' hh pt acc c e => by
        obtain ⟨c', e'⟩ := pt acc c e
        exact ⟨c', by rw [hh]; exact e'⟩)
      ⟨rfl, hb, fun b o _ e => hk b o e, fun b hb => by cases hb⟩ rfl (fun b hb => by rw [List.mem_singleton.mp hb]; exact ⟨Nat.le_refl _, _, hS, lstS_nocell _ _⟩)
      (fun H m => ⟨#[], c, [], hS, .nil, P2.nil⟩)
    refine ext_loop (A := X.A.in1.in1) (S := s5.heap.objs.size) (st' := st') O hSS (by rw [hC, htr]; rfl) hP B hA (show X.A.in1.in1.in1.in1.in1.in1.depth < recursionLimit from G.room.depth) (by rw [he]; exact he1) (by
      rw [htr]
      rcases hsz with z | z
      · left; simpa using z
      · exact .inr z) (fun s' H' m' acc c vs dn hS' hSn hv hp => ?_) tr 0 (by rw [htr]; rfl) (Nat.zero_le _) _ rdy
    obtain ⟨I', x', R'⟩ := back s' H' m' st' dn
    rw [htr] at hp
    have hl := hv.length
    have hl2 := hp.1
    have hle : vs.length ≤ sizeLine := by
      rw [← hl2]
      rcases hsz with z | z
      · simpa using z
      · rw [z]; exact Nat.zero_le _
    refine ⟨rfl, acc, c, hS', hQ2 acc.toList s' (by rw [← hl]; exact hle) ⟨⟨_, Heap.get?_push_size _ rfl, rfl⟩, ?_⟩⟩
    have I'' : Inv X pins σ (upd H' s'.heap.objs.size (.tup vs)) { s' with heap := s'.heap.push { cls := .type "tuple", data := .seq acc.toList.toArray } } :=
      I'.laid (t' := s'.toks) (fun b o e => Heap.get?_push_of_some _ e) (Nat.le_refl _) ⟨hle, acc.toList, hv, _, Heap.get?_push_size _ rfl, rfl, _, rfl⟩
    refine ⟨.ref s'.heap.objs.size, _, I'', rfl, ?_⟩
    have q' : Aft X.K Z.Tb m H (.tup (tr.map (·.1))) st' Q := by simpa using q
    exact (q'.later x').tup R' hp s'.heap.objs.size (I'.hok.fresh (Nat.le_refl _))
  · exact ⟨h₁.1, F.args_object_init_2 obj _, object_init_meets F.called_tuple.init.lookup F.called_tuple.made (by decide) X.prog X.w X.A.in1 _ s₁ ⟨h₁.1, rfl, h₁.2⟩⟩
end
end Dz
end
section
set_option Elab.async false
set_option linter.all false
set_option maxRecDepth 100000
set_option maxHeartbeats 2000000
namespace Dz
open PySem L2 PyProof.Rows
/-! ### the checker: the text is that of the small language's expression -/
def glB (c : Ck) (x : Str) : Bool := decide (c.sc.names.lookup x = some .globalImplicit)
def visB (c : Ck) (x : Str) : Bool := match c.sc.names.lookup x with
  | some .local => true
  | some .cell => true
  | some .free => true
  | _ => false
def locB (c : Ck) (x : Str) : Bool := match c.sc.names.lookup x with
  | some .local => true
  | some .cell => c.fb x
  | _ => false
def nmB (x : Str) : Bool := !(x == ("__debug__" : Str)) && !(x == ("__classdict__" : Str))
mutual
def okTg (c : Ck) : Tg → Expr → Bool
  | .nm i, x => match x with
    | .Name y _ => decide (c.N[i]? = some y) && locB c y
    | _ => false
  | .tp ts, x => match x with
    | .Tuple es _ _ => okTgs c ts es
    | _ => false
def okTgs (c : Ck) : List Tg → List Expr → Bool
  | [], es => es.isEmpty
  | t :: ts, es => match es with
    | e :: es => nst e && okTg c t e && okTgs c ts es
    | [] => false
end
def blkCk (c : Ck) (scope : Scope) : Ck := ⟨relS scope c.sc, c.N, fun x => scope.names.lookup x == some .cell, c.gn⟩
def genCk (c : Ck) (scope : Scope) : Ck := ⟨scope, c.N, fun _ => false, false⟩
def ownP (c : Ck) (own : List Nat) : List (Str × Nat) := own.map fun i => (c.N.getD i "", i)
def isTupE : Expr → Bool
  | .Tuple .. => true
  | _ => false
/-- a call's arguments -/
def callA (c : Ck) (nm : Str) : Expr → Option (List Expr)
  | .Call (.Name f _) xs [] _ => if f = nm ∧ glB c f = true then some xs else none
  | _ => none
theorem callA_is {c : Ck} {nm : Str} {it : Expr} {xs : List Expr} (h : callA c nm it = some xs) : ∃ p q, it = .Call (.Name nm p) xs [] q ∧ glB c nm = true := by
  unfold callA at h
  split at h
  · split at h
    · rename_i hf
      cases h
      obtain ⟨rfl, hf⟩ := hf
      exact ⟨_, _, rfl, hf⟩
    · cases h
  · cases h
/-- what is walked: its arguments -/
def itA (c : Ck) (ik : Ik) (tg it : Expr) : Option (List Expr) := match ik with
  | .one => some [it]
  | .rng1 => (callA c "range" it).bind fun xs => if xs.length = 1 then some xs else none
  | .rng2 => (callA c "range" it).bind fun xs => if xs.length = 2 then some xs else none
  | .rng3 => (callA c "range" it).bind fun xs => if xs.length = 3 then some xs else none
  | .enum => (callA c "enumerate" it).bind fun xs => if xs.length = 1 ∧ isTupE tg = true then some xs else none
  | .zip => (callA c "zip" it).bind fun xs => if xs.length = 2 ∧ isTupE tg = true then some xs else none
  | .rev => (callA c "reversed" it).bind fun xs => if xs.length = 1 then some xs else none
  | .dic => some [it]
def cnN : Cn → Str
  | .tuple => "tuple"
  | .all => "all"
  | .any => "any"
  | .sum => "sum"
  | .max => "max"
mutual
def okE (fn : List Str) (c : Ck) : E → Expr → Bool
  | .var i, x => match x with
    | .Name y _ => decide (c.N[i]? = some y) && visB c y && nmB y
    | _ => false
  | .non, x => match x with | .Constant .none _ _ => true | _ => false
  | .bl b, x => match x with | .Constant (.bool b') _ _ => decide (b = b') | _ => false
  | .int i, x => match x with | .Constant (.int i') _ _ => decide (i = i') | _ => false
  | .str s, x => match x with | .Constant (.str s') _ _ => decide (s = s') | _ => false
  | .glb y, x => match x with | .Name y' _ => decide (y = y') && glB c y && nmB y | _ => false
  | .tup es, x => match x with | .Tuple xs _ _ => okEs fn c es xs | _ => false
  | .lst es, x => match x with | .List xs _ => okEs fn c es xs | _ => false
  | .bin o a b, x => match x with | .BinOp l op r _ => decide (bop o = op) && okE fn c a l && okE fn c b r | _ => false
  | .neg a, x => match x with | .UnaryOp .USub l _ => okE fn c a l | _ => false
  | .cmp o a b, x => match x with | .Compare l [op] [r] _ => decide (cop o = op) && nset r && okE fn c a l && okE fn c b r | _ => false
  | .chn o p a b d, x => match x with | .Compare l [op, op2] [r, r2] _ => decide (cop o = op) && decide (cop p = op2) && nset r2 && okE fn c a l && okE fn c b r && okE fn c d r2 | _ => false
  | .and es, x => match x with | .BoolOp .And xs _ => !es.isEmpty && okEs fn c es xs | _ => false
  | .or es, x => match x with | .BoolOp .Or xs _ => !es.isEmpty && okEs fn c es xs | _ => false
  | .not a, x => match x with | .UnaryOp .Not l _ => okE fn c a l | _ => false
  | .ife t a b, x => match x with | .IfExp l m r _ => okT fn c t l && okE fn c a m && okE fn c b r | _ => false
  | .call f es, x => match x with | .Call (.Name y _) xs [] _ => decide (fn[f]? = some y) && glB c y && nmB y && okEs fn c es xs | _ => false
  | .bi f es, x => match x with | .Call (.Name y _) xs [] _ => decide (y = bfN f) && glB c y && !xs.isEmpty && okEs fn c es xs | _ => false
  | .isi a t, x => match x with | .Call (.Name y _) [l, .Name z _] [] _ => decide (y = "isinstance") && glB c y && decide (z = tyS t) && glB c z && nst l && okE fn c a l | _ => false
  | .mth m o es, x => match x with | .Call (.Attribute l y ap) xs [] pos => decide (y = mtN m) && ncl l && (ap.endLine == pos.line) && decide (xs.length < 30) && okE fn c o l && okEs fn c es xs | _ => false
  | .idx a i, x => match x with | .Subscript l r _ => nsl r && okE fn c a l && okE fn c i r | _ => false
  | .slF a lo, x => match x with | .Subscript l (.Slice (some r) none none _) _ => okE fn c a l && okE fn c lo r | _ => false
  | .slT a hi, x => match x with | .Subscript l (.Slice none (some r) none _) _ => okE fn c a l && okE fn c hi r | _ => false
  | .slB a lo hi, x => match x with | .Subscript l (.Slice (some r) (some r2) none _) _ => okE fn c a l && okE fn c lo r && okE fn c hi r2 | _ => false
  | .slR a, x => match x with | .Subscript l (.Slice none none (some (.UnaryOp .USub (.Constant (.int i) _ _) _)) _) _ => decide (i = 1) && okE fn c a l | _ => false
  | .lc ik src tg cnd elt own, x => match x with
    | .ListComp xelt [⟨xtg, xit, xifs, as⟩] scope _ => decide (as = 0) && nset xit && blkC c.N c.sc scope (ownP c own) && (tgI tg).all (fun i => decide (i ∈ own)) && (match itA c ik xtg xit with | some xs => okEs fn c src xs | none => false) && okTg (blkCk c scope) tg xtg && decide (cnd.length ≤ 1) && okTs fn (blkCk c scope) cnd xifs && okE fn (blkCk c scope) elt xelt
    | _ => false
  | .lc2 ik src tg cnd ik1 src1 tg1 cnd1 elt own own1, x => match x with
    | .ListComp xelt [⟨xtg, xit, xifs, as⟩, ⟨xtg1, xit1, xifs1, as1⟩] scope _ => decide (as = 0) && decide (as1 = 0) && nset xit && nset xit1 && blkC c.N c.sc scope (ownP c own) && (tgI tg).all (fun i => decide (i ∈ own)) && (tgI tg1).all (fun i => decide (i ∈ own1)) && own1.all (fun i => decide (i ∈ own)) &&
        (match itA c ik xtg xit with | some xs => okEs fn c src xs | none => false) && (match itA (blkCk c scope) ik1 xtg1 xit1 with | some xs => okEs fn (blkCk c scope) src1 xs | none => false) && okTg (blkCk c scope) tg xtg && okTg (blkCk c scope) tg1 xtg1 &&
        decide (cnd.length ≤ 1) && decide (cnd1.length ≤ 1) && okTs fn (blkCk c scope) cnd xifs && okTs fn (blkCk c scope) cnd1 xifs1 && okE fn (blkCk c scope) elt xelt
    | _ => false
  | .gen cn ik src tg cnd elt own, x => match x with
    | .Call (.Name y _) [.GeneratorExp xelt [⟨xtg, xit, xifs, as⟩] scope _] [] _ => decide (y = cnN cn) && glB c y && c.gn && decide (as = 0) && nset xit && nlis xit && blkC c.N c.sc scope (ownP c own) && scope.names.all (fun y => decide (y.2 ≠ .cell)) && decide (scope.names.lookup (".0" : Str) = some NameKind.local) && !scope.isCoroutine &&
        (tgI tg).all (fun i => decide (i ∈ own)) && (match itA c ik xtg xit with | some xs => okEs fn c src xs | none => false) && okTg (genCk c scope) tg xtg && decide (cnd.length ≤ 1) && okTs fn (genCk c scope) cnd xifs && okE fn (genCk c scope) elt xelt
    | _ => false
  | .dnew, x => match x with | .Dict [] [] _ => true | _ => false
  | .dof e, x => match x with | .Call (.Name y _) [l] [] _ => decide (y = "dict") && glB c y && nst l && okE fn c e l | _ => false
  | .dzp a b, x => match x with | .Call (.Name y _) [.Call (.Name z _) [l, r] [] _] [] _ => decide (y = "dict") && glB c y && decide (z = "zip") && glB c z && nst l && nst r && okE fn c a l && okE fn c b r | _ => false
  | .dget o k, x => match x with | .Subscript l r _ => nsl r && okE fn c o l && okE fn c k r | _ => false
  | .dmg _ _, _ => false
  | .dsd _ _ _, _ => false
  | .lockE _ e, x => okE fn c e x
def okEs (fn : List Str) (c : Ck) : List E → List Expr → Bool
  | [], xs => xs.isEmpty
  | e :: es, xs => match xs with
    | x :: xs => nst x && okE fn c e x && okEs fn c es xs
    | [] => false
def okT (fn : List Str) (c : Ck) : T → Expr → Bool
  | .val e, x => plT x && okE fn c e x
  | .not t, x => match x with | .UnaryOp .Not l _ => okT fn c t l | _ => false
  | .and ts, x => match x with | .BoolOp .And xs _ => !ts.isEmpty && okTs fn c ts xs | _ => false
  | .or ts, x => match x with | .BoolOp .Or xs _ => !ts.isEmpty && okTs fn c ts xs | _ => false
  | .cmp o a b, x => match x with | .Compare l [op] [r] _ => decide (cop o = op) && nset r && okE fn c a l && okE fn c b r | _ => false
  | .chn o p a b d, x => match x with | .Compare l [op, op2] [r, r2] _ => decide (cop o = op) && decide (cop p = op2) && nset r2 && okE fn c a l && okE fn c b r && okE fn c d r2 | _ => false
  | .ife t a b, x => match x with | .IfExp l m r _ => okT fn c t l && okT fn c a m && okT fn c b r | _ => false
  | .din neg k o, x => match x with | .Compare l [op] [r] _ => decide (dop neg = op) && nset r && okE fn c k l && okE fn c o r | _ => false
def okTs (fn : List Str) (c : Ck) : List T → List Expr → Bool
  | [], xs => xs.isEmpty
  | t :: ts, xs => match xs with
    | x :: xs => okT fn c t x && okTs fn c ts xs
    | [] => false
end
/-! ### what the checker's parts tell -/
section
variable {Z : Wd} {X : Cx} {c : Ck} {n : Nat}
theorem GX.gl (g : GX Z X c n) {x : Str} (h : glB c x = true) : Gl X x := by
  show X.env.scope.names.lookup x = _
  rw [g.scp]; exact of_decide_eq_true h
theorem GX.vis (g : GX Z X c n) {x : Str} (h : visB c x = true) : Vis X.env.scope x := by
  unfold Vis
  rw [g.scp]
  unfold visB at h
  split at h <;> first | cases h | skip
  · rename_i e; exact .inl e
  · rename_i e; exact .inr (.inl e)
  · rename_i e; exact .inr (.inr e)
theorem GX.loc (g : GX Z X c n) {x : Str} (h : locB c x = true) : L2.Loc X.env.scope x ∧ (X.fn x = true ∨ X.env.scope.names.lookup x = some .local) := by
  unfold L2.Loc
  rw [g.scp]
  unfold locB at h
  split at h
  · rename_i e; exact ⟨.inl e, .inr e⟩
  · rename_i e; exact ⟨.inr e, .inl (g.fb x h)⟩
  · cases h
theorem nmB_iff {x : Str} (h : nmB x = true) : (x == ("__debug__" : Str)) = false ∧ (x == ("__classdict__" : Str)) = false := by
  unfold nmB at h
  simp only [Bool.and_eq_true, Bool.not_eq_true'] at h
  exact h
theorem GX.ix (g : GX Z X c n) {i : Nat} {x : Str} (h : decide (c.N[i]? = some x) = true) : X.N[i]? = some x := by rw [g.Ns]; exact of_decide_eq_true h
theorem no {α : Prop} {b : Bool} (h : b = true) (e : b = false := by rfl) : α := by rw [e] at h; cases h
mutual
theorem sTg : ∀ (t : Tg) {x : Expr}, GX Z X c n → okTg c t x = true → PG X x (gT X.K Z t)
  | .nm i, x, g, h => by
    cases x with
    | Name y p =>
      have h : (decide (c.N[i]? = some y) && locB c y) = true := h
      rw [Bool.and_eq_true] at h
      obtain ⟨h1, h2⟩ := g.loc h.2
      exact g_nm g.nd (g.ix h.1) h1 h2
    | _ => exact no h
  | .tp ts, x, g, h => by
    cases x with
    | Tuple es k p =>
      have h : okTgs c ts es = true := h
      obtain ⟨h1, h2, h3⟩ := sTgs ts g h
      exact g_tp g.calm h1 h2 h3
    | _ => exact no h
theorem sTgs : ∀ (ts : List Tg) {es : List Expr}, GX Z X c n → okTgs c ts es = true → PGs X es (gTs X.K Z ts) ∧ es.all nst = true ∧ es.length = ts.length
  | [], es, g, h => by
    cases es with
    | nil => exact ⟨g_nil, rfl, rfl⟩
    | cons e es => exact no h
  | t :: ts, es, g, h => by
    cases es with
    | nil => exact no h
    | cons e es =>
      have h : (nst e && okTg c t e && okTgs c ts es) = true := h
      rw [Bool.and_eq_true, Bool.and_eq_true] at h
      obtain ⟨h1, h2, h3⟩ := sTgs ts g h.2
      exact ⟨g_cons (sTg t g h.1.2) h1 h.1.1, by rw [List.all_cons, h.1.1, h2]; rfl, by rw [List.length_cons, List.length_cons, h3]⟩
end
theorem GX.blk (g : GX Z X c n) {scope : Scope} (s : Shared) (H : Hp) (C : Addr) (cl : List (Str × Addr)) (fp : List Addr) : GX Z (X.blk s H scope (compEnvC scope cl C X.env) fp) (blkCk c scope) n :=
  { calm := g.calm, xe := rfl, nd := g.nd, room := g.room, glb := g.glb, blt := g.blt, fnG := g.fnG, prg := g.prg, wld := g.wld, fok := g.fok,
    scp := by
      show relS scope X.env.scope = relS scope c.sc
      rw [g.scp]
    Ns := g.Ns, fb := fun x h => h, cd := g.cd }
theorem GX.gen (g : GX Z X c n) {scope : Scope} {A1 : Around} {s3 : Shared} {H3 : Hp} {cenv : PySem.Env} {fp : List Addr} {pn : List (Addr × Obj)} {k : Nat} (hs : cenv.scope = scope) (W : Wk Z (genX X A1 s3 H3 cenv fp pn) k) : GX Z (genX X A1 s3 H3 cenv fp pn) (genCk c scope) k :=
  { W with scp := hs, Ns := g.Ns, fb := fun x h => Bool.noConfusion (show false = true from h), cd := fun h => Bool.noConfusion (show false = true from h) }
/-- the iterable -/
theorem s_it (g : GX Z X c n) {ik : Ik} {src : List E} {tg it : Expr} {xs : List Expr} (h : itA c ik tg it = some xs) (hs : PA X xs (tA X.K Z n src)) (h1 : ∀ (e : E) (x : Expr), src = [e] → xs = [x] → PE X x (tE X.K Z n e)) (hl : xs.length = src.length) (hst : xs.all nst = true) :
    PI X tg it (tI X.K Z n ik src) := by
  have one : ∀ {x : Expr}, xs = [x] → ∃ e, src = [e] := fun {x} e => by
    rw [e] at hl
    match src, hl with
    | [e], _ => exact ⟨e, rfl⟩
  cases ik with
  | one =>
    cases h
    obtain ⟨e, rfl⟩ := one rfl
    exact i_one (h1 e it rfl rfl)
  | rng1 =>
    obtain ⟨ys, h1', h⟩ := Option.bind_eq_some_iff.mp (show (callA c "range" it).bind (fun xs => if xs.length = 1 then some xs else none) = some xs from h)
    split at h
    · rename_i hn
      cases h
      obtain ⟨p, q, rfl, hf⟩ := callA_is h1'
      match xs, hn with
      | [a], _ =>
        rw [List.all_cons, Bool.and_eq_true] at hst
        exact i_rng1 g.toWk (g.gl hf) hs hst.1
    · cases h
  | rng2 =>
    obtain ⟨ys, h1', h⟩ := Option.bind_eq_some_iff.mp (show (callA c "range" it).bind (fun xs => if xs.length = 2 then some xs else none) = some xs from h)
    split at h
    · rename_i hn
      cases h
      obtain ⟨p, q, rfl, hf⟩ := callA_is h1'
      match xs, hn with
      | [a, b], _ =>
        rw [List.all_cons, Bool.and_eq_true, List.all_cons, Bool.and_eq_true] at hst
        exact i_rng2 g.toWk (g.gl hf) hs hst.1 hst.2.1
    · cases h
  | rng3 =>
    obtain ⟨ys, h1', h⟩ := Option.bind_eq_some_iff.mp (show (callA c "range" it).bind (fun xs => if xs.length = 3 then some xs else none) = some xs from h)
    split at h
    · rename_i hn
      cases h
      obtain ⟨p, q, rfl, hf⟩ := callA_is h1'
      match xs, hn with
      | [a, b, d], _ =>
        exact i_rng3 g.toWk (g.gl hf) hs hst
    · cases h
  | enum =>
    obtain ⟨ys, h1', h⟩ := Option.bind_eq_some_iff.mp (show (callA c "enumerate" it).bind (fun xs => if xs.length = 1 ∧ isTupE tg = true then some xs else none) = some xs from h)
    split at h
    · rename_i hn
      cases h
      obtain ⟨p, q, rfl, hf⟩ := callA_is h1'
      obtain ⟨hn, ht⟩ := hn
      match xs, hn with
      | [a], _ =>
        rw [List.all_cons, Bool.and_eq_true] at hst
        cases tg with
        | Tuple elts kk tp => exact i_enum g.toWk (g.gl hf) hs hst.1
        | _ => exact no ht
    · cases h
  | zip =>
    obtain ⟨ys, h1', h⟩ := Option.bind_eq_some_iff.mp (show (callA c "zip" it).bind (fun xs => if xs.length = 2 ∧ isTupE tg = true then some xs else none) = some xs from h)
    split at h
    · rename_i hn
      cases h
      obtain ⟨p, q, rfl, hf⟩ := callA_is h1'
      obtain ⟨hn, ht⟩ := hn
      match xs, hn with
      | [a, b], _ =>
        rw [List.all_cons, Bool.and_eq_true, List.all_cons, Bool.and_eq_true] at hst
        cases tg with
        | Tuple elts kk tp => exact i_zip g.toWk (g.gl hf) hs hst.1 hst.2.1
        | _ => exact no ht
    · cases h
  | rev =>
    obtain ⟨ys, h1', h⟩ := Option.bind_eq_some_iff.mp (show (callA c "reversed" it).bind (fun xs => if xs.length = 1 then some xs else none) = some xs from h)
    split at h
    · rename_i hn
      cases h
      obtain ⟨p, q, rfl, hf⟩ := callA_is h1'
      match xs, hn with
      | [a], _ =>
        obtain ⟨e, rfl⟩ := one rfl
        rw [List.all_cons, Bool.and_eq_true] at hst
        exact i_rev g.toWk (g.gl hf) (h1 e a rfl rfl) hst.1
    · cases h
  | dic =>
    cases h
    obtain ⟨e, rfl⟩ := one rfl
    exact i_dic (h1 e it rfl rfl)
theorem ownP_map (own : List Nat) : (ownP c own).map (·.2) = own := by
  unfold ownP
  rw [List.map_map]
  have : ((fun x : Str × Nat => x.2) ∘ fun i => (c.N.getD i "", i)) = id := rfl
  rw [this, List.map_id]
theorem all_mem {l own : List Nat} (h : l.all (fun i => decide (i ∈ own)) = true) : ∀ i ∈ l, i ∈ own := fun i hi => of_decide_eq_true (List.all_eq_true.mp h i hi)
end
end Dz
end
section
set_option Elab.async false
set_option linter.all false
set_option maxRecDepth 100000
set_option maxHeartbeats 4000000
namespace Dz
open PySem L2 PyProof.Rows
theorem a2 {a b : Bool} (h : (a && b) = true) : a = true ∧ b = true := (Bool.and_eq_true _ _) ▸ h
theorem a3 {a b c : Bool} (h : (a && b && c) = true) : a = true ∧ b = true ∧ c = true := ⟨(a2 (a2 h).1).1, (a2 (a2 h).1).2, (a2 h).2⟩
theorem a4 {a b c d : Bool} (h : (a && b && c && d) = true) : a = true ∧ b = true ∧ c = true ∧ d = true := ⟨(a3 (a2 h).1).1, (a3 (a2 h).1).2.1, (a3 (a2 h).1).2.2, (a2 h).2⟩
theorem a5 {a b c d e : Bool} (h : (a && b && c && d && e) = true) : a = true ∧ b = true ∧ c = true ∧ d = true ∧ e = true := ⟨(a4 (a2 h).1).1, (a4 (a2 h).1).2.1, (a4 (a2 h).1).2.2.1, (a4 (a2 h).1).2.2.2, (a2 h).2⟩
theorem a6 {a b c d e f : Bool} (h : (a && b && c && d && e && f) = true) : a = true ∧ b = true ∧ c = true ∧ d = true ∧ e = true ∧ f = true := ⟨(a5 (a2 h).1).1, (a5 (a2 h).1).2.1, (a5 (a2 h).1).2.2.1, (a5 (a2 h).1).2.2.2.1, (a5 (a2 h).1).2.2.2.2, (a2 h).2⟩
theorem dt {p : Prop} [Decidable p] (h : decide p = true) : p := of_decide_eq_true h
theorem PTs_imp {X : Cx} {xs : List Expr} {t t' : TT} (h : PTs X xs t) (i : ∀ σ H Q, t' σ H Q → t σ H Q) : PTs X xs t' := ⟨fun pins s σ H Q I q => h.run pins s σ H Q I (i σ H Q q)⟩
theorem ts_nil {Z : Wd} {X : Cx} {n : Nat} : PTs X [] (tTA X.K Z n []) := PTs_imp pts_nil fun σ H Q ⟨m, ρ, st, k, st', S, h, q⟩ => by cases h; exact q H m Ext.refl S.2
theorem ts_one {Z : Wd} {X : Cx} {n : Nat} {x : Expr} {t : T} (h : PT X x (tT X.K Z n t)) : PTs X [x] (tTA X.K Z n [t]) := PTs_imp (pts_one h) fun σ H Q ⟨m, ρ, st, k, st', S, h, q⟩ => by
  obtain ⟨⟨b1, st1⟩, e1, h⟩ := Option.bind_eq_some_iff.mp h
  cases b1 <;> (cases h; exact tTo.mk S e1 fun H1 m1 x1 S1 => q H1 m1 x1 S1.2)
/-- a list comprehension's parts -/
structure LcP (Z : Wd) (X : Cx) (n : Nat) (ik : Ik) (src : List E) (tg : Tg) (cnd : List T) (elt : E) (own : List Nat) (xelt xtg xit : Expr) (xifs : List Expr) (scope : Scope) : Prop where
  hi : PI X xtg xit (tI X.K Z n ik src)
  ok : ∃ own', own'.map (·.2) = own ∧ BlkOk X.N X.env.scope scope own'
  hg : ∀ (s : Shared) (H : Hp) (C : Addr) (cl : List (Str × Addr)) (fp : List Addr), PG (X.blk s H scope (compEnvC scope cl C X.env) fp) xtg (gT X.K Z tg)
  ht : ∀ (s : Shared) (H : Hp) (C : Addr) (cl : List (Str × Addr)) (fp : List Addr), PTs (X.blk s H scope (compEnvC scope cl C X.env) fp) xifs (tTA X.K Z n cnd)
  he : ∀ (s : Shared) (H : Hp) (C : Addr) (cl : List (Str × Addr)) (fp : List Addr), PE (X.blk s H scope (compEnvC scope cl C X.env) fp) xelt (tE X.K Z n elt)
  htg : ∀ i ∈ tgI tg, i ∈ own
  hs : ∀ x, foldedSetIterable xit X.env x = pure x
/-- of two clauses -/
structure Lc2P (Z : Wd) (X : Cx) (n : Nat) (ik : Ik) (src : List E) (tg : Tg) (cnd : List T) (ik1 : Ik) (src1 : List E) (tg1 : Tg) (cnd1 : List T) (elt : E) (own own1 : List Nat) (xelt xtg xit : Expr) (xifs : List Expr) (xtg1 xit1 : Expr) (xifs1 : List Expr) (scope : Scope) : Prop extends LcP Z X n ik src tg cnd elt own xelt xtg xit xifs scope where
  hi1 : ∀ (s : Shared) (H : Hp) (C : Addr) (cl : List (Str × Addr)) (fp : List Addr), PI (X.blk s H scope (compEnvC scope cl C X.env) fp) xtg1 xit1 (tI X.K Z n ik1 src1)
  hg1 : ∀ (s : Shared) (H : Hp) (C : Addr) (cl : List (Str × Addr)) (fp : List Addr), PG (X.blk s H scope (compEnvC scope cl C X.env) fp) xtg1 (gT X.K Z tg1)
  ht1 : ∀ (s : Shared) (H : Hp) (C : Addr) (cl : List (Str × Addr)) (fp : List Addr), PTs (X.blk s H scope (compEnvC scope cl C X.env) fp) xifs1 (tTA X.K Z n cnd1)
  htg1 : ∀ i ∈ tgI tg1, i ∈ own1
  hv : ∀ i ∈ own1, i ∈ own
  hs1 : ∀ env x, foldedSetIterable xit1 env x = pure x
section
variable {Z : Wd} {fn : List Str}
theorem LcP.pe {X : Cx} {c : Ck} {n : Nat} {ik src tg cnd elt own xelt xtg xit xifs scope} {pos : Pos} (g : GX Z X c n) (p : LcP Z X n ik src tg cnd elt own xelt xtg xit xifs scope) : PE X (.ListComp xelt [⟨xtg, xit, xifs, 0⟩] scope pos) (tE X.K Z n (.lc ik src tg cnd elt own)) := by
  obtain ⟨own', ho, ok⟩ := p.ok
  subst ho
  exact PE_imp (pe_lc g.calm g.nd p.hi ok p.hg p.ht p.he p.hs) fun σ H Q h => lc_read p.htg h
theorem Lc2P.pe {X : Cx} {c : Ck} {n : Nat} {ik src tg cnd ik1 src1 tg1 cnd1 elt own own1 xelt xtg xit xifs xtg1 xit1 xifs1 scope} {pos : Pos} (g : GX Z X c n) (p : Lc2P Z X n ik src tg cnd ik1 src1 tg1 cnd1 elt own own1 xelt xtg xit xifs xtg1 xit1 xifs1 scope) :
    PE X (.ListComp xelt [⟨xtg, xit, xifs, 0⟩, ⟨xtg1, xit1, xifs1, 0⟩] scope pos) (tE X.K Z n (.lc2 ik src tg cnd ik1 src1 tg1 cnd1 elt own own1)) := by
  obtain ⟨own', ho, ok⟩ := p.ok
  have hv := p.hv
  have htg := p.htg
  subst ho
  exact PE_imp (pe_lc2 g.calm g.nd p.hi ok hv p.hg p.ht p.hi1 p.hg1 p.ht1 p.he p.hs p.hs1) fun σ H Q h => lc2_read htg p.htg1 h
theorem fold_of {it : Expr} (h1 : nset it = true) (h2 : nlis it = true) (env : PySem.Env) (v : Value) : genFold it env v = pure v := by
  cases it <;> first | exact nset_folded h1 env v | cases h2
theorem fn_at (hfn : Z.fns.map (·.x) = fn) {f : Nat} {y : Str} (h : fn[f]? = some y) : ∃ F, Z.fns[f]? = some F ∧ F.x = y := by
  rw [← hfn, List.getElem?_map] at h
  cases q : Z.fns[f]? with
  | none => rw [q] at h; cases h
  | some F => rw [q] at h; cases h; exact ⟨F, rfl, rfl⟩
theorem sEs_cons {X : Cx} {c : Ck} {n : Nat} {e : E} {es : List E} {x : Expr} {xs : List Expr} (hst : nst x = true) (he : PE X x (tE X.K Z n e))
    (h1 : PA X xs (tA X.K Z n es)) (h2 : xs.all nst = true) (h3 : xs.length = es.length) (h5 : es ≠ [] → ∀ pos, PE X (.BoolOp .And xs pos) (tEA X.K Z n es) ∧ PE X (.BoolOp .Or xs pos) (tEO X.K Z n es)) :
    PA X (x :: xs) (tA X.K Z n (e :: es)) ∧ (x :: xs).all nst = true ∧ (x :: xs).length = (e :: es).length ∧ (∀ e' x', e :: es = [e'] → x :: xs = [x'] → PE X x' (tE X.K Z n e')) ∧ (e :: es ≠ [] → ∀ pos, PE X (.BoolOp .And (x :: xs) pos) (tEA X.K Z n (e :: es)) ∧ PE X (.BoolOp .Or (x :: xs) pos) (tEO X.K Z n (e :: es))) := by
  refine ⟨s_cons he h1 (star_cons hst _ _), by rw [List.all_cons, hst, h2]; rfl, by rw [List.length_cons, List.length_cons, h3], fun e' x' a b => ?_, fun _ pos => ?_⟩
  · cases a
    cases b
    exact he
  · match xs, es, h3, h5 with
    | [], [], _, _ => exact ⟨(v_one he).1, (v_one he).2⟩
    | y :: ys, e2 :: es, _, h5 =>
      have q := h5 (by simp) pos
      exact ⟨v_and rfl he q.1, v_or rfl he q.2⟩
theorem sTs_cons {X : Cx} {n : Nat} {t : T} {ts : List T} {x : Expr} {xs : List Expr} (he : PT X x (tT X.K Z n t)) (h3 : xs.length = ts.length)
    (h5 : ts ≠ [] → ∀ pos, PW X (.BoolOp .And xs pos) (tTA X.K Z n ts) ∧ PW X (.BoolOp .Or xs pos) (tTO X.K Z n ts)) :
    (x :: xs).length = (t :: ts).length ∧ (t :: ts ≠ [] → ∀ pos, PW X (.BoolOp .And (x :: xs) pos) (tTA X.K Z n (t :: ts)) ∧ PW X (.BoolOp .Or (x :: xs) pos) (tTO X.K Z n (t :: ts))) ∧ ((t :: ts).length ≤ 1 → PTs X (x :: xs) (tTA X.K Z n (t :: ts))) := by
  refine ⟨by rw [List.length_cons, List.length_cons, h3], fun _ pos => ?_, fun hl => ?_⟩
  · match xs, ts, h3, h5 with
    | [], [], _, _ => exact ⟨w_and1 he, w_or1 he⟩
    | y :: ys, t2 :: ts, _, h5 =>
      have q := h5 (by simp) pos
      exact ⟨w_and he q.1, w_or he q.2⟩
  · match xs, ts, h3, hl with
    | [], [], _, _ => exact ts_one he
    | _, _ :: _, _, hl => simp at hl
mutual
theorem sE (hfn : Z.fns.map (·.x) = fn) : ∀ (e : E) {X : Cx} {c : Ck} {n : Nat} {x : Expr}, GX Z X c n → okE fn c e x = true → PE X x (tE X.K Z n e)
  | .var i, X, c, n, x, g, h => by
    unfold okE at h
    split at h
    · obtain ⟨h1, h2, h3⟩ := a3 h
      exact s_var (g.ix h1) (g.vis h2) (nmB_iff h3).1 (nmB_iff h3).2
    · cases h
  | .non, X, c, n, x, g, h => by
    unfold okE at h
    split at h
    · exact s_con (d := .non) pe_non (fun ρ st => rfl) fun H m => rfl
    · cases h
  | .bl b, X, c, n, x, g, h => by
    unfold okE at h
    split at h
    · obtain rfl := dt h
      exact s_con (d := .bl b) pe_bl (fun ρ st => rfl) fun H m => rfl
    · cases h
  | .int i, X, c, n, x, g, h => by
    unfold okE at h
    split at h
    · obtain rfl := dt h
      exact s_con (d := .int i) pe_int (fun ρ st => rfl) fun H m => rfl
    · cases h
  | .str z, X, c, n, x, g, h => by
    unfold okE at h
    split at h
    · obtain rfl := dt h
      exact s_con (d := .str z) pe_str (fun ρ st => rfl) fun H m => rfl
    · cases h
  | .glb y, X, c, n, x, g, h => by
    unfold okE at h
    split at h
    · obtain ⟨h1, h2, h3⟩ := a3 h
      obtain rfl := dt h1
      cases hz : Z.g y with
      | none =>
        refine PE_void fun σ H Q ⟨m, ρ, st, d, st', S, h, q⟩ => ?_
        have h : (Z.g y).map (fun d => (d, st)) = some (d, st') := h
        rw [hz] at h; cases h
      | some d => exact s_glb g.toWk (g.gl h2) hz (nmB_iff h3).1
    · cases h
  | .tup es, X, c, n, x, g, h => by
    unfold okE at h
    split at h
    · exact s_tup (sEs hfn es g h).1
    · cases h
  | .lst es, X, c, n, x, g, h => by
    unfold okE at h
    split at h
    · exact s_lst (sEs hfn es g h).1
    · cases h
  | .bin o a b, X, c, n, x, g, h => by
    unfold okE at h
    split at h
    · obtain ⟨h1, h2, h3⟩ := a3 h
      obtain rfl := dt h1
      exact s_bin (sE hfn a g h2) (sE hfn b g h3)
    · cases h
  | .neg a, X, c, n, x, g, h => by
    unfold okE at h
    split at h
    · exact s_neg (sE hfn a g h)
    · cases h
  | .cmp o a b, X, c, n, x, g, h => by
    unfold okE at h
    split at h
    · obtain ⟨h1, h2, h3, h4⟩ := a4 h
      obtain rfl := dt h1
      exact s_cmp g.toWk (sE hfn a g h3) (sE hfn b g h4) (nset_behind h2 _)
    · cases h
  | .chn o p a b d, X, c, n, x, g, h => by
    unfold okE at h
    split at h
    · obtain ⟨h1, h2, h3, h4, h5, h6⟩ := a6 h
      obtain rfl := dt h1
      obtain rfl := dt h2
      exact s_chn g.toWk (sE hfn a g h4) (sE hfn b g h5) (sE hfn d g h6) (nset_behind h3 _)
    · cases h
  | .and es, X, c, n, x, g, h => by
    unfold okE at h
    split at h
    · obtain ⟨h1, h2⟩ := a2 h
      exact ((sEs hfn es g h2).2.2.2.2 (fun z => by subst z; cases h1) _).1
    · cases h
  | .or es, X, c, n, x, g, h => by
    unfold okE at h
    split at h
    · obtain ⟨h1, h2⟩ := a2 h
      exact ((sEs hfn es g h2).2.2.2.2 (fun z => by subst z; cases h1) _).2
    · cases h
  | .not a, X, c, n, x, g, h => by
    unfold okE at h
    split at h
    · exact s_not (sE hfn a g h)
    · cases h
  | .ife t a b, X, c, n, x, g, h => by
    unfold okE at h
    split at h
    · obtain ⟨h1, h2, h3⟩ := a3 h
      exact s_if (sT hfn t g h1) (sE hfn a g h2) (sE hfn b g h3)
    · cases h
  | .call f es, X, c, n, x, g, h => by
    unfold okE at h
    split at h
    · obtain ⟨h1, h2, h3, h4⟩ := a4 h
      obtain ⟨F, hF, rfl⟩ := fn_at hfn (dt h1)
      obtain ⟨k1, k2, k3, _⟩ := sEs hfn es g h4
      exact s_call g.toWk hF (g.gl h2) k1 k2 k3 (nmB_iff h3).1
    · cases h
  | .bi f es, X, c, n, x, g, h => by
    unfold okE at h
    split at h
    · rename_i y p xs pos
      obtain ⟨h1, h2, h3, h4⟩ := a4 h
      obtain rfl := dt h1
      obtain ⟨k1, k2, k3, _⟩ := sEs hfn es g h4
      cases xs with
      | nil => cases h3
      | cons a xs => exact s_bi g.toWk (g.gl h2) k1 k2
    · cases h
  | .isi a t, X, c, n, x, g, h => by
    unfold okE at h
    split at h
    · obtain ⟨h1, h2, h3, h4, h5, h6⟩ := a6 h
      obtain rfl := dt h1
      obtain rfl := dt h3
      exact s_isi g.toWk (g.gl h2) (g.gl h4) (sE hfn a g h6) h5
    · cases h
  | .mth m o es, X, c, n, x, g, h => by
    unfold okE at h
    split at h
    · obtain ⟨h1, h2, h3, h4, h5, h6⟩ := a6 h
      obtain rfl := dt h1
      obtain ⟨k1, k2, k3, _⟩ := sEs hfn es g h6
      exact s_mth (sE hfn o g h5) k1 k2 k3 (dt h4) h2 h3
    · cases h
  | .idx a i, X, c, n, x, g, h => by
    unfold okE at h
    split at h
    · obtain ⟨h1, h2, h3⟩ := a3 h
      exact s_idx (sE hfn a g h2) (sE hfn i g h3) h1
    · cases h
  | .slF a lo, X, c, n, x, g, h => by
    unfold okE at h
    split at h
    · obtain ⟨h1, h2⟩ := a2 h
      exact s_slF (sE hfn a g h1) (sE hfn lo g h2)
    · cases h
  | .slT a hi, X, c, n, x, g, h => by
    unfold okE at h
    split at h
    · obtain ⟨h1, h2⟩ := a2 h
      exact s_slT (sE hfn a g h1) (sE hfn hi g h2)
    · cases h
  | .slB a lo hi, X, c, n, x, g, h => by
    unfold okE at h
    split at h
    · obtain ⟨h1, h2, h3⟩ := a3 h
      exact s_slB (sE hfn a g h1) (sE hfn lo g h2) (sE hfn hi g h3)
    · cases h
  | .slR a, X, c, n, x, g, h => by
    unfold okE at h
    split at h
    · obtain ⟨h1, h2⟩ := a2 h
      obtain rfl := dt h1
      exact s_slR (sE hfn a g h2)
    · cases h
  | .lc ik src tg cnd elt own, X, c, n, x, g, h => by
    unfold okE at h
    split at h
    · obtain ⟨h, z9⟩ := a2 h
      obtain ⟨h, z8⟩ := a2 h
      obtain ⟨h, z7⟩ := a2 h
      obtain ⟨h, z6⟩ := a2 h
      obtain ⟨h, z5⟩ := a2 h
      obtain ⟨z1, z2, z3, z4⟩ := a4 h
      obtain rfl := dt z1
      split at z5
      · rename_i xs hxs
        obtain ⟨k1, k2, k3, k4, _⟩ := sEs hfn src g z5
        refine LcP.pe g ⟨s_it g hxs k1 k4 k3 k2, ⟨ownP c own, ownP_map own, by rw [g.Ns, g.scp]; exact blkOk_by z3⟩, fun s H C cl fp => sTg tg (g.blk s H C cl fp) z6, fun s H C cl fp => (sTs hfn cnd (g.blk s H C cl fp) z8).2.2 (dt z7), fun s H C cl fp => sE hfn elt (g.blk s H C cl fp) z9, all_mem z4, nset_folded z2 _⟩
      · cases z5
    · cases h
  | .lc2 ik src tg cnd ik1 src1 tg1 cnd1 elt own own1, X, c, n, x, g, h => by
    unfold okE at h
    split at h
    · obtain ⟨h, y9⟩ := a2 h
      obtain ⟨h, y8⟩ := a2 h
      obtain ⟨h, y7⟩ := a2 h
      obtain ⟨h, y6⟩ := a2 h
      obtain ⟨h, y5⟩ := a2 h
      obtain ⟨h, y4⟩ := a2 h
      obtain ⟨h, y3⟩ := a2 h
      obtain ⟨h, y2⟩ := a2 h
      obtain ⟨h, y1⟩ := a2 h
      obtain ⟨h, z8⟩ := a2 h
      obtain ⟨h, z7⟩ := a2 h
      obtain ⟨z1, z2, z3, z4, z5, z6⟩ := a6 h
      obtain rfl := dt z1
      obtain rfl := dt z2
      split at y1
      · rename_i xs hxs
        split at y2
        · rename_i xs1 hxs1
          obtain ⟨k1, k2, k3, k4, _⟩ := sEs hfn src g y1
          refine Lc2P.pe g ⟨⟨s_it g hxs k1 k4 k3 k2, ⟨ownP c own, ownP_map own, by rw [g.Ns, g.scp]; exact blkOk_by z5⟩, fun s H C cl fp => sTg tg (g.blk s H C cl fp) y3, fun s H C cl fp => (sTs hfn cnd (g.blk s H C cl fp) y7).2.2 (dt y5), fun s H C cl fp => sE hfn elt (g.blk s H C cl fp) y9, all_mem z6, nset_folded z3 _⟩,
            fun s H C cl fp => ?_, fun s H C cl fp => sTg tg1 (g.blk s H C cl fp) y4, fun s H C cl fp => (sTs hfn cnd1 (g.blk s H C cl fp) y8).2.2 (dt y6), all_mem z7, all_mem z8, fun env => nset_folded z4 env⟩
          obtain ⟨q1, q2, q3, q4, _⟩ := sEs hfn src1 (g.blk (scope := _) s H C cl fp) y2
          exact s_it (g.blk s H C cl fp) hxs1 q1 q4 q3 q2
        · cases y2
      · cases y1
    · cases h
  | .gen cn ik src tg cnd elt own, X, c, n, x, g, h => by
    unfold okE at h
    split at h
    · obtain ⟨h, y9⟩ := a2 h
      obtain ⟨h, y8⟩ := a2 h
      obtain ⟨h, y7⟩ := a2 h
      obtain ⟨h, y6⟩ := a2 h
      obtain ⟨h, y5⟩ := a2 h
      obtain ⟨h, y4⟩ := a2 h
      obtain ⟨h, y3⟩ := a2 h
      obtain ⟨h, y2⟩ := a2 h
      obtain ⟨h, y1⟩ := a2 h
      obtain ⟨h, z7⟩ := a2 h
      obtain ⟨z1, z2, z3, z4, z5, z6⟩ := a6 h
      obtain rfl := dt z1
      obtain rfl := dt z4
      split at y5
      · rename_i xs hxs
        cases n with
        | zero => exact PE_void fun σ H Q ⟨m, ρ, st, d, st', S, h, q⟩ => by cases h
        | succ k =>
          obtain ⟨k1, k2, k3, k4, _⟩ := sEs hfn src g y5
          obtain ⟨cc, P, t1, t2, t3⟩ := g.cd z3
          have Ga : GArg Z X k ik src tg cnd elt own _ _ _ _ _ := ⟨g.toWk, s_it g hxs k1 k4 k3 k2, ⟨cc, P, t1, t2, t3⟩, ⟨ownP c own, ownP_map own, by rw [g.Ns, g.scp]; exact blkOk_by z7⟩, fun y hy => dt (List.all_eq_true.mp y1 y hy), dt y2, by simpa using y3, fold_of z5 z6 _, all_mem y4,
            fun A1 s3 H3 cenv fp pn hs W => ⟨sTg tg (g.gen hs W) y6, (sTs hfn cnd (g.gen hs W) y8).2.2 (dt y7), sE hfn elt (g.gen hs W) y9⟩⟩
          cases cn with
          | tuple => exact s_tuple Ga (g.gl z2)
          | all => exact s_all Ga (g.gl z2)
          | any => exact s_any Ga (g.gl z2)
          | sum => exact s_sum Ga (g.gl z2)
          | max => exact s_max Ga (g.gl z2)
      · cases y5
    · cases h
  | .dnew, X, c, n, x, g, h => by
    unfold okE at h
    split at h
    · exact s_dnew g.toWk
    · cases h
  | .dof e, X, c, n, x, g, h => by
    unfold okE at h
    split at h
    · obtain ⟨h1, h2, h3, h4⟩ := a4 h
      obtain rfl := dt h1
      exact s_dof g.toWk (g.gl h2) (sE hfn e g h4) h3
    · cases h
  | .dzp a b, X, c, n, x, g, h => by
    unfold okE at h
    split at h
    · obtain ⟨h, h8⟩ := a2 h
      obtain ⟨h, h7⟩ := a2 h
      obtain ⟨h1, h2, h3, h4, h5, h6⟩ := a6 h
      obtain rfl := dt h1
      obtain rfl := dt h3
      exact s_dzp g.toWk (g.gl h2) (g.gl h4) (s_cons (sE hfn a g h7) (s_cons (sE hfn b g h8) s_nil (star_cons h6 _ _)) (star_cons h5 _ _)) h5 h6
    · cases h
  | .dget o k, X, c, n, x, g, h => by
    unfold okE at h
    split at h
    · obtain ⟨h1, h2, h3⟩ := a3 h
      exact s_dget g.toWk (sE hfn o g h2) (sE hfn k g h3) h1
    · cases h
  | .dmg _ _, X, c, n, x, g, h => by
    unfold okE at h
    cases h
  | .dsd _ _ _, X, c, n, x, g, h => by
    unfold okE at h
    cases h
  | .lockE i e, X, c, n, x, g, h => by
    unfold okE at h
    exact s_lockE (sE hfn e g h)
theorem sEs (hfn : Z.fns.map (·.x) = fn) : ∀ (es : List E) {X : Cx} {c : Ck} {n : Nat} {xs : List Expr}, GX Z X c n → okEs fn c es xs = true → PA X xs (tA X.K Z n es) ∧ xs.all nst = true ∧ xs.length = es.length ∧ (∀ e x, es = [e] → xs = [x] → PE X x (tE X.K Z n e)) ∧
    (es ≠ [] → ∀ pos, PE X (.BoolOp .And xs pos) (tEA X.K Z n es) ∧ PE X (.BoolOp .Or xs pos) (tEO X.K Z n es))
  | [], X, c, n, xs, g, h => by
    cases xs with
    | nil => exact ⟨s_nil, rfl, rfl, fun e x a => (by cases a), fun z => absurd rfl z⟩
    | cons => exact no h
  | e :: es, X, c, n, xs, g, h => by
    unfold okEs at h
    split at h
    · obtain ⟨h1, h2, h3⟩ := a3 h
      obtain ⟨k1, k2, k3, _, k5⟩ := sEs hfn es g h3
      exact sEs_cons (c := c) h1 (sE hfn e g h2) k1 k2 k3 k5
    · cases h
theorem sT (hfn : Z.fns.map (·.x) = fn) : ∀ (t : T) {X : Cx} {c : Ck} {n : Nat} {x : Expr}, GX Z X c n → okT fn c t x = true → PT X x (tT X.K Z n t)
  | .val e, X, c, n, x, g, h => by
    unfold okT at h
    obtain ⟨h1, h2⟩ := a2 h
    exact s_val (sE hfn e g h2) h1
  | .not t, X, c, n, x, g, h => by
    unfold okT at h
    split at h
    · exact t_not (sT hfn t g h)
    · cases h
  | .and ts, X, c, n, x, g, h => by
    unfold okT at h
    split at h
    · obtain ⟨h1, h2⟩ := a2 h
      exact ((sTs hfn ts g h2).2.1 (fun z => by subst z; cases h1) _).1.pt
    · cases h
  | .or ts, X, c, n, x, g, h => by
    unfold okT at h
    split at h
    · obtain ⟨h1, h2⟩ := a2 h
      exact ((sTs hfn ts g h2).2.1 (fun z => by subst z; cases h1) _).2.pt
    · cases h
  | .cmp o a b, X, c, n, x, g, h => by
    unfold okT at h
    split at h
    · obtain ⟨h1, h2, h3, h4⟩ := a4 h
      obtain rfl := dt h1
      exact t_cmp g.toWk (sE hfn a g h3) (sE hfn b g h4) (nset_behind h2 _)
    · cases h
  | .chn o p a b d, X, c, n, x, g, h => by
    unfold okT at h
    split at h
    · obtain ⟨h1, h2, h3, h4, h5, h6⟩ := a6 h
      obtain rfl := dt h1
      obtain rfl := dt h2
      exact t_chn g.toWk (sE hfn a g h4) (sE hfn b g h5) (sE hfn d g h6) (nset_behind h3 _)
    · cases h
  | .ife t a b, X, c, n, x, g, h => by
    unfold okT at h
    split at h
    · obtain ⟨h1, h2, h3⟩ := a3 h
      exact t_if (sT hfn t g h1) (sT hfn a g h2) (sT hfn b g h3)
    · cases h
  | .din neg k o, X, c, n, x, g, h => by
    unfold okT at h
    split at h
    · obtain ⟨h1, h2, h3, h4⟩ := a4 h
      obtain rfl := dt h1
      exact t_din g.toWk (sE hfn k g h3) (sE hfn o g h4) (nset_behind h2 _)
    · cases h
theorem sTs (hfn : Z.fns.map (·.x) = fn) : ∀ (ts : List T) {X : Cx} {c : Ck} {n : Nat} {xs : List Expr}, GX Z X c n → okTs fn c ts xs = true → xs.length = ts.length ∧
    (ts ≠ [] → ∀ pos, PW X (.BoolOp .And xs pos) (tTA X.K Z n ts) ∧ PW X (.BoolOp .Or xs pos) (tTO X.K Z n ts)) ∧ (ts.length ≤ 1 → PTs X xs (tTA X.K Z n ts))
  | [], X, c, n, xs, g, h => by
    cases xs with
    | nil => exact ⟨rfl, fun z => absurd rfl z, fun _ => ts_nil⟩
    | cons => exact no h
  | t :: ts, X, c, n, xs, g, h => by
    unfold okTs at h
    split at h
    · obtain ⟨h1, h2⟩ := a2 h
      obtain ⟨k1, k2, _⟩ := sTs hfn ts g h2
      exact sTs_cons (sT hfn t g h1) k1 k2
    · cases h
end
end
end Dz
end
section
set_option Elab.async false
set_option linter.all false
set_option maxRecDepth 100000
set_option maxHeartbeats 4000000
namespace Dz
open PySem L2 PyProof.Rows
/-! ### the checker of statements -/
def nlk : E → Bool
  | .lockE _ _ => false
  | _ => true
def setB (fn : List Str) (c : Ck) (tg : Tg) (e : E) (t x : Expr) : Bool := match tg with
  | .nm i => (match t with
    | .Name y py => (match x with
      | .ListComp _ _ scope pos => decide (c.N[i]? = some y) && decide (c.sc.names.lookup y = some .local) && decide (c.sc.kind = .function) && (py.line == pos.line) && !(scope.names.any fun (n, k) => n == y && (k == .local || k == .cell)) && (nlk e && okE fn c e x)
      | _ => false)
    | _ => false)
  | _ => false
def swB (xs : List Expr) : Bool := !(xs.all (foldedForSure 8)) && !(xs.all (constantsAlone 8))
def parB (fn : List Str) (c : Ck) (tg : Tg) (e : E) (t x : Expr) : Bool := match tg with
  | .tp [.nm i, .nm j] => (match e with
    | .tup es => (match t with
      | .Tuple [.Name y1 p1, .Name y2 p2] _ _ => (match x with
        | .Tuple [x1, x2] _ _ => decide (c.N[i]? = some y1) && decide (c.N[j]? = some y2) && decide (i ≠ j) && decide (c.sc.names.lookup y1 = some .local) && decide (c.sc.names.lookup y2 = some .local) && decide (c.sc.kind = .function) && (p1.line == p2.line) && decide (y1 ≠ y2) && swB [x1, x2] && decide (es.length = 2) && okEs fn c es [x1, x2]
        | _ => false)
      | _ => false)
    | _ => false)
  | _ => false
def asgB (fn : List Str) (c : Ck) (tg : Tg) (e : E) (t x : Expr) : Bool :=
  (ncomp x && nst t && (ntup x || (ntup t && nlis t)) && okTg c tg t && okE fn c e x) || (setB fn c tg e t x || parB fn c tg e t x)
mutual
def okS (fn : List Str) (c : Ck) : S → Stmt → Bool
  | .expr e, x => match x with | .Expr y _ => ncomp y && okE fn c e y | _ => false
  | .asg tg e, x => match x with | .Assign [t] y _ => asgB fn c tg e t y | _ => false
  | .asub o i e, x => match x with | .Assign [.Subscript xo xi _] y _ => ncomp y && nsl xi && okE fn c o xo && okE fn c i xi && okE fn c e y | _ => false
  | .aug i o e, x => match x with | .AugAssign (.Name y _) op z _ => decide (c.N[i]? = some y) && locB c y && decide (bop o = op) && okE fn c e z | _ => false
  | .ret e, x => match x with | .Return (some y) _ => okE fn c e y | _ => false
  | .retN, x => match x with | .Return none _ => true | _ => false
  | .pass, x => match x with | .Pass _ => true | .Expr (.Constant (.str _) _ _) _ => true | _ => false
  | .brk, x => match x with | .Break _ => true | _ => false
  | .cnt, x => match x with | .Continue _ => true | _ => false
  | .ife t a b, x => match x with | .If y xs ys _ => okT fn c t y && okSs fn c a xs && okSs fn c b ys | _ => false
  | .whl t b, x => match x with | .While y xs [] _ => okT fn c t y && okSs fn c b xs | _ => false
  | .for_ ik src tg b, x => match x with | .For t it xs [] _ => nset it && (match itA c ik t it with | some zs => okEs fn c src zs | none => false) && okTg c tg t && okSs fn c b xs | _ => false
  | .dset o k v, x => match x with | .Assign [.Subscript xo xk _] y _ => ncomp y && okE fn c o xo && okE fn c k xk && okE fn c v y | _ => false
  | .lock _ s, x => okS fn c s x
def okSs (fn : List Str) (c : Ck) : List S → List Stmt → Bool
  | [], xs => xs.isEmpty
  | s :: ss, xs => match xs with
    | x :: xs => okS fn c s x && okSs fn c ss xs
    | [] => false
end
section
variable {Z : Wd} {fn : List Str} {X : Cx} {c : Ck} {n : Nat}
theorem lcP_of (hfn : Z.fns.map (·.x) = fn) {ik : Ik} {src : List E} {tg : Tg} {cnd : List T} {elt : E} {own : List Nat} {x : Expr} (g : GX Z X c n) (h : okE fn c (.lc ik src tg cnd elt own) x = true) :
    ∃ xelt xtg xit xifs scope pos, x = .ListComp xelt [⟨xtg, xit, xifs, 0⟩] scope pos ∧ LcP Z X n ik src tg cnd elt own xelt xtg xit xifs scope := by
  unfold okE at h
  split at h
  · obtain ⟨h, z9⟩ := a2 h
    obtain ⟨h, z8⟩ := a2 h
    obtain ⟨h, z7⟩ := a2 h
    obtain ⟨h, z6⟩ := a2 h
    obtain ⟨h, z5⟩ := a2 h
    obtain ⟨z1, z2, z3, z4⟩ := a4 h
    obtain rfl := dt z1
    split at z5
    · rename_i xs hxs
      obtain ⟨k1, k2, k3, k4, _⟩ := sEs hfn src g z5
      exact ⟨_, _, _, _, _, _, rfl, s_it g hxs k1 k4 k3 k2, ⟨ownP c own, ownP_map own, by rw [g.Ns, g.scp]; exact blkOk_by z3⟩, fun s H C cl fp => sTg tg (g.blk s H C cl fp) z6, fun s H C cl fp => (sTs hfn cnd (g.blk s H C cl fp) z8).2.2 (dt z7), fun s H C cl fp => sE hfn elt (g.blk s H C cl fp) z9, all_mem z4, nset_folded z2 _⟩
    · cases z5
  · cases h
theorem lc2P_of (hfn : Z.fns.map (·.x) = fn) {ik ik1 : Ik} {src src1 : List E} {tg tg1 : Tg} {cnd cnd1 : List T} {elt : E} {own own1 : List Nat} {x : Expr} (g : GX Z X c n) (h : okE fn c (.lc2 ik src tg cnd ik1 src1 tg1 cnd1 elt own own1) x = true) :
    ∃ xelt xtg xit xifs xtg1 xit1 xifs1 scope pos, x = .ListComp xelt [⟨xtg, xit, xifs, 0⟩, ⟨xtg1, xit1, xifs1, 0⟩] scope pos ∧ Lc2P Z X n ik src tg cnd ik1 src1 tg1 cnd1 elt own own1 xelt xtg xit xifs xtg1 xit1 xifs1 scope := by
  unfold okE at h
  split at h
  · obtain ⟨h, y9⟩ := a2 h
    obtain ⟨h, y8⟩ := a2 h
    obtain ⟨h, y7⟩ := a2 h
    obtain ⟨h, y6⟩ := a2 h
    obtain ⟨h, y5⟩ := a2 h
    obtain ⟨h, y4⟩ := a2 h
    obtain ⟨h, y3⟩ := a2 h
    obtain ⟨h, y2⟩ := a2 h
    obtain ⟨h, y1⟩ := a2 h
    obtain ⟨h, z8⟩ := a2 h
    obtain ⟨h, z7⟩ := a2 h
    obtain ⟨z1, z2, z3, z4, z5, z6⟩ := a6 h
    obtain rfl := dt z1
    obtain rfl := dt z2
    split at y1
    · rename_i xs hxs
      split at y2
      · rename_i xs1 hxs1
        obtain ⟨k1, k2, k3, k4, _⟩ := sEs hfn src g y1
        refine ⟨_, _, _, _, _, _, _, _, _, rfl, ⟨s_it g hxs k1 k4 k3 k2, ⟨ownP c own, ownP_map own, by rw [g.Ns, g.scp]; exact blkOk_by z5⟩, fun s H C cl fp => sTg tg (g.blk s H C cl fp) y3, fun s H C cl fp => (sTs hfn cnd (g.blk s H C cl fp) y7).2.2 (dt y5), fun s H C cl fp => sE hfn elt (g.blk s H C cl fp) y9, all_mem z6, nset_folded z3 _⟩,
          fun s H C cl fp => ?_, fun s H C cl fp => sTg tg1 (g.blk s H C cl fp) y4, fun s H C cl fp => (sTs hfn cnd1 (g.blk s H C cl fp) y8).2.2 (dt y6), all_mem z7, all_mem z8, fun env => nset_folded z4 env⟩
        obtain ⟨q1, q2, q3, q4, _⟩ := sEs hfn src1 (g.blk (scope := _) s H C cl fp) y2
        exact s_it (g.blk s H C cl fp) hxs1 q1 q4 q3 q2
      · cases y2
    · cases y1
  · cases h
theorem s_setB (hfn : Z.fns.map (·.x) = fn) {tg : Tg} {e : E} {t x : Expr} {pos : Pos} (g : GX Z X c n) (h : setB fn c tg e t x = true) : PS X (.Assign [t] x pos) (tS X.K Z n (.asg tg e)) := by
  unfold setB at h
  split at h
  · split at h
    · split at h
      · obtain ⟨h1, h2, h3, h4, h5, h6⟩ := a6 h
        have hk : X.env.scope.kind = .function := by rw [g.scp]; exact dt h3
        have hl := dt h2
        rw [← g.scp] at hl
        have h5 := h5
        simp only [Bool.not_eq_true'] at h5
        cases e with
        | lc ik src tgm cnd elt own =>
          obtain ⟨xelt, xtg, xit, xifs, scope, p, ex, P⟩ := lcP_of hfn g (a2 h6).2
          cases ex
          obtain ⟨own', ho, ok⟩ := P.ok
          have htg := P.htg
          subst ho
          exact PS_imp (ps_setLc g.calm g.nd (g.ix h1) hl (sw_true hk hl h4 h5) P.hi ok P.hg P.ht P.he P.hs) fun D σ H q => lset_read htg q
        | lc2 ik src tgm cnd ik1 src1 tg1 cnd1 elt own own1 =>
          obtain ⟨xelt, xtg, xit, xifs, xtg1, xit1, xifs1, scope, p, ex, P⟩ := lc2P_of hfn g (a2 h6).2
          cases ex
          obtain ⟨own', ho, ok⟩ := P.ok
          have htg := P.htg
          have hv := P.hv
          subst ho
          exact PS_imp (ps_setLc2 g.calm g.nd (g.ix h1) hl (sw_true hk hl h4 h5) P.hi ok hv P.hg P.ht P.hi1 P.hg1 P.ht1 P.he P.hs P.hs1) fun D σ H q => lset2_read htg P.htg1 q
        | lockE _ _ => exact no (a2 h6).1
        | _ => exact no (a2 h6).2
      · cases h
    · cases h
  · cases h
theorem blockKind_fn {env : PySem.Env} (hk : env.scope.kind = .function) : env.blockKind = .function := by unfold Env.blockKind; rw [hk]; rfl
theorem swap2 {env : PySem.Env} {y1 y2 : Str} {p1 p2 pt pt2 : Pos} {kt k2 : Nat} {x1 x2 : Expr} (hk : env.scope.kind = .function) (h1 : env.scope.names.lookup y1 = some .local) (h2 : env.scope.names.lookup y2 = some .local) (hp : (p1.line == p2.line) = true) (hy : y1 ≠ y2) (hs : swB [x1, x2] = true) (n1 : nst x1 = true) (n2 : nst x2 = true) :
    swappedStores [.Tuple [.Name y1 p1, .Name y2 p2] kt pt] (.Tuple [x1, x2] k2 pt2) env = pure (some [y1, y2]) := by
  have hb := blockKind_fn hk
  have e1 : env.kindOf y1 = some .local := h1
  have e2 : env.kindOf y2 = some .local := h2
  obtain ⟨s1, s2⟩ := a2 hs
  simp only [Bool.not_eq_true'] at s1 s2
  have hst : ∀ f : Expr → Bool, f x1 = false → f x2 = false → [x1, x2].any f = false := fun f a b => by simp [a, b]
  have hl : (p2.line == p1.line) = true := by rw [beq_iff_eq] at hp ⊢; exact hp.symm
  have hd : ([y1, y2] : List Str).eraseDups.length = 2 := by
    have : (y2 == y1) = false := by simpa using fun e : y2 = y1 => hy e.symm
    simp [List.eraseDups_cons, this]
  have hl1 : (p1.line == p1.line) = true := by simp
  have hloc : (some NameKind.local == some NameKind.local) = true := by decide
  unfold swappedStores
  simp only [hb, s1, s2, e1, e2, hl, hl1, hloc, Expr.pos, List.head?_cons, Option.map_some, Option.getD_some, List.filterMap_cons, List.filterMap_nil, List.length_cons, List.length_nil, Bool.and_self, if_true]
  rw [if_neg (by decide)]
  rw [if_neg (by rw [hst _ (by cases x1 <;> first | rfl | (cases n1; done)) (by cases x2 <;> first | rfl | (cases n2; done))]; decide)]
  rw [if_neg (by rw [hd]; decide)]
  simp
end
end Dz
end
section
set_option Elab.async false
set_option linter.all false
set_option maxRecDepth 100000
set_option maxHeartbeats 4000000
namespace Dz
open PySem L2 PyProof.Rows
section
variable {Z : Wd} {fn : List Str}
theorem s_parB (hfn : Z.fns.map (·.x) = fn) {X : Cx} {c : Ck} {n : Nat} {tg : Tg} {e : E} {t x : Expr} {pos : Pos} (g : GX Z X c n) (h : parB fn c tg e t x = true) : PS X (.Assign [t] x pos) (tS X.K Z n (.asg tg e)) := by
  unfold parB at h
  split at h
  · split at h
    · rename_i es
      split at h
      · split at h
        · obtain ⟨h, z9⟩ := a2 h
          obtain ⟨h, z8⟩ := a2 h
          obtain ⟨h, z7⟩ := a2 h
          obtain ⟨h, z6⟩ := a2 h
          obtain ⟨h, z5⟩ := a2 h
          obtain ⟨z0, z1, z2, z3, z4, zk⟩ := a6 h
          have l1 := dt z3
          have l2 := dt z4
          have hk : X.env.scope.kind = .function := by rw [g.scp]; exact dt zk
          rw [← g.scp] at l1 l2
          obtain ⟨k1, k2, k3, _⟩ := sEs hfn es g z9
          rw [List.all_cons, Bool.and_eq_true, List.all_cons, Bool.and_eq_true] at k2
          match es, dt z8 with
          | [e1, e2], _ => exact st_par g.toWk (g.ix z0) (g.ix z1) (dt z2) l1 l2 k1 (swap2 hk l1 l2 z5 (dt z6) z7 k2.1 k2.2.1)
        · cases h
      · cases h
    · cases h
  · cases h
theorem s_asgB (hfn : Z.fns.map (·.x) = fn) {X : Cx} {c : Ck} {n : Nat} {tg : Tg} {e : E} {t x : Expr} {pos : Pos} (g : GX Z X c n) (h : asgB fn c tg e t x = true) : PS X (.Assign [t] x pos) (tS X.K Z n (.asg tg e)) := by
  unfold asgB at h
  rw [Bool.or_eq_true, Bool.or_eq_true] at h
  rcases h with h | h | h
  · obtain ⟨h1, h2, h3, h4, h5⟩ := a5 h
    refine st_asg (sE hfn e g h5) (sTg tg g h4) h1 h2 ?_
    rw [Bool.or_eq_true] at h3
    rcases h3 with h3 | h3
    · exact .inl h3
    · exact .inr (a2 h3)
  · exact s_setB hfn g h
  · exact s_parB hfn g h
mutual
theorem sS (hfn : Z.fns.map (·.x) = fn) : ∀ (s : S) {X : Cx} {c : Ck} {n : Nat} {x : Stmt}, GX Z X c n → okS fn c s x = true → PS X x (tS X.K Z n s)
  | .expr e, X, c, n, x, g, h => by
    unfold okS at h
    split at h
    · obtain ⟨h1, h2⟩ := a2 h
      exact st_expr (sE hfn e g h2) h1
    · cases h
  | .asg tg e, X, c, n, x, g, h => by
    unfold okS at h
    split at h
    · exact s_asgB hfn g h
    · cases h
  | .asub o i e, X, c, n, x, g, h => by
    unfold okS at h
    split at h
    · obtain ⟨h1, h2, h3, h4, h5⟩ := a5 h
      exact st_asub (sE hfn o g h3) (sE hfn i g h4) (sE hfn e g h5) h1 h2
    · cases h
  | .aug i o e, X, c, n, x, g, h => by
    unfold okS at h
    split at h
    · obtain ⟨h1, h2, h3, h4⟩ := a4 h
      obtain rfl := dt h3
      obtain ⟨k1, k2⟩ := g.loc h2
      exact st_aug g.nd (g.ix h1) k1 (sE hfn e g h4) k2
    · cases h
  | .ret e, X, c, n, x, g, h => by
    unfold okS at h
    split at h
    · exact st_ret (sE hfn e g h)
    · cases h
  | .retN, X, c, n, x, g, h => by
    unfold okS at h
    split at h
    · exact st_retN
    · cases h
  | .pass, X, c, n, x, g, h => by
    unfold okS at h
    split at h
    · exact st_pass
    · exact st_doc
    · cases h
  | .brk, X, c, n, x, g, h => by
    unfold okS at h
    split at h
    · exact st_brk
    · cases h
  | .cnt, X, c, n, x, g, h => by
    unfold okS at h
    split at h
    · exact st_cnt
    · cases h
  | .ife t a b, X, c, n, x, g, h => by
    unfold okS at h
    split at h
    · obtain ⟨h1, h2, h3⟩ := a3 h
      exact st_if (sT hfn t g h1) (sSs hfn a g h2) (sSs hfn b g h3)
    · cases h
  | .whl t b, X, c, n, x, g, h => by
    unfold okS at h
    split at h
    · obtain ⟨h1, h2⟩ := a2 h
      exact st_whl g.toWk (sT hfn t g h1) (sSs hfn b g h2)
    · cases h
  | .for_ ik src tg b, X, c, n, x, g, h => by
    unfold okS at h
    split at h
    · obtain ⟨h1, h2, h3, h4⟩ := a4 h
      split at h2
      · rename_i zs hzs
        obtain ⟨k1, k2, k3, k4, _⟩ := sEs hfn src g h2
        exact st_for g.toWk (s_it g hzs k1 k4 k3 k2) (sTg tg g h3) (sSs hfn b g h4) h1
      · cases h2
    · cases h
  | .dset o k v, X, c, n, x, g, h => by
    unfold okS at h
    split at h
    · obtain ⟨h1, h2, h3, h4⟩ := a4 h
      exact st_dset g.toWk (sE hfn o g h2) (sE hfn k g h3) (sE hfn v g h4) h1
    · cases h
  | .lock i s, X, c, n, x, g, h => by
    unfold okS at h
    exact st_lock (sS hfn s g h)
theorem sSs (hfn : Z.fns.map (·.x) = fn) : ∀ (ss : List S) {X : Cx} {c : Ck} {n : Nat} {xs : List Stmt}, GX Z X c n → okSs fn c ss xs = true → PSs X xs (tSs X.K Z n ss)
  | [], X, c, n, xs, g, h => by
    cases xs with
    | nil => exact ss_nil
    | cons => exact no h
  | s :: ss, X, c, n, xs, g, h => by
    unfold okSs at h
    split at h
    · obtain ⟨h1, h2⟩ := a2 h
      exact ss_cons (sS hfn s g h1) (sSs hfn ss g h2)
    · cases h
end
/-! ### the defs -/
/-- what is known of one def -/
structure FnFact (Z : Wd) (fn : List Str) (K : PySem.W.Frag) (mg : Str → Option Value) (base : Heap) (F : FF) (d : Df) : Prop where
  ex : ∃ (qual : Str) (params : Arguments) (body : List Stmt) (scope : Scope) (N : List Str) (gn : Bool), FunD K F.x qual params body scope [] [] F.a F.fd ∧ FnScope N F.ps scope ∧ okSs fn ⟨scope, N, fun _ => true, gn⟩ d.body body = true ∧ d.ar = F.ps.length ∧ d.sl = N.length ∧
    (gn = true → ∃ (cc P : Addr), GxR.TabB base mg cc P ∧ F.fd.code = .ref cc ∧ P ∈ Z.Tb)
/-- what is known of all of them -/
structure WdOk (Z : Wd) (fn : List Str) (K : PySem.W.Frag) (mg : Str → Option Value) (base : Heap) : Prop where
  hfn : Z.fns.map (·.x) = fn
  len : Z.fs.length = Z.fns.length
  glb : ∀ x d, Z.g x = some d → ∃ u v, mg x = some u ∧ RelV v u ∧ ∀ H m, RV K H m d v
  blt : ∀ x ∈ blts, mg x = none
  fnG : ∀ (f : Nat) (F : FF), Z.fns[f]? = some F → mg F.x = some (.ref F.a) ∧ PySem.W.keepIn K (.ref F.a) = true ∧ Binds K F.fd F.ps []
  fact : ∀ (f : Nat) (F : FF) (d : Df), Z.fns[f]? = some F → Z.fs[f]? = some d → FnFact Z fn K mg base F d
theorem re_start {K : PySem.W.Frag} {H : Hp} {m : List Addr} {ds : List D} {vs : List V} {N : List Str} (r : P2 (RV K H m) ds vs) : RE K H m (ds.map some ++ List.replicate (N.length - ds.length) none) (L2.start N vs) := by
  unfold L2.start
  refine ⟨by simp [r.1], fun i d e => ?_⟩
  by_cases hi : i < ds.length
  · rw [List.getElem?_append_left (by simpa using hi), List.getElem?_map] at e
    cases q : ds[i]? with
    | none => rw [q] at e; cases e
    | some d' =>
      rw [q] at e
      cases e
      obtain ⟨v, hv, rv⟩ := r.get q
      refine ⟨v, ?_, rv⟩
      rw [List.getElem?_append_left (by rw [List.length_map, ← r.1]; exact hi), List.getElem?_map, hv]; rfl
  · rw [List.getElem?_append_right (by simpa using hi), List.getElem?_replicate] at e
    split at e <;> cases e
theorem fns_ok {P : Program} {w : World} {K : PySem.W.Frag} {mg : Str → Option Value} {base : Heap} (W : WdOk Z fn K mg base) (hP : P = Z.Tb.P) (hw : w = Z.Tb.w) : ∀ (i f : Nat) (F : FF), Z.fns[f]? = some F → FnOk P w K mg base C8.CX0 (i + 1) F.a F.fd F.ps (spD K Z i f) := by
  intro i
  induction i using Nat.strongRecOn with
  | ind i ih =>
    intro f F hF
    have hfl : f < Z.fs.length := by rw [W.len]; exact (List.getElem?_eq_some_iff.mp hF).1
    have hd : Z.fs[f]? = some Z.fs[f] := List.getElem?_eq_getElem hfl
    generalize Z.fs[f] = d at hd
    obtain ⟨qual, params, body, scope, N, gn, FD, Sc, ok, har, hsl, tab⟩ := (W.fact f F d hF hd).ex
    obtain ⟨oc, od, dV, kV, doc, pm, an, cdv, ct, osl, efd, lk, hcd, _, _⟩ := FD.ex
    obtain ⟨Fx, Fa, Ffd, Fps⟩ := F
    simp only at efd lk FD Sc har tab
    subst efd
    refine fn_of lk hcd Sc (fun vs H Q E hsp => ?_) fun A outer s H vs Q E hr hsp => ?_
    · obtain ⟨m, st, ds, d', st', R, p2, e, q⟩ := hsp
      have e : (Z.fs[f]?).bind (fun d => if ds.length = d.ar then (exs d.body Z.g (Z.C i) (ds.map some ++ List.replicate (d.sl - ds.length) none) st).bind fun q => match q with
        | (.nx, _, st') => some (.non, st')
        | (.rt v, _, st') => some (v, st')
        | _ => none
      else none) = some (d', st') := e
      rw [hd] at e
      have e : (if ds.length = d.ar then (exs d.body Z.g (Z.C i) (ds.map some ++ List.replicate (d.sl - ds.length) none) st).bind (fun q => match q with
        | (.nx, _, st') => some (D.non, st')
        | (.rt v, _, st') => some (v, st')
        | _ => none)
      else none) = some (d', st') := e
      split at e
      · rename_i hl
        rw [← p2.1, hl, har]
      · cases e
    · obtain ⟨m, st, ds, d', st', R, p2, e, q⟩ := hsp
      have e : (Z.fs[f]?).bind (fun d => if ds.length = d.ar then (exs d.body Z.g (Z.C i) (ds.map some ++ List.replicate (d.sl - ds.length) none) st).bind fun q => match q with
        | (.nx, _, st') => some (.non, st')
        | (.rt v, _, st') => some (v, st')
        | _ => none
      else none) = some (d', st') := e
      rw [hd] at e
      have e : (if ds.length = d.ar then (exs d.body Z.g (Z.C i) (ds.map some ++ List.replicate (d.sl - ds.length) none) st).bind (fun q => match q with
        | (.nx, _, st') => some (D.non, st')
        | (.rt v, _, st') => some (v, st')
        | _ => none)
      else none) = some (d', st') := e
      have g : GX Z (cxOf C8.CX0 P w K mg base N qual scope Fa cdv A outer s H E).nox ⟨scope, N, fun _ => true, gn⟩ i :=
        { calm := rfl, xe := rfl, nd := Sc.nd, room := hr, glb := W.glb, blt := W.blt, fnG := W.fnG, prg := hP, wld := hw, fok := fun j hj f F hF => ih j hj f F hF, scp := rfl, Ns := rfl, fb := fun _ _ => rfl, cd := fun hg => by
            obtain ⟨cc, Pt, t1, t2, t3⟩ := tab hg
            exact ⟨cc, Pt, t1, t2, t3⟩ }
      refine ⟨_, (sSs W.hfn d.body g ok).nox, ?_⟩
      split at e
      · obtain ⟨⟨fl, ρ', st2⟩, e1, e⟩ := Option.bind_eq_some_iff.mp e
        refine ⟨m, _, st, fl, ρ', st2, ⟨by rw [hsl] at *; exact re_start p2, R⟩, e1, ?_⟩
        cases fl with
        | nx => cases e; exact fun σ' H' m' x S' => q .non H' m' x S'.2 rfl
        | rt v => cases e; exact fun v' H' m' x R' r => q v' H' m' x R' r
        | bk => cases e
        | ct => cases e
      · cases e
end
end Dz
end
section
set_option Elab.async false
set_option linter.all false
set_option maxRecDepth 100000
set_option maxHeartbeats 4000000
namespace Dz
open PySem PySem.Spec L2 PyProof.Rows He
/-! ### a list that is only read may be frozen -/
theorem freeze {P : Program} {w : World} {K : PySem.W.Frag} {mg : Str → Option Value} {base : Heap} {k : Nat} {f : Addr} {fd : FuncData} {x : Str} {sp : Sp} (F : FnOk P w K mg base C8.CX0 k f fd [x] sp) :
    FnOk P w K mg base C8.CX0 k f fd [x] (fun vs H Q E => ∃ (a : Addr) (xs : List V), vs = [.ref a] ∧ SqL K H a xs ∧ (∀ v H1 H2, Q v H1 → Q v H2) ∧ ∀ H', (∀ b, b ≠ a → H' b = H b) → SqF K H' a xs → sp vs H' Q E) := by
  refine ⟨fun vs H Q E ⟨a, xs, e, _⟩ => by rw [e]; rfl, fun A outer s H args us vs Q E hr e0 hb r ⟨a, xs, ev, hS, hQ, hsp⟩ => ?_⟩
  rcases hS with (hS | ⟨o, hS⟩) | hS
  · obtain ⟨hz, its, n, rv, ho⟩ := e0.hok a _ hS
    generalize hob : ({ cls := .type "list", data := .seq its.toArray n } : Obj) = ob at ho
    have ne : ∀ b, H b = none → b ≠ a := fun b e z => by rw [z, hS] at e; cases e
    have ntab : ∀ b u, b ≠ a → H b = some u → upd H a (.frz ob (.lst xs)) b = some u := fun b u hb e => by rw [upd_ne hb]; exact e
    have okA : ∀ (H' : Hp) (h : Heap), h.get? a = some ob → ObjOk P w H' h a (.lst xs) := fun H' h e => ⟨hz, its, n, rv, by rw [e, hob]⟩
    have hok1 : HOk P w (upd H a (.frz ob (.lst xs))) s.heap := fun b u e => by
      by_cases hb : b = a
      · subst hb
        rw [upd_same] at e
        cases e
        exact ⟨ho, okA _ _ ho⟩
      · rw [upd_ne hb] at e
        refine (e0.hok b u e).stay (fun _ _ _ q => q) (fun d q => ?_) fun d zs q => ?_
        · rw [upd_ne (fun z => by rw [z, hS] at q; cases q)]; exact q
        · rw [upd_ne (fun z => by rw [z, hS] at q; cases q)]; exact q
    have e1 : Env0 P w K mg base A outer s (upd H a (.frz ob (.lst xs))) := ⟨e0.frames, e0.mod, fun b o e => ⟨(e0.bs b o e).1, by rw [upd_ne (ne b (e0.bs b o e).2)]; exact (e0.bs b o e).2⟩, e0.bsz, e0.funs, fun b hb => by rw [upd_ne (ne b (e0.frf b hb))]; exact e0.frf b hb, hok1, e0.bare⟩
    refine codeAny_mono (F.run A outer s (upd H a (.frz ob (.lst xs))) args us vs Q E hr e1 hb r (hsp _ (fun b hb => upd_ne hb) (.inl ⟨ob, upd_same⟩))) fun r s' h => ?_
    cases r with
    | error e => exact h
    | ok fl =>
      cases fl with
      | next => exact h
      | brk => exact h
      | cont => exact h
      | ret u =>
        obtain ⟨v, H', os, bare, un, hok', r', q⟩ := h
        have hfz : H' a = some (.frz ob (.lst xs)) := un.frzs a ob _ upd_same
        obtain ⟨hga, _⟩ := hok' a _ hfz
        have nb : ∀ b, H b = none → upd H a (.frz ob (.lst xs)) b = none := fun b e => by rw [upd_ne (ne b e)]; exact e
        refine ⟨v, upd H' a (.lst xs), os, bare, ⟨fun b o e n h1 h2 => un.keep b o e (nb b n) h1 h2, fun b o e n h1 h2 => un.slot b o e (nb b n) h1 h2, fun b o e n h1 => by rw [upd_ne (ne b n)]; exact un.free b o e (nb b n) h1, un.there, fun b zs e => ?_, fun b o u e => ?_, fun b ps e => ?_⟩, fun b u e => ?_, r', hQ v _ _ q⟩
        · have hb : b ≠ a := fun z => by rw [z, hS] at e; cases e
          rw [upd_ne hb]; exact un.tups b zs (ntab b _ hb e)
        · have hb : b ≠ a := fun z => by rw [z, hS] at e; cases e
          rw [upd_ne hb]; exact un.frzs b o u (ntab b _ hb e)
        · have hb : b ≠ a := fun z => by rw [z, hS] at e; cases e
          obtain ⟨more, z⟩ := un.tbls b ps (ntab b _ hb e)
          exact ⟨more, by rw [upd_ne hb]; exact z⟩
        · by_cases hb : b = a
          · subst hb
            rw [upd_same] at e
            cases e
            exact okA _ _ hga
          · rw [upd_ne hb] at e
            refine (hok' b u e).stay (fun _ _ _ q => q) (fun d q => ?_) fun d zs q => ?_
            · rw [upd_ne (fun z => by rw [z, hfz] at q; cases q)]; exact q
            · rw [upd_ne (fun z => by rw [z, hfz] at q; cases q)]; exact q
  · exact F.run A outer s H args us vs Q E hr e0 hb r (hsp H (fun _ _ => rfl) (.inl ⟨o, hS⟩))
  · exact F.run A outer s H args us vs Q E hr e0 hb r (hsp H (fun _ _ => rfl) (.inr hS))
/-! ### the defs of a text -/
structure DD where
  i : Nat
  x : Str
  ps : List Str
  N : List Str
  gn : Bool
  df : Df
abbrev DD.st (P : Program) (d : DD) : Stmt := P.main.body.getD d.i (.Pass ⟨0, 0, 0, 0⟩)
def DD.defD (P : Program) (d : DD) : DefD := ⟨(d.x, none), d.x, d.x, defArgs (d.st P), defBody (d.st P), defScope (d.st P), [], []⟩
def fdOf (K : PySem.W.Frag) (x : Str) : FuncData := match K.lookup (fAd K (x, none)) with
  | some ⟨_, _, .func fd, _⟩ => fd
  | _ => default
def fnScB (N ps : List Str) (sc : Scope) : Bool := decide (sc.kind = .function) && !sc.isCoroutine && !sc.isGenerator && decide N.Nodup && decide (N.take ps.length = ps) && ps.all (fun x => decide (sc.names.lookup x = some .local) || decide (sc.names.lookup x = some .cell)) && sc.names.all fun y => decide (y.2 ≠ .free)
theorem fnScB_ok {N ps : List Str} {sc : Scope} (h : fnScB N ps sc = true) : FnScope N ps sc := by
  unfold fnScB at h
  obtain ⟨h, h7⟩ := a2 h
  obtain ⟨h1, h2, h3, h4, h5, h6⟩ := a6 h
  refine ⟨dt h1, by simpa using h2, by simpa using h3, dt h4, dt h5, fun x hx => ?_, fun y hy => dt (List.all_eq_true.mp h7 y hy)⟩
  have q := List.all_eq_true.mp h6 x hx
  rw [Bool.or_eq_true] at q
  rcases q with q | q
  · exact .inl (dt q)
  · exact .inr (dt q)
/-- what is checked of a def -/
def DD.ok (P : Program) (fn : List Str) (d : DD) : Bool := fnScB d.N d.ps (defScope (d.st P)) && okSs fn ⟨defScope (d.st P), d.N, fun _ => true, d.gn⟩ d.df.body (defBody (d.st P)) && decide (d.df.ar = d.ps.length) && decide (d.df.sl = d.N.length)
/-- its parameters are bound -/
def DD.Bd (P : Program) (d : DD) : Prop := ∀ (kV doc pm : Value) (an : Option Addr) (cdv ct : Value) (us : List Value), us.length = d.ps.length → bindArgs (PySem.W.fnOf d.x d.x (defArgs (d.st P)) (defBody (d.st P)) (defScope (d.st P)) .none kV doc pm an cdv ct) ⟨us, []⟩ = pure (d.ps.zip us)
def wdOf (P : Program) (w : World) (g : Str → Option D) (L : List DD) (tf : List Defn) (K : PySem.W.Frag) : Wd := ⟨g, L.map (·.df), L.map fun d => ⟨d.x, fAd K (d.x, none), fdOf K d.x, d.ps⟩, ⟨tf.map fun p => (cT K p).2, P, w⟩⟩
section
variable {P : Program} {w : World} {K : PySem.W.Frag} {mg : Str → Option Value} {h : Heap} {g : Str → Option D} {L : List DD} {fa : List Fa} {ts : List Tab} {tf : List Defn} {ex : PySem.W.Frag → Bool}
theorem saysD (c : SaysX fa (L.map (DD.defD P)) ts tf ex w h K) : SaysD fa (L.map (DD.defD P)) K := congrArg (fun z : AlT => z.1) c.t
theorem funD_at (c : SaysX fa (L.map (DD.defD P)) ts tf ex w h K) {d : DD} (hd : d ∈ L) : FunD K d.x d.x (defArgs (d.st P)) (defBody (d.st P)) (defScope (d.st P)) [] [] (fAd K (d.x, none)) (fdOf K d.x) := by
  obtain ⟨fd, F⟩ := (saysD c).defs (d := d.defD P) (List.mem_map.mpr ⟨d, hd, rfl⟩)
  have F : FunD K d.x d.x (defArgs (d.st P)) (defBody (d.st P)) (defScope (d.st P)) [] [] (fAd K (d.x, none)) fd := F
  obtain ⟨oc, od, dV, kV, doc, pm, an, cdv, ct, osl, efd, lk, _⟩ := F.ex
  have e : fdOf K d.x = fd := by
    unfold fdOf
    rw [lk]
  rw [e]; exact F
theorem wdOf_ok {base : Heap} (X : K.In h) (G : h.Ns mainGlobals mg) (c : SaysX fa (L.map (DD.defD P)) ts tf ex w h K) (hglo : ∀ d ∈ L, Fa.glo d.x ∈ fa) (hfree : ∀ x ∈ blts, Fa.free x ∈ fa) (hok : ∀ d ∈ L, d.ok P (L.map (·.x)) = true) (hbd : ∀ d ∈ L, d.Bd P) (hgn : ∀ d ∈ L, d.gn = true → (d.x, none) ∈ tf)
    (hg : ∀ x d, g x = some d → ∃ u v, mg x = some u ∧ RelV v u ∧ ∀ H m, RV K H m d v) (TB : ∀ p ∈ tf.map (cT K), LamX.TabB base mg p.1 p.2) : WdOk (wdOf P w g L tf K) (L.map (·.x)) K mg base := by
  have at_ : ∀ (f : Nat) (F : FF), (wdOf P w g L tf K).fns[f]? = some F → ∃ d, L[f]? = some d ∧ d ∈ L ∧ F = ⟨d.x, fAd K (d.x, none), fdOf K d.x, d.ps⟩ := fun f F hF => by
    have hF : (L.map fun d => (⟨d.x, fAd K (d.x, none), fdOf K d.x, d.ps⟩ : FF))[f]? = some F := hF
    rw [List.getElem?_map] at hF
    cases q : L[f]? with
    | none => rw [q] at hF; cases hF
    | some d => rw [q] at hF; cases hF; exact ⟨d, rfl, List.mem_of_getElem? q, rfl⟩
  refine ⟨by show (L.map _).map _ = _; rw [List.map_map]; rfl, by show (L.map _).length = (L.map _).length; rw [List.length_map, List.length_map], hg, fun x hx => free_ok X G ((saysD c).facts (hfree x hx)), fun f F hF => ?_, fun f F d hF hd => ?_⟩
  · obtain ⟨d, _, hd, rfl⟩ := at_ f F hF
    have FD := funD_at c hd
    exact ⟨glo_ok X G ((saysD c).facts (hglo d hd)), FD.kp, FD.bindsN (hbd d hd)⟩
  · obtain ⟨dd, hdd, hm, rfl⟩ := at_ f F hF
    have hd : (L.map (·.df))[f]? = some d := hd
    rw [List.getElem?_map, hdd] at hd
    cases hd
    obtain ⟨k1, k2, k3, k4⟩ := a4 (hok dd hm)
    refine ⟨dd.x, _, _, _, dd.N, dd.gn, funD_at c hm, fnScB_ok k1, k2, dt k3, dt k4, fun hgt => ?_⟩
    have ht := hgn dd hm hgt
    have FD := funD_at c hm
    obtain ⟨oc, od, dV, kV, doc, pm, an, cdv, ct, osl, efd, lk, hcd, _⟩ := FD.ex
    obtain ⟨cc, rfl⟩ := codeIn_ref hcd
    have ec : (fdOf K dd.x).code = .ref cc := by rw [efd]
    have e : codeOf K (dd.x, none) = cc := codeOf_eq lk ec
    obtain ⟨t1, t2, t3⟩ := TB (cT K (dd.x, none)) (List.mem_map.mpr ⟨_, ht, rfl⟩)
    refine ⟨cc, (cT K (dd.x, none)).2, ⟨?_, t2, t3⟩, ec, List.mem_map.mpr ⟨_, ht, rfl⟩⟩
    have : (cT K (dd.x, none)).1 = cc := e
    rw [← this]; exact t1
/-- THE LAW'S END -/
theorem law_end {l : PySem.W.OpenLaw} {k n f : Nat} {x : Str} {fA : Addr} (X : K.In h) (G : h.Ns mainGlobals mg) (c : SaysX fa (L.map (DD.defD l.prog)) ts tf ex w h K) (hglo : ∀ d ∈ L, Fa.glo d.x ∈ fa) (hfree : ∀ x ∈ blts, Fa.free x ∈ fa) (hok : ∀ d ∈ L, d.ok l.prog (L.map (·.x)) = true) (hbd : ∀ d ∈ L, d.Bd l.prog)
    (hgn : ∀ d ∈ L, d.gn = true → (d.x, none) ∈ tf) (hg : ∀ x d, g x = some d → ∃ u v, mg x = some u ∧ RelV v u ∧ ∀ H m, RV K H m d v) {d : DD} (hd : L[f]? = some d) (hps : d.ps = [x]) (hfA : mg d.x = some (.ref fA))
    (law : ∀ ns : List Int, ns.length ≤ n → (∀ z ∈ ns, Builtin.Int.intBits z ≤ 1048576) → ∃ st', callD (L.map (·.df)) g k f [.fz (ns.map .int)] [] = some (.bl true, st')) : LamX.LawAtS l w K C8.CX0 (k + 1) n x mg fA h := by
  have hm : d ∈ L := List.mem_of_getElem? hd
  have FD := funD_at c hm
  have efA : fA = fAd K (d.x, none) := by
    have e := glo_ok X G ((saysD c).facts (hglo d hm))
    rw [hfA] at e
    cases e; rfl
  subst efA
  have hd2 : (wdOf l.prog w g L tf K).fns[f]? = some ⟨d.x, fAd K (d.x, none), fdOf K d.x, d.ps⟩ := by
    show (L.map _)[f]? = _
    rw [List.getElem?_map, hd]; rfl
  have bnd := FunD.bindsA FD (hbd d hm)
  refine ⟨fdOf K d.x, tf.map (cT K), fun vs H Q E => ∃ (a : Addr) (xs : List V), vs = [.ref a] ∧ SqL K H a xs ∧ (∀ v H1 H2, Q v H1 → Q v H2) ∧ ∀ H', (∀ b, b ≠ a → H' b = H b) → SqF K H' a xs → spD K (wdOf l.prog w g L tf K) k f vs H' Q E, fun p hp => ?_, fun p hp => ?_, fun p hp => ?_, fun s u => ?_, fun H a ns hl hbits hT hS => ?_, fun base KX GX TB => ?_⟩
  · obtain ⟨q, hq, rfl⟩ := List.mem_map.mp hp
    exact c.empty q hq
  · obtain ⟨q, hq, rfl⟩ := List.mem_map.mp hp
    exact c.out q hq
  · obtain ⟨q, hq, rfl⟩ := List.mem_map.mp hp
    exact PySem.W.codeHd_of_K X (c.hd q hq)
  · have z := bnd s [u] (by rw [hps]; rfl)
    rw [hps] at z
    exact z
  · obtain ⟨st', e⟩ := law ns hl hbits
    refine ⟨a, ns.map V.int, rfl, hS, fun v H1 H2 q => q, fun H' he hF => ⟨[], [], [.fz (ns.map .int)], .bl true, st', ⟨rfl, List.nodup_nil, fun k a o e1 => by simp at e1, fun p hp => ?_⟩, P2.one ⟨a, ns.map V.int, rfl, hF, P2.rvs ?_⟩, e, fun v H2 m2 _ _ r => r⟩⟩
    · have hp : p ∈ tf.map fun p => (cT K p).2 := hp
      obtain ⟨q, hq, rfl⟩ := List.mem_map.mp hp
      have ht := hT (cT K q) (List.mem_map.mpr ⟨q, hq, rfl⟩)
      refine ⟨#[], ?_, trivial⟩
      by_cases hb : (cT K q).2 = a
      · rw [hb] at ht
        rcases hS with (hS | ⟨o, hS⟩) | ⟨o, its, m, hk, _⟩
        · rw [ht] at hS; cases hS
        · rw [ht] at hS; cases hS
        · have := c.out q hq
          rw [hb, hk] at this; cases this
      · rw [he _ hb]; exact ht
    · refine ⟨by simp, fun i d v e1 e2 => ?_⟩
      rw [List.getElem?_map] at e1 e2
      cases q : ns[i]? with
      | none => rw [q] at e1; cases e1
      | some z => rw [q] at e1 e2; cases e1; cases e2; rfl
  · have W := wdOf_ok (base := base) X G c hglo hfree hok hbd hgn hg TB
    have F := fns_ok (P := l.prog) (w := w) W rfl rfl k f _ hd2
    have F : FnOk l.prog w K mg base C8.CX0 (k + 1) (fAd K (d.x, none)) (fdOf K d.x) d.ps (spD K (wdOf l.prog w g L tf K) k f) := F
    rw [hps] at F
    exact freeze F
end
end Dz
end
section
set_option Elab.async false
set_option linter.all false
set_option maxRecDepth 100000
namespace Dz
open PySem
/-! ### what simp may unfold: all but loops, comprehensions, calls -/
section
variable {g : Str → Option D} {C : List CS} {ρ : Env} {st : Sto} {fs : List Df}
theorem ev_var (i : Nat) : ev (.var i) g C ρ st = (match ρ[i]? with | some (some d) => some (d, st) | _ => none) := rfl
@[simp] theorem ev_var0 (d : D) (ρ : Env) : ev (.var 0) g C (some d :: ρ) st = some (d, st) := id rfl
@[simp] theorem ev_varS (i : Nat) (x : Option D) (ρ : Env) : ev (.var (i + 1)) g C (x :: ρ) st = ev (.var i) g C ρ st := id rfl
@[simp] theorem ev_non : ev .non g C ρ st = some (.non, st) := id rfl
@[simp] theorem ev_bl (b : Bool) : ev (.bl b) g C ρ st = some (.bl b, st) := id rfl
@[simp] theorem ev_int (i : Int) : ev (.int i) g C ρ st = some (.int i, st) := id rfl
@[simp] theorem ev_str (x : Str) : ev (.str x) g C ρ st = some (.str x, st) := id rfl
@[simp] theorem ev_glb (x : Str) : ev (.glb x) g C ρ st = (g x).map fun d => (d, st) := id rfl
@[simp] theorem ev_tup (es : List E) : ev (.tup es) g C ρ st = (evs es g C ρ st).bind fun r => if r.1.length ≤ sizeLine then some (.tup r.1, r.2) else none := id rfl
@[simp] theorem ev_lst (es : List E) : ev (.lst es) g C ρ st = (evs es g C ρ st).bind fun r => if r.1.length ≤ sizeLine then some (new r.2 (.lst r.1)) else none := id rfl
@[simp] theorem ev_bin (o : Bop) (a b : E) : ev (.bin o a b) g C ρ st = (ev a g C ρ st).bind fun r => (ev b g C ρ r.2).bind fun q => binD o r.1 q.1 q.2 := id rfl
@[simp] theorem ev_neg (a : E) : ev (.neg a) g C ρ st = (ev a g C ρ st).bind fun r => match r.1 with | .int i => some (.int (-i), r.2) | _ => none := id rfl
@[simp] theorem ev_cmp (o : Cop) (a b : E) : ev (.cmp o a b) g C ρ st = (ev a g C ρ st).bind fun r => (ev b g C ρ r.2).bind fun q => (cmpD o r.1 q.1 q.2).map fun c => (.bl c, q.2) := id rfl
@[simp] theorem ev_chn (o p : Cop) (a b c : E) : ev (.chn o p a b c) g C ρ st = (ev a g C ρ st).bind fun r => (ev b g C ρ r.2).bind fun q => (cmpD o r.1 q.1 q.2).bind fun x =>
      if x then (ev c g C ρ q.2).bind fun z => (cmpD p q.1 z.1 z.2).map fun y => (.bl y, z.2) else some (.bl false, q.2) := id rfl
@[simp] theorem ev_and (es : List E) : ev (.and es) g C ρ st = evAnd es g C ρ st := id rfl
@[simp] theorem ev_or (es : List E) : ev (.or es) g C ρ st = evOr es g C ρ st := id rfl
@[simp] theorem ev_not (a : E) : ev (.not a) g C ρ st = (ev a g C ρ st).bind fun r => (truD r.1 r.2).map fun b => (.bl (!b), r.2) := id rfl
@[simp] theorem ev_ife (c : T) (a b : E) : ev (.ife c a b) g C ρ st = (evT c g C ρ st).bind fun r => if r.1 then ev a g C ρ r.2 else ev b g C ρ r.2 := id rfl
@[simp] theorem ev_call (n f : Nat) (es : List E) : ev (.call f es) g (calls fs g (n + 1)) ρ st = (evs es g (calls fs g (n + 1)) ρ st).bind fun r => callD fs g n f r.1 r.2 := id rfl
@[simp] theorem ev_bi (f : Bf) (es : List E) : ev (.bi f es) g C ρ st = (evs es g C ρ st).bind fun r => bfD f r.1 r.2 := id rfl
@[simp] theorem ev_isi (a : E) (t : Ty) : ev (.isi a t) g C ρ st = (ev a g C ρ st).bind fun r => (isiD r.1 t r.2).map fun b => (.bl b, r.2) := id rfl
@[simp] theorem ev_mth (m : Mt) (o : E) (es : List E) : ev (.mth m o es) g C ρ st = (ev o g C ρ st).bind fun r => if isL r.1 r.2 then (evs es g C ρ r.2).bind fun q => mtD m r.1 q.1 q.2 else none := id rfl
@[simp] theorem ev_idx (a i : E) : ev (.idx a i) g C ρ st = (ev a g C ρ st).bind fun r => (ev i g C ρ r.2).bind fun q => (idxD r.1 q.1 q.2).map fun d => (d, q.2) := id rfl
@[simp] theorem ev_slF (a lo : E) : ev (.slF a lo) g C ρ st = (ev a g C ρ st).bind fun r => (ev lo g C ρ r.2).bind fun q => match q.1 with | .int i => slcD r.1 (some i) none q.2 | _ => none := id rfl
@[simp] theorem ev_slT (a hi : E) : ev (.slT a hi) g C ρ st = (ev a g C ρ st).bind fun r => (ev hi g C ρ r.2).bind fun q => match q.1 with | .int i => slcD r.1 none (some i) q.2 | _ => none := id rfl
@[simp] theorem ev_slB (a lo hi : E) : ev (.slB a lo hi) g C ρ st = (ev a g C ρ st).bind fun r => (ev lo g C ρ r.2).bind fun q => (ev hi g C ρ q.2).bind fun z => match q.1, z.1 with | .int i, .int j => slcD r.1 (some i) (some j) z.2 | _, _ => none := id rfl
@[simp] theorem ev_slR (a : E) : ev (.slR a) g C ρ st = (ev a g C ρ st).bind fun r => match r.1 with | .ref k => (lstOf r.2 k).map fun ds => new r.2 (.lst ds.reverse) | _ => none := id rfl
@[simp] theorem evs_nil : evs [] g C ρ st = some ([], st) := id rfl
@[simp] theorem evs_cons (e : E) (es : List E) : evs (e :: es) g C ρ st = (ev e g C ρ st).bind fun r => (evs es g C ρ r.2).map fun q => (r.1 :: q.1, q.2) := id rfl
@[simp] theorem evAnd_cons (e : E) (es : List E) : evAnd (e :: es) g C ρ st = (ev e g C ρ st).bind fun r => if es.isEmpty then some r else match r.1 with | .bl true => evAnd es g C ρ r.2 | .bl false => some (.bl false, r.2) | _ => none := id rfl
@[simp] theorem evOr_cons (e : E) (es : List E) : evOr (e :: es) g C ρ st = (ev e g C ρ st).bind fun r => if es.isEmpty then some r else match r.1 with | .bl true => some (.bl true, r.2) | .bl false => evOr es g C ρ r.2 | _ => none := id rfl
@[simp] theorem evT_val (e : E) : evT (.val e) g C ρ st = (ev e g C ρ st).bind fun r => (truD r.1 r.2).map fun b => (b, r.2) := id rfl
@[simp] theorem evT_not (a : T) : evT (.not a) g C ρ st = (evT a g C ρ st).map fun r => (!r.1, r.2) := id rfl
@[simp] theorem evT_and (es : List T) : evT (.and es) g C ρ st = evTA es g C ρ st := id rfl
@[simp] theorem evT_or (es : List T) : evT (.or es) g C ρ st = evTO es g C ρ st := id rfl
@[simp] theorem evT_cmp (o : Cop) (a b : E) : evT (.cmp o a b) g C ρ st = (ev a g C ρ st).bind fun r => (ev b g C ρ r.2).bind fun q => (cmpD o r.1 q.1 q.2).map fun c => (c, q.2) := id rfl
@[simp] theorem evT_chn (o p : Cop) (a b c : E) : evT (.chn o p a b c) g C ρ st = (ev a g C ρ st).bind fun r => (ev b g C ρ r.2).bind fun q => (cmpD o r.1 q.1 q.2).bind fun x =>
      if x then (ev c g C ρ q.2).bind fun z => (cmpD p q.1 z.1 z.2).map fun y => (y, z.2) else some (false, q.2) := id rfl
@[simp] theorem evT_ife (c a b : T) : evT (.ife c a b) g C ρ st = (evT c g C ρ st).bind fun r => if r.1 then evT a g C ρ r.2 else evT b g C ρ r.2 := id rfl
@[simp] theorem evTA_nil : evTA [] g C ρ st = some (true, st) := id rfl
@[simp] theorem evTA_cons (e : T) (es : List T) : evTA (e :: es) g C ρ st = (evT e g C ρ st).bind fun r => if r.1 then evTA es g C ρ r.2 else some (false, r.2) := id rfl
@[simp] theorem evTO_nil : evTO [] g C ρ st = some (false, st) := id rfl
@[simp] theorem evTO_cons (e : T) (es : List T) : evTO (e :: es) g C ρ st = (evT e g C ρ st).bind fun r => if r.1 then some (true, r.2) else evTO es g C ρ r.2 := id rfl
@[simp] theorem asgD_nm (i : Nat) (d : D) : asgD (.nm i) d st ρ = if i < ρ.length then some (ρ.set i (some d)) else none := id rfl
@[simp] theorem asgD_tup (ts : List Tg) (ds : List D) : asgD (.tp ts) (.tup ds) st ρ = asgDs ts ds st ρ := id rfl
@[simp] theorem asgD_ref (ts : List Tg) (k : Nat) : asgD (.tp ts) (.ref k) st ρ = (lstOf st k).bind fun ds => asgDs ts ds st ρ := id rfl
@[simp] theorem asgDs_nil : asgDs [] [] st ρ = some ρ := id rfl
@[simp] theorem asgDs_cons (t : Tg) (ts : List Tg) (d : D) (ds : List D) : asgDs (t :: ts) (d :: ds) st ρ = (asgD t d st ρ).bind fun ρ1 => asgDs ts ds st ρ1 := id rfl
@[simp] theorem ex_expr (e : E) : ex (.expr e) g C ρ st = (ev e g C ρ st).map fun r => (.nx, ρ, r.2) := id rfl
@[simp] theorem ex_asg (tg : Tg) (e : E) : ex (.asg tg e) g C ρ st = (ev e g C ρ st).bind fun r => (asgD tg r.1 r.2 ρ).map fun ρ1 => (.nx, ρ1, r.2) := id rfl
@[simp] theorem ex_asub (o i e : E) : ex (.asub o i e) g C ρ st = (ev e g C ρ st).bind fun v => (ev o g C ρ v.2).bind fun r => (ev i g C ρ r.2).bind fun q => (setD r.1 q.1 v.1 q.2).map fun s => (.nx, ρ, s) := id rfl
@[simp] theorem ex_aug (i : Nat) (o : Bop) (e : E) : ex (.aug i o e) g C ρ st = (match ρ[i]? with | some (some x) => (ev e g C ρ st).bind fun r => (match x, r.1 with | .int a, .int b => (match o with | .add => some (.nx, ρ.set i (some (.int (a + b))), r.2) | .sub => some (.nx, ρ.set i (some (.int (a - b))), r.2) | _ => none) | _, _ => none) | _ => none) := id rfl
@[simp] theorem ex_ret (e : E) : ex (.ret e) g C ρ st = (ev e g C ρ st).map fun r => (.rt r.1, ρ, r.2) := id rfl
@[simp] theorem ex_retN : ex .retN g C ρ st = some (.rt .non, ρ, st) := id rfl
@[simp] theorem ex_pass : ex .pass g C ρ st = some (.nx, ρ, st) := id rfl
@[simp] theorem ex_brk : ex .brk g C ρ st = some (.bk, ρ, st) := id rfl
@[simp] theorem ex_cnt : ex .cnt g C ρ st = some (.ct, ρ, st) := id rfl
@[simp] theorem ex_ife (c : T) (a b : List S) : ex (.ife c a b) g C ρ st = (evT c g C ρ st).bind fun r => if r.1 then exs a g C ρ r.2 else exs b g C ρ r.2 := id rfl
@[simp] theorem exs_nil : exs [] g C ρ st = some (.nx, ρ, st) := id rfl
@[simp] theorem exs_cons (s : S) (ss : List S) : exs (s :: ss) g C ρ st = (ex s g C ρ st).bind fun q => match q with
    | (.nx, ρ', st') => exs ss g C ρ' st'
    | q => some q := id rfl
@[simp] theorem truD_bl (b : Bool) : truD (.bl b) st = some b := id rfl
@[simp] theorem truD_tup (ds : List D) : truD (.tup ds) st = some (!ds.isEmpty) := id rfl
@[simp] theorem truD_int (i : Int) : truD (.int i) st = some (i != 0) := id rfl
@[simp] theorem truD_ref (k : Nat) : truD (.ref k) st = (lstOf st k).map fun ds => !ds.isEmpty := id rfl
@[simp] theorem wipeD_nil : wipeD ρ [] = ρ := id rfl
@[simp] theorem wipeD_cons (v : Nat) (vs : List Nat) : wipeD ρ (v :: vs) = (wipeD ρ vs).set v none := id rfl
@[simp] theorem new_eq (o : O) : new st o = (.ref st.length, st ++ [o]) := id rfl
@[simp] theorem bin_addI (i j : Int) : binD .add (.int i) (.int j) st = some (.int (i + j), st) := id rfl
@[simp] theorem bin_subI (i j : Int) : binD .sub (.int i) (.int j) st = some (.int (i - j), st) := id rfl
@[simp] theorem bin_addT (a b : List D) : binD .add (.tup a) (.tup b) st = if a.length + b.length ≤ sizeLine then some (.tup (a ++ b), st) else none := id rfl
@[simp] theorem cmp_lt (i j : Int) : cmpD .lt (.int i) (.int j) st = some (decide (i < j)) := id rfl
@[simp] theorem cmp_le (i j : Int) : cmpD .le (.int i) (.int j) st = some (decide (i ≤ j)) := id rfl
@[simp] theorem cmp_gt (i j : Int) : cmpD .gt (.int i) (.int j) st = some (decide (i > j)) := id rfl
@[simp] theorem cmp_ge (i j : Int) : cmpD .ge (.int i) (.int j) st = some (decide (i ≥ j)) := id rfl
@[simp] theorem cmp_isN (x : D) : cmpD .is x .non st = some (isN x) := by cases x <;> rfl
@[simp] theorem cmp_isnN (x : D) : cmpD .isn x .non st = some (!isN x) := by cases x <;> rfl
@[simp] theorem cmp_isB (a b : Bool) : cmpD .is (.bl a) (.bl b) st = some (decide (a = b)) := id rfl
@[simp] theorem cmp_isnB (a b : Bool) : cmpD .isn (.bl a) (.bl b) st = some (!decide (a = b)) := id rfl
@[simp] theorem cmp_eq (x y : D) : cmpD .eq x y st = eqD st x y := by cases x <;> cases y <;> rfl
@[simp] theorem cmp_ne (x y : D) : cmpD .ne x y st = (eqD st x y).map (!·) := by cases x <;> cases y <;> rfl
@[simp] theorem idx_tup (ds : List D) (j : Int) : idxD (.tup ds) (.int j) st = L2.atI ds j := id rfl
@[simp] theorem idx_fz (ds : List D) (j : Int) : idxD (.fz ds) (.int j) st = L2.atI ds j := id rfl
@[simp] theorem idx_ref (k : Nat) (j : Int) : idxD (.ref k) (.int j) st = (lstOf st k).bind fun ds => L2.atI ds j := id rfl
@[simp] theorem len_tup (ds : List D) : bfD .len [.tup ds] st = some (.int ds.length, st) := id rfl
@[simp] theorem len_fz (ds : List D) : bfD .len [.fz ds] st = some (.int ds.length, st) := id rfl
@[simp] theorem len_ref (k : Nat) : bfD .len [.ref k] st = (lstOf st k).map fun ds => (.int ds.length, st) := id rfl
@[simp] theorem int_int (i : Int) : bfD .int [.int i] st = some (.int i, st) := id rfl
@[simp] theorem tuple_ref (k : Nat) : bfD .tuple [.ref k] st = (lstOf st k).map fun ds => (.tup ds, st) := id rfl
@[simp] theorem tuple_tup (ds : List D) : bfD .tuple [.tup ds] st = some (.tup ds, st) := id rfl
@[simp] theorem list_tup (ds : List D) : bfD .list [.tup ds] st = some (new st (.lst ds)) := id rfl
@[simp] theorem list_ref (k : Nat) : bfD .list [.ref k] st = (lstOf st k).map fun ds => new st (.lst ds) := id rfl
@[simp] theorem isL_ref (k : Nat) : isL (.ref k) st = (lstOf st k).isSome := id rfl
@[simp] theorem isN_non : isN .non = true := id rfl
@[simp] theorem isN_tup (ds : List D) : isN (.tup ds) = false := id rfl
@[simp] theorem isN_int (i : Int) : isN (.int i) = false := id rfl
@[simp] theorem isN_bl (i : Bool) : isN (.bl i) = false := id rfl
@[simp] theorem isN_str (i : Str) : isN (.str i) = false := id rfl
@[simp] theorem isN_ref (k : Nat) : isN (.ref k) = false := id rfl
@[simp] theorem isi_ti (ds : List D) : isiD (.tup ds) .tuple st = some true := id rfl
/-! a def that is called -/
theorem callD_run {n f : Nat} {d : Df} {xs : List D} (hd : fs[f]? = some d) (hl : xs.length = d.ar) : callD fs g n f xs st = (exs d.body g (calls fs g n) (xs.map some ++ List.replicate (d.sl - xs.length) none) st).bind fun q => match q with
    | (.nx, _, st') => some (.non, st')
    | (.rt v, _, st') => some (v, st')
    | _ => none := by
  show runD fs g (calls fs g n) f xs st = _
  unfold runD
  rw [hd]
  show (if xs.length = d.ar then _ else none) = _
  exact if_pos hl
end
/-! ### lists in the store -/
theorem lst_old {st J : Sto} {k : Nat} {ds : List D} (h : lstOf st k = some ds) : lstOf (st ++ J) k = some ds := by
  unfold lstOf at h ⊢
  cases q : st[k]? with
  | none => rw [q] at h; cases h
  | some o =>
    obtain ⟨hi, _⟩ := List.getElem?_eq_some_iff.mp q
    rw [List.getElem?_append_left hi, q]
    rw [q] at h
    exact h
@[simp] theorem lst_mid (st : Sto) (ds : List D) (J : Sto) : lstOf (st ++ .lst ds :: J) st.length = some ds := by simp [lstOf]
@[simp] theorem set_mid (st : Sto) (o o' : O) (J : Sto) : (st ++ o :: J).set st.length o' = st ++ o' :: J := by simp
theorem mt_append {st : Sto} {k : Nat} {ds : List D} (y : D) (h : lstOf st k = some ds) (hz : ds.length < sizeLine) : mtD .append (.ref k) [y] st = some (.non, st.set k (.lst (ds ++ [y]))) := by
  unfold lstOf at h
  unfold mtD
  split at h
  · rename_i ds' e
    cases h
    simp [e, hz]
  · cases h
theorem mt_extT {st : Sto} {k : Nat} {ds : List D} (zs : List D) (h : lstOf st k = some ds) (hz : ds.length + zs.length ≤ sizeLine) : mtD .extend (.ref k) [.tup zs] st = some (.non, st.set k (.lst (ds ++ zs))) := by
  unfold lstOf at h
  unfold mtD
  split at h
  · rename_i ds' e
    cases h
    simp [e, hz]
  · cases h
theorem mt_extR {st : Sto} {k j : Nat} {ds zs : List D} (h : lstOf st k = some ds) (h2 : lstOf st j = some zs) (hj : j ≠ k) (hz : ds.length + zs.length ≤ sizeLine) : mtD .extend (.ref k) [.ref j] st = some (.non, st.set k (.lst (ds ++ zs))) := by
  unfold lstOf at h
  unfold mtD
  split at h
  · rename_i ds' e
    cases h
    simp [e, hz, hj, h2]
  · cases h
theorem mt_pop {st : Sto} {k : Nat} {ds : List D} {d : D} (h : lstOf st k = some (ds ++ [d])) : mtD .pop (.ref k) [] st = some (d, st.set k (.lst ds)) := by
  unfold lstOf at h
  unfold mtD
  split at h
  · rename_i ds' e
    cases h
    simp [e]
  · cases h
/-! ### loops -/
/-- a for loop whose body goes on; P: what holds ahead of turn i -/
theorem for_ok {J : IT} {B : D → Env → Sto → Option (Fl × Env × Sto)} (P : Nat → Env → Sto → Prop) (N : Nat) (hs : ∀ i ρ st, i < N → P i ρ st → ∃ x fl ρ' st', nxD J i st = some x ∧ B x ρ st = some (fl, ρ', st') ∧ (fl = .nx ∨ fl = .ct) ∧ P (i + 1) ρ' st') (he : ∀ ρ st, P N ρ st → stD J N st = true) :
    ∀ (r i : Nat) (ρ : Env) (st : Sto), i + r = N → P i ρ st → ∃ ρ' st', loopF J B r i ρ st = some (.nx, ρ', st') ∧ P N ρ' st'
  | 0, i, ρ, st, h, p => by
    have e : i = N := by omega
    subst e
    exact ⟨ρ, st, by show (if stD J i st then _ else _) = _; rw [if_pos (he ρ st p)], p⟩
  | r + 1, i, ρ, st, h, p => by
    obtain ⟨x, fl, ρ', st', e1, e2, hf, p'⟩ := hs i ρ st (by omega) p
    obtain ⟨ρ2, st2, e3, p2⟩ := for_ok P N hs he r (i + 1) ρ' st' (by omega) p'
    refine ⟨ρ2, st2, ?_, p2⟩
    show (nxD J i st).bind _ = _
    rw [e1]
    show (B x ρ st).bind _ = _
    rw [e2]
    rcases hf with rfl | rfl <;> exact e3
/-- a list comprehension; P: what holds of the store and the items so far -/
theorem comp_ok {J : IT} {B : D → Sto → Option (Option D × Sto)} (P : Nat → List D → Sto → Prop) (N : Nat) (hs : ∀ i acc st, i < N → P i acc st → ∃ x o st', nxD J i st = some x ∧ B x st = some (o, st') ∧ (o ≠ none → acc.length < sizeLine) ∧ P (i + 1) (acc ++ o.toList) st') (he : ∀ acc st, P N acc st → stD J N st = true) :
    ∀ (r i : Nat) (acc : List D) (st : Sto), i + r = N → P i acc st → ∃ acc' st', loopC J B r i acc st = some (acc', st') ∧ P N acc' st'
  | 0, i, acc, st, h, p => by
    have e : i = N := by omega
    subst e
    exact ⟨acc, st, by show (if stD J i st then _ else _) = _; rw [if_pos (he acc st p)], p⟩
  | r + 1, i, acc, st, h, p => by
    obtain ⟨x, o, st', e1, e2, hz, p'⟩ := hs i acc st (by omega) p
    obtain ⟨ρ2, st2, e3, p2⟩ := comp_ok P N hs he r (i + 1) _ st' (by omega) p'
    refine ⟨ρ2, st2, ?_, p2⟩
    show (nxD J i st).bind _ = _
    rw [e1]
    show (B x st).bind _ = _
    rw [e2]
    cases o with
    | none => simpa using e3
    | some y =>
      show (if acc.length < sizeLine then _ else none) = _
      rw [if_pos (hz (by simp))]
      exact e3
end Dz
end
section
set_option Elab.async false
set_option linter.all false
set_option maxRecDepth 100000
set_option maxHeartbeats 0
namespace K71
open Dz PySem
/-- inputs_of(n) -/
def b0 : List S :=
 [.asg (.nm 1) (.lst [(.tup [])]),
 .for_ .rng1 [(.var 0)] (.nm 2)
  [.asg (.nm 1) (.lc2 .one [(.var 1)] (.nm 3) [] .one [(.glb "ITEMS")] (.nm 4) [] (.bin .add (.var 3) (.tup [(.var 4)])) [3, 4] [4])],
 .ret (.bi .tuple [(.var 1)])]
def d0 : DD := ⟨2, "inputs_of", ["n"], ["n", "rows", "_", "row", "item"], false, ⟨1, 5, b0⟩⟩
/-- tells_more(inputs, others) -/
def b1 : List S :=
 [.ret (.and [(.cmp .ne (.var 0) (.var 1)), (.gen .all .zip [(.var 0), (.var 1)] (.tp [(.nm 2), (.nm 3)]) [] (.or [(.cmp .is (.var 2) .non), (.cmp .eq (.var 2) (.var 3))]) [2, 3])])]
def d1 : DD := ⟨3, "tells_more", ["inputs", "others"], ["inputs", "others", "item", "other"], true, ⟨2, 4, b1⟩⟩
/-- fall_of(told) -/
def b2 : List S :=
 [.lock 0 (.for_ .dic [(.var 0)] (.nm 1)
  [.lock 0 (.for_ .dic [(.var 0)] (.nm 2)
    [.ife (.and [(.cmp .isn (.dget (.var 0) (.var 1)) .non), (.val (.call 1 [(.var 1), (.var 2)])), (.cmp .ne (.dget (.var 0) (.var 2)) (.dget (.var 0) (.var 1)))])
      [.ret (.tup [(.var 1), (.var 2)])]
      []])]),
 .ret .non]
def d2 : DD := ⟨4, "fall_of", ["told"], ["told", "inputs", "others"], false, ⟨1, 3, b2⟩⟩
/-- must_be_asked(told, inputs) -/
def b3 : List S :=
 [.lock 0 (.asg (.nm 2) (.lc .dic [(.var 0)] (.nm 5) [(.and [(.val (.call 1 [(.var 1), (.var 5)])), (.cmp .isn (.dget (.var 0) (.var 5)) .non)])] (.var 5) [5])),
 .ife (.not (.val (.var 2)))
  [.ret (.neg (.int 1))]
  [],
 .for_ .enum [(.var 1)] (.tp [(.nm 3), (.nm 4)])
  [.ife (.and [(.cmp .is (.var 4) .non), (.val (.gen .all .one [(.var 2)] (.nm 5) [] (.cmp .isn (.idx (.var 5) (.var 3)) .non) [5]))])
    [.ret (.var 3)]
    []],
 .ret .non]
def d3 : DD := ⟨5, "must_be_asked", ["told", "inputs"], ["told", "inputs", "answered", "number", "item", "others"], true, ⟨2, 6, b3⟩⟩
/-- body_at(told, inputs) -/
def b4 : List S :=
 [.ife (.cmp .isn (.dget (.var 0) (.var 1)) .non)
  [.ret (.tup [(.str "say"), (.dget (.var 0) (.var 1))])]
  [],
 .asg (.nm 2) (.call 3 [(.var 0), (.var 1)]),
 .ife (.cmp .is (.var 2) .non)
  [.ret (.tup [(.str "stuck"), (.var 1)])]
  [],
 .ife (.cmp .lt (.var 2) (.int 0))
  [.ret (.tup [(.str "stop")])]
  [],
 .asg (.nm 3) (.lst []),
 .for_ .one [(.tup [(.int 0), (.int 1)])] (.nm 4)
  [.asg (.nm 5) (.call 4 [(.var 0), (.bin .add (.bin .add (.slT (.var 1) (.var 2)) (.tup [(.var 4)])) (.slF (.var 1) (.bin .add (.var 2) (.int 1))))]),
   .ife (.cmp .eq (.idx (.var 5) (.int 0)) (.str "stuck"))
    [.ret (.var 5)]
    [],
   .expr (.mth .append (.var 3) [(.var 5)])],
 .ret (.tup [(.str "ask"), (.int 0), (.var 2), (.tup []), (.idx (.var 3) (.int 0)), (.idx (.var 3) (.int 1))])]
def d4 : DD := ⟨6, "body_at", ["told", "inputs"], ["told", "inputs", "number", "parts", "answer", "part"], false, ⟨2, 6, b4⟩⟩
/-- decide(n, table) -/
def b5 : List S :=
 [.asg (.nm 2) (.dzp (.call 0 [(.var 0)]) (.var 1)),
 .asg (.nm 3) (.call 2 [(.var 2)]),
 .ife (.cmp .isn (.var 3) .non)
  [.ret (.bin .add (.tup [(.str "falls")]) (.var 3))]
  [],
 .asg (.nm 4) (.call 4 [(.var 2), (.bin .mul (.tup [.non]) (.var 0))]),
 .ret (.ife (.cmp .eq (.idx (.var 4) (.int 0)) (.str "stuck")) (.var 4) (.tup [(.str "program"), (.tup [(.str "program"), (.var 0), (.var 4)])]))]
def d5 : DD := ⟨7, "decide", ["n", "table"], ["n", "table", "told", "fall", "body"], false, ⟨2, 5, b5⟩⟩
/-- _law_cell(script, k) -/
def b6 : List S :=
 [.ife (.cmp .lt (.var 1) (.bi .len [(.var 0)]))
  [.ret (.idx (.var 0) (.var 1))]
  [],
 .ret (.int 0)]
def d6 : DD := ⟨9, "_law_cell", ["script", "k"], ["script", "k"], false, ⟨2, 2, b6⟩⟩
/-- _law_digits(script, first, last) -/
def b7 : List S :=
 [.asg (.nm 3) (.lst []),
 .for_ .rng2 [(.var 1), (.var 2)] (.nm 4)
  [.asg (.nm 5) (.call 6 [(.var 0), (.var 4)]),
   .ife (.cmp .lt (.var 5) (.int 0))
    [.asg (.nm 5) (.bin .sub (.int 1) (.bin .mul (.int 2) (.var 5)))]
    [],
   .ife (.cmp .ge (.var 5) (.bin .pow (.int 10) (.int 18)))
    [.for_ .rng1 [(.int 60)] (.nm 6)
      [.ife (.cmp .gt (.var 5) (.int 0))
        [.expr (.mth .append (.var 3) [(.bin .mod (.bi .int [(.var 5)]) (.int 1000))]),
         .asg (.nm 5) (.bin .fdiv (.var 5) (.int 1000))]
        []]]
    [.asg (.nm 7) (.bin .mod (.bi .int [(.bin .add (.bin .add (.bin .mul (.var 5) (.int 48271)) (.bin .mul (.var 4) (.int 69621))) (.int 11))]) (.int 2147483647)),
     .for_ .rng1 [(.int 12)] (.nm 6)
      [.asg (.nm 7) (.bin .mod (.bi .int [(.bin .add (.bin .add (.bin .mul (.var 7) (.int 16807)) (.bin .mul (.int 7) (.var 6))) (.int 1))]) (.int 2147483647)),
       .expr (.mth .append (.var 3) [(.bin .mod (.bi .int [(.bin .fdiv (.var 7) (.int 997))]) (.int 1000))])]]],
 .ret (.var 3)]
def d7 : DD := ⟨10, "_law_digits", ["script", "first", "last"], ["script", "first", "last", "digits", "k", "cell", "turn", "seed"], false, ⟨3, 8, b7⟩⟩
/-- _law_draw(box, many) -/
def b8 : List S :=
 [.asg (.nm 2) (.idx (.var 0) (.int 1)),
 .asub (.var 0) (.int 1) (.bin .add (.var 2) (.int 1)),
 .ife (.cmp .lt (.var 2) (.bi .len [(.idx (.var 0) (.int 0))]))
  [.ret (.bin .mod (.bi .int [(.idx (.idx (.var 0) (.int 0)) (.var 2))]) (.var 1))]
  [],
 .ret (.int 0)]
def d8 : DD := ⟨11, "_law_draw", ["box", "many"], ["box", "many", "at"], false, ⟨2, 3, b8⟩⟩
/-- _law_box(script, first, last) -/
def b9 : List S :=
 [.ret (.lst [(.call 7 [(.var 0), (.var 1), (.var 2)]), (.int 0)])]
def d9 : DD := ⟨12, "_law_box", ["script", "first", "last"], ["script", "first", "last"], false, ⟨3, 3, b9⟩⟩
/-- _law_same(actual, expected) -/
def b10 : List S :=
 [.ife (.val (.isi (.var 1) .tuple))
  [.ife (.or [(.not (.val (.isi (.var 0) .tuple))), (.cmp .ne (.bi .len [(.var 0)]) (.bi .len [(.var 1)]))])
    [.ret (.bl false)]
    [],
   .for_ .rng1 [(.bi .len [(.var 1)])] (.nm 2)
    [.ife (.not (.val (.call 10 [(.idx (.var 0) (.var 2)), (.idx (.var 1) (.var 2))])))
      [.ret (.bl false)]
      []],
   .ret (.bl true)]
  [],
 .ife (.cmp .is (.var 1) .non)
  [.ret (.cmp .is (.var 0) .non)]
  [],
 .ife (.val (.isi (.var 1) .bool))
  [.ret (.and [(.isi (.var 0) .bool), (.cmp .eq (.var 0) (.var 1))])]
  [],
 .ife (.val (.isi (.var 1) .int))
  [.ret (.and [(.isi (.var 0) .int), (.not (.isi (.var 0) .bool)), (.cmp .eq (.var 0) (.var 1))])]
  [],
 .ret (.and [(.isi (.var 0) .str), (.cmp .eq (.var 0) (.var 1))])]
def d10 : DD := ⟨13, "_law_same", ["actual", "expected"], ["actual", "expected", "k"], false, ⟨2, 3, b10⟩⟩
/-- _law_body(box, kinds, budget) -/
def b11 : List S :=
 [.asg (.nm 3) (.lst []),
 .for_ .rng1 [(.bi .len [(.var 1)])] (.nm 4)
  [.for_ .rng1 [(.bi .len [(.idx (.var 1) (.bin .sub (.bin .sub (.bi .len [(.var 1)]) (.int 1)) (.var 4)))])] (.nm 5)
    [.expr (.mth .append (.var 3) [(.tup [(.var 4), (.var 5)])])]],
 .ife (.or [(.cmp .eq (.bi .len [(.var 3)]) (.int 0)), (.cmp .eq (.idx (.var 2) (.int 0)) (.int 0)), (.cmp .eq (.call 8 [(.var 0), (.int 5)]) (.int 0))])
  [.ret (.idx (.lst [(.tup [(.str "say"), (.int 0)]), (.tup [(.str "say"), (.int 1)]), (.tup [(.str "say"), (.int 0)]), (.tup [(.str "say"), (.int 1)]), (.tup [(.str "stop")])]) (.call 8 [(.var 0), (.int 5)]))]
  [],
 .asub (.var 2) (.int 0) (.bin .sub (.idx (.var 2) (.int 0)) (.int 1)),
 .asg (.tp [(.nm 4), (.nm 5)]) (.idx (.var 3) (.bin .mod (.bi .int [(.call 8 [(.var 0), (.int 1000)])]) (.bi .len [(.var 3)]))),
 .asg (.nm 6) (.idx (.idx (.var 1) (.bin .sub (.bin .sub (.bi .len [(.var 1)]) (.int 1)) (.var 4))) (.var 5)),
 .asg (.nm 7) (.lst []),
 .for_ .one [(.var 6)] (.nm 8)
  [.expr (.mth .append (.var 7) [(.tup [(.str "program"), (.bi .len [(.var 8)]), (.call 11 [(.var 0), (.bin .add (.var 1) (.tup [(.var 8)])), (.var 2)])])])],
 .asg (.nm 9) (.call 11 [(.var 0), (.var 1), (.var 2)]),
 .asg (.nm 10) (.call 11 [(.var 0), (.var 1), (.var 2)]),
 .ret (.tup [(.str "ask"), (.var 4), (.var 5), (.bi .tuple [(.var 7)]), (.var 9), (.var 10)])]
def d11 : DD := ⟨14, "_law_body", ["box", "kinds", "budget"], ["box", "kinds", "budget", "around", "up", "number", "kind", "arguments", "part", "zero", "one"], false, ⟨3, 11, b11⟩⟩
/-- _law_program(box, kind, most) -/
def b12 : List S :=
 [.ret (.tup [(.str "program"), (.bi .len [(.var 1)]), (.call 11 [(.var 0), (.tup [(.var 1)]), (.lst [(.var 2)])])])]
def d12 : DD := ⟨15, "_law_program", ["box", "kind", "most"], ["box", "kind", "most"], false, ⟨3, 3, b12⟩⟩
/-- _law_answer(body, frames) -/
def b13 : List S :=
 [.ife (.cmp .eq (.idx (.var 0) (.int 0)) (.str "say"))
  [.ret (.idx (.var 0) (.int 1))]
  [],
 .ife (.cmp .eq (.idx (.var 0) (.int 0)) (.str "stop"))
  [.ret .non]
  [],
 .asg (.nm 2) (.idx (.idx (.var 1) (.bin .sub (.bin .sub (.bi .len [(.var 1)]) (.int 1)) (.idx (.var 0) (.int 1)))) (.idx (.var 0) (.int 2))),
 .asg (.nm 3) (.lc .one [(.idx (.var 0) (.int 3))] (.nm 5) [] (.tup [(.var 5), (.var 1)]) [5]),
 .asg (.nm 4) (.call 13 [(.idx (.idx (.var 2) (.int 0)) (.int 2)), (.bin .add (.idx (.var 2) (.int 1)) (.lst [(.var 3)]))]),
 .ife (.cmp .is (.var 4) .non)
  [.ret .non]
  [],
 .ret (.call 13 [(.idx (.var 0) (.bin .add (.int 4) (.var 4))), (.var 1)])]
def d13 : DD := ⟨16, "_law_answer", ["body", "frames"], ["body", "frames", "entry", "given", "told", "program"], false, ⟨2, 6, b13⟩⟩
/-- _law_plain(program, arguments) -/
def b14 : List S :=
 [.ret (.call 13 [(.idx (.var 0) (.int 2)), (.lst [(.lc .one [(.var 1)] (.nm 2) [] (.tup [(.var 2), (.lst [])]) [2])])])]
def d14 : DD := ⟨17, "_law_plain", ["program", "arguments"], ["program", "arguments", "argument"], false, ⟨2, 3, b14⟩⟩
/-- _law_inputs(n) -/
def b15 : List S :=
 [.asg (.nm 1) (.lst [(.tup [])]),
 .for_ .rng1 [(.var 0)] (.nm 2)
  [.asg (.nm 3) (.lst []),
   .for_ .one [(.var 1)] (.nm 4)
    [.asg (.nm 3) (.bin .add (.var 3) (.lc .one [(.lst [.non, (.int 0), (.int 1)])] (.nm 5) [] (.bin .add (.var 4) (.tup [(.var 5)])) [5]))],
   .asg (.nm 1) (.var 3)],
 .ret (.var 1)]
def d15 : DD := ⟨18, "_law_inputs", ["n"], ["n", "rows", "k", "longer", "row", "item"], false, ⟨1, 6, b15⟩⟩
/-- _law_more(row, other) -/
def b16 : List S :=
 [.ife (.cmp .eq (.var 0) (.var 1))
  [.ret (.bl false)]
  [],
 .ret (.cmp .eq (.bi .len [(.lc .rng1 [(.bi .len [(.var 0)])] (.nm 2) [(.and [(.cmp .isn (.idx (.var 0) (.var 2)) .non), (.cmp .ne (.idx (.var 0) (.var 2)) (.idx (.var 1) (.var 2)))])] (.var 2) [2])]) (.int 0))]
def d16 : DD := ⟨19, "_law_more", ["row", "other"], ["row", "other", "k"], false, ⟨2, 3, b16⟩⟩
/-- _law_table(box, n) -/
def b17 : List S :=
 [.asg (.nm 2) (.call 15 [(.var 1)]),
 .asg (.nm 3) (.call 8 [(.var 0), (.int 4)]),
 .ife (.cmp .eq (.var 3) (.int 0))
  [.ret (.dof (.lc .one [(.var 2)] (.nm 6) [] (.tup [(.var 6), (.idx (.lst [.non, (.int 0), (.int 1)]) (.call 8 [(.var 0), (.int 3)]))]) [6]))]
  [],
 .ife (.cmp .eq (.var 3) (.int 1))
  [.asg (.nm 5) (.dof (.lc .one [(.var 2)] (.nm 6) [] (.tup [(.var 6), (.idx (.lst [.non, .non, (.int 0), (.int 1)]) (.call 8 [(.var 0), (.int 4)]))]) [6])),
   .for_ .one [(.var 2)] (.nm 6)
    [.for_ .one [(.var 2)] (.nm 9)
      [.ife (.and [(.cmp .isn (.dget (.var 5) (.var 6)) .non), (.val (.call 16 [(.var 6), (.var 9)]))])
        [.dset (.var 5) (.var 9) (.dget (.var 5) (.var 6))]
        []]],
   .ret (.var 5)]
  [],
 .asg (.nm 4) (.call 12 [(.var 0), (.bin .mul (.tup [(.tup [])]) (.var 1)), (.int 5)]),
 .asg (.nm 5) .dnew,
 .for_ .one [(.var 2)] (.nm 6)
  [.asg (.nm 8) (.lc .one [(.var 6)] (.nm 10) [] (.tup [(.str "program"), (.int 0), (.idx (.lst [(.tup [(.str "say"), (.var 10)]), (.tup [(.str "stop")])]) (.bi .int [(.cmp .is (.var 10) .non)]))]) [10]),
   .dset (.var 5) (.var 6) (.call 14 [(.var 4), (.var 8)])],
 .for_ .rng1 [(.bin .mul (.call 8 [(.var 0), (.int 3)]) (.bi .int [(.cmp .eq (.var 3) (.int 2))]))] (.nm 7)
  [.dset (.var 5) (.idx (.var 2) (.bin .mod (.bi .int [(.call 8 [(.var 0), (.int 1000)])]) (.bi .len [(.var 2)]))) (.idx (.lst [.non, (.int 0), (.int 1)]) (.call 8 [(.var 0), (.int 3)]))],
 .ret (.var 5)]
def d17 : DD := ⟨20, "_law_table", ["box", "n"], ["box", "n", "rows", "kind", "program", "told", "row", "k", "given", "other", "item"], false, ⟨2, 11, b17⟩⟩
/-- _law_by_asking(told, row) -/
def b18 : List S :=
 [.ife (.cmp .isn (.dget (.var 0) (.var 1)) .non)
  [.ret (.tup [(.str "say"), (.dget (.var 0) (.var 1))])]
  [],
 .lock 0 (.asg (.nm 2) (.lc .dic [(.var 0)] (.nm 6) [(.and [(.val (.call 16 [(.var 1), (.var 6)])), (.cmp .isn (.dget (.var 0) (.var 6)) .non)])] (.var 6) [6])),
 .ife (.cmp .eq (.bi .len [(.var 2)]) (.int 0))
  [.ret (.tup [(.str "stop")])]
  [],
 .for_ .rng1 [(.bi .len [(.var 1)])] (.nm 3)
  [.ife (.and [(.cmp .is (.idx (.var 1) (.var 3)) .non), (.cmp .nin .non (.lc .one [(.var 2)] (.nm 6) [] (.idx (.var 6) (.var 3)) [6]))])
    [.asg (.nm 4) (.lc .one [(.lst [(.int 0), (.int 1)])] (.nm 7) [] (.call 18 [(.var 0), (.bin .add (.bin .add (.slT (.var 1) (.var 3)) (.tup [(.var 7)])) (.slF (.var 1) (.bin .add (.var 3) (.int 1))))]) [7]),
     .for_ .one [(.var 4)] (.nm 5)
      [.ife (.cmp .eq (.idx (.var 5) (.int 0)) (.str "stuck"))
        [.ret (.var 5)]
        []],
     .ret (.tup [(.str "ask"), (.int 0), (.var 3), (.tup []), (.idx (.var 4) (.int 0)), (.idx (.var 4) (.int 1))])]
    []],
 .ret (.tup [(.str "stuck"), (.var 1)])]
def d18 : DD := ⟨21, "_law_by_asking", ["told", "row"], ["told", "row", "answered", "k", "parts", "part", "other", "item"], false, ⟨2, 8, b18⟩⟩
/-- law(script) -/
def b19 : List S :=
 [.asg (.nm 1) (.call 9 [(.var 0), (.int 0), (.int 62)]),
 .for_ .rng1 [(.int 4)] (.nm 2)
  [.asg (.nm 3) (.call 8 [(.var 1), (.int 4)]),
   .asg (.nm 4) (.call 17 [(.var 1), (.var 3)]),
   .asg (.nm 5) .non,
   .asg (.nm 6) (.call 15 [(.var 3)]),
   .for_ .one [(.var 6)] (.nm 7)
    [.for_ .one [(.var 6)] (.nm 8)
      [.ife (.and [(.cmp .is (.var 5) .non), (.cmp .isn (.dget (.var 4) (.var 7)) .non), (.val (.call 16 [(.var 7), (.var 8)])), (.cmp .ne (.dget (.var 4) (.var 8)) (.dget (.var 4) (.var 7)))])
        [.asg (.nm 5) (.tup [(.str "falls"), (.var 7), (.var 8)])]
        []]],
   .ife (.cmp .is (.var 5) .non)
    [.asg (.nm 9) (.call 18 [(.var 4), (.bin .mul (.tup [.non]) (.var 3))]),
     .asg (.nm 5) (.var 9),
     .ife (.cmp .ne (.idx (.var 9) (.int 0)) (.str "stuck"))
      [.asg (.nm 5) (.tup [(.str "program"), (.tup [(.str "program"), (.var 3), (.var 9)])])]
      []]
    [],
   .ife (.not (.val (.call 10 [(.call 5 [(.var 3), (.bi .tuple [(.lc .one [(.var 6)] (.nm 7) [] (.dget (.var 4) (.var 7)) [7])])]), (.var 5)])))
    [.ret (.bl false)]
    []],
 .ret (.bl true)]
def d19 : DD := ⟨22, "law", ["script"], ["script", "box", "turn", "n", "told", "due", "rows", "row", "other", "body"], false, ⟨1, 10, b19⟩⟩
def defs : List DD := [d0, d1, d2, d3, d4, d5, d6, d7, d8, d9, d10, d11, d12, d13, d14, d15, d16, d17, d18, d19]

abbrev Pr : Program := PySem.Challenge.pw_sensehouse_k71_tables_and_programs
def names : List Str := defs.map (·.x)
theorem ok0 : defs.all (fun d => d.ok Pr names) = true := by decide +kernel
end K71
end
section
set_option Elab.async false
set_option linter.all false
set_option maxRecDepth 100000
set_option maxHeartbeats 1000000
namespace K71
open Dz PySem
abbrev FS : List Df := defs.map (·.df)
def gl : Str → Option D := fun x => if x = "ITEMS" then some (.tup [.non, .int 0, .int 1]) else none
abbrev cl (n f : Nat) (xs : List D) (st : Sto) : Option (D × Sto) := callD FS gl n f xs st
theorem cl_run {n f : Nat} {d : Df} {xs : List D} {st : Sto} (hd : FS[f]? = some d) (hl : xs.length = d.ar) : callD FS gl n f xs st = (exs d.body gl (calls FS gl n) (xs.map some ++ List.replicate (d.sl - xs.length) none) st).bind fun q => match q with
    | (.nx, _, st') => some (.non, st')
    | (.rt v, _, st') => some (v, st')
    | _ => none := callD_run hd hl
theorem ex_forE (ik : Ik) (src : List E) (tg : Tg) (b : List S) (g : Str → Option D) (C : List CS) (ρ : Dz.Env) (st : Sto) : ex (.for_ ik src tg b) g C ρ st = (evs src g C ρ st).bind fun r => (itD ik r.1 r.2).bind fun J =>
      loopF J.1 (fun x ρ s => (asgD tg x s ρ).bind fun ρ1 => exs b g C ρ1 s) J.2 0 ρ r.2 := rfl
theorem ev_genE (cn : Cn) (ik : Ik) (src : List E) (tg : Tg) (cnd : List T) (elt : E) (own : List Nat) (g : Str → Option D) (F : CS) (C : List CS) (ρ : Dz.Env) (st : Sto) : ev (.gen cn ik src tg cnd elt own) g (F :: C) ρ st = (evs src g (F :: C) ρ st).bind fun r => (itD ik r.1 r.2).bind fun J =>
      (loopG cn J.1 (fun x s => (asgD tg x s (wipeD ρ own)).bind fun ρ1 => (evTA cnd g C ρ1 s).bind fun c => if c.1 then (ev elt g C ρ1 c.2).map fun y => (some y.1, y.2) else some (none, c.2)) J.2 0 (con0 cn) r.2) := rfl
theorem calls_succ (fs : List Df) (g : Str → Option D) (n : Nat) : calls fs g (n + 1) = callD fs g n :: calls fs g n := rfl
theorem exs_step {s : S} {ss : List S} {g : Str → Option D} {C : List CS} {ρ ρ' : Dz.Env} {st st' : Sto} {r : Option (Fl × Dz.Env × Sto)} (h : ex s g C ρ st = some (.nx, ρ', st')) (h2 : exs ss g C ρ' st' = r) : exs (s :: ss) g C ρ st = r := by
  rw [exs_cons, h]; exact h2
theorem exs_ret {s : S} {ss : List S} {g : Str → Option D} {C : List CS} {ρ ρ' : Dz.Env} {st st' : Sto} {v : D} (h : ex s g C ρ st = some (.rt v, ρ', st')) : exs (s :: ss) g C ρ st = some (.rt v, ρ', st') := by
  rw [exs_cons, h]; rfl
theorem cl_ret {n f : Nat} {d : Df} {xs : List D} {st st' : Sto} {ρ' : Dz.Env} {v : D} (hd : FS[f]? = some d) (hl : xs.length = d.ar) (h : exs d.body gl (calls FS gl n) (xs.map some ++ List.replicate (d.sl - xs.length) none) st = some (.rt v, ρ', st')) : callD FS gl n f xs st = some (v, st') := by
  rw [cl_run hd hl, h]; rfl
theorem popM (st J : Sto) (ds : List D) (d : D) : mtD .pop (.ref st.length) [] (st ++ .lst (ds ++ [d]) :: J) = some (d, st ++ .lst ds :: J) := by
  rw [mt_pop (lst_mid st _ J), set_mid]
theorem extM (st J : Sto) (ds zs : List D) (hz : ds.length + zs.length ≤ sizeLine) : mtD .extend (.ref st.length) [.tup zs] (st ++ .lst ds :: J) = some (.non, st ++ .lst (ds ++ zs) :: J) := by
  rw [mt_extT zs (lst_mid st _ J) hz, set_mid]
theorem appM (st J : Sto) (ds : List D) (y : D) (hz : ds.length < sizeLine) : mtD .append (.ref st.length) [y] (st ++ .lst ds :: J) = some (.non, st ++ .lst (ds ++ [y]) :: J) := by
  rw [mt_append y (lst_mid st _ J) hz, set_mid]
/-! ### loops over numbers, tuples, lists -/
section
variable {g : Str → Option D} {C : List CS} {ρ : Dz.Env} {st st0 : Sto}
theorem ex_for {ik : Ik} {src : List E} {tg : Tg} {b : List S} {xs : List D} {J : IT} {N : Nat} (hd : evs src g C ρ st = some (xs, st0)) (hi : itD ik xs st0 = some (J, N)) (P : Nat → Dz.Env → Sto → Prop) (h0 : P 0 ρ st0)
    (hs : ∀ i ρ st, i < N → P i ρ st → ∃ x fl ρ' st', nxD J i st = some x ∧ ((asgD tg x st ρ).bind fun ρ1 => exs b g C ρ1 st) = some (fl, ρ', st') ∧ (fl = .nx ∨ fl = .ct) ∧ P (i + 1) ρ' st') (he : ∀ ρ st, P N ρ st → stD J N st = true) :
    ∃ ρ' st', ex (.for_ ik src tg b) g C ρ st = some (.nx, ρ', st') ∧ P N ρ' st' := by
  obtain ⟨ρ', st', e, p⟩ := for_ok (J := J) (B := fun x ρ s => (asgD tg x s ρ).bind fun ρ1 => exs b g C ρ1 s) P N hs he N 0 ρ st0 (by omega) h0
  refine ⟨ρ', st', ?_, p⟩
  show (evs src g C ρ st).bind _ = _
  rw [hd]
  show (itD ik xs st0).bind _ = _
  rw [hi]
  exact e
theorem ex_rng {N : Nat} {src : E} {tg : Tg} {b : List S} (hd : ev src g C ρ st = some (.int N, st0)) (hN : N < 2 ^ 62) (P : Nat → Dz.Env → Sto → Prop) (h0 : P 0 ρ st0)
    (hs : ∀ i ρ st, i < N → P i ρ st → ∃ fl ρ' st', ((asgD tg (.int (i : Nat)) st ρ).bind fun ρ1 => exs b g C ρ1 st) = some (fl, ρ', st') ∧ (fl = .nx ∨ fl = .ct) ∧ P (i + 1) ρ' st') :
    ∃ ρ' st', ex (.for_ .rng1 [src] tg b) g C ρ st = some (.nx, ρ', st') ∧ P N ρ' st' := by
  refine ex_for (J := .rng 0 1 N) (N := N) (xs := [.int N]) (st0 := st0) (by simp [hd]) ?_ P h0 ?_ (fun _ _ _ => by simp [stD])
  · have : inR (N : Int) = true := by simp [inR]; omega
    simp [itD, this]
  · intro i ρ st hi p
    obtain ⟨fl, ρ', st', h1, h2, h3⟩ := hs i ρ st hi p
    exact ⟨.int (i : Nat), fl, ρ', st', by simp [nxD, hi], h1, h2, h3⟩
theorem ev_comp {ik : Ik} {src : List E} {tg : Tg} {cnd : List T} {elt : E} {own : List Nat} {xs : List D} {J : IT} {N : Nat} (hd : evs src g C ρ st = some (xs, st0)) (hi : itD ik xs st0 = some (J, N)) (P : Nat → List D → Sto → Prop) (h0 : P 0 [] st0)
    (hs : ∀ i acc st, i < N → P i acc st → ∃ x o st', nxD J i st = some x ∧ ((asgD tg x st (wipeD ρ own)).bind fun ρ1 => (evTA cnd g C ρ1 st).bind fun c => if c.1 then (ev elt g C ρ1 c.2).map fun y => (some y.1, y.2) else some (none, c.2)) = some (o, st') ∧ (o ≠ none → acc.length < sizeLine) ∧ P (i + 1) (acc ++ o.toList) st')
    (he : ∀ acc st, P N acc st → stD J N st = true) :
    ∃ acc st', ev (.lc ik src tg cnd elt own) g C ρ st = some (.ref st'.length, st' ++ [.lst acc]) ∧ P N acc st' := by
  obtain ⟨acc, st', e, p⟩ := comp_ok (J := J) (B := fun x s => (asgD tg x s (wipeD ρ own)).bind fun ρ1 => (evTA cnd g C ρ1 s).bind fun c => if c.1 then (ev elt g C ρ1 c.2).map fun y => (some y.1, y.2) else some (none, c.2)) P N hs he N 0 [] st0 (by omega) h0
  refine ⟨acc, st', ?_, p⟩
  show (evs src g C ρ st).bind _ = _
  rw [hd]
  show (itD ik xs st0).bind _ = _
  rw [hi]
  show (loopC _ _ _ _ _ _).map _ = _
  rw [e]
  rfl
end
/-! ### values -/
mutual
def sz : D → Nat
  | .tup ds => 1 + szs ds
  | _ => 1
def szs : List D → Nat
  | [] => 0
  | d :: ds => sz d + szs ds
end
mutual
def hgt : D → Nat
  | .tup ds => hgts ds
  | _ => 0
def hgts : List D → Nat
  | [] => 0
  | d :: ds => max (1 + hgt d) (hgts ds)
end
theorem szs_append : ∀ (a b : List D), szs (a ++ b) = szs a + szs b
  | [], b => by simp [szs]
  | x :: a, b => by simp only [List.cons_append, szs, szs_append a b]; omega
theorem sz_pos (x : D) : 1 ≤ sz x := by cases x <;> simp [sz]
theorem len_szs : ∀ a : List D, a.length ≤ szs a
  | [] => Nat.le_refl _
  | x :: a => by
    have := len_szs a
    have h := sz_pos x
    simp only [List.length_cons, szs]; omega
theorem hgts_mem : ∀ {ds : List D} {d : D}, d ∈ ds → 1 + hgt d ≤ hgts ds
  | x :: ds, d, m => by
    simp only [hgts]
    cases m with
    | head => omega
    | tail _ m => have := hgts_mem m; omega
theorem szs_mem : ∀ {ds : List D} {d : D}, d ∈ ds → sz d ≤ szs ds
  | x :: ds, d, m => by
    simp only [szs]
    cases m with
    | head => omega
    | tail _ m => have := szs_mem m; omega
theorem take_one {ds : List D} {i : Nat} {x : D} (h : ds[i]? = some x) : ds.take (i + 1) = ds.take i ++ [x] := by
  rw [List.take_add_one, h]; rfl
theorem get_some {ds : List D} {i : Nat} (h : i < ds.length) : ∃ x, ds[i]? = some x ∧ x ∈ ds := ⟨ds[i], List.getElem?_eq_getElem h, List.getElem_mem h⟩
end K71
end
section
set_option Elab.async false
set_option linter.all false
set_option maxRecDepth 100000
set_option maxHeartbeats 1000000
namespace K71
open Dz PySem
/-! ### the store, from here to there; the box -/
/-- lists stay lists, and but for X what they hold -/
def Kp (X : List Nat) (st st' : Sto) : Prop := st.length ≤ st'.length ∧ ∀ k ds, lstOf st k = some ds → ∃ ds', lstOf st' k = some ds' ∧ (k ∉ X → ds' = ds)
theorem Kp.refl (X : List Nat) (st : Sto) : Kp X st st := ⟨Nat.le_refl _, fun k ds h => ⟨ds, h, fun _ => rfl⟩⟩
theorem Kp.trans {X : List Nat} {a b c : Sto} (h : Kp X a b) (h' : Kp X b c) : Kp X a c := ⟨Nat.le_trans h.1 h'.1, fun k ds e => by
  obtain ⟨d1, e1, g1⟩ := h.2 k ds e
  obtain ⟨d2, e2, g2⟩ := h'.2 k d1 e1
  exact ⟨d2, e2, fun n => by rw [g2 n, g1 n]⟩⟩
theorem Kp.app (X : List Nat) (st J : Sto) : Kp X st (st ++ J) := ⟨by simp, fun k ds h => ⟨ds, lst_old h, fun _ => rfl⟩⟩
theorem lst_lt {st : Sto} {k : Nat} {ds : List D} (h : lstOf st k = some ds) : k < st.length := by
  rcases Nat.lt_or_ge k st.length with h1 | h1
  · exact h1
  · simp [lstOf, List.getElem?_eq_none h1] at h
theorem lst_set {st : Sto} {k j : Nat} {ds : List D} (hk : k < st.length) : lstOf (st.set k (.lst ds)) j = if j = k then some ds else lstOf st j := by
  unfold lstOf
  by_cases h : j = k
  · subst h; simp [hk]
  · rw [if_neg h, List.getElem?_set_ne (Ne.symm h)]
theorem Kp.set {X : List Nat} {st : Sto} {k : Nat} {ds0 ds : List D} (h : lstOf st k = some ds0) (m : k ∈ X) : Kp X st (st.set k (.lst ds)) := ⟨by simp, fun j es e => by
  rw [lst_set (lst_lt h)]
  by_cases q : j = k
  · rw [if_pos q]; exact ⟨_, rfl, fun n => absurd (q ▸ m) n⟩
  · rw [if_neg q]; exact ⟨es, e, fun _ => rfl⟩⟩
/-- a list that is newer than the store one looks from may be written -/
theorem Kp.setN {X : List Nat} {st s : Sto} {k : Nat} {ds0 ds : List D} (hs : Kp X st s) (h : lstOf s k = some ds0) (m : st.length ≤ k) : Kp X st (s.set k (.lst ds)) := ⟨by simpa using hs.1, fun j es e => by
  have := lst_lt e
  rw [lst_set (lst_lt h), if_neg (by omega)]
  exact hs.2 j es e⟩
theorem Kp.wk {X Y : List Nat} {a b : Sto} (h : Kp X a b) (s : ∀ x ∈ X, x ∈ Y) : Kp Y a b := ⟨h.1, fun k ds e => by
  obtain ⟨d1, e1, g⟩ := h.2 k ds e
  exact ⟨d1, e1, fun n => g fun m => n (s k m)⟩⟩
theorem Kp.get {X : List Nat} {a b : Sto} (h : Kp X a b) {k : Nat} {ds : List D} (e : lstOf a k = some ds) (n : k ∉ X) : lstOf b k = some ds := by
  obtain ⟨d1, e1, g⟩ := h.2 k ds e
  rw [e1, g n]
/-- the box at b with its digits at j -/
def Box (b j : Nat) (st : Sto) : Prop := j ≠ b ∧ ∃ (p : Nat) (zs : List Int), lstOf st b = some [.ref j, .int p] ∧ lstOf st j = some (zs.map .int)
theorem Box.kp {b j : Nat} {X : List Nat} {a c : Sto} (h : Box b j a) (k : Kp X a c) (hb : b ∉ X) (hj : j ∉ X) : Box b j c := by
  obtain ⟨n, p, zs, h1, h2⟩ := h
  exact ⟨n, p, zs, k.get h1 hb, k.get h2 hj⟩
theorem Box.lt {b j : Nat} {a : Sto} (h : Box b j a) : b < a.length ∧ j < a.length := by
  obtain ⟨n, p, zs, h1, h2⟩ := h
  exact ⟨lst_lt h1, lst_lt h2⟩
theorem run_draw (n : Nat) {b j : Nat} {st : Sto} (h : Box b j st) (m : Nat) (hm : 0 < m) : ∃ r st', r < m ∧ callD FS gl n 8 [.ref b, .int (m : Nat)] st = some (.int (r : Nat), st') ∧ Box b j st' ∧ Kp [b] st st' ∧ st'.length = st.length := by
  obtain ⟨hn, p, zs, h1, h2⟩ := h
  have hb := lst_lt h1
  have e1 : L2.atI [D.ref j, .int (p : Nat)] 1 = some (.int (p : Nat)) := rfl
  have e0 : L2.atI [D.ref j, .int ((p : Int) + 1)] 0 = some (.ref j) := rfl
  have e3 : L2.ixN [D.ref j, .int (p : Nat)].length 1 = some 1 := rfl
  have hget : st[b]? = some (.lst [.ref j, .int (p : Nat)]) := by
    unfold lstOf at h1
    split at h1
    · rename_i ds e; cases h1; exact e
    · cases h1
  have es : setD (.ref b) (.int 1) (.int ((p : Int) + 1)) st = some (st.set b (.lst [.ref j, .int ((p : Int) + 1)])) := by
    simp only [setD, hget, e3, Option.map_some]
    rfl
  have hl1 : lstOf (st.set b (.lst [.ref j, .int ((p : Int) + 1)])) b = some [.ref j, .int ((p : Int) + 1)] := by rw [lst_set hb, if_pos rfl]
  have hl2 : lstOf (st.set b (.lst [.ref j, .int ((p : Int) + 1)])) j = some (zs.map .int) := by rw [lst_set hb, if_neg hn]; exact h2
  have hB : Box b j (st.set b (.lst [.ref j, .int ((p : Int) + 1)])) := ⟨hn, p + 1, zs, by rw [hl1]; rfl, hl2⟩
  have hm0 : (m : Int) ≠ 0 := by omega
  have hm1 : m ≠ 0 := by omega
  by_cases hp : p < zs.length
  · have e4 : L2.atI (zs.map D.int) (p : Int) = some (.int zs[p]) := L2.atI_nat (by simp [hp])
    have hr : zs[p].fmod m = ((zs[p].fmod m).toNat : Nat) := by
      have := Int.fmod_nonneg_of_pos zs[p] (b := (m : Int)) (by omega)
      omega
    have hr2 := Int.fmod_lt_of_pos zs[p] (b := (m : Int)) (by omega)
    refine ⟨(zs[p].fmod m).toNat, _, by omega, ?_, hB, Kp.set h1 (by simp), by simp⟩
    rw [← hr]
    refine cl_ret (d := d8.df) (ρ' := [some (.ref b), some (.int (m : Nat)), some (.int (p : Nat))]) rfl rfl ?_
    show exs b8 gl (calls FS gl n) [some (.ref b), some (.int (m : Nat)), none] st = _
    simp [b8, h1, e1, es, hl1, e0, hl2, hp, e4, binD, hm0, hm1]
  · refine ⟨0, _, hm, ?_, hB, Kp.set h1 (by simp), by simp⟩
    refine cl_ret (d := d8.df) (ρ' := [some (.ref b), some (.int (m : Nat)), some (.int (p : Nat))]) rfl rfl ?_
    show exs b8 gl (calls FS gl n) [some (.ref b), some (.int (m : Nat)), none] st = _
    simp [b8, h1, e1, es, hl1, e0, hl2, hp, binD, hm0, hm1]
theorem getO {st : Sto} {b : Nat} {ds : List D} (h1 : lstOf st b = some ds) : st[b]? = some (.lst ds) := by
  unfold lstOf at h1
  split at h1
  · rename_i ds e; cases h1; exact e
  · cases h1
theorem set0 {st : Sto} {b : Nat} {x v : D} {ds : List D} (h1 : lstOf st b = some (x :: ds)) : setD (.ref b) (.int 0) v st = some (st.set b (.lst (v :: ds))) := by
  have e3 : L2.ixN (x :: ds).length 0 = some 0 := by simp [L2.ixN]
  simp only [setD, getO h1, e3, Option.map_some]
  rfl
end K71
end
section
set_option Elab.async false
set_option linter.all false
set_option maxRecDepth 100000
set_option maxHeartbeats 1000000
namespace K71
open Dz PySem
/-! ### the digits -/
def cellOf (ns : List Int) (k : Nat) : Int := (ns[k]?).getD 0
theorem run_cell (n : Nat) (ns : List Int) (k : Nat) (st : Sto) : callD FS gl n 6 [.fz (ns.map .int), .int (k : Nat)] st = some (.int (cellOf ns k), st) := by
  refine cl_ret (d := d6.df) (ρ' := [some (.fz (ns.map .int)), some (.int (k : Nat))]) rfl rfl ?_
  show exs b6 gl (calls FS gl n) [some (.fz (ns.map .int)), some (.int (k : Nat))] st = _
  by_cases h : k < ns.length
  · have e : L2.atI (ns.map D.int) (k : Int) = some (.int (cellOf ns k)) := L2.atI_nat (by simp [cellOf, h])
    simp [b6, h, e]
  · have e : cellOf ns k = 0 := by simp [cellOf, List.getElem?_eq_none (Nat.le_of_not_lt h)]
    simp [b6, h, e]
abbrev dgE (ns : List Int) (P : Nat) (a b c d : Option D) : Dz.Env := [some (.fz (ns.map .int)), some (.int 0), some (.int 62), some (.ref P), a, b, c, d]
theorem appL (st : Sto) (zs : List Int) (z : Int) (hz : zs.length < sizeLine) : mtD .append (.ref st.length) [.int z] (st ++ [.lst (zs.map .int)]) = some (.non, st ++ [.lst ((zs ++ [z]).map .int)]) := by
  rw [appM st [] _ _ (by simpa using hz)]
  simp
theorem dig_a (C : List CS) (ns : List Int) (st : Sto) (k z : Option D) (zs : List Int) (c : Int) (w0 : Option D) (hz : zs.length ≤ 1000000) : ∃ ρ' st', ex (.for_ .rng1 [(.int 60)] (.nm 6)
      [.ife (.cmp .gt (.var 5) (.int 0))
        [.expr (.mth .append (.var 3) [(.bin .mod (.bi .int [(.var 5)]) (.int 1000))]),
         .asg (.nm 5) (.bin .fdiv (.var 5) (.int 1000))]
        []]) gl C (dgE ns st.length k (some (.int c)) w0 z) (st ++ [.lst (zs.map .int)]) = some (.nx, ρ', st') ∧ ∃ (zs' : List Int) (b w : Option D), ρ' = dgE ns st.length k b w z ∧ st' = st ++ [.lst (zs'.map .int)] ∧ zs'.length ≤ zs.length + 60 := by
  obtain ⟨ρ', st', e, zs', c', w, rfl, rfl, h⟩ := ex_rng (g := gl) (C := C) (N := 60) (src := .int 60) (tg := .nm 6) (ρ := dgE ns st.length k (some (.int c)) w0 z) (b := [.ife (.cmp .gt (.var 5) (.int 0))
        [.expr (.mth .append (.var 3) [(.bin .mod (.bi .int [(.var 5)]) (.int 1000))]),
         .asg (.nm 5) (.bin .fdiv (.var 5) (.int 1000))]
        []]) (st := st ++ [.lst (zs.map .int)]) (st0 := st ++ [.lst (zs.map .int)]) rfl (by omega)
    (fun i ρ s => ∃ (zs' : List Int) (c : Int) (w : Option D), ρ = dgE ns st.length k (some (.int c)) w z ∧ s = st ++ [.lst (zs'.map .int)] ∧ zs'.length ≤ zs.length + i) ⟨zs, c, _, rfl, rfl, by omega⟩ (by
      rintro i ρ s hi ⟨zs', c, w, rfl, rfl, h⟩
      by_cases hc : 0 < c
      · have hz' : zs'.length < sizeLine := by rw [sizeLine_eq]; omega
        have a := appL st zs' (c.fmod 1000) hz'
        refine ⟨.nx, dgE ns st.length k (some (.int (c.fdiv 1000))) (some (.int (i : Nat))) z, st ++ [.lst ((zs' ++ [c.fmod 1000]).map .int)], ?_, .inl rfl, zs' ++ [c.fmod 1000], _, _, rfl, rfl, by simp; omega⟩
        simp [hc, binD, a]
      · refine ⟨.nx, dgE ns st.length k (some (.int c)) (some (.int (i : Nat))) z, st ++ [.lst (zs'.map .int)], ?_, .inl rfl, zs', _, _, rfl, rfl, by omega⟩
        simp [hc])
  exact ⟨_, _, e, zs', _, w, rfl, rfl, h⟩
theorem dig_b (C : List CS) (ns : List Int) (st : Sto) (k b : Option D) (zs : List Int) (c : Int) (w0 : Option D) (hz : zs.length ≤ 1000000) : ∃ ρ' st', ex (.for_ .rng1 [(.int 12)] (.nm 6)
      [.asg (.nm 7) (.bin .mod (.bi .int [(.bin .add (.bin .add (.bin .mul (.var 7) (.int 16807)) (.bin .mul (.int 7) (.var 6))) (.int 1))]) (.int 2147483647)),
       .expr (.mth .append (.var 3) [(.bin .mod (.bi .int [(.bin .fdiv (.var 7) (.int 997))]) (.int 1000))])]) gl C (dgE ns st.length k b w0 (some (.int c))) (st ++ [.lst (zs.map .int)]) = some (.nx, ρ', st') ∧ ∃ (zs' : List Int) (w z : Option D), ρ' = dgE ns st.length k b w z ∧ st' = st ++ [.lst (zs'.map .int)] ∧ zs'.length ≤ zs.length + 12 := by
  obtain ⟨ρ', st', e, zs', c', w, rfl, rfl, h⟩ := ex_rng (g := gl) (C := C) (N := 12) (src := .int 12) (tg := .nm 6) (ρ := dgE ns st.length k b w0 (some (.int c))) (b := [.asg (.nm 7) (.bin .mod (.bi .int [(.bin .add (.bin .add (.bin .mul (.var 7) (.int 16807)) (.bin .mul (.int 7) (.var 6))) (.int 1))]) (.int 2147483647)),
       .expr (.mth .append (.var 3) [(.bin .mod (.bi .int [(.bin .fdiv (.var 7) (.int 997))]) (.int 1000))])]) (st := st ++ [.lst (zs.map .int)]) (st0 := st ++ [.lst (zs.map .int)]) rfl (by omega)
    (fun i ρ s => ∃ (zs' : List Int) (c : Int) (w : Option D), ρ = dgE ns st.length k b w (some (.int c)) ∧ s = st ++ [.lst (zs'.map .int)] ∧ zs'.length ≤ zs.length + i) ⟨zs, c, _, rfl, rfl, by omega⟩ (by
      rintro i ρ s hi ⟨zs', c, w, rfl, rfl, h⟩
      have hz' : zs'.length < sizeLine := by rw [sizeLine_eq]; omega
      generalize hq : (c * 16807 + 7 * (i : Int) + 1).fmod 2147483647 = q
      have a := appL st zs' ((q.fdiv 997).fmod 1000) hz'
      have h7 : small 7 = true := by decide
      have h8 : small 16807 = true := by decide
      refine ⟨.nx, dgE ns st.length k b (some (.int (i : Nat))) (some (.int q)), st ++ [.lst ((zs' ++ [(q.fdiv 997).fmod 1000]).map .int)], ?_, .inl rfl, _, _, _, rfl, rfl, by simp; omega⟩
      simp [binD, h7, h8, hq, a])
  exact ⟨_, _, e, zs', w, _, rfl, rfl, h⟩

theorem bin_mulR {i j : Int} {st : Sto} (h : small j = true) : binD .mul (.int i) (.int j) st = some (.int (i * j), st) := by
  show (if (small i || small j) = true then _ else _) = _
  rw [h, Bool.or_true]; rfl
theorem bin_modI {i j : Int} {st : Sto} (h : j ≠ 0) : binD .mod (.int i) (.int j) st = some (.int (i.fmod j), st) := if_pos h
theorem seed_ev (a b m : Int) (ha : small a = true) (hb : small b = true) (hm : m ≠ 0) (C : List CS) (ns : List Int) (P : Nat) (k : Int) (c : Int) (x z : Option D) (s : Sto) :
    ex (.asg (.nm 7) (.bin .mod (.bi .int [(.bin .add (.bin .add (.bin .mul (.var 5) (.int a)) (.bin .mul (.var 4) (.int b))) (.int 11))]) (.int m))) gl C (dgE ns P (some (.int k)) (some (.int c)) x z) s = some (.nx, dgE ns P (some (.int k)) (some (.int c)) x (some (.int ((c * a + k * b + 11).fmod m))), s) := by
  simp only [ex_asg, ev_bin, ev_bi, evs_cons, evs_nil, ev_varS, ev_var0, ev_int, Option.bind_some, Option.map_some, bin_mulR ha, bin_mulR hb, bin_addI, int_int, bin_modI hm]
  rfl
theorem run_digits (n : Nat) (ns : List Int) (st : Sto) : ∃ zs : List Int, callD FS gl (n + 1) 7 [.fz (ns.map .int), .int 0, .int 62] st = some (.ref st.length, st ++ [.lst (zs.map .int)]) := by
  obtain ⟨ρ', st', e, zs, x1, x2, x3, x4, rfl, rfl, h⟩ := ex_for (g := gl) (C := (calls FS gl (n + 1))) (ik := .rng2) (src := [.var 1, .var 2]) (tg := .nm 4) (b := [(.asg (.nm 5) (.call 6 [(.var 0), (.var 4)])), (.ife (.cmp .lt (.var 5) (.int 0)) [.asg (.nm 5) (.bin .sub (.int 1) (.bin .mul (.int 2) (.var 5)))] []), (.ife (.cmp .ge (.var 5) (.bin .pow (.int 10) (.int 18))) [.for_ .rng1 [(.int 60)] (.nm 6)
      [.ife (.cmp .gt (.var 5) (.int 0))
        [.expr (.mth .append (.var 3) [(.bin .mod (.bi .int [(.var 5)]) (.int 1000))]),
         .asg (.nm 5) (.bin .fdiv (.var 5) (.int 1000))]
        []]] [(.asg (.nm 7) (.bin .mod (.bi .int [(.bin .add (.bin .add (.bin .mul (.var 5) (.int 48271)) (.bin .mul (.var 4) (.int 69621))) (.int 11))]) (.int 2147483647))), (.for_ .rng1 [(.int 12)] (.nm 6)
      [.asg (.nm 7) (.bin .mod (.bi .int [(.bin .add (.bin .add (.bin .mul (.var 7) (.int 16807)) (.bin .mul (.int 7) (.var 6))) (.int 1))]) (.int 2147483647)),
       .expr (.mth .append (.var 3) [(.bin .mod (.bi .int [(.bin .fdiv (.var 7) (.int 997))]) (.int 1000))])])])])
    (ρ := dgE ns st.length none none none none) (st := st ++ [.lst []]) (st0 := st ++ [.lst []]) (xs := [.int 0, .int 62]) (J := .rng 0 1 62) (N := 62) rfl (by simp [itD, inR])
    (fun i ρ s => ∃ (zs : List Int) (x1 x2 x3 x4 : Option D), ρ = dgE ns st.length x1 x2 x3 x4 ∧ s = st ++ [.lst (zs.map .int)] ∧ zs.length ≤ 60 * i) ⟨[], none, none, none, none, rfl, rfl, by simp⟩ (by
      rintro i ρ s hi ⟨zs, x1, x2, x3, x4, rfl, rfl, h⟩
      have e1 := run_cell n ns i (st ++ [.lst (zs.map .int)])
      have f0 : asgD (.nm 4) (.int (i : Nat)) (st ++ [.lst (zs.map .int)]) (dgE ns st.length x1 x2 x3 x4) = some (dgE ns st.length (some (.int (i : Nat))) x2 x3 x4) := rfl
      have f1 : ex (.asg (.nm 5) (.call 6 [(.var 0), (.var 4)])) gl (calls FS gl (n + 1)) (dgE ns st.length (some (.int (i : Nat))) x2 x3 x4) (st ++ [.lst (zs.map .int)]) = some (.nx, dgE ns st.length (some (.int (i : Nat))) (some (.int (cellOf ns i))) x3 x4, st ++ [.lst (zs.map .int)]) := by
        simp [e1]
      have h2 : small 2 = true := by decide
      have f2 : ∃ c : Int, ex (.ife (.cmp .lt (.var 5) (.int 0)) [.asg (.nm 5) (.bin .sub (.int 1) (.bin .mul (.int 2) (.var 5)))] []) gl (calls FS gl (n + 1)) (dgE ns st.length (some (.int (i : Nat))) (some (.int (cellOf ns i))) x3 x4) (st ++ [.lst (zs.map .int)]) = some (.nx, dgE ns st.length (some (.int (i : Nat))) (some (.int c)) x3 x4, st ++ [.lst (zs.map .int)]) := by
        by_cases hc : cellOf ns i < 0
        · exact ⟨1 - 2 * cellOf ns i, by simp [hc, binD, h2]⟩
        · exact ⟨cellOf ns i, by simp [hc]⟩
      obtain ⟨c, f2⟩ := f2
      have hT : evT (.cmp .ge (.var 5) (.bin .pow (.int 10) (.int 18))) gl (calls FS gl (n + 1)) (dgE ns st.length (some (.int (i : Nat))) (some (.int c)) x3 x4) (st ++ [.lst (zs.map .int)]) = some (decide (c ≥ 10 ^ 18), st ++ [.lst (zs.map .int)]) := by
        have hp : binD .pow (.int 10) (.int 18) (st ++ [.lst (zs.map .int)]) = some (.int (10 ^ 18), st ++ [.lst (zs.map .int)]) := by
          simp [binD]
        simp only [evT_cmp, ev_varS, ev_var0, ev_bin, ev_int, Option.bind_some, hp, cmp_ge, Option.map_some]
      have f3 : ∃ (zs' : List Int) (y2 y3 y4 : Option D), ex (.ife (.cmp .ge (.var 5) (.bin .pow (.int 10) (.int 18))) [.for_ .rng1 [(.int 60)] (.nm 6)
      [.ife (.cmp .gt (.var 5) (.int 0))
        [.expr (.mth .append (.var 3) [(.bin .mod (.bi .int [(.var 5)]) (.int 1000))]),
         .asg (.nm 5) (.bin .fdiv (.var 5) (.int 1000))]
        []]] [(.asg (.nm 7) (.bin .mod (.bi .int [(.bin .add (.bin .add (.bin .mul (.var 5) (.int 48271)) (.bin .mul (.var 4) (.int 69621))) (.int 11))]) (.int 2147483647))), (.for_ .rng1 [(.int 12)] (.nm 6)
      [.asg (.nm 7) (.bin .mod (.bi .int [(.bin .add (.bin .add (.bin .mul (.var 7) (.int 16807)) (.bin .mul (.int 7) (.var 6))) (.int 1))]) (.int 2147483647)),
       .expr (.mth .append (.var 3) [(.bin .mod (.bi .int [(.bin .fdiv (.var 7) (.int 997))]) (.int 1000))])])]) gl (calls FS gl (n + 1)) (dgE ns st.length (some (.int (i : Nat))) (some (.int c)) x3 x4) (st ++ [.lst (zs.map .int)]) = some (.nx, dgE ns st.length (some (.int (i : Nat))) y2 y3 y4, st ++ [.lst (zs'.map .int)]) ∧ zs'.length ≤ zs.length + 60 := by
        by_cases hc : c ≥ 10 ^ 18
        · obtain ⟨ρ1, s1, e5, zs', b, w, rfl, rfl, hl⟩ := dig_a (calls FS gl (n + 1)) ns st (some (.int (i : Nat))) x4 zs c x3 (by omega)
          refine ⟨zs', b, w, x4, ?_, hl⟩
          rw [ex_ife, hT, decide_eq_true hc]
          show exs _ gl (calls FS gl (n + 1)) _ _ = _
          rw [exs_step e5 rfl]
          rfl
        · generalize hq : (c * 48271 + (i : Int) * 69621 + 11).fmod 2147483647 = q
          obtain ⟨ρ1, s1, e5, zs', w, z, rfl, rfl, hl⟩ := dig_b (calls FS gl (n + 1)) ns st (some (.int (i : Nat))) (some (.int c)) zs q x3 (by omega)
          have h4 : small 48271 = true := by decide
          have h5 : small 69621 = true := by decide
          have f7 : ex (.asg (.nm 7) (.bin .mod (.bi .int [(.bin .add (.bin .add (.bin .mul (.var 5) (.int 48271)) (.bin .mul (.var 4) (.int 69621))) (.int 11))]) (.int 2147483647))) gl (calls FS gl (n + 1)) (dgE ns st.length (some (.int (i : Nat))) (some (.int c)) x3 x4) (st ++ [.lst (zs.map .int)]) = some (.nx, dgE ns st.length (some (.int (i : Nat))) (some (.int c)) x3 (some (.int q)), st ++ [.lst (zs.map .int)]) := by
            rw [← hq]; exact seed_ev 48271 69621 2147483647 h4 h5 (by decide) _ ns _ _ c x3 x4 _
          refine ⟨zs', some (.int c), w, z, ?_, by omega⟩
          rw [ex_ife, hT, decide_eq_false hc]
          show exs _ gl (calls FS gl (n + 1)) _ _ = _
          rw [exs_step f7 rfl, exs_step e5 rfl]
          rfl
      obtain ⟨zs', y2, y3, y4, f3, h3⟩ := f3
      refine ⟨.int (i : Nat), .nx, dgE ns st.length (some (.int (i : Nat))) y2 y3 y4, st ++ [.lst (zs'.map .int)], ?_, ?_, .inl rfl, zs', _, _, _, _, rfl, rfl, by omega⟩
      · simp [nxD, hi]
      · rw [f0]
        show exs _ gl (calls FS gl (n + 1)) _ _ = _
        rw [exs_step f1 rfl, exs_step f2 rfl, exs_step f3 rfl]
        rfl) (fun _ _ _ => rfl)
  refine ⟨zs, ?_⟩
  have hz0 : 0 ≤ sizeLine := Nat.zero_le _
  refine cl_ret (d := d7.df) (ρ' := dgE ns st.length x1 x2 x3 x4) rfl rfl ?_
  show exs b7 gl (calls FS gl (n + 1)) [some (.fz (ns.map .int)), some (.int 0), some (.int 62), none, none, none, none, none] st = _
  have a1 : ex (.asg (.nm 3) (.lst [])) gl (calls FS gl (n + 1)) [some (.fz (ns.map .int)), some (.int 0), some (.int 62), none, none, none, none, none] st = some (.nx, dgE ns st.length none none none none, st ++ [.lst []]) := by simp [hz0]
  have a3 : ex (.ret (.var 3)) gl (calls FS gl (n + 1)) (dgE ns st.length x1 x2 x3 x4) (st ++ [.lst (zs.map .int)]) = some (.rt (.ref st.length), dgE ns st.length x1 x2 x3 x4, st ++ [.lst (zs.map .int)]) := rfl
  unfold b7
  rw [exs_step a1 rfl, exs_step e rfl, exs_ret a3]
theorem run_box (n : Nat) (ns : List Int) : ∃ st b j, callD FS gl (n + 2) 9 [.fz (ns.map .int), .int 0, .int 62] [] = some (.ref b, st) ∧ Box b j st := by
  obtain ⟨zs, e⟩ := run_digits n ns []
  refine ⟨[.lst (zs.map .int), .lst [.ref 0, .int 0]], 1, 0, ?_, by decide, 0, zs, rfl, rfl⟩
  refine cl_ret (d := d9.df) (ρ' := [some (.fz (ns.map .int)), some (.int 0), some (.int 62)]) rfl rfl ?_
  show exs b9 gl (calls FS gl (n + 2)) [some (.fz (ns.map .int)), some (.int 0), some (.int 62)] [] = _
  have hz : 2 ≤ sizeLine := by rw [sizeLine_eq]; omega
  have a : ex (.ret (.lst [(.call 7 [(.var 0), (.var 1), (.var 2)]), (.int 0)])) gl (calls FS gl (n + 2)) [some (.fz (ns.map .int)), some (.int 0), some (.int 62)] [] = some (.rt (.ref 1), [some (.fz (ns.map .int)), some (.int 0), some (.int 62)], [.lst (zs.map .int), .lst [.ref 0, .int 0]]) := by
    simp [e, hz]
  unfold b9
  rw [exs_ret a]
end K71
end
section
set_option Elab.async false
set_option linter.all false
set_option maxRecDepth 100000
set_option maxHeartbeats 1000000
namespace K71
open Dz PySem
/-! ### _law_same of a value and itself -/
def txt (x : Str) : Bool := x == "say" || x == "ask" || x == "stop" || x == "stuck" || x == "program" || x == "falls"
theorem txt_lay {x : Str} (h : txt x = true) : SeqAt.shaped (.str x) = true := by
  simp only [txt, Bool.or_eq_true, beq_iff_eq] at h
  rcases h with ((((rfl | rfl) | rfl) | rfl) | rfl) | rfl <;> decide +kernel

mutual
def sm : D → Bool
  | .tup ds => sms ds
  | .non => true
  | .bl _ => true
  | .int _ => true
  | .str x => txt x
  | _ => false
def sms : List D → Bool
  | [] => true
  | d :: ds => sm d && sms ds
end
theorem sms_mem : ∀ {ds : List D} {d : D}, sms ds = true → d ∈ ds → sm d = true
  | x :: ds, d, h, m => by
    simp only [sms, Bool.and_eq_true] at h
    cases m with
    | head => exact h.1
    | tail _ m => exact sms_mem h.2 m
theorem sms_of : ∀ {ds : List D}, (∀ d ∈ ds, sm d = true) → sms ds = true
  | [], _ => rfl
  | x :: ds, h => by simp only [sms, h x (List.mem_cons_self), sms_of fun d m => h d (List.mem_cons_of_mem _ m), Bool.and_self]
theorem hgts_le : ∀ {ds : List D} {m : Nat}, (∀ d ∈ ds, 1 + hgt d ≤ m) → hgts ds ≤ m
  | [], _, _ => Nat.zero_le _
  | d :: ds, m, h => by
    have h1 := h d (List.mem_cons_self)
    have h2 := hgts_le (ds := ds) fun x hx => h x (List.mem_cons_of_mem _ hx)
    simp only [hgts]; omega
theorem eq_int (i : Int) (st : Sto) : eqD st (.int i) (.int i) = some true := by
  simp [eqD, toP, toPw, SeqAt.shaped, PyData.canLay0, PyData.depth, PyData.eqv]
theorem eq_bl (i : Bool) (st : Sto) : eqD st (.bl i) (.bl i) = some true := by
  simp [eqD, toP, toPw, SeqAt.shaped, PyData.canLay0, PyData.depth, PyData.eqv]
theorem eq_str {x : Str} (h : txt x = true) (st : Sto) : eqD st (.str x) (.str x) = some true := by
  have := txt_lay h
  simp [eqD, toP, toPw, this, PyData.eqv]
theorem run_same : ∀ (n : Nat) (v : D) (st : Sto), sm v = true → hgt v ≤ n → sz v ≤ 1000000 → callD FS gl n 10 [v, v] st = some (.bl true, st) := by
  intro n
  induction n using Nat.strongRecOn with
  | _ n ih =>
    intro v st hk hh hs
    cases v with
    | str c =>
      refine cl_ret (d := d10.df) (ρ' := [some (.str c), some (.str c), none]) rfl rfl ?_
      show exs b10 gl (calls FS gl n) [some (.str c), some (.str c), none] st = _
      have hk : txt c = true := hk
      simp [b10, isiD, eq_str hk]
    | fz _ => simp [sm] at hk
    | ref _ => simp [sm] at hk
    | non =>
      refine cl_ret (d := d10.df) (ρ' := [some .non, some .non, none]) rfl rfl ?_
      show exs b10 gl (calls FS gl n) [some .non, some .non, none] st = _
      simp [b10, isiD]
    | bl c =>
      refine cl_ret (d := d10.df) (ρ' := [some (.bl c), some (.bl c), none]) rfl rfl ?_
      show exs b10 gl (calls FS gl n) [some (.bl c), some (.bl c), none] st = _
      simp [b10, isiD, eq_bl]
    | int c =>
      refine cl_ret (d := d10.df) (ρ' := [some (.int c), some (.int c), none]) rfl rfl ?_
      show exs b10 gl (calls FS gl n) [some (.int c), some (.int c), none] st = _
      simp [b10, isiD, eq_int]
    | tup ds =>
      simp only [hgt, sz] at hh hs
      have hlen := len_szs ds
      obtain ⟨ρ', st', e, rfl, x, rfl⟩ := ex_rng (g := gl) (C := calls FS gl n) (tg := .nm 2) (b := [.ife (.not (.val (.call 10 [(.idx (.var 0) (.var 2)), (.idx (.var 1) (.var 2))]))) [.ret (.bl false)] []])
        (src := .bi .len [.var 1]) (ρ := [some (.tup ds), some (.tup ds), none]) (st := st) (st0 := st) (N := ds.length) (by simp) (by omega)
        (fun i ρ s => s = st ∧ ∃ x, ρ = [some (.tup ds), some (.tup ds), x]) ⟨rfl, _, rfl⟩ (by
          rintro i ρ s hi ⟨rfl, x, rfl⟩
          obtain ⟨d, e1, m⟩ := get_some hi
          have h1 := hgts_mem m
          have h2 := szs_mem m
          obtain ⟨n, rfl⟩ : ∃ m, n = m + 1 := ⟨n - 1, by omega⟩
          have e2 := ih n (by omega) d s (sms_mem hk m) (by omega) (by omega)
          have ea : L2.atI ds (i : Int) = some d := L2.atI_nat e1
          exact ⟨.nx, _, s, by simp [ea, e2]; rfl, .inl rfl, rfl, _, rfl⟩)
      refine cl_ret (d := d10.df) (ρ' := [some (.tup ds), some (.tup ds), x]) rfl rfl ?_
      show exs b10 gl (calls FS gl n) [some (.tup ds), some (.tup ds), none] st' = _
      have h1 : ex (.ife (.or [(.not (.val (.isi (.var 0) .tuple))), (.cmp .ne (.bi .len [(.var 0)]) (.bi .len [(.var 1)]))]) [.ret (.bl false)] []) gl (calls FS gl n) [some (.tup ds), some (.tup ds), none] st' = some (.nx, [some (.tup ds), some (.tup ds), none], st') := by
        have hT : evT (.or [(.not (.val (.isi (.var 0) .tuple))), (.cmp .ne (.bi .len [(.var 0)]) (.bi .len [(.var 1)]))]) gl (calls FS gl n) [some (.tup ds), some (.tup ds), none] st' = some (false, st') := by simp [eq_int]
        rw [ex_ife, hT]; rfl
      have h3 : ex (.ret (.bl true)) gl (calls FS gl n) [some (.tup ds), some (.tup ds), x] st' = some (.rt (.bl true), [some (.tup ds), some (.tup ds), x], st') := rfl
      have hT : evT (.val (.isi (.var 1) .tuple)) gl (calls FS gl n) [some (.tup ds), some (.tup ds), none] st' = some (true, st') := rfl
      unfold b10
      refine exs_ret ?_
      rw [ex_ife, hT]
      show exs _ gl (calls FS gl n) _ _ = _
      rw [exs_step h1 rfl, exs_step e rfl, exs_ret h3]
end K71
end
section
set_option Elab.async false
set_option linter.all false
set_option maxRecDepth 100000
set_option maxHeartbeats 1000000
namespace K71
open Dz PySem
/-! ### items, rows, tables -/
abbrev It := Option Bool
def enc : It → D
  | none => .non
  | some b => .int (if b then 1 else 0)
def encR (r : List It) : D := .tup (r.map enc)
def kI : It → NestedKey
  | none => .none
  | some b => .num (if b then 1 else 0)
def kR (r : List It) : NestedKey := .tup (r.map kI)
theorem enc_inj {a b : It} (h : enc a = enc b) : a = b := by
  match a, b, h with
  | none, none, _ => rfl
  | some true, some true, _ => rfl
  | some false, some false, _ => rfl
  | some true, some false, h => simp [enc] at h
  | some false, some true, h => simp [enc] at h
theorem kI_inj {a b : It} (h : kI a = kI b) : a = b := by
  match a, b, h with
  | none, none, _ => rfl
  | some true, some true, _ => rfl
  | some false, some false, _ => rfl
  | some true, some false, h => simp [kI] at h
  | some false, some true, h => simp [kI] at h
theorem kR_inj : ∀ {a b : List It}, kR a = kR b → a = b
  | [], [], _ => rfl
  | [], _ :: _, h => by simp [kR] at h
  | _ :: _, [], h => by simp [kR] at h
  | x :: a, y :: b, h => by
    simp only [kR, List.map_cons, NestedKey.tup.injEq, List.cons.injEq] at h
    rw [kI_inj h.1, kR_inj (a := a) (b := b) (by simp only [kR, h.2])]
theorem keyDs_enc : ∀ r : List It, keyDs (r.map enc) = some (r.map kI)
  | [] => rfl
  | x :: r => by
    have e : keyD (enc x) = some (kI x) := by rcases x with _ | (_ | _) <;> rfl
    simp only [List.map_cons, keyDs, e, keyDs_enc r, Option.bind_some, Option.map_some]
theorem depthAll_kI : ∀ r : List It, NestedKey.depthAll (r.map kI) = 0
  | [] => rfl
  | x :: r => by
    have e : (kI x).depth = 0 := by rcases x with _ | _ <;> rfl
    simp only [List.map_cons, NestedKey.depthAll, e, depthAll_kI r, Nat.max_self]
theorem kOf_enc (r : List It) : kOf (encR r) = some (kR r) := by
  show (keyD (.tup (r.map enc))).bind _ = _
  simp only [keyD, keyDs_enc, Option.map_some, Option.bind_some]
  rw [if_pos (by simp [NestedKey.depth, depthAll_kI])]
  rfl
/-! data of them -/
def dI : It → PyData
  | none => .none
  | some b => .int (if b then 1 else 0)
theorem toPw_enc (f : Nat → Option PyData) (x : It) : toPw f (enc x) = some (dI x) := by rcases x with _ | _ <;> rfl
theorem toPws_enc (f : Nat → Option PyData) : ∀ r : List It, toPws f (r.map enc) = some (r.map dI)
  | [] => rfl
  | x :: r => by simp only [List.map_cons, toPws, toPw_enc, toPws_enc f r, Option.bind_some, Option.map_some]
theorem dI_lay (x : It) : (dI x).canLay0 = true ∧ (dI x).depth = 0 := by rcases x with _ | _ <;> exact ⟨rfl, rfl⟩
theorem dIs_lay : ∀ r : List It, PyData.canLayAll0 (r.map dI) = true ∧ PyData.depthAll (r.map dI) = 0
  | [] => ⟨rfl, rfl⟩
  | x :: r => by
    obtain ⟨a, b⟩ := dI_lay x
    obtain ⟨c, d⟩ := dIs_lay r
    simp only [List.map_cons, PyData.canLayAll0, PyData.depthAll, a, b, c, d]
    exact ⟨rfl, rfl⟩
theorem dI_eqv (x y : It) : PyData.eqv (dI x) (dI y) = decide (x = y) := by
  rcases x with _ | (_ | _) <;> rcases y with _ | (_ | _) <;> simp [dI, PyData.eqv]
theorem dIs_eqv : ∀ a b : List It, PyData.eqvAll (a.map dI) (b.map dI) = decide (a = b)
  | [], [] => by simp [PyData.eqvAll]
  | [], _ :: _ => by simp [PyData.eqvAll]
  | _ :: _, [] => by simp [PyData.eqvAll]
  | x :: a, y :: b => by
    simp only [List.map_cons, PyData.eqvAll, dI_eqv, dIs_eqv a b, List.cons.injEq]
    by_cases h1 : x = y <;> by_cases h2 : a = b <;> simp [h1, h2]
theorem eq_enc (st : Sto) (x y : It) : eqD st (enc x) (enc y) = some (decide (x = y)) := by
  have hf : ∃ f, toP 3 st = toPw f := ⟨_, rfl⟩
  obtain ⟨f, hf⟩ := hf
  have sx : ∀ x : It, SeqAt.shaped (dI x) = true := fun x => by rcases x with _ | _ <;> simp [SeqAt.shaped, dI, PyData.canLay0, PyData.depth]
  unfold eqD
  rw [hf, toPw_enc, toPw_enc]
  simp only [Option.bind_some, sx, Bool.and_self, if_true, dI_eqv]
theorem eq_encR (st : Sto) (a b : List It) : eqD st (encR a) (encR b) = some (decide (a = b)) := by
  have hf : ∃ f, toP 3 st = toPw f := ⟨_, rfl⟩
  obtain ⟨f, hf⟩ := hf
  have sx : ∀ x : List It, SeqAt.shaped (.tuple (x.map dI)) = true := fun x => by
    obtain ⟨h1, h2⟩ := dIs_lay x
    simp [SeqAt.shaped, PyData.canLay0, PyData.depth, h1, h2]
  have e : ∀ x : List It, toP 3 st (encR x) = some (.tuple (x.map dI)) := fun x => by
    rw [hf]
    show (toPws f (x.map enc)).map PyData.tuple = _
    rw [toPws_enc]; rfl
  unfold eqD
  rw [e, e]
  simp only [Option.bind_some, sx, Bool.and_self, if_true, PyData.eqv, dIs_eqv]
/-! rows in order -/
def three : List It := [none, some false, some true]
def rows : Nat → List (List It)
  | 0 => [[]]
  | n + 1 => (rows n).flatMap fun r => three.map fun x => r ++ [x]
theorem rows_len : ∀ n, (rows n).length = 3 ^ n
  | 0 => rfl
  | n + 1 => by
    have : ∀ l : List (List It), (l.flatMap fun r => three.map fun x => r ++ [x]).length = 3 * l.length := by
      intro l
      induction l with
      | nil => rfl
      | cons a l ih => rw [List.flatMap_cons, List.length_append, ih]; simp [three]; omega
    rw [rows, this, rows_len n, Nat.pow_succ]; omega
theorem mem_rows : ∀ (n : Nat) (r : List It), r ∈ rows n ↔ r.length = n
  | 0, r => by simp [rows]
  | n + 1, r => by
    simp only [rows, List.mem_flatMap]
    constructor
    · rintro ⟨q, hq, h⟩
      rw [mem_rows n q] at hq
      obtain ⟨x, _, rfl⟩ := List.mem_map.mp h
      simp [hq]
    · intro h
      rcases List.eq_nil_or_concat r with rfl | ⟨q, x, rfl⟩
      · simp at h
      · rw [List.concat_eq_append] at *
        refine ⟨q, (mem_rows n q).mpr (by simpa using h), List.mem_map.mpr ⟨x, ?_, rfl⟩⟩
        rcases x with _ | (_ | _) <;> simp [three]
/-- the table's dict -/
def tb (f : List It → It) (l : List (List It)) : KVs := l.map fun r => (kR r, encR r, enc (f r))
theorem dGet_tb (f : List It → It) : ∀ {l : List (List It)} {r : List It}, r ∈ l → dGet (tb f l) (kR r) = some (enc (f r))
  | x :: l, r, h => by
    unfold dGet tb
    rw [List.map_cons, List.find?_cons]
    by_cases e : x = r
    · subst e; simp
    · have : kR x ≠ kR r := fun z => e (kR_inj z)
      simp only [decide_eq_false this]
      exact dGet_tb f ((List.mem_cons.mp h).resolve_left (Ne.symm e))
theorem dGet_no (f : List It → It) {r : List It} : ∀ {l : List (List It)}, r ∉ l → dGet (tb f l) (kR r) = none
  | [], _ => rfl
  | x :: l, h => by
    unfold dGet tb
    have : kR x ≠ kR r := fun z => h (by rw [kR_inj z]; exact List.mem_cons_self)
    rw [List.map_cons, List.find?_cons]
    simp only [decide_eq_false this]
    exact dGet_no f fun m => h (List.mem_cons_of_mem _ m)
def set1 (f : List It → It) (r : List It) (v : It) : List It → It := fun q => if q = r then v else f q
theorem dPut_tb (f : List It → It) {l : List (List It)} {r : List It} (h : r ∈ l) (v : It) : dPut (tb f l) (kR r) (encR r) (enc v) = tb (set1 f r v) l := by
  unfold dPut
  rw [dGet_tb f h]
  simp only [Option.isSome_some, if_true]
  unfold tb
  rw [List.map_map]
  refine List.map_congr_left fun q _ => ?_
  simp only [Function.comp_apply, set1]
  by_cases e : q = r
  · subst e; simp
  · have : kR q ≠ kR r := fun z => e (kR_inj z)
    simp [e, this]
theorem dPut_new (f : List It → It) {l : List (List It)} {r : List It} (h : r ∉ l) (v : It) : dPut (tb f l) (kR r) (encR r) (enc v) = tb (set1 f r v) (l ++ [r]) := by
  unfold dPut
  rw [dGet_no f h]
  simp only [Option.isSome_none, Bool.false_eq_true, if_false]
  unfold tb
  rw [List.map_append]
  congr 1
  · refine List.map_congr_left fun q hq => ?_
    have : q ≠ r := fun z => h (z ▸ hq)
    simp [set1, this]
  · simp [set1]
/-- which row tells more -/
def more (a b : List It) : Bool := !decide (a = b) && (a.zip b).all fun p => p.1.isNone || decide (p.1 = p.2)
/-! ### loops that may return -/
theorem for_ret {J : IT} {B : D → Dz.Env → Sto → Option (Fl × Dz.Env × Sto)} (P : Nat → Dz.Env → Sto → Prop) (Q : D → Dz.Env → Sto → Prop) (N : Nat)
    (hs : ∀ i ρ st, i < N → P i ρ st → ∃ x, nxD J i st = some x ∧ ((∃ ρ' st', B x ρ st = some (.nx, ρ', st') ∧ P (i + 1) ρ' st') ∨ ∃ v ρ' st', B x ρ st = some (.rt v, ρ', st') ∧ Q v ρ' st')) (he : ∀ ρ st, P N ρ st → stD J N st = true) :
    ∀ (r i : Nat) (ρ : Dz.Env) (st : Sto), i + r = N → P i ρ st → (∃ ρ' st', loopF J B r i ρ st = some (.nx, ρ', st') ∧ P N ρ' st') ∨ ∃ v ρ' st', loopF J B r i ρ st = some (.rt v, ρ', st') ∧ Q v ρ' st'
  | 0, i, ρ, st, h, p => by
    have e : i = N := by omega
    subst e
    exact .inl ⟨ρ, st, by show (if stD J i st then _ else _) = _; rw [if_pos (he ρ st p)], p⟩
  | r + 1, i, ρ, st, h, p => by
    obtain ⟨x, e1, ⟨ρ', st', e2, p'⟩ | ⟨v, ρ', st', e2, q⟩⟩ := hs i ρ st (by omega) p
    · rcases for_ret P Q N hs he r (i + 1) ρ' st' (by omega) p' with ⟨ρ2, st2, e3, p2⟩ | ⟨v, ρ2, st2, e3, q⟩
      · refine .inl ⟨ρ2, st2, ?_, p2⟩
        show (nxD J i st).bind _ = _
        rw [e1]
        show (B x ρ st).bind _ = _
        rw [e2]; exact e3
      · refine .inr ⟨v, ρ2, st2, ?_, q⟩
        show (nxD J i st).bind _ = _
        rw [e1]
        show (B x ρ st).bind _ = _
        rw [e2]; exact e3
    · refine .inr ⟨v, ρ', st', ?_, q⟩
      show (nxD J i st).bind _ = _
      rw [e1]
      show (B x ρ st).bind _ = _
      rw [e2]; rfl
theorem ex_forR {g : Str → Option D} {C : List CS} {ρ : Dz.Env} {st st0 : Sto} {ik : Ik} {src : List E} {tg : Tg} {b : List S} {xs : List D} {J : IT} {N : Nat} (hd : evs src g C ρ st = some (xs, st0)) (hi : itD ik xs st0 = some (J, N)) (P : Nat → Dz.Env → Sto → Prop) (Q : D → Dz.Env → Sto → Prop) (h0 : P 0 ρ st0)
    (hs : ∀ i ρ st, i < N → P i ρ st → ∃ x, nxD J i st = some x ∧ ((∃ ρ' st', ((asgD tg x st ρ).bind fun ρ1 => exs b g C ρ1 st) = some (.nx, ρ', st') ∧ P (i + 1) ρ' st') ∨ ∃ v ρ' st', ((asgD tg x st ρ).bind fun ρ1 => exs b g C ρ1 st) = some (.rt v, ρ', st') ∧ Q v ρ' st'))
    (he : ∀ ρ st, P N ρ st → stD J N st = true) :
    (∃ ρ' st', ex (.for_ ik src tg b) g C ρ st = some (.nx, ρ', st') ∧ P N ρ' st') ∨ ∃ v ρ' st', ex (.for_ ik src tg b) g C ρ st = some (.rt v, ρ', st') ∧ Q v ρ' st' := by
  have e : ex (.for_ ik src tg b) g C ρ st = loopF J (fun x ρ s => (asgD tg x s ρ).bind fun ρ1 => exs b g C ρ1 s) N 0 ρ st0 := by
    show (evs src g C ρ st).bind _ = _
    rw [hd]
    show (itD ik xs st0).bind _ = _
    rw [hi]; rfl
  rw [e]
  exact for_ret P Q N hs he N 0 ρ st0 (by omega) h0
end K71
end
section
set_option Elab.async false
set_option linter.all false
set_option maxRecDepth 100000
set_option maxHeartbeats 1000000
namespace K71
open Dz PySem
/-! ### comprehensions whose store stays -/
theorem lc_ys {J : IT} {B : D → Sto → Option (Option D × Sto)} {st : Sto} {ys : List D} (hb : ∀ (i : Nat) (y : D), ys[i]? = some y → ∃ x, nxD J i st = some x ∧ B x st = some (some y, st)) (he : stD J ys.length st = true) :
    ∀ (r i : Nat) (acc : List D), i + r = ys.length → acc.length + r ≤ sizeLine → loopC J B r i acc st = some (acc ++ ys.drop i, st)
  | 0, i, acc, h, hz => by
    have e : i = ys.length := by omega
    subst e
    show (if stD J ys.length st then _ else _) = _
    rw [if_pos he, List.drop_length, List.append_nil]
  | r + 1, i, acc, h, hz => by
    have hi : i < ys.length := by omega
    obtain ⟨x, e1, e2⟩ := hb i ys[i] (List.getElem?_eq_getElem hi)
    show (nxD J i st).bind _ = _
    rw [e1]
    show (B x st).bind _ = _
    rw [e2]
    show (if acc.length < sizeLine then _ else none) = _
    rw [if_pos (by omega), lc_ys hb he r (i + 1) _ (by omega) (by simp; omega), List.drop_eq_getElem_cons hi]
    simp
theorem lc2_zs {J : IT} {B : D → List D → Sto → Option (List D × Sto)} {st : Sto} {zs : List (List D)} (hb : ∀ (i : Nat) (z : List D), zs[i]? = some z → ∃ x, nxD J i st = some x ∧ ∀ acc, acc.length + z.length ≤ sizeLine → B x acc st = some (acc ++ z, st)) (he : stD J zs.length st = true) :
    ∀ (r i : Nat) (acc : List D), i + r = zs.length → acc.length + (zs.drop i).flatten.length ≤ sizeLine → loopC2 J B r i acc st = some (acc ++ (zs.drop i).flatten, st)
  | 0, i, acc, h, hz => by
    have e : i = zs.length := by omega
    subst e
    show (if stD J zs.length st then _ else _) = _
    rw [if_pos he, List.drop_length]
    simp
  | r + 1, i, acc, h, hz => by
    have hi : i < zs.length := by omega
    obtain ⟨x, e1, e2⟩ := hb i zs[i] (List.getElem?_eq_getElem hi)
    rw [List.drop_eq_getElem_cons hi, List.flatten_cons, List.length_append] at hz
    show (nxD J i st).bind _ = _
    rw [e1]
    show (B x acc st).bind _ = _
    rw [e2 acc (by omega)]
    show loopC2 J B r (i + 1) _ st = _
    rw [lc2_zs hb he r (i + 1) _ (by omega) (by rw [List.length_append]; omega), List.drop_eq_getElem_cons hi, List.flatten_cons, List.append_assoc]
theorem take_one' {α : Type} {l : List α} {i : Nat} {x : α} (h : l[i]? = some x) : l.take (i + 1) = l.take i ++ [x] := by
  rw [List.take_add_one, h]; rfl
/-! ### inputs_of, _law_inputs -/
def rowsD (n : Nat) : List D := (rows n).map encR
theorem rowsD_len (n : Nat) : (rowsD n).length = 3 ^ n := by rw [rowsD, List.length_map, rows_len]
theorem bin_row {r : List It} {x : It} {st : Sto} (h : r.length < 1000) : binD .add (encR r) (.tup [enc x]) st = some (encR (r ++ [x]), st) := by
  show (if (r.map enc).length + 1 ≤ sizeLine then _ else none) = _
  rw [if_pos (by rw [sizeLine_eq, List.length_map]; omega)]
  simp [encR]
def nextD (r : List It) : List D := three.map fun x => encR (r ++ [x])
theorem rowsD_succ (n : Nat) : rowsD (n + 1) = ((rows n).map nextD).flatten := by
  show ((rows n).flatMap fun r => three.map fun x => r ++ [x]).map encR = _
  rw [List.flatMap_def, List.map_flatten, List.map_map]
  rfl
theorem nextD_len (r : List It) : (nextD r).length = 3 := rfl
theorem run_inputs_of (n k : Nat) (st : Sto) (hk : k ≤ 3) : ∃ J, callD FS gl n 0 [.int (k : Nat)] st = some (.tup (rowsD k), st ++ J) := by
  have hz1 : 1 ≤ sizeLine := by rw [sizeLine_eq]; omega
  have hz0 : 0 ≤ sizeLine := Nat.zero_le _
  obtain ⟨ρ', st', a2, x2, x3, x4, P, J, rfl, rfl, hP⟩ := ex_rng (g := gl) (C := calls FS gl n) (tg := .nm 2) (src := .var 0) (N := k) (b := [.asg (.nm 1) (.lc2 .one [(.var 1)] (.nm 3) [] .one [(.glb "ITEMS")] (.nm 4) [] (.bin .add (.var 3) (.tup [(.var 4)])) [3, 4] [4])])
    (ρ := [some (.int (k : Nat)), some (.ref st.length), none, none, none]) (st := st ++ [.lst [.tup []]]) (st0 := st ++ [.lst [.tup []]]) rfl (by omega)
    (fun i ρ s => ∃ x2 x3 x4 P J, ρ = [some (.int (k : Nat)), some (.ref P), x2, x3, x4] ∧ s = st ++ J ∧ lstOf s P = some (rowsD i)) ⟨none, none, none, st.length, [.lst [.tup []]], rfl, rfl, lst_mid _ _ _⟩ (by
      rintro i ρ s hi ⟨x2, x3, x4, P, J, rfl, rfl, hP⟩
      have hlen : (rows i).length ≤ 27 := by
        rw [rows_len]
        have : i = 0 ∨ i = 1 ∨ i = 2 := by omega
        rcases this with rfl | rfl | rfl <;> decide
      refine ⟨.nx, [some (.int (k : Nat)), some (.ref (st ++ J).length), some (.int (i : Nat)), x3, x4], st ++ J ++ [.lst (rowsD (i + 1))], ?_, .inl rfl, _, _, _, (st ++ J).length, J ++ [.lst (rowsD (i + 1))], rfl, by rw [List.append_assoc], lst_mid _ _ _⟩
      have f0 : asgD (.nm 2) (.int (i : Nat)) (st ++ J) [some (.int (k : Nat)), some (.ref P), x2, x3, x4] = some [some (.int (k : Nat)), some (.ref P), some (.int (i : Nat)), x3, x4] := rfl
      have fe : ev (.lc2 .one [(.var 1)] (.nm 3) [] .one [(.glb "ITEMS")] (.nm 4) [] (.bin .add (.var 3) (.tup [(.var 4)])) [3, 4] [4]) gl (calls FS gl n) [some (.int (k : Nat)), some (.ref P), some (.int (i : Nat)), x3, x4] (st ++ J) = some (.ref (st ++ J).length, st ++ J ++ [.lst (rowsD (i + 1))]) := by
        have hd : evs [(.var 1)] gl (calls FS gl n) [some (.int (k : Nat)), some (.ref P), some (.int (i : Nat)), x3, x4] (st ++ J) = some ([.ref P], st ++ J) := rfl
        have hi' : itD .one [.ref P] (st ++ J) = some (.lst P, (rowsD i).length) := by simp [itD, hP]
        show (evs [(.var 1)] _ _ _ _).bind _ = _
        rw [hd]
        show (itD .one [.ref P] (st ++ J)).bind _ = _
        rw [hi']
        show (loopC2 _ _ _ _ _ _).map _ = _
        rw [show (rowsD i).length = ((rows i).map nextD).length by simp [rowsD]]
        refine (congrArg (Option.map _) (lc2_zs (zs := (rows i).map nextD) (fun j z hz => ?hb) ?he _ 0 [] (by simp) ?hz)).trans ?fin
        case fin =>
          simp only [List.drop_zero, List.nil_append, ← rowsD_succ]
          rfl
        case hb =>
          rw [List.getElem?_map] at hz
          obtain ⟨r, hr, rfl⟩ := Option.map_eq_some_iff.mp hz
          have hrl : r.length = i := (mem_rows i r).mp (List.mem_of_getElem? hr)
          refine ⟨encR r, ?_, fun acc ha => ?_⟩
          · show (lstOf (st ++ J) P).bind _ = _
            rw [hP]
            show (rowsD i)[j]? = _
            rw [rowsD, List.getElem?_map, hr]; rfl
          · have g0 : asgD (.nm 3) (encR r) (st ++ J) (wipeD [some (.int (k : Nat)), some (.ref P), some (.int (i : Nat)), x3, x4] [3, 4]) = some [some (.int (k : Nat)), some (.ref P), some (.int (i : Nat)), some (encR r), none] := rfl
            simp only [g0, Option.bind_some, evTA_nil, if_true]
            have g1 : evs [(.glb "ITEMS")] gl (calls FS gl n) [some (.int (k : Nat)), some (.ref P), some (.int (i : Nat)), some (encR r), none] (st ++ J) = some ([.tup (three.map enc)], st ++ J) := rfl
            have g2 : itD .one [.tup (three.map enc)] (st ++ J) = some (.tup (three.map enc), 3) := rfl
            simp only [g1, Option.bind_some, g2]
            refine (lc_ys (ys := nextD r) (fun j' y hy => ?hb2) ?he2 3 0 acc rfl (by rw [nextD_len] at ha; exact ha)).trans ?fin2
            case fin2 => rfl
            case he2 => rfl
            case hb2 =>
              rw [nextD, List.getElem?_map] at hy
              obtain ⟨x, hx, rfl⟩ := Option.map_eq_some_iff.mp hy
              refine ⟨enc x, by show (three.map enc)[j']? = _; rw [List.getElem?_map, hx]; rfl, ?_⟩
              have k0 : asgD (.nm 4) (enc x) (st ++ J) (wipeD [some (.int (k : Nat)), some (.ref P), some (.int (i : Nat)), some (encR r), none] [4]) = some [some (.int (k : Nat)), some (.ref P), some (.int (i : Nat)), some (encR r), some (enc x)] := rfl
              have k1 : ev (.bin .add (.var 3) (.tup [(.var 4)])) gl (calls FS gl n) [some (.int (k : Nat)), some (.ref P), some (.int (i : Nat)), some (encR r), some (enc x)] (st ++ J) = some (encR (r ++ [x]), st ++ J) := by
                simp only [ev_bin, ev_varS, ev_var0, Option.bind_some, ev_tup, evs_cons, evs_nil, Option.map_some, List.length_cons, List.length_nil, Nat.zero_add, if_pos hz1, bin_row (show r.length < 1000 by omega)]
              simp only [k0, Option.bind_some, evTA_nil, if_true, k1, Option.map_some]
        case he =>
          show (match lstOf (st ++ J) P with | some ds => decide (ds.length ≤ ((rows i).map nextD).length) | none => false) = true
          rw [hP]
          simp [rowsD]
        case hz =>
          simp only [List.drop_zero, List.length_nil, Nat.zero_add, ← rowsD_succ]
          rw [rowsD_len, sizeLine_eq]
          have : i = 0 ∨ i = 1 ∨ i = 2 := by omega
          rcases this with rfl | rfl | rfl <;> decide
      have f1 : ex (.asg (.nm 1) (.lc2 .one [(.var 1)] (.nm 3) [] .one [(.glb "ITEMS")] (.nm 4) [] (.bin .add (.var 3) (.tup [(.var 4)])) [3, 4] [4])) gl (calls FS gl n) [some (.int (k : Nat)), some (.ref P), some (.int (i : Nat)), x3, x4] (st ++ J) = some (.nx, [some (.int (k : Nat)), some (.ref (st ++ J).length), some (.int (i : Nat)), x3, x4], st ++ J ++ [.lst (rowsD (i + 1))]) := by
        simp only [ex_asg, fe, Option.bind_some, asgD_nm]
        rfl
      rw [f0]
      show exs _ gl (calls FS gl n) _ _ = _
      rw [exs_step f1 rfl]
      rfl)
  refine ⟨J, ?_⟩
  refine cl_ret (d := d0.df) (ρ' := [some (.int (k : Nat)), some (.ref P), x2, x3, x4]) rfl rfl ?_
  show exs b0 gl (calls FS gl n) [some (.int (k : Nat)), none, none, none, none] st = _
  have a1 : ex (.asg (.nm 1) (.lst [(.tup [])])) gl (calls FS gl n) [some (.int (k : Nat)), none, none, none, none] st = some (.nx, [some (.int (k : Nat)), some (.ref st.length), none, none, none], st ++ [.lst [.tup []]]) := by
    simp only [ex_asg, ev_lst, evs_cons, evs_nil, ev_tup, Option.bind_some, Option.map_some, List.length_cons, List.length_nil, Nat.zero_add, if_pos hz0, if_pos hz1, new_eq, asgD_nm]
    rfl
  have a3 : ex (.ret (.bi .tuple [(.var 1)])) gl (calls FS gl n) [some (.int (k : Nat)), some (.ref P), x2, x3, x4] (st ++ J) = some (.rt (.tup (rowsD k)), [some (.int (k : Nat)), some (.ref P), x2, x3, x4], st ++ J) := by
    simp only [ex_ret, ev_bi, evs_cons, evs_nil, ev_varS, ev_var0, Option.bind_some, Option.map_some, tuple_ref, hP]
  unfold b0
  rw [exs_step a1 rfl, exs_step a2 rfl, exs_ret a3]
end K71
end
section
set_option Elab.async false
set_option linter.all false
set_option maxRecDepth 100000
set_option maxHeartbeats 1000000
namespace K71
open Dz PySem
theorem rows27 {i : Nat} (h : i ≤ 3) : (rows i).length ≤ 27 := by
  rw [rows_len]
  have : i = 0 ∨ i = 1 ∨ i = 2 ∨ i = 3 := by omega
  rcases this with rfl | rfl | rfl | rfl <;> decide
theorem flat3 (l : List (List It)) : ((l.map nextD).flatten).length = 3 * l.length := by
  induction l with
  | nil => rfl
  | cons a l ih => rw [List.map_cons, List.flatten_cons, List.length_append, ih, nextD_len, List.length_cons]; omega
def liS : S := .asg (.nm 3) (.bin .add (.var 3) (.lc .one [(.lst [.non, (.int 0), (.int 1)])] (.nm 5) [] (.bin .add (.var 4) (.tup [(.var 5)])) [5]))
theorem li_turn (C : List CS) (kd : D) (x2 x5 : Option D) (r : List It) (st : Sto) (P Q : Nat) (acc : List D) (hr : r.length < 1000) (hQ : lstOf st Q = some acc) (ha : acc.length ≤ 1000) :
    ∃ J Q', ex liS gl C [some kd, some (.ref P), x2, some (.ref Q), some (encR r), x5] st = some (.nx, [some kd, some (.ref P), x2, some (.ref Q'), some (encR r), x5], st ++ J) ∧ lstOf (st ++ J) Q' = some (acc ++ nextD r) ∧ st.length ≤ Q' := by
  have hz1 : 1 ≤ sizeLine := by rw [sizeLine_eq]; omega
  have hz3 : 3 ≤ sizeLine := by rw [sizeLine_eq]; omega
  have e1 : ev (.lc .one [(.lst [.non, (.int 0), (.int 1)])] (.nm 5) [] (.bin .add (.var 4) (.tup [(.var 5)])) [5]) gl C [some kd, some (.ref P), x2, some (.ref Q), some (encR r), x5] st = some (.ref (st.length + 1), st ++ [.lst (three.map enc)] ++ [.lst (nextD r)]) := by
    have g1 : evs [(.lst [.non, (.int 0), (.int 1)])] gl C [some kd, some (.ref P), x2, some (.ref Q), some (encR r), x5] st = some ([.ref st.length], st ++ [.lst (three.map enc)]) := by
      simp only [evs_cons, evs_nil, ev_lst, ev_non, ev_int, Option.bind_some, Option.map_some, List.length_cons, List.length_nil, Nat.zero_add, Nat.reduceAdd, if_pos hz3, new_eq]
      rfl
    have g2 : itD .one [.ref st.length] (st ++ [.lst (three.map enc)]) = some (.lst st.length, 3) := by
      show (lstOf (st ++ [.lst (three.map enc)]) st.length).map _ = _
      rw [lst_mid]; rfl
    show (evs _ _ _ _ _).bind _ = _
    rw [g1]
    simp only [Option.bind_some, g2]
    refine (congrArg (Option.map _) (lc_ys (ys := nextD r) (fun j y hy => ?hb) ?he 3 0 [] rfl (by simp; omega))).trans ?fin
    case fin => simp [new_eq]
    case he =>
      show (match lstOf (st ++ [.lst (three.map enc)]) st.length with | some ds => decide (ds.length ≤ (nextD r).length) | none => false) = true
      rw [lst_mid]; rfl
    case hb =>
      rw [nextD, List.getElem?_map] at hy
      obtain ⟨x, hx, rfl⟩ := Option.map_eq_some_iff.mp hy
      refine ⟨enc x, by show (lstOf (st ++ [.lst (three.map enc)]) st.length).bind _ = _; rw [lst_mid]; show (three.map enc)[j]? = _; rw [List.getElem?_map, hx]; rfl, ?_⟩
      have k0 : asgD (.nm 5) (enc x) (st ++ [.lst (three.map enc)]) (wipeD [some kd, some (.ref P), x2, some (.ref Q), some (encR r), x5] [5]) = some [some kd, some (.ref P), x2, some (.ref Q), some (encR r), some (enc x)] := rfl
      have k1 : ev (.bin .add (.var 4) (.tup [(.var 5)])) gl C [some kd, some (.ref P), x2, some (.ref Q), some (encR r), some (enc x)] (st ++ [.lst (three.map enc)]) = some (encR (r ++ [x]), st ++ [.lst (three.map enc)]) := by
        simp only [ev_bin, ev_varS, ev_var0, Option.bind_some, ev_tup, evs_cons, evs_nil, Option.map_some, List.length_cons, List.length_nil, Nat.zero_add, if_pos hz1, bin_row hr]
      simp only [k0, Option.bind_some, evTA_nil, if_true, k1, Option.map_some]
  have hl : (st ++ [O.lst (three.map enc)]).length = st.length + 1 := by simp
  have q1 : lstOf (st ++ [.lst (three.map enc)] ++ [.lst (nextD r)]) Q = some acc := lst_old (lst_old hQ)
  have q2 : lstOf (st ++ [.lst (three.map enc)] ++ [.lst (nextD r)]) (st.length + 1) = some (nextD r) := by rw [← hl]; exact lst_mid _ _ _
  refine ⟨[.lst (three.map enc)] ++ [.lst (nextD r)] ++ [.lst (acc ++ nextD r)], st.length + 2, ?_, ?_, by omega⟩
  · unfold liS
    have hb : binD .add (.ref Q) (.ref (st.length + 1)) (st ++ [.lst (three.map enc)] ++ [.lst (nextD r)]) = some (.ref (st.length + 2), st ++ [.lst (three.map enc)] ++ [.lst (nextD r)] ++ [.lst (acc ++ nextD r)]) := by
      show (lstOf _ Q).bind _ = _
      rw [q1]
      show (lstOf _ (st.length + 1)).bind _ = _
      rw [q2]
      show (if acc.length + (nextD r).length ≤ sizeLine then _ else none) = _
      rw [if_pos (by rw [nextD_len, sizeLine_eq]; omega)]
      simp [new_eq]
    simp only [ex_asg, ev_bin, ev_varS, ev_var0, Option.bind_some, e1, hb, asgD_nm, ← List.append_assoc]
    rfl
  · have : (st ++ [O.lst (three.map enc)] ++ [O.lst (nextD r)]).length = st.length + 2 := by simp
    rw [← List.append_assoc, ← List.append_assoc, ← this]
    exact lst_mid _ _ _
theorem run_law_inputs (n k : Nat) (st : Sto) (hk : k ≤ 3) : ∃ J P, callD FS gl n 15 [.int (k : Nat)] st = some (.ref P, st ++ J) ∧ lstOf (st ++ J) P = some (rowsD k) ∧ st.length ≤ P := by
  have hz1 : 1 ≤ sizeLine := by rw [sizeLine_eq]; omega
  have hz0 : 0 ≤ sizeLine := Nat.zero_le _
  obtain ⟨ρ', st', a2, x2, x3, x4, x5, P, J, rfl, rfl, hP, hPl⟩ := ex_rng (g := gl) (C := calls FS gl n) (tg := .nm 2) (src := .var 0) (N := k) (b := [.asg (.nm 3) (.lst []), .for_ .one [(.var 1)] (.nm 4) [liS], .asg (.nm 1) (.var 3)])
    (ρ := [some (.int (k : Nat)), some (.ref st.length), none, none, none, none]) (st := st ++ [.lst [.tup []]]) (st0 := st ++ [.lst [.tup []]]) rfl (by omega)
    (fun i ρ s => ∃ x2 x3 x4 x5 P J, ρ = [some (.int (k : Nat)), some (.ref P), x2, x3, x4, x5] ∧ s = st ++ J ∧ lstOf s P = some (rowsD i) ∧ st.length ≤ P) ⟨none, none, none, none, st.length, [.lst [.tup []]], rfl, rfl, lst_mid _ _ _, Nat.le_refl _⟩ (by
      rintro i ρ s hi ⟨x2, x3, x4, x5, P, J, rfl, rfl, hP, hPl⟩
      have hlen := rows27 (i := i) (by omega)
      have f0 : asgD (.nm 2) (.int (i : Nat)) (st ++ J) [some (.int (k : Nat)), some (.ref P), x2, x3, x4, x5] = some [some (.int (k : Nat)), some (.ref P), some (.int (i : Nat)), x3, x4, x5] := rfl
      have f1 : ex (.asg (.nm 3) (.lst [])) gl (calls FS gl n) [some (.int (k : Nat)), some (.ref P), some (.int (i : Nat)), x3, x4, x5] (st ++ J) = some (.nx, [some (.int (k : Nat)), some (.ref P), some (.int (i : Nat)), some (.ref (st ++ J).length), x4, x5], st ++ J ++ [.lst []]) := by
        simp only [ex_asg, ev_lst, evs_nil, Option.bind_some, List.length_nil, if_pos hz0, new_eq, asgD_nm]
        rfl
      have hP1 : lstOf (st ++ J ++ [.lst []]) P = some (rowsD i) := lst_old hP
      obtain ⟨ρ', st', e2, Q, J2, y4, rfl, rfl, hQ, hQl⟩ := ex_for (g := gl) (C := calls FS gl n) (ik := .one) (src := [.var 1]) (tg := .nm 4) (b := [liS])
        (ρ := [some (.int (k : Nat)), some (.ref P), some (.int (i : Nat)), some (.ref (st ++ J).length), x4, x5]) (st := st ++ J ++ [.lst []]) (st0 := st ++ J ++ [.lst []]) (xs := [.ref P]) (J := .lst P) (N := (rows i).length) (by simp only [evs_cons, evs_nil, ev_varS, ev_var0, Option.bind_some, Option.map_some]) (by show (lstOf _ P).map _ = _; rw [hP1]; simp [rowsD])
        (fun j ρ s => ∃ Q J2 y4, ρ = [some (.int (k : Nat)), some (.ref P), some (.int (i : Nat)), some (.ref Q), y4, x5] ∧ s = st ++ J ++ [.lst []] ++ J2 ∧ lstOf s Q = some (((rows i).take j).map nextD).flatten ∧ st.length ≤ Q) ⟨(st ++ J).length, [], x4, rfl, by simp, lst_mid _ _ _, by simp⟩ (by
          rintro j ρ s hj ⟨Q, J2, y4, rfl, rfl, hQ, hQl⟩
          have er : (rows i)[j]? = some (rows i)[j] := List.getElem?_eq_getElem hj
          have hrl : ((rows i)[j]).length = i := (mem_rows i _).mp (List.getElem_mem hj)
          obtain ⟨J3, Q', e3, h3, h4⟩ := li_turn (calls FS gl n) (.int (k : Nat)) (some (.int (i : Nat))) x5 (rows i)[j] (st ++ J ++ [.lst []] ++ J2) P Q _ (by omega) hQ (by rw [flat3, List.length_take]; omega)
          refine ⟨encR (rows i)[j], .nx, [some (.int (k : Nat)), some (.ref P), some (.int (i : Nat)), some (.ref Q'), some (encR (rows i)[j]), x5], st ++ J ++ [.lst []] ++ J2 ++ J3, ?_, ?_, .inl rfl, Q', J2 ++ J3, _, rfl, by simp only [List.append_assoc], ?_, by simp at h4; omega⟩
          · show (lstOf _ P).bind _ = _
            rw [lst_old hP1]
            show (rowsD i)[j]? = _
            rw [rowsD, List.getElem?_map, er]; rfl
          · have g0 : asgD (.nm 4) (encR (rows i)[j]) (st ++ J ++ [.lst []] ++ J2) [some (.int (k : Nat)), some (.ref P), some (.int (i : Nat)), some (.ref Q), y4, x5] = some [some (.int (k : Nat)), some (.ref P), some (.int (i : Nat)), some (.ref Q), some (encR (rows i)[j]), x5] := rfl
            rw [g0]
            show exs _ gl (calls FS gl n) _ _ = _
            rw [exs_step e3 rfl]
            rfl
          · rw [h3, take_one' er, List.map_append, List.flatten_append]
            simp) (by
          rintro ρ s ⟨Q, J2, y4, _, rfl, _⟩
          show (match lstOf _ P with | some ds => decide (ds.length ≤ (rows i).length) | none => false) = true
          rw [lst_old hP1]
          simp [rowsD])
      rw [List.take_length, ← rowsD_succ] at hQ
      refine ⟨.nx, [some (.int (k : Nat)), some (.ref Q), some (.int (i : Nat)), some (.ref Q), y4, x5], st ++ J ++ [.lst []] ++ J2, ?_, .inl rfl, _, _, _, _, Q, J ++ [.lst []] ++ J2, rfl, by simp only [List.append_assoc], hQ, hQl⟩
      rw [f0]
      show exs _ gl (calls FS gl n) _ _ = _
      have f3 : ex (.asg (.nm 1) (.var 3)) gl (calls FS gl n) [some (.int (k : Nat)), some (.ref P), some (.int (i : Nat)), some (.ref Q), y4, x5] (st ++ J ++ [.lst []] ++ J2) = some (.nx, [some (.int (k : Nat)), some (.ref Q), some (.int (i : Nat)), some (.ref Q), y4, x5], st ++ J ++ [.lst []] ++ J2) := rfl
      rw [exs_step f1 rfl, exs_step e2 rfl, exs_step f3 rfl]
      rfl)
  refine ⟨J, P, ?_, hP, hPl⟩
  refine cl_ret (d := d15.df) (ρ' := [some (.int (k : Nat)), some (.ref P), x2, x3, x4, x5]) rfl rfl ?_
  show exs b15 gl (calls FS gl n) [some (.int (k : Nat)), none, none, none, none, none] st = _
  have a1 : ex (.asg (.nm 1) (.lst [(.tup [])])) gl (calls FS gl n) [some (.int (k : Nat)), none, none, none, none, none] st = some (.nx, [some (.int (k : Nat)), some (.ref st.length), none, none, none, none], st ++ [.lst [.tup []]]) := by
    simp only [ex_asg, ev_lst, evs_cons, evs_nil, ev_tup, Option.bind_some, Option.map_some, List.length_cons, List.length_nil, Nat.zero_add, if_pos hz0, if_pos hz1, new_eq, asgD_nm]
    rfl
  have a3 : ex (.ret (.var 1)) gl (calls FS gl n) [some (.int (k : Nat)), some (.ref P), x2, x3, x4, x5] (st ++ J) = some (.rt (.ref P), [some (.int (k : Nat)), some (.ref P), x2, x3, x4, x5], st ++ J) := rfl
  show exs [.asg (.nm 1) (.lst [(.tup [])]), .for_ .rng1 [(.var 0)] (.nm 2) [.asg (.nm 3) (.lst []), .for_ .one [(.var 1)] (.nm 4) [liS], .asg (.nm 1) (.var 3)], .ret (.var 1)] gl (calls FS gl n) _ st = _
  rw [exs_step a1 rfl, exs_step a2 rfl, exs_ret a3]
end K71
end
section
set_option Elab.async false
set_option linter.all false
set_option maxRecDepth 100000
set_option maxHeartbeats 1000000
namespace K71
open Dz PySem
theorem eq_ij (i j : Int) (st : Sto) : eqD st (.int i) (.int j) = some (decide (i = j)) := by
  simp [eqD, toP, toPw, SeqAt.shaped, PyData.canLay0, PyData.depth, PyData.eqv]
  rw [Bool.eq_iff_iff]; simp
theorem isN_enc (x : It) : isN (enc x) = x.isNone := by rcases x with _ | _ <;> rfl
/-! ### all(..) of bools whose store stays -/
theorem all_bs {J : IT} {B : D → Sto → Option (Option D × Sto)} {st : Sto} {bs : List Bool} (hb : ∀ (i : Nat) (c : Bool), bs[i]? = some c → ∃ x, nxD J i st = some x ∧ B x st = some (some (.bl c), st)) (he : stD J bs.length st = true) :
    ∀ (r i : Nat), i + r = bs.length → loopG .all J B r i (.bl true) st = some (.bl ((bs.drop i).all id), st)
  | 0, i, h => by
    have e : i = bs.length := by omega
    subst e
    show (if stD J bs.length st then _ else _) = _
    rw [if_pos he, List.drop_length]
    rfl
  | r + 1, i, h => by
    have hi : i < bs.length := by omega
    obtain ⟨x, e1, e2⟩ := hb i bs[i] (List.getElem?_eq_getElem hi)
    rw [List.drop_eq_getElem_cons hi, List.all_cons]
    show (nxD J i st).bind _ = _
    rw [e1]
    show (B x st).bind _ = _
    rw [e2]
    cases hc : bs[i] with
    | true =>
      show loopG .all J B r (i + 1) (.bl true) st = _
      rw [all_bs hb he r (i + 1) (by omega)]
      simp
    | false => rfl
theorem run_tells_more (m : Nat) (a b : List It) (st : Sto) : callD FS gl (m + 1) 1 [encR a, encR b] st = some (.bl (more a b), st) := by
  refine cl_ret (d := d1.df) (ρ' := [some (encR a), some (encR b), none, none]) rfl rfl ?_
  show exs b1 gl (calls FS gl (m + 1)) [some (encR a), some (encR b), none, none] st = _
  have g1 : ev (.cmp .ne (.var 0) (.var 1)) gl (calls FS gl (m + 1)) [some (encR a), some (encR b), none, none] st = some (.bl (!decide (a = b)), st) := by
    simp only [ev_cmp, ev_varS, ev_var0, Option.bind_some, cmp_ne, eq_encR, Option.map_some]
  have g2 : ev (.gen .all .zip [(.var 0), (.var 1)] (.tp [(.nm 2), (.nm 3)]) [] (.or [(.cmp .is (.var 2) .non), (.cmp .eq (.var 2) (.var 3))]) [2, 3]) gl (calls FS gl (m + 1)) [some (encR a), some (encR b), none, none] st = some (.bl ((a.zip b).all fun p => p.1.isNone || decide (p.1 = p.2)), st) := by
    rw [calls_succ, ev_genE]
    have e1 : evs [(.var 0), (.var 1)] gl (callD FS gl m :: calls FS gl m) [some (encR a), some (encR b), none, none] st = some ([encR a, encR b], st) := rfl
    have e2 : itD .zip [encR a, encR b] st = some (.zpT (a.map enc) (b.map enc), min (a.map enc).length (b.map enc).length) := rfl
    simp only [e1, Option.bind_some, e2]
    have hl : min (a.map enc).length (b.map enc).length = ((a.zip b).map fun p => p.1.isNone || decide (p.1 = p.2)).length := by simp [List.length_zip]
    rw [hl]
    refine (all_bs (bs := (a.zip b).map fun p => p.1.isNone || decide (p.1 = p.2)) (fun i c hc => ?_) ?_ _ 0 (by simp)).trans ?_
    · rw [List.getElem?_map] at hc
      obtain ⟨⟨x, y⟩, hp, rfl⟩ := Option.map_eq_some_iff.mp hc
      obtain ⟨hx, hy⟩ := List.getElem?_zip_eq_some.mp hp
      refine ⟨.tup [enc x, enc y], ?_, ?_⟩
      · show pair2 (a.map enc)[i]? (b.map enc)[i]? = _
        rw [List.getElem?_map, List.getElem?_map, hx, hy]; rfl
      · have k0 : asgD (.tp [(.nm 2), (.nm 3)]) (.tup [enc x, enc y]) st (wipeD [some (encR a), some (encR b), none, none] [2, 3]) = some [some (encR a), some (encR b), some (enc x), some (enc y)] := rfl
        have k1 : ev (.or [(.cmp .is (.var 2) .non), (.cmp .eq (.var 2) (.var 3))]) gl (calls FS gl m) [some (encR a), some (encR b), some (enc x), some (enc y)] st = some (.bl (x.isNone || decide (x = y)), st) := by
          simp only [ev_or, evOr_cons, ev_cmp, ev_varS, ev_var0, ev_non, Option.bind_some, cmp_isN, isN_enc, Option.map_some, List.isEmpty_cons, List.isEmpty_nil, Bool.false_eq_true, if_false, if_true, cmp_eq, eq_enc]
          cases x.isNone <;> simp
        simp only [k0, Option.bind_some, evTA_nil, if_true, k1, Option.map_some]
    · show decide (min (a.map enc).length (b.map enc).length ≤ _) = true
      rw [hl]; simp
    · simp only [List.drop_zero, List.all_map]
      rfl
  have g3 : ex (.ret (.and [(.cmp .ne (.var 0) (.var 1)), (.gen .all .zip [(.var 0), (.var 1)] (.tp [(.nm 2), (.nm 3)]) [] (.or [(.cmp .is (.var 2) .non), (.cmp .eq (.var 2) (.var 3))]) [2, 3])])) gl (calls FS gl (m + 1)) [some (encR a), some (encR b), none, none] st = some (.rt (.bl (more a b)), [some (encR a), some (encR b), none, none], st) := by
    simp only [ex_ret, ev_and, evAnd_cons, g1, Option.bind_some, List.isEmpty_cons, List.isEmpty_nil, Bool.false_eq_true, if_false, if_true, g2]
    unfold more
    cases h : decide (a = b) <;> simp
  unfold b1
  rw [exs_ret g3]
/-! ### _law_more -/
def bad (a b : List It) (k : Nat) : Bool := match a[k]?, b[k]? with
  | some x, some y => !x.isNone && !decide (x = y)
  | _, _ => false
theorem bad_all (a b : List It) (h : a.length = b.length) : ((a.zip b).all fun p => p.1.isNone || decide (p.1 = p.2)) = ((List.range a.length).filter (bad a b)).isEmpty := by
  rw [Bool.eq_iff_iff, List.all_eq_true, List.isEmpty_iff, List.filter_eq_nil_iff]
  constructor
  · intro q k hk
    rw [List.mem_range] at hk
    have hk2 : k < b.length := by omega
    have hm : (a[k], b[k]) ∈ a.zip b := List.mem_of_getElem? (i := k) (List.getElem?_zip_eq_some.mpr ⟨List.getElem?_eq_getElem hk, List.getElem?_eq_getElem hk2⟩)
    have := q _ hm
    simp only [Bool.or_eq_true, decide_eq_true_eq] at this
    unfold bad
    rw [List.getElem?_eq_getElem hk, List.getElem?_eq_getElem hk2]
    simp only [Bool.and_eq_true, Bool.not_eq_true', decide_eq_false_iff_not, not_and, Decidable.not_not]
    intro hn
    rcases this with z | z
    · rw [hn] at z; cases z
    · exact z
  · intro q p hp
    obtain ⟨k, hk⟩ := List.mem_iff_getElem?.mp hp
    obtain ⟨hx, hy⟩ := List.getElem?_zip_eq_some.mp hk
    have := q k (List.mem_range.mpr (List.getElem?_eq_some_iff.mp hx).1)
    unfold bad at this
    rw [hx, hy] at this
    simp only [Bool.and_eq_true, Bool.not_eq_true', decide_eq_false_iff_not, not_and, Decidable.not_not] at this
    simp only [Bool.or_eq_true, decide_eq_true_eq]
    cases hn : p.1.isNone with
    | true => exact .inl rfl
    | false => exact .inr (this hn)
theorem more_bad (a b : List It) (h : a.length = b.length) (hne : a ≠ b) : more a b = decide ((((List.range a.length).filter (bad a b)).length : Int) = 0) := by
  unfold more
  rw [bad_all a b h, decide_eq_false hne]
  cases (List.range a.length).filter (bad a b) with
  | nil => rfl
  | cons x l => simp; omega
theorem run_law_more (n : Nat) (a b : List It) (st : Sto) (h : a.length = b.length) (hs : a.length ≤ 1000) : ∃ J, callD FS gl n 16 [encR a, encR b] st = some (.bl (more a b), st ++ J) := by
  have hT : evT (.cmp .eq (.var 0) (.var 1)) gl (calls FS gl n) [some (encR a), some (encR b), none] st = some (decide (a = b), st) := by
    simp only [evT_cmp, ev_varS, ev_var0, Option.bind_some, cmp_eq, eq_encR, Option.map_some]
  by_cases hne : a = b
  · refine ⟨[], ?_⟩
    have hm : more a b = false := by unfold more; rw [decide_eq_true hne]; rfl
    rw [hm, List.append_nil]
    refine cl_ret (d := d16.df) (ρ' := [some (encR a), some (encR b), none]) rfl rfl ?_
    show exs b16 gl (calls FS gl n) [some (encR a), some (encR b), none] st = _
    have e8 : ex (.ife (.cmp .eq (.var 0) (.var 1)) [.ret (.bl false)] []) gl (calls FS gl n) [some (encR a), some (encR b), none] st = some (.rt (.bl false), [some (encR a), some (encR b), none], st) := by
      rw [ex_ife, hT, decide_eq_true hne]; rfl
    unfold b16
    rw [exs_ret e8]
  · obtain ⟨acc, st', e, rfl, rfl⟩ := ev_comp (g := gl) (C := calls FS gl n) (ik := .rng1) (src := [(.bi .len [(.var 0)])]) (tg := .nm 2) (cnd := [(.and [(.cmp .isn (.idx (.var 0) (.var 2)) .non), (.cmp .ne (.idx (.var 0) (.var 2)) (.idx (.var 1) (.var 2)))])]) (elt := .var 2) (own := [2])
      (ρ := [some (encR a), some (encR b), none]) (st := st) (st0 := st) (xs := [.int (a.length : Nat)]) (J := .rng 0 1 a.length) (N := a.length) (by simp [encR]) (by
        have : inR (a.length : Int) = true := by simp [inR]; omega
        simp [itD, this])
      (fun i acc s => acc = ((List.range i).filter (bad a b)).map (fun k => D.int (k : Nat)) ∧ s = st) ⟨rfl, rfl⟩ (by
        rintro i acc s hi ⟨rfl, rfl⟩
        have hi2 : i < b.length := by omega
        have ea : L2.atI (a.map enc) (i : Int) = some (enc a[i]) := L2.atI_nat (by rw [List.getElem?_map, List.getElem?_eq_getElem hi]; rfl)
        have eb : L2.atI (b.map enc) (i : Int) = some (enc b[i]) := L2.atI_nat (by rw [List.getElem?_map, List.getElem?_eq_getElem hi2]; rfl)
        have hbad : bad a b i = (!(a[i]).isNone && !decide (a[i] = b[i])) := by
          unfold bad
          rw [List.getElem?_eq_getElem hi, List.getElem?_eq_getElem hi2]
        refine ⟨.int (i : Nat), if bad a b i then some (.int (i : Nat)) else none, s, by simp [nxD, hi], ?_, ?_, ?_, rfl⟩
        · have k0 : asgD (.nm 2) (.int (i : Nat)) s (wipeD [some (encR a), some (encR b), none] [2]) = some [some (encR a), some (encR b), some (.int (i : Nat))] := rfl
          have k1 : evTA [(.and [(.cmp .isn (.idx (.var 0) (.var 2)) .non), (.cmp .ne (.idx (.var 0) (.var 2)) (.idx (.var 1) (.var 2)))])] gl (calls FS gl n) [some (encR a), some (encR b), some (.int (i : Nat))] s = some (bad a b i, s) := by
            have x0 : ∀ x : List It, idxD (encR x) (.int (i : Nat)) s = L2.atI (x.map enc) (i : Nat) := fun x => rfl
            simp only [evTA_cons, evTA_nil, evT_and, evT_cmp, ev_idx, ev_varS, ev_var0, ev_non, Option.bind_some, x0, ea, eb, Option.map_some, cmp_isnN, isN_enc, cmp_ne, eq_enc, hbad]
            cases (a[i]).isNone <;> cases decide (a[i] = b[i]) <;> rfl
          simp only [k0, Option.bind_some, k1]
          cases bad a b i <;> rfl
        · intro _
          rw [sizeLine_eq, List.length_map]
          have := List.length_filter_le (bad a b) (List.range i)
          simp at this; omega
        · rw [List.range_succ, List.filter_append, List.map_append]
          cases hb : bad a b i <;> simp [List.filter_cons, hb]) (by
        rintro acc s ⟨_, rfl⟩
        simp [stD])
    refine ⟨[.lst (((List.range a.length).filter (bad a b)).map (fun k => D.int (k : Nat)))], ?_⟩
    refine cl_ret (d := d16.df) (ρ' := [some (encR a), some (encR b), none]) rfl rfl ?_
    show exs b16 gl (calls FS gl n) [some (encR a), some (encR b), none] st' = _
    have e8 : ex (.ife (.cmp .eq (.var 0) (.var 1)) [.ret (.bl false)] []) gl (calls FS gl n) [some (encR a), some (encR b), none] st' = some (.nx, [some (encR a), some (encR b), none], st') := by
      rw [ex_ife, hT, decide_eq_false hne]; rfl
    have e9 : ex (.ret (.cmp .eq (.bi .len [(.lc .rng1 [(.bi .len [(.var 0)])] (.nm 2) [(.and [(.cmp .isn (.idx (.var 0) (.var 2)) .non), (.cmp .ne (.idx (.var 0) (.var 2)) (.idx (.var 1) (.var 2)))])] (.var 2) [2])]) (.int 0))) gl (calls FS gl n) [some (encR a), some (encR b), none] st' = some (.rt (.bl (more a b)), [some (encR a), some (encR b), none], st' ++ [.lst (((List.range a.length).filter (bad a b)).map (fun k => D.int (k : Nat)))]) := by
      simp only [ex_ret, ev_cmp, ev_bi, evs_cons, evs_nil, e, Option.bind_some, Option.map_some, len_ref, lst_mid, ev_int, cmp_eq, eq_ij, List.length_map, more_bad a b h hne]
    unfold b16
    rw [exs_step e8 rfl, exs_ret e9]
end K71
end
section
set_option Elab.async false
set_option linter.all false
set_option maxRecDepth 100000
set_option maxHeartbeats 1000000
namespace K71
open Dz PySem
section
variable {g : Str → Option D} {C : List CS} {ρ ρ' : Dz.Env} {st J : Sto}
theorem ev_dget (o k : E) : ev (.dget o k) g C ρ st = (ev o g C ρ st).bind fun r => (ev k g C ρ r.2).bind fun q => (dgetD r.1 q.1 q.2).map fun d => (d, q.2) := rfl
theorem ex_dset (o k v : E) : ex (.dset o k v) g C ρ st = (ev v g C ρ st).bind fun z => (ev o g C ρ z.2).bind fun r => (ev k g C ρ r.2).bind fun q => (dsetD r.1 q.1 z.1 q.2).map fun s => (.nx, ρ, s) := rfl
theorem ex_lock (i : Nat) (s : S) : ex (.lock i s) g C ρ st = (lockD i ρ st).bind fun q => (ex s g C ρ q.2.2.2).bind fun r => if (dicOf r.2.2 (.ref q.1)).isSome then some (r.1, r.2.1, freeD q.1 q.2.1 q.2.2.1 r.2.2) else none := rfl
theorem set_self' {α : Type} {l : List α} {k : Nat} {x : α} (h : l[k]? = some x) : l.set k x = l := by
  obtain ⟨hk, rfl⟩ := List.getElem?_eq_some_iff.mp h
  exact List.set_getElem_self hk
theorem lock_run {i T : Nat} {lk : Bool} {kvs : KVs} {s : S} {fl : Fl} (h1 : ρ[i]? = some (some (.ref T))) (h2 : st[T]? = some (.dic lk kvs)) (h : ex s g C ρ (st.set T (.dic true kvs)) = some (fl, ρ', st.set T (.dic true kvs) ++ J)) : ex (.lock i s) g C ρ st = some (fl, ρ', st ++ J) := by
  have hT : T < st.length := (List.getElem?_eq_some_iff.mp h2).1
  have e1 : lockD i ρ st = some (T, lk, kvs, st.set T (.dic true kvs)) := by
    unfold lockD
    rw [h1]
    simp only [h2]
  have e2 : (st.set T (.dic true kvs) ++ J)[T]? = some (.dic true kvs) := by
    rw [List.getElem?_append_left (by simpa using hT), List.getElem?_set_self hT]
  have e3 : (st.set T (.dic true kvs) ++ J).set T (.dic lk kvs) = st ++ J := by
    rw [List.set_append_left _ _ (by simpa using hT), List.set_set, set_self' h2]
  rw [ex_lock, e1]
  simp only [Option.bind_some, h, dicOf, e2, Option.isSome_some, if_true, freeD, e3]
end
/-- the table's dict stands at T -/
def TbAt (st : Sto) (T : Nat) (f : List It → It) (l : List (List It)) : Prop := ∃ lk, st[T]? = some (.dic lk (tb f l))
theorem TbAt.app {st J : Sto} {T : Nat} {f : List It → It} {l : List (List It)} (h : TbAt st T f l) : TbAt (st ++ J) T f l := by
  obtain ⟨lk, h⟩ := h
  exact ⟨lk, by rw [List.getElem?_append_left (List.getElem?_eq_some_iff.mp h).1]; exact h⟩
theorem TbAt.get {st : Sto} {T : Nat} {f : List It → It} {l : List (List It)} (h : TbAt st T f l) {r : List It} (hr : r ∈ l) : dgetD (.ref T) (encR r) st = some (enc (f r)) := by
  obtain ⟨lk, h⟩ := h
  unfold dgetD dicOf
  simp only [h, Option.bind_some, kOf_enc, dGet_tb f hr]
theorem TbAt.locked {st : Sto} {T : Nat} {lk : Bool} {f : List It → It} {l : List (List It)} (h : st[T]? = some (.dic lk (tb f l))) : (st.set T (.dic true (tb f l)))[T]? = some (.dic true (tb f l)) :=
  List.getElem?_set_self (List.getElem?_eq_some_iff.mp h).1
theorem it_tb {st : Sto} {T : Nat} {f : List It → It} {l : List (List It)} (h : st[T]? = some (.dic true (tb f l))) : itD .dic [.ref T] st = some (.keys (l.map encR), l.length) := by
  show (match st[T]? with | some (.dic true kvs) => some (IT.keys (kvs.map fun q : NestedKey × D × D => q.2.1), kvs.length) | _ => none) = _
  rw [h]
  simp only [tb, List.length_map, List.map_map]
  rfl
/-! ### the first fall -/
def fls (f : List It → It) (r o : List It) : Bool := !(f r).isNone && (more r o && !decide (f o = f r))
def hit (f : List It → It) (r o : List It) : Option (List It × List It) := if fls f r o then some (r, o) else none
def fallP (f : List It → It) (l : List (List It)) : Option (List It × List It) := l.findSome? fun r => l.findSome? (hit f r)
theorem find_take {α β : Type} {g : α → Option β} {l : List α} {i : Nat} {x : α} (h : l[i]? = some x) (hn : (l.take i).findSome? g = none) :
    (g x = none → (l.take (i + 1)).findSome? g = none) ∧ ∀ p, g x = some p → l.findSome? g = some p := by
  have e : l.take (i + 1) = l.take i ++ [x] := take_one' h
  refine ⟨fun hx => by rw [e, List.findSome?_append, hn]; simp [hx], fun p hx => ?_⟩
  have : l.findSome? g = (l.take (i + 1) ++ l.drop (i + 1)).findSome? g := by rw [List.take_append_drop]
  rw [this, List.findSome?_append, e, List.findSome?_append, hn]
  simp [hx]
def flI : S := .for_ .dic [(.var 0)] (.nm 2)
    [.ife (.and [(.cmp .isn (.dget (.var 0) (.var 1)) .non), (.val (.call 1 [(.var 1), (.var 2)])), (.cmp .ne (.dget (.var 0) (.var 2)) (.dget (.var 0) (.var 1)))])
      [.ret (.tup [(.var 1), (.var 2)])]
      []]
theorem fl_in (m T : Nat) (f : List It → It) (l : List (List It)) (r : List It) (x2 : Option D) (st : Sto) (hr : r ∈ l) (h : st[T]? = some (.dic true (tb f l))) :
    (∃ y2, ex flI gl (calls FS gl (m + 1 + 1)) [some (.ref T), some (encR r), x2] st = some (.nx, [some (.ref T), some (encR r), y2], st) ∧ l.findSome? (hit f r) = none) ∨
    ∃ p ρ', ex flI gl (calls FS gl (m + 1 + 1)) [some (.ref T), some (encR r), x2] st = some (.rt (.tup [encR p.1, encR p.2]), ρ', st) ∧ l.findSome? (hit f r) = some p := by
  have hz2 : 2 ≤ sizeLine := by rw [sizeLine_eq]; omega
  have hT : TbAt st T f l := ⟨true, h⟩
  have key := ex_forR (g := gl) (C := calls FS gl (m + 1 + 1)) (ik := .dic) (src := [.var 0]) (tg := .nm 2) (b := [.ife (.and [(.cmp .isn (.dget (.var 0) (.var 1)) .non), (.val (.call 1 [(.var 1), (.var 2)])), (.cmp .ne (.dget (.var 0) (.var 2)) (.dget (.var 0) (.var 1)))])
      [.ret (.tup [(.var 1), (.var 2)])]
      []]) (ρ := [some (.ref T), some (encR r), x2]) (st := st) (st0 := st) (xs := [.ref T]) (J := .keys (l.map encR)) (N := l.length) rfl (it_tb h)
    (fun i ρ s => s = st ∧ ∃ y2, ρ = [some (.ref T), some (encR r), y2] ∧ (l.take i).findSome? (hit f r) = none)
    (fun v ρ s => s = st ∧ ∃ p, l.findSome? (hit f r) = some p ∧ v = .tup [encR p.1, encR p.2]) ⟨rfl, x2, rfl, rfl⟩ (by
      rintro i ρ s hi ⟨rfl, y2, rfl, hn⟩
      have eo : l[i]? = some l[i] := List.getElem?_eq_getElem hi
      have ho : l[i] ∈ l := List.getElem_mem hi
      generalize l[i] = o at eo ho
      refine ⟨encR o, by show (l.map encR)[i]? = _; rw [List.getElem?_map, eo]; rfl, ?_⟩
      have f0 : asgD (.nm 2) (encR o) s [some (.ref T), some (encR r), y2] = some [some (.ref T), some (encR r), some (encR o)] := rfl
      have hTT : evT (.and [(.cmp .isn (.dget (.var 0) (.var 1)) .non), (.val (.call 1 [(.var 1), (.var 2)])), (.cmp .ne (.dget (.var 0) (.var 2)) (.dget (.var 0) (.var 1)))]) gl (calls FS gl (m + 1 + 1)) [some (.ref T), some (encR r), some (encR o)] s = some (fls f r o, s) := by
        simp only [evT_and, evTA_cons, evTA_nil, evT_cmp, evT_val, ev_dget, ev_call, evs_cons, evs_nil, ev_varS, ev_var0, ev_non, Option.bind_some, Option.map_some, hT.get hr, hT.get ho, cmp_isnN, isN_enc, run_tells_more, truD_bl, cmp_ne, eq_enc]
        unfold fls
        cases (f r).isNone <;> cases more r o <;> cases decide (f o = f r) <;> rfl
      obtain ⟨g1, g2⟩ := find_take (g := hit f r) eo hn
      cases hf : fls f r o with
      | false =>
        have : hit f r o = none := by unfold hit; rw [hf]; rfl
        refine .inl ⟨[some (.ref T), some (encR r), some (encR o)], s, ?_, rfl, _, rfl, g1 this⟩
        rw [f0]
        show exs _ gl (calls FS gl (m + 1 + 1)) _ _ = _
        rw [exs_cons, ex_ife, hTT, hf]; rfl
      | true =>
        have : hit f r o = some (r, o) := by unfold hit; rw [hf]; rfl
        refine .inr ⟨.tup [encR r, encR o], [some (.ref T), some (encR r), some (encR o)], s, ?_, rfl, (r, o), g2 _ this, rfl⟩
        rw [f0]
        show exs _ gl (calls FS gl (m + 1 + 1)) _ _ = _
        have e9 : ex (.ret (.tup [(.var 1), (.var 2)])) gl (calls FS gl (m + 1 + 1)) [some (.ref T), some (encR r), some (encR o)] s = some (.rt (.tup [encR r, encR o]), [some (.ref T), some (encR r), some (encR o)], s) := by
          simp only [ex_ret, ev_tup, evs_cons, evs_nil, ev_varS, ev_var0, Option.bind_some, Option.map_some, List.length_cons, List.length_nil, Nat.zero_add, Nat.reduceAdd, if_pos hz2]
        rw [exs_cons, ex_ife, hTT, hf]
        show (exs _ gl (calls FS gl (m + 1 + 1)) _ _).bind _ = _
        rw [exs_ret e9]; rfl) (by
      rintro ρ s ⟨rfl, _⟩
      simp [stD])
  rcases key with ⟨ρ', st', e, rfl, y2, rfl, hn⟩ | ⟨v, ρ', st', e, rfl, p, hp, rfl⟩
  · rw [List.take_length] at hn
    exact .inl ⟨y2, e, hn⟩
  · exact .inr ⟨p, ρ', e, hp⟩
def fallD : Option (List It × List It) → D
  | none => .non
  | some p => .tup [encR p.1, encR p.2]
theorem run_fall_of (m T : Nat) (f : List It → It) (l : List (List It)) (st : Sto) (h : st[T]? = some (.dic false (tb f l))) : callD FS gl (m + 1 + 1) 2 [.ref T] st = some (fallD (fallP f l), st) := by
  have hl := TbAt.locked h
  generalize hs0 : st.set T (.dic true (tb f l)) = s0 at hl
  have key := ex_forR (g := gl) (C := calls FS gl (m + 1 + 1)) (ik := .dic) (src := [.var 0]) (tg := .nm 1) (b := [.lock 0 flI]) (ρ := [some (.ref T), none, none]) (st := s0) (st0 := s0) (xs := [.ref T]) (J := .keys (l.map encR)) (N := l.length) rfl (it_tb hl)
    (fun i ρ s => s = s0 ∧ ∃ x1 y2, ρ = [some (.ref T), x1, y2] ∧ (l.take i).findSome? (fun r => l.findSome? (hit f r)) = none)
    (fun v ρ s => s = s0 ∧ ∃ p, fallP f l = some p ∧ v = .tup [encR p.1, encR p.2]) ⟨rfl, none, none, rfl, rfl⟩ (by
      rintro i ρ s hi ⟨rfl, x1, y2, rfl, hn⟩
      have eo : l[i]? = some l[i] := List.getElem?_eq_getElem hi
      have ho : l[i] ∈ l := List.getElem_mem hi
      generalize l[i] = r at eo ho
      refine ⟨encR r, by show (l.map encR)[i]? = _; rw [List.getElem?_map, eo]; rfl, ?_⟩
      have f0 : asgD (.nm 1) (encR r) s [some (.ref T), x1, y2] = some [some (.ref T), some (encR r), y2] := rfl
      obtain ⟨g1, g2⟩ := find_take (g := fun r => l.findSome? (hit f r)) eo hn
      have ss : s.set T (.dic true (tb f l)) = s := set_self' hl
      rcases fl_in m T f l r y2 s ho hl with ⟨z2, e, hh⟩ | ⟨p, ρ', e, hh⟩
      · have e' : ex (.lock 0 flI) gl (calls FS gl (m + 1 + 1)) [some (.ref T), some (encR r), y2] s = some (.nx, [some (.ref T), some (encR r), z2], s ++ []) := lock_run (J := []) rfl hl (by rw [ss, List.append_nil]; exact e)
        rw [List.append_nil] at e'
        refine .inl ⟨[some (.ref T), some (encR r), z2], s, ?_, rfl, _, _, rfl, g1 hh⟩
        rw [f0]
        show exs _ gl (calls FS gl (m + 1 + 1)) _ _ = _
        rw [exs_step e' rfl]; rfl
      · have e' : ex (.lock 0 flI) gl (calls FS gl (m + 1 + 1)) [some (.ref T), some (encR r), y2] s = some (.rt (.tup [encR p.1, encR p.2]), ρ', s ++ []) := lock_run (J := []) rfl hl (by rw [ss, List.append_nil]; exact e)
        rw [List.append_nil] at e'
        refine .inr ⟨.tup [encR p.1, encR p.2], ρ', s, ?_, rfl, p, g2 p hh, rfl⟩
        rw [f0]
        show exs _ gl (calls FS gl (m + 1 + 1)) _ _ = _
        rw [exs_ret e']) (by
      rintro ρ s ⟨rfl, _⟩
      simp [stD])
  have b2_eq : b2 = [.lock 0 (.for_ .dic [(.var 0)] (.nm 1) [.lock 0 flI]), .ret .non] := rfl
  rcases key with ⟨ρ', st', e, rfl, x1, y2, rfl, hn⟩ | ⟨v, ρ', st', e, rfl, p, hp, rfl⟩
  · rw [List.take_length] at hn
    have e' : ex (.lock 0 (.for_ .dic [(.var 0)] (.nm 1) [.lock 0 flI])) gl (calls FS gl (m + 1 + 1)) [some (.ref T), none, none] st = some (.nx, [some (.ref T), x1, y2], st ++ []) := lock_run (J := []) rfl h (by rw [hs0, List.append_nil]; exact e)
    rw [List.append_nil] at e'
    have hp : fallP f l = none := hn
    rw [hp]
    refine cl_ret (d := d2.df) (ρ' := [some (.ref T), x1, y2]) rfl rfl ?_
    show exs b2 gl (calls FS gl (m + 1 + 1)) [some (.ref T), none, none] st = _
    rw [b2_eq, exs_step e' rfl]
    rfl
  · have e' : ex (.lock 0 (.for_ .dic [(.var 0)] (.nm 1) [.lock 0 flI])) gl (calls FS gl (m + 1 + 1)) [some (.ref T), none, none] st = some (.rt (.tup [encR p.1, encR p.2]), ρ', st ++ []) := lock_run (J := []) rfl h (by rw [hs0, List.append_nil]; exact e)
    rw [List.append_nil] at e'
    rw [hp]
    refine cl_ret (d := d2.df) (ρ' := ρ') rfl rfl ?_
    show exs b2 gl (calls FS gl (m + 1 + 1)) [some (.ref T), none, none] st = _
    rw [b2_eq, exs_ret e']
    rfl
end K71
end
section
set_option Elab.async false
set_option linter.all false
set_option maxRecDepth 100000
set_option maxHeartbeats 1000000
namespace K71
open Dz PySem
/-! ### must_be_asked -/
theorem lc_os {J : IT} {B : D → Sto → Option (Option D × Sto)} {st : Sto} {os : List (Option D)} (hb : ∀ (i : Nat) (o : Option D), os[i]? = some o → ∃ x, nxD J i st = some x ∧ B x st = some (o, st)) (he : stD J os.length st = true) :
    ∀ (r i : Nat) (acc : List D), i + r = os.length → acc.length + r ≤ sizeLine → loopC J B r i acc st = some (acc ++ (os.drop i).filterMap id, st)
  | 0, i, acc, h, hz => by
    have e : i = os.length := by omega
    subst e
    show (if stD J os.length st then _ else _) = _
    rw [if_pos he, List.drop_length]
    simp
  | r + 1, i, acc, h, hz => by
    have hi : i < os.length := by omega
    obtain ⟨x, e1, e2⟩ := hb i os[i] (List.getElem?_eq_getElem hi)
    rw [List.drop_eq_getElem_cons hi]
    show (nxD J i st).bind _ = _
    rw [e1]
    show (B x st).bind _ = _
    rw [e2]
    cases ho : os[i] with
    | none =>
      show loopC J B r (i + 1) acc st = _
      rw [lc_os hb he r (i + 1) _ (by omega) (by omega)]
      rfl
    | some y =>
      show (if acc.length < sizeLine then _ else none) = _
      rw [if_pos (by omega), lc_os hb he r (i + 1) _ (by omega) (by simp; omega)]
      simp
def tells (f : List It → It) (r o : List It) : Bool := more r o && !(f o).isNone
def ans (f : List It → It) (l : List (List It)) (r : List It) : List (List It) := l.filter (tells f r)
def ansD (f : List It → It) (l : List (List It)) (r : List It) : List D := (ans f l r).map encR
theorem ansD_os (f : List It → It) (l : List (List It)) (r : List It) : (l.map fun o => if tells f r o then some (encR o) else none).filterMap id = ansD f l r := by
  unfold ansD ans
  induction l with
  | nil => rfl
  | cons o l ih =>
    rw [List.map_cons, List.filterMap_cons, List.filter_cons]
    cases h : tells f r o with
    | true => simpa using ih
    | false => simpa using ih
theorem ans_lc (m T : Nat) (f : List It → It) (l : List (List It)) (r : List It) (x2 x3 x4 x5 : Option D) (st : Sto) (h : st[T]? = some (.dic true (tb f l))) (hl : l.length ≤ 1000) :
    ev (.lc .dic [(.var 0)] (.nm 5) [(.and [(.val (.call 1 [(.var 1), (.var 5)])), (.cmp .isn (.dget (.var 0) (.var 5)) .non)])] (.var 5) [5]) gl (calls FS gl (m + 1 + 1)) [some (.ref T), some (encR r), x2, x3, x4, x5] st = some (.ref st.length, st ++ [.lst (ansD f l r)]) := by
  have hT : TbAt st T f l := ⟨true, h⟩
  have e1 : evs [(.var 0)] gl (calls FS gl (m + 1 + 1)) [some (.ref T), some (encR r), x2, x3, x4, x5] st = some ([.ref T], st) := rfl
  show (evs _ _ _ _ _).bind _ = _
  rw [e1]
  simp only [Option.bind_some, it_tb h]
  rw [show l.length = (l.map fun o => if tells f r o then some (encR o) else none).length by simp]
  refine (congrArg (Option.map _) (lc_os (os := l.map fun o => if tells f r o then some (encR o) else none) (fun j y hy => ?hb) ?he _ 0 [] (by simp) (by simp [sizeLine_eq]; omega))).trans ?fin
  case fin => simp only [List.drop_zero, List.nil_append, ansD_os]; rfl
  case he => simp [stD]
  case hb =>
    rw [List.getElem?_map] at hy
    obtain ⟨o, ho, rfl⟩ := Option.map_eq_some_iff.mp hy
    have hm := List.mem_of_getElem? ho
    refine ⟨encR o, by show (l.map encR)[j]? = _; rw [List.getElem?_map, ho]; rfl, ?_⟩
    have k0 : asgD (.nm 5) (encR o) st (wipeD [some (.ref T), some (encR r), x2, x3, x4, x5] [5]) = some [some (.ref T), some (encR r), x2, x3, x4, some (encR o)] := rfl
    have k1 : evTA [(.and [(.val (.call 1 [(.var 1), (.var 5)])), (.cmp .isn (.dget (.var 0) (.var 5)) .non)])] gl (calls FS gl (m + 1 + 1)) [some (.ref T), some (encR r), x2, x3, x4, some (encR o)] st = some (tells f r o, st) := by
      simp only [evTA_cons, evTA_nil, evT_and, evT_val, evT_cmp, ev_call, evs_cons, evs_nil, ev_dget, ev_varS, ev_var0, ev_non, Option.bind_some, Option.map_some, run_tells_more, truD_bl, hT.get hm, cmp_isnN, isN_enc]
      unfold tells
      cases more r o <;> cases (f o).isNone <;> rfl
    simp only [k0, Option.bind_some, k1]
    cases tells f r o <;> rfl
/-- all that answered have an item there -/
def full (as : List (List It)) (k : Nat) : Bool := as.all fun o => !(o.getD k none).isNone
def askB (r : List It) (as : List (List It)) (k : Nat) : Bool := (r.getD k none).isNone && full as k
def askK (r : List It) (as : List (List It)) : Option Nat := (List.range r.length).find? (askB r as)
def mbaD (r : List It) (as : List (List It)) : D := if as.isEmpty then .int (-1) else match askK r as with
  | some k => .int (k : Nat)
  | none => .non
theorem full_gen (m T Q k : Nat) (r : List It) (as : List (List It)) (x4 x5 : Option D) (st : Sto) (hQ : lstOf st Q = some (as.map encR)) (hlen : ∀ o ∈ as, k < o.length) :
    ev (.gen .all .one [(.var 2)] (.nm 5) [] (.cmp .isn (.idx (.var 5) (.var 3)) .non) [5]) gl (calls FS gl (m + 1)) [some (.ref T), some (encR r), some (.ref Q), some (.int (k : Nat)), x4, x5] st = some (.bl (full as k), st) := by
  rw [calls_succ, ev_genE]
  have e1 : evs [(.var 2)] gl (callD FS gl m :: calls FS gl m) [some (.ref T), some (encR r), some (.ref Q), some (.int (k : Nat)), x4, x5] st = some ([.ref Q], st) := rfl
  have e2 : itD .one [.ref Q] st = some (.lst Q, (as.map fun o => !(o.getD k none).isNone).length) := by
    show (lstOf st Q).map _ = _
    rw [hQ]; simp
  simp only [e1, Option.bind_some, e2]
  refine (all_bs (bs := as.map fun o => !(o.getD k none).isNone) (fun i c hc => ?_) ?_ _ 0 (by simp)).trans ?_
  · rw [List.getElem?_map] at hc
    obtain ⟨o, ho, rfl⟩ := Option.map_eq_some_iff.mp hc
    have hk := hlen o (List.mem_of_getElem? ho)
    have ek : L2.atI (o.map enc) (k : Int) = some (enc (o.getD k none)) := L2.atI_nat (by rw [List.getElem?_map, List.getElem?_eq_getElem hk, List.getD_eq_getElem?_getD, List.getElem?_eq_getElem hk]; rfl)
    refine ⟨encR o, by show (lstOf st Q).bind _ = _; rw [hQ]; show (as.map encR)[i]? = _; rw [List.getElem?_map, ho]; rfl, ?_⟩
    have k0 : asgD (.nm 5) (encR o) st (wipeD [some (.ref T), some (encR r), some (.ref Q), some (.int (k : Nat)), x4, x5] [5]) = some [some (.ref T), some (encR r), some (.ref Q), some (.int (k : Nat)), x4, some (encR o)] := rfl
    have x0 : idxD (encR o) (.int (k : Nat)) st = L2.atI (o.map enc) (k : Nat) := rfl
    simp only [k0, Option.bind_some, evTA_nil, if_true, ev_cmp, ev_idx, ev_varS, ev_var0, ev_non, x0, ek, Option.map_some, cmp_isnN, isN_enc]
  · show (match lstOf st Q with | some ds => decide (ds.length ≤ _) | none => false) = true
    rw [hQ]; simp
  · simp only [List.drop_zero, List.all_map]
    rfl
def mbI : S := .ife (.and [(.cmp .is (.var 4) .non), (.val (.gen .all .one [(.var 2)] (.nm 5) [] (.cmp .isn (.idx (.var 5) (.var 3)) .non) [5]))]) [.ret (.var 3)] []
theorem find_range {p : Nat → Bool} {n i : Nat} (hi : i < n) (hn : ∀ j, j < i → p j = false) : p i = true → (List.range n).find? p = some i := by
  intro h
  have e : List.range n = List.range i ++ (List.range n).drop i := by
    conv => lhs; rw [← List.take_append_drop i (List.range n)]
    congr 1
    rw [List.take_range]
    congr 1; omega
  rw [e, List.find?_append]
  have : (List.range i).find? p = none := List.find?_eq_none.mpr fun x hx => by simp [hn x (List.mem_range.mp hx)]
  rw [this, List.drop_eq_getElem_cons (by simpa using hi)]
  simp [List.find?_cons, h]
theorem run_must (m T : Nat) (f : List It → It) (l : List (List It)) (r : List It) (st : Sto) (h : st[T]? = some (.dic false (tb f l))) (hl : l.length ≤ 1000) (hlen : ∀ o ∈ l, o.length = r.length) :
    callD FS gl (m + 1 + 1) 3 [.ref T, encR r] st = some (mbaD r (ans f l r), st ++ [.lst (ansD f l r)]) := by
  have hlk := TbAt.locked h
  have hTl : T < st.length := (List.getElem?_eq_some_iff.mp h).1
  have a1 : ex (.lock 0 (.asg (.nm 2) (.lc .dic [(.var 0)] (.nm 5) [(.and [(.val (.call 1 [(.var 1), (.var 5)])), (.cmp .isn (.dget (.var 0) (.var 5)) .non)])] (.var 5) [5]))) gl (calls FS gl (m + 1 + 1)) [some (.ref T), some (encR r), none, none, none, none] st = some (.nx, [some (.ref T), some (encR r), some (.ref st.length), none, none, none], st ++ [.lst (ansD f l r)]) := by
    refine lock_run rfl h ?_
    rw [ex_asg, ans_lc m T f l r none none none none _ hlk hl]
    simp only [Option.bind_some, asgD_nm, List.length_set]
    rfl
  have hQ : lstOf (st ++ [.lst (ansD f l r)]) st.length = some ((ans f l r).map encR) := lst_mid _ _ _
  generalize hs1 : st ++ [.lst (ansD f l r)] = s1 at a1 hQ
  have hlen' : ∀ o ∈ ans f l r, o.length = r.length := fun o ho => hlen o (List.mem_filter.mp ho).1
  generalize ans f l r = as at hQ hlen'
  have hT2 : evT (.not (.val (.var 2))) gl (calls FS gl (m + 1 + 1)) [some (.ref T), some (encR r), some (.ref st.length), none, none, none] s1 = some (as.isEmpty, s1) := by
    simp only [evT_not, evT_val, ev_varS, ev_var0, Option.bind_some, truD_ref, hQ, Option.map_some]
    cases as <;> rfl
  have b3_eq : b3 = [.lock 0 (.asg (.nm 2) (.lc .dic [(.var 0)] (.nm 5) [(.and [(.val (.call 1 [(.var 1), (.var 5)])), (.cmp .isn (.dget (.var 0) (.var 5)) .non)])] (.var 5) [5])), .ife (.not (.val (.var 2))) [.ret (.neg (.int 1))] [], .for_ .enum [(.var 1)] (.tp [(.nm 3), (.nm 4)]) [mbI], .ret .non] := rfl
  cases has : as.isEmpty with
  | true =>
    rw [has] at hT2
    have e8 : ex (.ife (.not (.val (.var 2))) [.ret (.neg (.int 1))] []) gl (calls FS gl (m + 1 + 1)) [some (.ref T), some (encR r), some (.ref st.length), none, none, none] s1 = some (.rt (.int (-1)), [some (.ref T), some (encR r), some (.ref st.length), none, none, none], s1) := by
      rw [ex_ife, hT2]; rfl
    refine cl_ret (d := d3.df) (ρ' := [some (.ref T), some (encR r), some (.ref st.length), none, none, none]) rfl rfl ?_
    show exs b3 gl (calls FS gl (m + 1 + 1)) [some (.ref T), some (encR r), none, none, none, none] st = _
    have : mbaD r as = .int (-1) := by unfold mbaD; rw [has]; rfl
    rw [b3_eq, exs_step a1 rfl, exs_ret e8, this]
  | false =>
    rw [has] at hT2
    have e8 : ex (.ife (.not (.val (.var 2))) [.ret (.neg (.int 1))] []) gl (calls FS gl (m + 1 + 1)) [some (.ref T), some (encR r), some (.ref st.length), none, none, none] s1 = some (.nx, [some (.ref T), some (encR r), some (.ref st.length), none, none, none], s1) := by
      rw [ex_ife, hT2]; rfl
    have hm : mbaD r as = match askK r as with | some k => .int (k : Nat) | none => .non := by unfold mbaD; rw [has]; rfl
    have key := ex_forR (g := gl) (C := calls FS gl (m + 1 + 1)) (ik := .enum) (src := [.var 1]) (tg := .tp [(.nm 3), (.nm 4)]) (b := [mbI]) (ρ := [some (.ref T), some (encR r), some (.ref st.length), none, none, none]) (st := s1) (st0 := s1) (xs := [encR r]) (J := .enT (r.map enc)) (N := r.length) rfl (by show some _ = _; simp)
      (fun i ρ s => s = s1 ∧ ∃ x3 x4, ρ = [some (.ref T), some (encR r), some (.ref st.length), x3, x4, none] ∧ ∀ j, j < i → askB r as j = false)
      (fun v ρ s => s = s1 ∧ ∃ k, askK r as = some k ∧ v = .int (k : Nat)) ⟨rfl, none, none, rfl, fun j hj => by omega⟩ (by
        rintro i ρ s hi ⟨rfl, x3, x4, rfl, hn⟩
        refine ⟨.tup [.int (i : Nat), enc r[i]], ?_, ?_⟩
        · show pair2 (some (.int (i : Nat))) (r.map enc)[i]? = _
          rw [List.getElem?_map, List.getElem?_eq_getElem hi]; rfl
        have f0 : asgD (.tp [(.nm 3), (.nm 4)]) (.tup [.int (i : Nat), enc r[i]]) s [some (.ref T), some (encR r), some (.ref st.length), x3, x4, none] = some [some (.ref T), some (encR r), some (.ref st.length), some (.int (i : Nat)), some (enc r[i]), none] := rfl
        have eg := full_gen (m + 1) T st.length i r as (some (enc r[i])) none s hQ (fun o ho => by rw [hlen' o ho]; exact hi)
        have er : r.getD i none = r[i] := by rw [List.getD_eq_getElem?_getD, List.getElem?_eq_getElem hi]; rfl
        have hTT : evT (.and [(.cmp .is (.var 4) .non), (.val (.gen .all .one [(.var 2)] (.nm 5) [] (.cmp .isn (.idx (.var 5) (.var 3)) .non) [5]))]) gl (calls FS gl (m + 1 + 1)) [some (.ref T), some (encR r), some (.ref st.length), some (.int (i : Nat)), some (enc r[i]), none] s = some (askB r as i, s) := by
          simp only [evT_and, evTA_cons, evTA_nil, evT_cmp, evT_val, ev_varS, ev_var0, ev_non, Option.bind_some, Option.map_some, cmp_isN, isN_enc, eg, truD_bl]
          unfold askB
          rw [er]
          cases (r[i]).isNone <;> cases full as i <;> rfl
        cases hb : askB r as i with
        | true =>
          refine .inr ⟨.int (i : Nat), [some (.ref T), some (encR r), some (.ref st.length), some (.int (i : Nat)), some (enc r[i]), none], s, ?_, rfl, i, find_range hi hn hb, rfl⟩
          rw [f0]
          show exs _ gl (calls FS gl (m + 1 + 1)) _ _ = _
          unfold mbI
          rw [exs_cons, ex_ife, hTT, hb]; rfl
        | false =>
          refine .inl ⟨[some (.ref T), some (encR r), some (.ref st.length), some (.int (i : Nat)), some (enc r[i]), none], s, ?_, rfl, _, _, rfl, fun j hj => ?_⟩
          · rw [f0]
            show exs _ gl (calls FS gl (m + 1 + 1)) _ _ = _
            unfold mbI
            rw [exs_cons, ex_ife, hTT, hb]; rfl
          · rcases Nat.lt_or_ge j i with q | q
            · exact hn j q
            · have : j = i := by omega
              rw [this]; exact hb) (by
        rintro ρ s ⟨rfl, _⟩
        simp [stD])
    rcases key with ⟨ρ', st', e, rfl, x3, x4, rfl, hn⟩ | ⟨v, ρ', st', e, rfl, k, hk, rfl⟩
    · have hk : askK r as = none := List.find?_eq_none.mpr fun x hx => by simp [hn x (List.mem_range.mp hx)]
      rw [hm, hk]
      refine cl_ret (d := d3.df) (ρ' := [some (.ref T), some (encR r), some (.ref st.length), x3, x4, none]) rfl rfl ?_
      show exs b3 gl (calls FS gl (m + 1 + 1)) [some (.ref T), some (encR r), none, none, none, none] st = _
      rw [b3_eq, exs_step a1 rfl, exs_step e8 rfl, exs_step e rfl]
      rfl
    · rw [hm, hk]
      refine cl_ret (d := d3.df) (ρ' := ρ') rfl rfl ?_
      show exs b3 gl (calls FS gl (m + 1 + 1)) [some (.ref T), some (encR r), none, none, none, none] st = _
      rw [b3_eq, exs_step a1 rfl, exs_step e8 rfl, exs_ret e]
end K71
end
section
set_option Elab.async false
set_option linter.all false
set_option maxRecDepth 100000
set_option maxHeartbeats 1000000
namespace K71
open Dz PySem L2
/-! ### body_at -/
theorem cut_to (ds : List D) (k : Nat) (h : k ≤ ds.length) : cutD ds none (some ((k : Nat) : Int)) = ds.take k := by
  unfold cutD
  rw [HT.sIx_none, HT.sIx_nat, List.drop_zero, Nat.sub_zero, Nat.min_eq_left h]
theorem cut_from (ds : List D) (k : Nat) : cutD ds (some ((k : Nat) : Int)) none = ds.drop k := by
  unfold cutD
  rw [HT.sIx_none, HT.sIx_nat]
  rcases Nat.le_total k ds.length with h | h
  · rw [Nat.min_eq_left h, List.take_of_length_le (by simp)]
  · rw [Nat.min_eq_right h, List.drop_of_length_le h, List.drop_of_length_le (Nat.le_refl _)]; simp
def isSt : D → Bool
  | .tup (.str x :: _) => x == "stuck"
  | _ => false
def askD (k : Nat) (ps : List D) : D := match ps.find? isSt with
  | some v => v
  | none => .tup ([.str "ask", .int 0, .int (k : Nat), .tup []] ++ ps)
def byP (f : List It → It) (l : List (List It)) : Nat → List It → D
  | 0, _ => .non
  | m + 1, r => if (f r).isNone then (if (ans f l r).isEmpty then .tup [.str "stop"] else match askK r (ans f l r) with
      | none => .tup [.str "stuck", encR r]
      | some k => askD k [byP f l m (r.set k (some false)), byP f l m (r.set k (some true))])
    else .tup [.str "say", enc (f r)]
def wf (d : D) : Prop := ∃ x rest, d = .tup (.str x :: rest) ∧ txt x = true
theorem wf_askD {k : Nat} {ps : List D} (h : ∀ d ∈ ps, wf d) : wf (askD k ps) := by
  unfold askD
  split
  · rename_i v hv
    exact h v (List.mem_of_find?_eq_some hv)
  · exact ⟨"ask", _, rfl, by decide⟩
theorem wf_byP (f : List It → It) (l : List (List It)) : ∀ (m : Nat) (r : List It), r.countP (·.isNone) ≤ m → wf (byP f l (m + 1) r)
  | m, r, h => by
    unfold byP
    split
    · split
      · exact ⟨"stop", _, rfl, by decide⟩
      · split
        · exact ⟨"stuck", _, rfl, by decide⟩
        · rename_i k hk
          have hk1 : k < r.length := List.mem_range.mp (List.mem_of_find?_eq_some hk)
          have hk2 : askB r (ans f l r) k = true := List.find?_some hk
          unfold askB at hk2
          rw [Bool.and_eq_true] at hk2
          have er : r.getD k none = r[k] := by rw [List.getD_eq_getElem?_getD, List.getElem?_eq_getElem hk1]; rfl
          rw [er] at hk2
          have hc : ∀ b : Bool, (r.set k (some b)).countP (·.isNone) + 1 = r.countP (·.isNone) := fun b => by
            have hp : 0 < r.countP (·.isNone) := List.countP_pos_iff.mpr ⟨r[k], List.getElem_mem hk1, hk2.1⟩
            rw [List.countP_set hk1, hk2.1]
            simp
            omega
          have h1 := hc false
          have h2 := hc true
          cases m with
          | zero => omega
          | succ m =>
            refine wf_askD fun d hd => ?_
            simp only [List.mem_cons, List.not_mem_nil, or_false] at hd
            rcases hd with rfl | rfl
            · exact wf_byP f l m _ (by omega)
            · exact wf_byP f l m _ (by omega)
    · exact ⟨"say", _, rfl, by decide⟩
theorem eq_stuck {x : Str} (h : txt x = true) (st : Sto) : eqD st (.str x) (.str "stuck") = some (x == "stuck") := by
  have h1 := txt_lay h
  have h2 : SeqAt.shaped (.str "stuck") = true := txt_lay (x := "stuck") (by decide)
  simp [eqD, toP, toPw, h1, h2, PyData.eqv]
theorem wf_test {d : D} (h : wf d) (C : List CS) (ρ : Dz.Env) (i : Nat) (st : Sto) (hv : ρ[i]? = some (some d)) : evT (.cmp .eq (.idx (.var i) (.int 0)) (.str "stuck")) gl C ρ st = some (isSt d, st) := by
  obtain ⟨x, rest, rfl, hx⟩ := h
  have e0 : L2.atI (D.str x :: rest) 0 = some (.str x) := L2.atI_nat (j := 0) rfl
  simp only [evT_cmp, ev_idx, ev_var, hv, Option.bind_some, ev_int, idx_tup, e0, Option.map_some, ev_str, cmp_eq, eq_stuck hx]
  rfl
theorem set_cut (r : List It) (k : Nat) (x : It) (h : k < r.length) : encR (r.set k x) = .tup ((r.map enc).take k ++ [enc x] ++ (r.map enc).drop (k + 1)) := by
  unfold encR
  rw [List.set_eq_take_append_cons_drop, if_pos h]
  simp
def nxE (i j k : Nat) : E := .bin .add (.bin .add (.slT (.var i) (.var j)) (.tup [(.var k)])) (.slF (.var i) (.bin .add (.var j) (.int 1)))
theorem ev_next {C : List CS} {ρ : Dz.Env} {st : Sto} {i j k q : Nat} {r : List It} {x : It} (hi : ρ[i]? = some (some (encR r))) (hj : ρ[j]? = some (some (.int (q : Nat)))) (hk : ρ[k]? = some (some (enc x))) (hq : q < r.length) (hr : r.length ≤ 1000) :
    ev (nxE i j k) gl C ρ st = some (encR (r.set q x), st) := by
  have hz1 : 1 ≤ sizeLine := by rw [sizeLine_eq]; omega
  have K4 : ((q : Nat) : Int) + 1 = ((q + 1 : Nat) : Int) := by omega
  have L1 : ((r.map enc).take q).length + 1 ≤ sizeLine := by rw [sizeLine_eq]; simp; omega
  have L3 : ((r.map enc).take q ++ [enc x]).length + ((r.map enc).drop (q + 1)).length ≤ sizeLine := by rw [sizeLine_eq]; simp; omega
  rw [set_cut r q x hq]
  unfold nxE
  have h1 : ∀ o : Option Int, ∀ p : Option Int, slcD (encR r) o p st = some (.tup (cutD (r.map enc) o p), st) := fun o p => rfl
  simp only [ev_bin, ev_slT, ev_slF, ev_var, hi, hj, hk, Option.bind_some, h1, cut_to (r.map enc) q (by simp; omega), ev_tup, evs_cons, evs_nil, Option.map_some, List.length_cons, List.length_nil, Nat.zero_add, if_pos hz1, bin_addT, if_pos L1, ev_int, bin_addI, K4, cut_from, if_pos L3]
def baI : List S := [.asg (.nm 5) (.call 4 [(.var 0), nxE 1 2 4]), .ife (.cmp .eq (.idx (.var 5) (.int 0)) (.str "stuck")) [.ret (.var 5)] [], .expr (.mth .append (.var 3) [(.var 5)])]
theorem b4_eq : b4 = [.ife (.cmp .isn (.dget (.var 0) (.var 1)) .non) [.ret (.tup [(.str "say"), (.dget (.var 0) (.var 1))])] [],
 .asg (.nm 2) (.call 3 [(.var 0), (.var 1)]), .ife (.cmp .is (.var 2) .non) [.ret (.tup [(.str "stuck"), (.var 1)])] [], .ife (.cmp .lt (.var 2) (.int 0)) [.ret (.tup [(.str "stop")])] [],
 .asg (.nm 3) (.lst []), .for_ .one [(.tup [(.int 0), (.int 1)])] (.nm 4) baI, .ret (.tup [(.str "ask"), (.int 0), (.var 2), (.tup []), (.idx (.var 3) (.int 0)), (.idx (.var 3) (.int 1))])] := rfl
theorem find_two {ps : List D} {i : Nat} {d : D} (h : ps[i]? = some d) (hn : ∀ x ∈ ps.take i, isSt x = false) (hd : isSt d = true) : ps.find? isSt = some d := by
  have e : ps = ps.take i ++ ps.drop i := (List.take_append_drop i ps).symm
  have this : (ps.take i).find? isSt = none := List.find?_eq_none.mpr fun x hx => by simp [hn x hx]
  obtain ⟨hi, rfl⟩ := List.getElem?_eq_some_iff.mp h
  conv => lhs; rw [e, List.find?_append, this, List.drop_eq_getElem_cons hi]
  rw [List.find?_cons, hd]
  rfl
theorem run_body_at (T q : Nat) (f : List It → It) (hq : q ≤ 3) : ∀ (M : Nat) (r : List It) (st : Sto), r.length = q → r.countP (·.isNone) ≤ M → st[T]? = some (.dic false (tb f (rows q))) →
    ∃ J, callD FS gl (M + 3) 4 [.ref T, encR r] st = some (byP f (rows q) (M + 1) r, st ++ J) := by
  have hz1 : 1 ≤ sizeLine := by rw [sizeLine_eq]; omega
  have hz2 : 2 ≤ sizeLine := by rw [sizeLine_eq]; omega
  have hz0 : 0 ≤ sizeLine := Nat.zero_le _
  have hz6 : 6 ≤ sizeLine := by rw [sizeLine_eq]; omega
  intro M
  induction M using Nat.strongRecOn with
  | _ M ih =>
    intro r st hr hc h
    have hm : r ∈ rows q := (mem_rows q r).mpr hr
    have hT : TbAt st T f (rows q) := ⟨false, h⟩
    have hTT : evT (.cmp .isn (.dget (.var 0) (.var 1)) .non) gl (calls FS gl (M + 3)) [some (.ref T), some (encR r), none, none, none, none] st = some (!(f r).isNone, st) := by
      simp only [evT_cmp, ev_dget, ev_varS, ev_var0, ev_non, Option.bind_some, hT.get hm, Option.map_some, cmp_isnN, isN_enc]
    cases hf : (f r).isNone with
    | false =>
      rw [hf] at hTT
      have e9 : ex (.ret (.tup [(.str "say"), (.dget (.var 0) (.var 1))])) gl (calls FS gl (M + 3)) [some (.ref T), some (encR r), none, none, none, none] st = some (.rt (.tup [.str "say", enc (f r)]), [some (.ref T), some (encR r), none, none, none, none], st) := by
        simp only [ex_ret, ev_tup, evs_cons, evs_nil, ev_str, ev_dget, ev_varS, ev_var0, Option.bind_some, hT.get hm, Option.map_some, List.length_cons, List.length_nil, Nat.zero_add, Nat.reduceAdd, if_pos hz2]
      refine ⟨[], ?_⟩
      rw [List.append_nil]
      refine cl_ret (d := d4.df) (ρ' := [some (.ref T), some (encR r), none, none, none, none]) rfl rfl ?_
      show exs b4 gl (calls FS gl (M + 3)) [some (.ref T), some (encR r), none, none, none, none] st = _
      have e8 : ex (.ife (.cmp .isn (.dget (.var 0) (.var 1)) .non) [.ret (.tup [(.str "say"), (.dget (.var 0) (.var 1))])] []) gl (calls FS gl (M + 3)) [some (.ref T), some (encR r), none, none, none, none] st = some (.rt (.tup [.str "say", enc (f r)]), [some (.ref T), some (encR r), none, none, none, none], st) := by
        rw [ex_ife, hTT]
        show exs _ gl (calls FS gl (M + 3)) _ _ = _
        rw [exs_ret e9]
      have eb : byP f (rows q) (M + 1) r = .tup [.str "say", enc (f r)] := by unfold byP; rw [hf]; rfl
      rw [b4_eq, exs_ret e8, eb]
    | true =>
      rw [hf] at hTT
      have e8 : ex (.ife (.cmp .isn (.dget (.var 0) (.var 1)) .non) [.ret (.tup [(.str "say"), (.dget (.var 0) (.var 1))])] []) gl (calls FS gl (M + 3)) [some (.ref T), some (encR r), none, none, none, none] st = some (.nx, [some (.ref T), some (encR r), none, none, none, none], st) := by
        rw [ex_ife, hTT]; rfl
      have em := run_must M T f (rows q) r st h (by have := rows27 hq; omega) (fun o ho => by rw [hr]; exact (mem_rows q o).mp ho)
      have e1 : ex (.asg (.nm 2) (.call 3 [(.var 0), (.var 1)])) gl (calls FS gl (M + 3)) [some (.ref T), some (encR r), none, none, none, none] st = some (.nx, [some (.ref T), some (encR r), some (mbaD r (ans f (rows q) r)), none, none, none], st ++ [.lst (ansD f (rows q) r)]) := by
        simp only [ex_asg, ev_call, evs_cons, evs_nil, ev_varS, ev_var0, Option.bind_some, Option.map_some, em, asgD_nm]
        rfl
      generalize hs1 : st ++ [.lst (ansD f (rows q) r)] = s1 at e1
      have h1 : s1[T]? = some (.dic false (tb f (rows q))) := by
        rw [← hs1, List.getElem?_append_left (List.getElem?_eq_some_iff.mp h).1]; exact h
      cases has : (ans f (rows q) r).isEmpty with
      | true =>
        have hmb : mbaD r (ans f (rows q) r) = .int (-1) := by unfold mbaD; rw [has]; rfl
        have eb : byP f (rows q) (M + 1) r = .tup [.str "stop"] := by unfold byP; rw [hf, has]; rfl
        rw [hmb] at e1
        have e2 : ex (.ife (.cmp .is (.var 2) .non) [.ret (.tup [(.str "stuck"), (.var 1)])] []) gl (calls FS gl (M + 3)) [some (.ref T), some (encR r), some (.int (-1)), none, none, none] s1 = some (.nx, [some (.ref T), some (encR r), some (.int (-1)), none, none, none], s1) := rfl
        have e3 : ex (.ife (.cmp .lt (.var 2) (.int 0)) [.ret (.tup [(.str "stop")])] []) gl (calls FS gl (M + 3)) [some (.ref T), some (encR r), some (.int (-1)), none, none, none] s1 = some (.rt (.tup [.str "stop"]), [some (.ref T), some (encR r), some (.int (-1)), none, none, none], s1) := by
          have t : evT (.cmp .lt (.var 2) (.int 0)) gl (calls FS gl (M + 3)) [some (.ref T), some (encR r), some (.int (-1)), none, none, none] s1 = some (true, s1) := rfl
          have t2 : ex (.ret (.tup [(.str "stop")])) gl (calls FS gl (M + 3)) [some (.ref T), some (encR r), some (.int (-1)), none, none, none] s1 = some (.rt (.tup [.str "stop"]), [some (.ref T), some (encR r), some (.int (-1)), none, none, none], s1) := by
            simp only [ex_ret, ev_tup, evs_cons, evs_nil, ev_str, Option.bind_some, Option.map_some, List.length_cons, List.length_nil, Nat.zero_add, if_pos hz1]
          rw [ex_ife, t]
          show exs _ gl (calls FS gl (M + 3)) _ _ = _
          rw [exs_ret t2]
        refine ⟨[.lst (ansD f (rows q) r)], ?_⟩
        rw [hs1, eb]
        refine cl_ret (d := d4.df) (ρ' := [some (.ref T), some (encR r), some (.int (-1)), none, none, none]) rfl rfl ?_
        show exs b4 gl (calls FS gl (M + 3)) [some (.ref T), some (encR r), none, none, none, none] st = _
        rw [b4_eq, exs_step e8 rfl, exs_step e1 rfl, exs_step e2 rfl, exs_ret e3]
      | false =>
        cases hk : askK r (ans f (rows q) r) with
        | none =>
          have hmb : mbaD r (ans f (rows q) r) = .non := by unfold mbaD; rw [has, hk]; rfl
          have eb : byP f (rows q) (M + 1) r = .tup [.str "stuck", encR r] := by unfold byP; rw [hf, has, hk]; rfl
          rw [hmb] at e1
          have e2 : ex (.ife (.cmp .is (.var 2) .non) [.ret (.tup [(.str "stuck"), (.var 1)])] []) gl (calls FS gl (M + 3)) [some (.ref T), some (encR r), some .non, none, none, none] s1 = some (.rt (.tup [.str "stuck", encR r]), [some (.ref T), some (encR r), some .non, none, none, none], s1) := by
            have t : evT (.cmp .is (.var 2) .non) gl (calls FS gl (M + 3)) [some (.ref T), some (encR r), some .non, none, none, none] s1 = some (true, s1) := rfl
            have t2 : ex (.ret (.tup [(.str "stuck"), (.var 1)])) gl (calls FS gl (M + 3)) [some (.ref T), some (encR r), some .non, none, none, none] s1 = some (.rt (.tup [.str "stuck", encR r]), [some (.ref T), some (encR r), some .non, none, none, none], s1) := by
              simp only [ex_ret, ev_tup, evs_cons, evs_nil, ev_str, ev_varS, ev_var0, Option.bind_some, Option.map_some, List.length_cons, List.length_nil, Nat.zero_add, Nat.reduceAdd, if_pos hz2]
            rw [ex_ife, t]
            show exs _ gl (calls FS gl (M + 3)) _ _ = _
            rw [exs_ret t2]
          refine ⟨[.lst (ansD f (rows q) r)], ?_⟩
          rw [hs1, eb]
          refine cl_ret (d := d4.df) (ρ' := [some (.ref T), some (encR r), some .non, none, none, none]) rfl rfl ?_
          show exs b4 gl (calls FS gl (M + 3)) [some (.ref T), some (encR r), none, none, none, none] st = _
          rw [b4_eq, exs_step e8 rfl, exs_step e1 rfl, exs_ret e2]
        | some k =>
          have hmb : mbaD r (ans f (rows q) r) = .int (k : Nat) := by unfold mbaD; rw [has, hk]; rfl
          have eb : byP f (rows q) (M + 1) r = askD k [byP f (rows q) M (r.set k (some false)), byP f (rows q) M (r.set k (some true))] := by
            conv => lhs; unfold byP
            rw [hf, has, hk]; rfl
          have hk1 : k < r.length := List.mem_range.mp (List.mem_of_find?_eq_some hk)
          have hk2 : askB r (ans f (rows q) r) k = true := List.find?_some hk
          unfold askB at hk2
          rw [Bool.and_eq_true] at hk2
          have er : r.getD k none = r[k] := by rw [List.getD_eq_getElem?_getD, List.getElem?_eq_getElem hk1]; rfl
          rw [er] at hk2
          have hcs : ∀ b : Bool, (r.set k (some b)).countP (·.isNone) + 1 = r.countP (·.isNone) := fun b => by
            have hp : 0 < r.countP (·.isNone) := List.countP_pos_iff.mpr ⟨r[k], List.getElem_mem hk1, hk2.1⟩
            rw [List.countP_set hk1, hk2.1]
            simp
            omega
          have hc1 := hcs false
          obtain ⟨M, rfl⟩ : ∃ m, M = m + 1 := ⟨M - 1, by omega⟩
          rw [hmb] at e1
          have e2 : ex (.ife (.cmp .is (.var 2) .non) [.ret (.tup [(.str "stuck"), (.var 1)])] []) gl (calls FS gl (M + 1 + 3)) [some (.ref T), some (encR r), some (.int (k : Nat)), none, none, none] s1 = some (.nx, [some (.ref T), some (encR r), some (.int (k : Nat)), none, none, none], s1) := rfl
          have e3 : ex (.ife (.cmp .lt (.var 2) (.int 0)) [.ret (.tup [(.str "stop")])] []) gl (calls FS gl (M + 1 + 3)) [some (.ref T), some (encR r), some (.int (k : Nat)), none, none, none] s1 = some (.nx, [some (.ref T), some (encR r), some (.int (k : Nat)), none, none, none], s1) := by
            have t : evT (.cmp .lt (.var 2) (.int 0)) gl (calls FS gl (M + 1 + 3)) [some (.ref T), some (encR r), some (.int (k : Nat)), none, none, none] s1 = some (false, s1) := by
              simp only [evT_cmp, ev_varS, ev_var0, ev_int, Option.bind_some, cmp_lt, Option.map_some]
              simp
            rw [ex_ife, t]; rfl
          have e4 : ex (.asg (.nm 3) (.lst [])) gl (calls FS gl (M + 1 + 3)) [some (.ref T), some (encR r), some (.int (k : Nat)), none, none, none] s1 = some (.nx, [some (.ref T), some (encR r), some (.int (k : Nat)), some (.ref s1.length), none, none], s1 ++ [.lst []]) := by
            simp only [ex_asg, ev_lst, evs_nil, Option.bind_some, List.length_nil, if_pos hz0, new_eq, asgD_nm]
            rfl
          generalize hps : [byP f (rows q) (M + 1) (r.set k (some false)), byP f (rows q) (M + 1) (r.set k (some true))] = ps at eb
          have hpl : ps.length = 2 := by rw [← hps]; rfl
          have key := ex_forR (g := gl) (C := calls FS gl (M + 1 + 3)) (ik := .one) (src := [.tup [(.int 0), (.int 1)]]) (tg := .nm 4) (b := baI) (ρ := [some (.ref T), some (encR r), some (.int (k : Nat)), some (.ref s1.length), none, none]) (st := s1 ++ [.lst []]) (st0 := s1 ++ [.lst []]) (xs := [.tup [.int 0, .int 1]]) (J := .tup [.int 0, .int 1]) (N := 2) (by
              simp only [evs_cons, evs_nil, ev_tup, ev_int, Option.bind_some, Option.map_some, List.length_cons, List.length_nil, Nat.zero_add, Nat.reduceAdd, if_pos hz2]) rfl
            (fun i ρ s => ∃ J x4 x5, ρ = [some (.ref T), some (encR r), some (.int (k : Nat)), some (.ref s1.length), x4, x5] ∧ s = s1 ++ .lst (ps.take i) :: J ∧ ∀ d ∈ ps.take i, isSt d = false)
            (fun v ρ s => ∃ J, s = s1 ++ J ∧ ps.find? isSt = some v) ⟨[], none, none, rfl, rfl, by simp⟩ (by
              rintro i ρ s hi ⟨J, x4, x5, rfl, rfl, hn⟩
              have hb : ∃ b : Bool, [D.int 0, D.int 1][i]? = some (enc (some b)) ∧ ps[i]? = some (byP f (rows q) (M + 1) (r.set k (some b))) := by
                rw [← hps]
                match i, hi with
                | 0, _ => exact ⟨false, rfl, rfl⟩
                | 1, _ => exact ⟨true, rfl, rfl⟩
              obtain ⟨b, hb1, hb2⟩ := hb
              refine ⟨enc (some b), hb1, ?_⟩
              have hT1 : (s1 ++ .lst (ps.take i) :: J)[T]? = some (.dic false (tb f (rows q))) := by
                rw [List.getElem?_append_left (List.getElem?_eq_some_iff.mp h1).1]; exact h1
              have hcb := hcs b
              obtain ⟨J2, e5⟩ := ih M (by omega) (r.set k (some b)) (s1 ++ .lst (ps.take i) :: J) (by simpa using hr) (by omega) hT1
              generalize hp : byP f (rows q) (M + 1) (r.set k (some b)) = p at e5 hb2
              have hw : wf p := by rw [← hp]; exact wf_byP f (rows q) M _ (by omega)
              have f0 : asgD (.nm 4) (enc (some b)) (s1 ++ .lst (ps.take i) :: J) [some (.ref T), some (encR r), some (.int (k : Nat)), some (.ref s1.length), x4, x5] = some [some (.ref T), some (encR r), some (.int (k : Nat)), some (.ref s1.length), some (enc (some b)), x5] := rfl
              have en : ev (nxE 1 2 4) gl (calls FS gl (M + 1 + 3)) [some (.ref T), some (encR r), some (.int (k : Nat)), some (.ref s1.length), some (enc (some b)), x5] (s1 ++ .lst (ps.take i) :: J) = some (encR (r.set k (some b)), s1 ++ .lst (ps.take i) :: J) := ev_next rfl rfl rfl hk1 (by omega)
              have f1 : ex (.asg (.nm 5) (.call 4 [(.var 0), nxE 1 2 4])) gl (calls FS gl (M + 1 + 3)) [some (.ref T), some (encR r), some (.int (k : Nat)), some (.ref s1.length), some (enc (some b)), x5] (s1 ++ .lst (ps.take i) :: J) = some (.nx, [some (.ref T), some (encR r), some (.int (k : Nat)), some (.ref s1.length), some (enc (some b)), some p], s1 ++ .lst (ps.take i) :: (J ++ J2)) := by
                simp only [ex_asg, ev_call, evs_cons, evs_nil, ev_var0, Option.bind_some, en, Option.map_some, e5, asgD_nm, List.append_assoc, List.cons_append]
                rfl
              have t := wf_test hw (calls FS gl (M + 1 + 3)) [some (.ref T), some (encR r), some (.int (k : Nat)), some (.ref s1.length), some (enc (some b)), some p] 5 (s1 ++ .lst (ps.take i) :: (J ++ J2)) rfl
              cases hst : isSt p with
              | true =>
                rw [hst] at t
                refine .inr ⟨p, [some (.ref T), some (encR r), some (.int (k : Nat)), some (.ref s1.length), some (enc (some b)), some p], _, ?_, .lst (ps.take i) :: (J ++ J2), rfl, find_two hb2 hn hst⟩
                rw [f0]
                show exs baI gl (calls FS gl (M + 1 + 3)) _ _ = _
                unfold baI
                rw [exs_step f1 rfl, exs_cons, ex_ife, t]; rfl
              | false =>
                rw [hst] at t
                have f2 : ex (.ife (.cmp .eq (.idx (.var 5) (.int 0)) (.str "stuck")) [.ret (.var 5)] []) gl (calls FS gl (M + 1 + 3)) [some (.ref T), some (encR r), some (.int (k : Nat)), some (.ref s1.length), some (enc (some b)), some p] (s1 ++ .lst (ps.take i) :: (J ++ J2)) = some (.nx, [some (.ref T), some (encR r), some (.int (k : Nat)), some (.ref s1.length), some (enc (some b)), some p], s1 ++ .lst (ps.take i) :: (J ++ J2)) := by
                  rw [ex_ife, t]; rfl
                have f3 : ex (.expr (.mth .append (.var 3) [(.var 5)])) gl (calls FS gl (M + 1 + 3)) [some (.ref T), some (encR r), some (.int (k : Nat)), some (.ref s1.length), some (enc (some b)), some p] (s1 ++ .lst (ps.take i) :: (J ++ J2)) = some (.nx, [some (.ref T), some (encR r), some (.int (k : Nat)), some (.ref s1.length), some (enc (some b)), some p], s1 ++ .lst (ps.take (i + 1)) :: (J ++ J2)) := by
                  have am := appM s1 (J ++ J2) (ps.take i) p (by rw [sizeLine_eq, List.length_take]; omega)
                  rw [← take_one' hb2] at am
                  simp only [ex_expr, ev_mth, ev_varS, ev_var0, Option.bind_some, isL_ref, lst_mid, Option.isSome_some, if_true, evs_cons, evs_nil, Option.map_some, am]
                refine .inl ⟨_, _, ?_, J ++ J2, some (enc (some b)), some p, rfl, rfl, fun d hd => ?_⟩
                · rw [f0]
                  show exs baI gl (calls FS gl (M + 1 + 3)) _ _ = _
                  unfold baI
                  rw [exs_step f1 rfl, exs_step f2 rfl, exs_step f3 rfl]; rfl
                · rw [take_one' hb2, List.mem_append, List.mem_singleton] at hd
                  rcases hd with hd | rfl
                  · exact hn d hd
                  · exact hst) (by
              rintro ρ s ⟨J, x4, x5, _, rfl, _⟩
              rfl)
          rcases key with ⟨ρ', st', e, J, x4, x5, rfl, rfl, hn⟩ | ⟨v, ρ', st', e, J, rfl, hv⟩
          · have htk : ps.take 2 = ps := List.take_of_length_le (by omega)
            rw [htk] at hn e
            have hfind : ps.find? isSt = none := List.find?_eq_none.mpr fun x hx => by simp [hn x hx]
            have hpsv : ∃ p0 p1, ps = [p0, p1] := ⟨_, _, hps.symm⟩
            obtain ⟨p0, p1, rfl⟩ := hpsv
            have ea : askD k [p0, p1] = .tup [.str "ask", .int 0, .int (k : Nat), .tup [], p0, p1] := by unfold askD; rw [hfind]; rfl
            refine ⟨[.lst (ansD f (rows q) r)] ++ .lst [p0, p1] :: J, ?_⟩
            rw [← List.append_assoc, hs1, eb, ea]
            have i0 : L2.atI [p0, p1] 0 = some p0 := rfl
            have i1 : L2.atI [p0, p1] 1 = some p1 := rfl
            have e9 : ex (.ret (.tup [(.str "ask"), (.int 0), (.var 2), (.tup []), (.idx (.var 3) (.int 0)), (.idx (.var 3) (.int 1))])) gl (calls FS gl (M + 1 + 3)) [some (.ref T), some (encR r), some (.int (k : Nat)), some (.ref s1.length), x4, x5] (s1 ++ .lst [p0, p1] :: J) = some (.rt (.tup [.str "ask", .int 0, .int (k : Nat), .tup [], p0, p1]), [some (.ref T), some (encR r), some (.int (k : Nat)), some (.ref s1.length), x4, x5], s1 ++ .lst [p0, p1] :: J) := by
              simp only [ex_ret, ev_tup, evs_cons, evs_nil, ev_str, ev_int, ev_idx, ev_varS, ev_var0, Option.bind_some, Option.map_some, idx_ref, lst_mid, i0, i1, List.length_cons, List.length_nil, Nat.zero_add, Nat.reduceAdd, if_pos hz0, if_pos hz6]
            refine cl_ret (d := d4.df) (ρ' := [some (.ref T), some (encR r), some (.int (k : Nat)), some (.ref s1.length), x4, x5]) rfl rfl ?_
            show exs b4 gl (calls FS gl (M + 1 + 3)) [some (.ref T), some (encR r), none, none, none, none] st = _
            rw [b4_eq, exs_step e8 rfl, exs_step e1 rfl, exs_step e2 rfl, exs_step e3 rfl, exs_step e4 rfl, exs_step e rfl, exs_ret e9]
          · have ea : askD k ps = v := by unfold askD; rw [hv]
            refine ⟨[.lst (ansD f (rows q) r)] ++ J, ?_⟩
            rw [← List.append_assoc, hs1, eb, ea]
            refine cl_ret (d := d4.df) (ρ' := ρ') rfl rfl ?_
            show exs b4 gl (calls FS gl (M + 1 + 3)) [some (.ref T), some (encR r), none, none, none, none] st = _
            rw [b4_eq, exs_step e8 rfl, exs_step e1 rfl, exs_step e2 rfl, exs_step e3 rfl, exs_step e4 rfl, exs_ret e]
end K71
end
section
set_option Elab.async false
set_option linter.all false
set_option maxRecDepth 100000
set_option maxHeartbeats 1000000
namespace K71
open Dz PySem L2
/-! ### decide -/
def tabD (f : List It → It) (l : List (List It)) : List D := l.map fun r => enc (f r)
theorem zipKD_tb (f : List It → It) : ∀ l : List (List It), zipKD (l.map encR) (tabD f l) = some (tb f l)
  | [] => rfl
  | r :: l => by
    show (kOf (encR r)).bind _ = _
    rw [kOf_enc]
    show (zipKD (l.map encR) (tabD f l)).map _ = _
    rw [zipKD_tb f l]; rfl
theorem putAll_go (f : List It → It) : ∀ (l2 l1 : List (List It)), (l1 ++ l2).Nodup → (tb f l2).foldl (fun acc p => dPut acc p.1 p.2.1 p.2.2) (tb f l1) = tb f (l1 ++ l2)
  | [], l1, _ => by rw [List.append_nil]; rfl
  | r :: l2, l1, h => by
    have hr : r ∉ l1 := fun m => by
      rw [List.nodup_append] at h
      exact h.2.2 r m r List.mem_cons_self rfl
    show (tb f l2).foldl _ (dPut (tb f l1) (kR r) (encR r) (enc (f r))) = _
    rw [dPut_new f hr]
    have e : set1 f r (f r) = f := by
      funext q
      unfold set1
      split
      · rename_i hq; rw [hq]
      · rfl
    rw [e, putAll_go f l2 (l1 ++ [r]) (by simpa using h)]
    simp
theorem putAll_tb (f : List It → It) (l : List (List It)) (h : l.Nodup) : putAll (tb f l) = tb f l := putAll_go f l [] h
theorem rows_nodup {q : Nat} (h : q ≤ 3) : (rows q).Nodup := by
  have : q = 0 ∨ q = 1 ∨ q = 2 ∨ q = 3 := by omega
  rcases this with rfl | rfl | rfl | rfl <;> decide +kernel
def nones (q : Nat) : List It := List.replicate q none
theorem mul_one (d : D) (j : Int) (st : Sto) : binD .mul (.tup [d]) (.int j) st = if j = 0 then some (.tup [], st) else if j = 1 then some (.tup [d], st) else if 2 ≤ j ∧ j ≤ 1000 ∧ [d].length ≤ 1000 then some (.tup (List.replicate j.toNat [d]).flatten, st) else none := rfl
theorem mul_nones {q : Nat} (h : q ≤ 3) (st : Sto) : binD .mul (.tup [.non]) (.int (q : Nat)) st = some (encR (nones q), st) := by
  rw [mul_one]
  match q, h with
  | 0, _ => rfl
  | 1, _ => rfl
  | q + 2, h =>
    have h1 : ((q + 2 : Nat) : Int) ≠ 0 := by omega
    have h2 : ((q + 2 : Nat) : Int) ≠ 1 := by omega
    have h3 : 2 ≤ ((q + 2 : Nat) : Int) ∧ ((q + 2 : Nat) : Int) ≤ 1000 ∧ [D.non].length ≤ 1000 := ⟨by omega, by omega, by simp⟩
    rw [if_neg h1, if_neg h2, if_pos h3, Int.toNat_natCast]
    have : ∀ n, (List.replicate n [D.non]).flatten = (nones n).map enc := by
      intro n
      induction n with
      | zero => rfl
      | succ n ih => rw [List.replicate_succ, List.flatten_cons, ih]; rfl
    rw [this]; rfl
theorem ask_count {r : List It} {as : List (List It)} {k : Nat} (hk : askK r as = some k) (b : Bool) : k < r.length ∧ (r.set k (some b)).countP (·.isNone) + 1 = r.countP (·.isNone) := by
  have hk1 : k < r.length := List.mem_range.mp (List.mem_of_find?_eq_some hk)
  have hk2 : askB r as k = true := List.find?_some hk
  unfold askB at hk2
  rw [Bool.and_eq_true] at hk2
  have er : r.getD k none = r[k] := by rw [List.getD_eq_getElem?_getD, List.getElem?_eq_getElem hk1]; rfl
  rw [er] at hk2
  have hp : 0 < r.countP (·.isNone) := List.countP_pos_iff.mpr ⟨r[k], List.getElem_mem hk1, hk2.1⟩
  refine ⟨hk1, ?_⟩
  rw [List.countP_set hk1, hk2.1]
  simp
  omega
theorem byP_fuel (f : List It → It) (l : List (List It)) : ∀ (M M' : Nat) (r : List It), r.countP (·.isNone) ≤ M → r.countP (·.isNone) ≤ M' → byP f l (M + 1) r = byP f l (M' + 1) r
  | M, M', r, h, h' => by
    rw [byP, byP]
    split
    · split
      · rfl
      · split
        · rfl
        · rename_i k hk
          have h1 := (ask_count hk false).2
          have h2 := (ask_count hk true).2
          match M, M' with
          | 0, _ => omega
          | _ + 1, 0 => omega
          | M + 1, M' + 1 => rw [byP_fuel f l M M' (r.set k (some false)) (by omega) (by omega), byP_fuel f l M M' (r.set k (some true)) (by omega) (by omega)]
    · rfl
theorem nones_count (q : Nat) : (nones q).countP (·.isNone) = q := by simp [nones, List.countP_replicate]
def wrapD (q : Nat) (b : D) : D := if isSt b then b else .tup [.str "program", .tup [.str "program", .int (q : Nat), b]]
def decP (f : List It → It) (q : Nat) : D := match fallP f (rows q) with
  | some p => .tup [.str "falls", encR p.1, encR p.2]
  | none => wrapD q (byP f (rows q) (q + 1) (nones q))
theorem run_body (T q n : Nat) (f : List It → It) (hq : q ≤ 3) (hn : q + 3 ≤ n) (st : Sto) (h : st[T]? = some (.dic false (tb f (rows q)))) : ∃ J, callD FS gl n 4 [.ref T, encR (nones q)] st = some (byP f (rows q) (q + 1) (nones q), st ++ J) := by
  obtain ⟨M, rfl⟩ : ∃ M, n = M + 3 := ⟨n - 3, by omega⟩
  obtain ⟨J, e⟩ := run_body_at T q f hq M (nones q) st (by simp [nones]) (by rw [nones_count]; omega) h
  rw [byP_fuel f (rows q) M q (nones q) (by rw [nones_count]; omega) (by rw [nones_count]; omega)] at e
  exact ⟨J, e⟩
theorem dzpD_eq (as bs : List D) (st : Sto) : dzpD (.tup as) (.tup bs) st = (zipKD as bs).bind fun ps => if as.length ≤ sizeLine then some (new st (.dic false (putAll ps))) else none := id rfl
theorem ev_dzp (a b : E) (C : List CS) (ρ : Dz.Env) (st : Sto) : ev (.dzp a b) gl C ρ st = (ev a gl C ρ st).bind fun r => (ev b gl C ρ r.2).bind fun q => dzpD r.1 q.1 q.2 := id rfl
theorem dec_zip (f : List It → It) (l : List (List It)) (st : Sto) (hz : l.length ≤ 1000) (hn : l.Nodup) : dzpD (.tup (l.map encR)) (.tup (tabD f l)) st = some (.ref st.length, st ++ [.dic false (tb f l)]) := by
  have hz' : (l.map encR).length ≤ sizeLine := by rw [List.length_map, sizeLine_eq]; omega
  rw [dzpD_eq, zipKD_tb, Option.bind_some, if_pos hz', putAll_tb f l hn]
  rfl
theorem dec_ev (n q : Nat) (ks vs : List D) (x2 x3 x4 : Option D) (st J1 : Sto) (d : D) (s2 : Sto) (e1 : callD FS gl n 0 [.int (q : Nat)] st = some (.tup ks, st ++ J1)) (ez : dzpD (.tup ks) (.tup vs) (st ++ J1) = some (d, s2)) : ev (.dzp (.call 0 [(.var 0)]) (.var 1)) gl (calls FS gl (n + 1)) [some (.int (q : Nat)), some (.tup vs), x2, x3, x4] st = some (d, s2) := by
  rw [ev_dzp, ev_call]
  have h1 : evs [(.var 0)] gl (calls FS gl (n + 1)) [some (.int (q : Nat)), some (.tup vs), x2, x3, x4] st = some ([.int (q : Nat)], st) := rfl
  rw [h1, Option.bind_some]
  show (callD FS gl n 0 [.int (q : Nat)] st).bind _ = _
  rw [e1, Option.bind_some]
  exact ez
theorem dec_dict (n q : Nat) (f : List It → It) (x2 x3 x4 : Option D) (st : Sto) (hq : q ≤ 3) : ∃ J T, ev (.dzp (.call 0 [(.var 0)]) (.var 1)) gl (calls FS gl (n + 1)) [some (.int (q : Nat)), some (.tup (tabD f (rows q))), x2, x3, x4] st = some (.ref T, st ++ J) ∧ (st ++ J)[T]? = some (.dic false (tb f (rows q))) := by
  obtain ⟨J1, e1⟩ := run_inputs_of n q st hq
  have ez := dec_zip f (rows q) (st ++ J1) (Nat.le_trans (rows27 hq) (by decide)) (rows_nodup hq)
  refine ⟨J1 ++ [.dic false (tb f (rows q))], (st ++ J1).length, ?_, ?_⟩
  · rw [← List.append_assoc]
    exact dec_ev n q _ _ x2 x3 x4 st J1 _ _ e1 ez
  · rw [← List.append_assoc, List.getElem?_append_right (Nat.le_refl _), Nat.sub_self]
    rfl
theorem run_decide (k q : Nat) (f : List It → It) (st : Sto) (hq : q ≤ 3) (hk : q + 1 ≤ k) : ∃ J, callD FS gl (k + 1 + 1 + 1) 5 [.int (q : Nat), .tup (tabD f (rows q))] st = some (decP f q, st ++ J) := by
  have hz1 : 1 ≤ sizeLine := by rw [sizeLine_eq]; omega
  have hz2 : 2 ≤ sizeLine := by rw [sizeLine_eq]; omega
  have hz3 : 3 ≤ sizeLine := by rw [sizeLine_eq]; omega
  obtain ⟨J1, T, ez, hTd⟩ := dec_dict (k + 1 + 1) q f none none none st hq
  generalize hs1 : st ++ J1 = s1 at ez hTd
  have a1 : ex (.asg (.nm 2) (.dzp (.call 0 [(.var 0)]) (.var 1))) gl (calls FS gl (k + 1 + 1 + 1)) [some (.int (q : Nat)), some (.tup (tabD f (rows q))), none, none, none] st = some (.nx, [some (.int (q : Nat)), some (.tup (tabD f (rows q))), some (.ref T), none, none], s1) := by
    rw [ex_asg, ez]; rfl
  have ef := run_fall_of k T f (rows q) s1 hTd
  have a2 : ex (.asg (.nm 3) (.call 2 [(.var 2)])) gl (calls FS gl (k + 1 + 1 + 1)) [some (.int (q : Nat)), some (.tup (tabD f (rows q))), some (.ref T), none, none] s1 = some (.nx, [some (.int (q : Nat)), some (.tup (tabD f (rows q))), some (.ref T), some (fallD (fallP f (rows q))), none], s1) := by
    simp only [ex_asg, ev_call, evs_cons, evs_nil, ev_varS, ev_var0, Option.bind_some, Option.map_some, ef, asgD_nm]
    rfl
  have b5_eq : b5 = [.asg (.nm 2) (.dzp (.call 0 [(.var 0)]) (.var 1)), .asg (.nm 3) (.call 2 [(.var 2)]), .ife (.cmp .isn (.var 3) .non) [.ret (.bin .add (.tup [(.str "falls")]) (.var 3))] [], .asg (.nm 4) (.call 4 [(.var 2), (.bin .mul (.tup [.non]) (.var 0))]),
    .ret (.ife (.cmp .eq (.idx (.var 4) (.int 0)) (.str "stuck")) (.var 4) (.tup [(.str "program"), (.tup [(.str "program"), (.var 0), (.var 4)])]))] := rfl
  cases hp : fallP f (rows q) with
  | some p =>
    rw [hp] at a2
    have ed : decP f q = .tup [.str "falls", encR p.1, encR p.2] := by unfold decP; rw [hp]
    have a3 : ex (.ife (.cmp .isn (.var 3) .non) [.ret (.bin .add (.tup [(.str "falls")]) (.var 3))] []) gl (calls FS gl (k + 1 + 1 + 1)) [some (.int (q : Nat)), some (.tup (tabD f (rows q))), some (.ref T), some (fallD (some p)), none] s1 = some (.rt (.tup [.str "falls", encR p.1, encR p.2]), [some (.int (q : Nat)), some (.tup (tabD f (rows q))), some (.ref T), some (fallD (some p)), none], s1) := by
      have t : evT (.cmp .isn (.var 3) .non) gl (calls FS gl (k + 1 + 1 + 1)) [some (.int (q : Nat)), some (.tup (tabD f (rows q))), some (.ref T), some (fallD (some p)), none] s1 = some (true, s1) := rfl
      have t2 : ex (.ret (.bin .add (.tup [(.str "falls")]) (.var 3))) gl (calls FS gl (k + 1 + 1 + 1)) [some (.int (q : Nat)), some (.tup (tabD f (rows q))), some (.ref T), some (fallD (some p)), none] s1 = some (.rt (.tup [.str "falls", encR p.1, encR p.2]), [some (.int (q : Nat)), some (.tup (tabD f (rows q))), some (.ref T), some (fallD (some p)), none], s1) := by
        simp only [ex_ret, ev_bin, ev_tup, evs_cons, evs_nil, ev_str, ev_varS, ev_var0, Option.bind_some, Option.map_some, List.length_cons, List.length_nil, Nat.zero_add, if_pos hz1, fallD, bin_addT, Nat.reduceAdd, if_pos hz3]
        rfl
      rw [ex_ife, t]
      show exs _ gl (calls FS gl (k + 1 + 1 + 1)) _ _ = _
      rw [exs_ret t2]
    refine ⟨J1, ?_⟩
    rw [hs1, ed]
    refine cl_ret (d := d5.df) (ρ' := [some (.int (q : Nat)), some (.tup (tabD f (rows q))), some (.ref T), some (fallD (some p)), none]) rfl rfl ?_
    show exs b5 gl (calls FS gl (k + 1 + 1 + 1)) [some (.int (q : Nat)), some (.tup (tabD f (rows q))), none, none, none] st = _
    rw [b5_eq, exs_step a1 rfl, exs_step a2 rfl, exs_ret a3]
  | none =>
    rw [hp] at a2
    have ed : decP f q = wrapD q (byP f (rows q) (q + 1) (nones q)) := by unfold decP; rw [hp]
    have a3 : ex (.ife (.cmp .isn (.var 3) .non) [.ret (.bin .add (.tup [(.str "falls")]) (.var 3))] []) gl (calls FS gl (k + 1 + 1 + 1)) [some (.int (q : Nat)), some (.tup (tabD f (rows q))), some (.ref T), some (fallD none), none] s1 = some (.nx, [some (.int (q : Nat)), some (.tup (tabD f (rows q))), some (.ref T), some (fallD none), none], s1) := rfl
    obtain ⟨J2, eb⟩ := run_body T q (k + 1 + 1) f hq (by omega) s1 hTd
    have hw : wf (byP f (rows q) (q + 1) (nones q)) := wf_byP f (rows q) q _ (by rw [nones_count]; omega)
    generalize byP f (rows q) (q + 1) (nones q) = bd at eb hw ed
    have a4 : ex (.asg (.nm 4) (.call 4 [(.var 2), (.bin .mul (.tup [.non]) (.var 0))])) gl (calls FS gl (k + 1 + 1 + 1)) [some (.int (q : Nat)), some (.tup (tabD f (rows q))), some (.ref T), some (fallD none), none] s1 = some (.nx, [some (.int (q : Nat)), some (.tup (tabD f (rows q))), some (.ref T), some (fallD none), some bd], s1 ++ J2) := by
      simp only [ex_asg, ev_call, evs_cons, evs_nil, ev_varS, ev_var0, ev_bin, ev_tup, ev_non, Option.bind_some, Option.map_some, List.length_cons, List.length_nil, Nat.zero_add, if_pos hz1, mul_nones hq, eb, asgD_nm]
      rfl
    have t := wf_test hw (calls FS gl (k + 1 + 1 + 1)) [some (.int (q : Nat)), some (.tup (tabD f (rows q))), some (.ref T), some (fallD none), some bd] 4 (s1 ++ J2) rfl
    have a5 : ex (.ret (.ife (.cmp .eq (.idx (.var 4) (.int 0)) (.str "stuck")) (.var 4) (.tup [(.str "program"), (.tup [(.str "program"), (.var 0), (.var 4)])]))) gl (calls FS gl (k + 1 + 1 + 1)) [some (.int (q : Nat)), some (.tup (tabD f (rows q))), some (.ref T), some (fallD none), some bd] (s1 ++ J2) = some (.rt (wrapD q bd), [some (.int (q : Nat)), some (.tup (tabD f (rows q))), some (.ref T), some (fallD none), some bd], s1 ++ J2) := by
      rw [ex_ret, ev_ife, t]
      unfold wrapD
      cases isSt bd with
      | true => rfl
      | false => simp only [Option.bind_some, Bool.false_eq_true, if_false, ev_tup, evs_cons, evs_nil, ev_str, ev_varS, ev_var0, Option.map_some, List.length_cons, List.length_nil, Nat.zero_add, Nat.reduceAdd, if_pos hz2, if_pos hz3]
    refine ⟨J1 ++ J2, ?_⟩
    rw [← List.append_assoc, hs1, ed]
    refine cl_ret (d := d5.df) (ρ' := [some (.int (q : Nat)), some (.tup (tabD f (rows q))), some (.ref T), some (fallD none), some bd]) rfl rfl ?_
    show exs b5 gl (calls FS gl (k + 1 + 1 + 1)) [some (.int (q : Nat)), some (.tup (tabD f (rows q))), none, none, none] st = _
    rw [b5_eq, exs_step a1 rfl, exs_step a2 rfl, exs_step a3 rfl, exs_step a4 rfl, exs_ret a5]
end K71
end
section
set_option Elab.async false
set_option linter.all false
set_option maxRecDepth 100000
set_option maxHeartbeats 1000000
namespace K71
open Dz PySem L2
/-! ### _law_by_asking, its parts -/
abbrev lbE (T : Nat) (r : List It) (x2 x3 x4 x5 x6 x7 : Option D) : Dz.Env := [some (.ref T), some (encR r), x2, x3, x4, x5, x6, x7]
def lbA : E := .lc .dic [(.var 0)] (.nm 6) [(.and [(.val (.call 16 [(.var 1), (.var 6)])), (.cmp .isn (.dget (.var 0) (.var 6)) .non)])] (.var 6) [6]
theorem lb_ans (n T : Nat) (f : List It → It) (l : List (List It)) (r : List It) (x2 x3 x4 x5 x6 x7 : Option D) (st : Sto) (h : st[T]? = some (.dic true (tb f l))) (hl : l.length ≤ 1000) (hlen : ∀ o ∈ l, o.length = r.length) (hr : r.length ≤ 1000) :
    ∃ J, ev lbA gl (calls FS gl (n + 1)) (lbE T r x2 x3 x4 x5 x6 x7) st = some (.ref (st ++ J).length, st ++ J ++ [.lst (ansD f l r)]) := by
  obtain ⟨acc, st', e, rfl, J, rfl⟩ := ev_comp (g := gl) (C := calls FS gl (n + 1)) (ik := .dic) (src := [.var 0]) (tg := .nm 6) (cnd := [(.and [(.val (.call 16 [(.var 1), (.var 6)])), (.cmp .isn (.dget (.var 0) (.var 6)) .non)])]) (elt := .var 6) (own := [6])
    (ρ := lbE T r x2 x3 x4 x5 x6 x7) (st := st) (st0 := st) (xs := [.ref T]) (J := .keys (l.map encR)) (N := l.length) rfl (it_tb h)
    (fun i acc s => acc = ((l.take i).filter (tells f r)).map encR ∧ ∃ J, s = st ++ J) ⟨rfl, [], by simp⟩ (by
      rintro i acc s hi ⟨rfl, J, rfl⟩
      have eo : l[i]? = some l[i] := List.getElem?_eq_getElem hi
      have ho : l[i] ∈ l := List.getElem_mem hi
      generalize l[i] = o at eo ho
      obtain ⟨J2, e2⟩ := run_law_more n r o (st ++ J) (hlen o ho).symm hr
      have hT : TbAt (st ++ J ++ J2) T f l := TbAt.app (TbAt.app ⟨true, h⟩)
      refine ⟨encR o, if tells f r o then some (encR o) else none, st ++ J ++ J2, by show (l.map encR)[i]? = _; rw [List.getElem?_map, eo]; rfl, ?_, ?_, ?_, J ++ J2, by rw [List.append_assoc]⟩
      · have k0 : asgD (.nm 6) (encR o) (st ++ J) (wipeD (lbE T r x2 x3 x4 x5 x6 x7) [6]) = some (lbE T r x2 x3 x4 x5 (some (encR o)) x7) := rfl
        have k1 : evTA [(.and [(.val (.call 16 [(.var 1), (.var 6)])), (.cmp .isn (.dget (.var 0) (.var 6)) .non)])] gl (calls FS gl (n + 1)) (lbE T r x2 x3 x4 x5 (some (encR o)) x7) (st ++ J) = some (tells f r o, st ++ J ++ J2) := by
          simp only [evTA_cons, evTA_nil, evT_and, evT_val, evT_cmp, ev_call, evs_cons, evs_nil, ev_dget, ev_varS, ev_var0, ev_non, Option.bind_some, Option.map_some, e2, truD_bl, hT.get ho, cmp_isnN, isN_enc]
          unfold tells
          cases more r o <;> cases (f o).isNone <;> rfl
        simp only [k0, Option.bind_some, k1]
        cases tells f r o <;> rfl
      · intro _
        rw [sizeLine_eq, List.length_map]
        have := List.length_filter_le (tells f r) (l.take i)
        rw [List.length_take] at this
        omega
      · rw [take_one' eo, List.filter_append, List.map_append]
        cases hb : tells f r o <;> simp [List.filter_cons, hb]) (by
      rintro acc s ⟨_, J, rfl⟩
      simp [stD])
  rw [List.take_length] at e
  exact ⟨J, e⟩
theorem nin_none {st : Sto} {P : Nat} {xs : List It} (h : lstOf st P = some (xs.map enc)) : cmpD .nin .non (.ref P) st = some (!(xs.any (·.isNone))) := by
  have hf : ∃ f, toP 2 st = toPw f := ⟨_, rfl⟩
  obtain ⟨f, hf⟩ := hf
  have hm : ∀ ds : List D, ds.mapM (toPw f) = toPws f ds := fun ds => by
    induction ds with
    | nil => rfl
    | cons d ds ih =>
      rw [List.mapM_cons, ih]
      simp only [toPws]
      cases toPw f d with
      | none => rfl
      | some a => cases toPws f ds <;> rfl
  have e1 : toP 3 st (.ref P) = some (.list (xs.map dI)) := by
    show (match st[P]? with | some (.lst ds) => (ds.mapM (toP 2 st)).map PyData.list | _ => none) = _
    rw [getO h, hf]
    show ((xs.map enc).mapM (toPw f)).map PyData.list = _
    rw [hm, toPws_enc]; rfl
  have s1 : SeqAt.shaped (.list (xs.map dI)) = true := by
    obtain ⟨h1, h2⟩ := dIs_lay xs
    simp [SeqAt.shaped, PyData.canLay0, PyData.depth, h1, h2]
  have s2 : SeqAt.shaped PyData.none = true := by simp [SeqAt.shaped, PyData.canLay0, PyData.depth]
  have e2 : toP 3 st .non = some .none := rfl
  have e3 : (xs.map dI).any (fun z => PyData.eqv z .none) = xs.any (·.isNone) := by
    rw [List.any_map]
    congr 1
    funext x
    rcases x with _ | _ <;> simp [dI, PyData.eqv]
  show (inD st .non (.ref P)).map (!·) = _
  unfold inD
  rw [e1, e2]
  simp only [Option.bind_some, s1, s2, Bool.and_self, if_true, e3, Option.map_some]
def lbN : E := .lc .one [(.var 2)] (.nm 6) [] (.idx (.var 6) (.var 3)) [6]
theorem lb_col (C : List CS) (T Q k : Nat) (r : List It) (as : List (List It)) (x4 x5 x6 x7 : Option D) (st : Sto) (hQ : lstOf st Q = some (as.map encR)) (hlen : ∀ o ∈ as, k < o.length) (ha : as.length ≤ 1000) :
    ev lbN gl C (lbE T r (some (.ref Q)) (some (.int (k : Nat))) x4 x5 x6 x7) st = some (.ref st.length, st ++ [.lst ((as.map fun o => o.getD k none).map enc)]) := by
  have e1 : evs [(.var 2)] gl C (lbE T r (some (.ref Q)) (some (.int (k : Nat))) x4 x5 x6 x7) st = some ([.ref Q], st) := rfl
  have e2 : itD .one [.ref Q] st = some (.lst Q, ((as.map fun o => o.getD k none).map enc).length) := by
    show (lstOf st Q).map _ = _
    rw [hQ]; simp
  unfold lbN
  show (evs _ _ _ _ _).bind _ = _
  rw [e1]
  simp only [Option.bind_some, e2]
  refine (congrArg (Option.map _) (lc_ys (ys := (as.map fun o => o.getD k none).map enc) (fun j y hy => ?hb) ?he _ 0 [] (by simp) (by simp [sizeLine_eq]; omega))).trans ?fin
  case fin => simp only [List.drop_zero, List.nil_append]; rfl
  case he =>
    show (match lstOf st Q with | some ds => decide (ds.length ≤ _) | none => false) = true
    rw [hQ]; simp
  case hb =>
    rw [List.getElem?_map, List.getElem?_map] at hy
    obtain ⟨x, hx, rfl⟩ := Option.map_eq_some_iff.mp hy
    obtain ⟨o, ho, rfl⟩ := Option.map_eq_some_iff.mp hx
    have hk := hlen o (List.mem_of_getElem? ho)
    have ek : L2.atI (o.map enc) (k : Int) = some (enc (o.getD k none)) := L2.atI_nat (by rw [List.getElem?_map, List.getElem?_eq_getElem hk, List.getD_eq_getElem?_getD, List.getElem?_eq_getElem hk]; rfl)
    refine ⟨encR o, by show (lstOf st Q).bind _ = _; rw [hQ]; show (as.map encR)[j]? = _; rw [List.getElem?_map, ho]; rfl, ?_⟩
    have k0 : asgD (.nm 6) (encR o) st (wipeD (lbE T r (some (.ref Q)) (some (.int (k : Nat))) x4 x5 x6 x7) [6]) = some (lbE T r (some (.ref Q)) (some (.int (k : Nat))) x4 x5 (some (encR o)) x7) := rfl
    have x0 : idxD (encR o) (.int (k : Nat)) st = L2.atI (o.map enc) (k : Nat) := rfl
    simp only [k0, Option.bind_some, evTA_nil, if_true, ev_idx, ev_varS, ev_var0, x0, ek, Option.map_some]
def lbT : T := .and [(.cmp .is (.idx (.var 1) (.var 3)) .non), (.cmp .nin .non lbN)]
theorem lb_test (C : List CS) (T Q k : Nat) (r : List It) (as : List (List It)) (x4 x5 x6 x7 : Option D) (st : Sto) (hQ : lstOf st Q = some (as.map encR)) (hlen : ∀ o ∈ as, o.length = r.length) (hk : k < r.length) (ha : as.length ≤ 1000) :
    ∃ J, evT lbT gl C (lbE T r (some (.ref Q)) (some (.int (k : Nat))) x4 x5 x6 x7) st = some (askB r as k, st ++ J) := by
  have er : r.getD k none = r[k] := by rw [List.getD_eq_getElem?_getD, List.getElem?_eq_getElem hk]; rfl
  have ek : L2.atI (r.map enc) (k : Int) = some (enc r[k]) := L2.atI_nat (by rw [List.getElem?_map, List.getElem?_eq_getElem hk]; rfl)
  have x0 : idxD (encR r) (.int (k : Nat)) st = L2.atI (r.map enc) (k : Nat) := rfl
  have t1 : evT (.cmp .is (.idx (.var 1) (.var 3)) .non) gl C (lbE T r (some (.ref Q)) (some (.int (k : Nat))) x4 x5 x6 x7) st = some ((r[k]).isNone, st) := by
    simp only [evT_cmp, ev_idx, ev_varS, ev_var0, ev_non, Option.bind_some, x0, ek, Option.map_some, cmp_isN, isN_enc]
  have e2 := lb_col C T Q k r as x4 x5 x6 x7 st hQ (fun o ho => by rw [hlen o ho]; exact hk) ha
  have hc : lstOf (st ++ [.lst ((as.map fun o => o.getD k none).map enc)]) st.length = some ((as.map fun o => o.getD k none).map enc) := lst_mid _ _ _
  have t2 : evT (.cmp .nin .non lbN) gl C (lbE T r (some (.ref Q)) (some (.int (k : Nat))) x4 x5 x6 x7) st = some (full as k, st ++ [.lst ((as.map fun o => o.getD k none).map enc)]) := by
    rw [evT_cmp]
    simp only [ev_non, Option.bind_some, e2, nin_none hc, Option.map_some]
    congr 2
    unfold full
    rw [List.any_map, List.not_any_eq_all_not]
    rfl
  unfold lbT askB
  rw [er]
  cases hn : (r[k]).isNone with
  | true =>
    rw [hn] at t1
    refine ⟨[.lst ((as.map fun o => o.getD k none).map enc)], ?_⟩
    simp only [evT_and, evTA_cons, evTA_nil, t1, Option.bind_some, if_true, t2]
    cases full as k <;> rfl
  | false =>
    rw [hn] at t1
    refine ⟨[], ?_⟩
    simp only [evT_and, evTA_cons, t1, Option.bind_some, Bool.false_eq_true, if_false, List.append_nil, Bool.false_and]
/-- a list's first stuck part -/
theorem lb_parts (C : List CS) (T P : Nat) (r : List It) (ps : List D) (x2 x3 x5 x6 x7 : Option D) (st : Sto) (hP : lstOf st P = some ps) (hw : ∀ d ∈ ps, wf d) :
    (∃ y5, ex (.for_ .one [(.var 4)] (.nm 5) [.ife (.cmp .eq (.idx (.var 5) (.int 0)) (.str "stuck")) [.ret (.var 5)] []]) gl C (lbE T r x2 x3 (some (.ref P)) x5 x6 x7) st = some (.nx, lbE T r x2 x3 (some (.ref P)) y5 x6 x7, st) ∧ ps.find? isSt = none) ∨
    ∃ v ρ', ex (.for_ .one [(.var 4)] (.nm 5) [.ife (.cmp .eq (.idx (.var 5) (.int 0)) (.str "stuck")) [.ret (.var 5)] []]) gl C (lbE T r x2 x3 (some (.ref P)) x5 x6 x7) st = some (.rt v, ρ', st) ∧ ps.find? isSt = some v := by
  have key := ex_forR (g := gl) (C := C) (ik := .one) (src := [.var 4]) (tg := .nm 5) (b := [.ife (.cmp .eq (.idx (.var 5) (.int 0)) (.str "stuck")) [.ret (.var 5)] []]) (ρ := lbE T r x2 x3 (some (.ref P)) x5 x6 x7) (st := st) (st0 := st) (xs := [.ref P]) (J := .lst P) (N := ps.length) rfl (by show (lstOf st P).map _ = _; rw [hP]; rfl)
    (fun i ρ s => s = st ∧ ∃ y5, ρ = lbE T r x2 x3 (some (.ref P)) y5 x6 x7 ∧ ∀ d ∈ ps.take i, isSt d = false)
    (fun v ρ s => s = st ∧ ps.find? isSt = some v) ⟨rfl, x5, rfl, by simp⟩ (by
      rintro i ρ s hi ⟨rfl, y5, rfl, hn⟩
      have eo : ps[i]? = some ps[i] := List.getElem?_eq_getElem hi
      have ho : ps[i] ∈ ps := List.getElem_mem hi
      generalize ps[i] = p at eo ho
      refine ⟨p, by show (lstOf s P).bind _ = _; rw [hP]; exact eo, ?_⟩
      have f0 : asgD (.nm 5) p s (lbE T r x2 x3 (some (.ref P)) y5 x6 x7) = some (lbE T r x2 x3 (some (.ref P)) (some p) x6 x7) := rfl
      have t := wf_test (hw p ho) C (lbE T r x2 x3 (some (.ref P)) (some p) x6 x7) 5 s rfl
      cases hst : isSt p with
      | true =>
        rw [hst] at t
        refine .inr ⟨p, lbE T r x2 x3 (some (.ref P)) (some p) x6 x7, s, ?_, rfl, find_two eo hn hst⟩
        rw [f0]
        show exs _ gl C _ _ = _
        rw [exs_cons, ex_ife, t]; rfl
      | false =>
        rw [hst] at t
        refine .inl ⟨lbE T r x2 x3 (some (.ref P)) (some p) x6 x7, s, ?_, rfl, some p, rfl, fun d hd => ?_⟩
        · rw [f0]
          show exs _ gl C _ _ = _
          rw [exs_cons, ex_ife, t]; rfl
        · rw [take_one' eo, List.mem_append, List.mem_singleton] at hd
          rcases hd with hd | rfl
          · exact hn d hd
          · exact hst) (by
      rintro ρ s ⟨rfl, _⟩
      show (match lstOf s P with | some ds => decide (ds.length ≤ ps.length) | none => false) = true
      rw [hP]; simp)
  rcases key with ⟨ρ', st', e, rfl, y5, rfl, hn⟩ | ⟨v, ρ', st', e, rfl, hv⟩
  · rw [List.take_length] at hn
    exact .inl ⟨y5, e, List.find?_eq_none.mpr fun x hx => by simp [hn x hx]⟩
  · exact .inr ⟨v, ρ', e, hv⟩
end K71
end
section
set_option Elab.async false
set_option linter.all false
set_option maxRecDepth 100000
set_option maxHeartbeats 1000000
namespace K71
open Dz PySem L2
/-! ### _law_by_asking -/
def lbC : E := .lc .one [(.lst [(.int 0), (.int 1)])] (.nm 7) [] (.call 18 [(.var 0), nxE 1 3 7]) [7]
def lbF : S := .for_ .one [(.var 4)] (.nm 5) [.ife (.cmp .eq (.idx (.var 5) (.int 0)) (.str "stuck")) [.ret (.var 5)] []]
def lbZ : S := .ret (.tup [(.str "ask"), (.int 0), (.var 3), (.tup []), (.idx (.var 4) (.int 0)), (.idx (.var 4) (.int 1))])
def lbR : List S := [.ife lbT [.asg (.nm 4) lbC, lbF, lbZ] []]
theorem b18_eq : b18 = [.ife (.cmp .isn (.dget (.var 0) (.var 1)) .non) [.ret (.tup [(.str "say"), (.dget (.var 0) (.var 1))])] [],
 .lock 0 (.asg (.nm 2) lbA), .ife (.cmp .eq (.bi .len [(.var 2)]) (.int 0)) [.ret (.tup [(.str "stop")])] [],
 .for_ .rng1 [(.bi .len [(.var 1)])] (.nm 3) lbR, .ret (.tup [(.str "stuck"), (.var 1)])] := rfl
theorem lb_both (n T k : Nat) (r : List It) (x2 x4 x5 x6 x7 : Option D) (p0 p1 : D) (st : Sto) (kvs : KVs) (hT : st[T]? = some (.dic false kvs)) (hk : k < r.length) (hr : r.length ≤ 1000)
    (h0 : ∀ s : Sto, s[T]? = some (.dic false kvs) → ∃ J, callD FS gl n 18 [.ref T, encR (r.set k (some false))] s = some (p0, s ++ J))
    (h1 : ∀ s : Sto, s[T]? = some (.dic false kvs) → ∃ J, callD FS gl n 18 [.ref T, encR (r.set k (some true))] s = some (p1, s ++ J)) :
    ∃ J, ev lbC gl (calls FS gl (n + 1)) (lbE T r x2 (some (.int (k : Nat))) x4 x5 x6 x7) st = some (.ref (st ++ J).length, st ++ J ++ [.lst [p0, p1]]) := by
  have hz2 : 2 ≤ sizeLine := by rw [sizeLine_eq]; omega
  obtain ⟨acc, st', e, rfl, J, rfl⟩ := ev_comp (g := gl) (C := calls FS gl (n + 1)) (ik := .one) (src := [(.lst [(.int 0), (.int 1)])]) (tg := .nm 7) (cnd := []) (elt := .call 18 [(.var 0), nxE 1 3 7]) (own := [7])
    (ρ := lbE T r x2 (some (.int (k : Nat))) x4 x5 x6 x7) (st := st) (st0 := st ++ [.lst [.int 0, .int 1]]) (xs := [.ref st.length]) (J := .lst st.length) (N := 2) (by
      simp only [evs_cons, evs_nil, ev_lst, ev_int, Option.bind_some, Option.map_some, List.length_cons, List.length_nil, Nat.zero_add, Nat.reduceAdd, if_pos hz2, new_eq]) (by
      show (lstOf (st ++ [.lst [.int 0, .int 1]]) st.length).map _ = _
      rw [lst_mid]; rfl)
    (fun i acc s => acc = [p0, p1].take i ∧ ∃ J, s = st ++ .lst [.int 0, .int 1] :: J) ⟨rfl, [], rfl⟩ (by
      rintro i acc s hi ⟨rfl, J, rfl⟩
      have hb : ∃ (b : Bool) (p : D), [D.int 0, D.int 1][i]? = some (enc (some b)) ∧ [p0, p1][i]? = some p ∧ ∀ s : Sto, s[T]? = some (.dic false kvs) → ∃ J, callD FS gl n 18 [.ref T, encR (r.set k (some b))] s = some (p, s ++ J) := by
        match i, hi with
        | 0, _ => exact ⟨false, p0, rfl, rfl, h0⟩
        | 1, _ => exact ⟨true, p1, rfl, rfl, h1⟩
      obtain ⟨b, p, hb1, hb2, hb3⟩ := hb
      have hT1 : (st ++ .lst [.int 0, .int 1] :: J)[T]? = some (.dic false kvs) := by
        rw [List.getElem?_append_left (List.getElem?_eq_some_iff.mp hT).1]; exact hT
      obtain ⟨J2, e5⟩ := hb3 _ hT1
      refine ⟨enc (some b), some p, st ++ .lst [.int 0, .int 1] :: J ++ J2, ?_, ?_, ?_, ?_, J ++ J2, by simp⟩
      · show (lstOf (st ++ .lst [.int 0, .int 1] :: J) st.length).bind _ = _
        rw [lst_mid]; exact hb1
      · have k0 : asgD (.nm 7) (enc (some b)) (st ++ .lst [.int 0, .int 1] :: J) (wipeD (lbE T r x2 (some (.int (k : Nat))) x4 x5 x6 x7) [7]) = some (lbE T r x2 (some (.int (k : Nat))) x4 x5 x6 (some (enc (some b)))) := rfl
        have en : ev (nxE 1 3 7) gl (calls FS gl (n + 1)) (lbE T r x2 (some (.int (k : Nat))) x4 x5 x6 (some (enc (some b)))) (st ++ .lst [.int 0, .int 1] :: J) = some (encR (r.set k (some b)), st ++ .lst [.int 0, .int 1] :: J) := ev_next rfl rfl rfl hk hr
        simp only [k0, Option.bind_some, evTA_nil, if_true, ev_call, evs_cons, evs_nil, ev_var0, en, Option.map_some, e5]
      · intro _
        rw [sizeLine_eq, List.length_take]; omega
      · rw [take_one' hb2]; rfl) (by
      rintro acc s ⟨_, J, rfl⟩
      show (match lstOf (st ++ .lst [.int 0, .int 1] :: J) st.length with | some ds => decide (ds.length ≤ 2) | none => false) = true
      rw [lst_mid]; rfl)
  refine ⟨.lst [.int 0, .int 1] :: J, e⟩
theorem lb_ask (n T k Q : Nat) (r : List It) (x4 x5 x6 x7 : Option D) (p0 p1 : D) (st : Sto) (kvs : KVs) (hT : st[T]? = some (.dic false kvs)) (hk : k < r.length) (hr : r.length ≤ 1000)
    (h0 : ∀ s : Sto, s[T]? = some (.dic false kvs) → ∃ J, callD FS gl n 18 [.ref T, encR (r.set k (some false))] s = some (p0, s ++ J))
    (h1 : ∀ s : Sto, s[T]? = some (.dic false kvs) → ∃ J, callD FS gl n 18 [.ref T, encR (r.set k (some true))] s = some (p1, s ++ J)) (w0 : wf p0) (w1 : wf p1) :
    ∃ J ρ', exs [.asg (.nm 4) lbC, lbF, lbZ] gl (calls FS gl (n + 1)) (lbE T r (some (.ref Q)) (some (.int (k : Nat))) x4 x5 x6 x7) st = some (.rt (askD k [p0, p1]), ρ', st ++ J) := by
  have hz0 : 0 ≤ sizeLine := Nat.zero_le _
  have hz6 : 6 ≤ sizeLine := by rw [sizeLine_eq]; omega
  obtain ⟨J, e1⟩ := lb_both n T k r (some (.ref Q)) x4 x5 x6 x7 p0 p1 st kvs hT hk hr h0 h1
  have a1 : ex (.asg (.nm 4) lbC) gl (calls FS gl (n + 1)) (lbE T r (some (.ref Q)) (some (.int (k : Nat))) x4 x5 x6 x7) st = some (.nx, lbE T r (some (.ref Q)) (some (.int (k : Nat))) (some (.ref (st ++ J).length)) x5 x6 x7, st ++ J ++ [.lst [p0, p1]]) := by
    rw [ex_asg, e1]; rfl
  have hP : lstOf (st ++ J ++ [.lst [p0, p1]]) (st ++ J).length = some [p0, p1] := lst_mid _ _ _
  have hw : ∀ d ∈ [p0, p1], wf d := by simp [w0, w1]
  rcases lb_parts (calls FS gl (n + 1)) T _ r [p0, p1] (some (.ref Q)) (some (.int (k : Nat))) x5 x6 x7 _ hP hw with ⟨y5, e2, hf⟩ | ⟨v, ρ', e2, hf⟩
  · have ea : askD k [p0, p1] = .tup [.str "ask", .int 0, .int (k : Nat), .tup [], p0, p1] := by unfold askD; rw [hf]; rfl
    have i0 : L2.atI [p0, p1] 0 = some p0 := rfl
    have i1 : L2.atI [p0, p1] 1 = some p1 := rfl
    have e9 : ex lbZ gl (calls FS gl (n + 1)) (lbE T r (some (.ref Q)) (some (.int (k : Nat))) (some (.ref (st ++ J).length)) y5 x6 x7) (st ++ J ++ [.lst [p0, p1]]) = some (.rt (.tup [.str "ask", .int 0, .int (k : Nat), .tup [], p0, p1]), lbE T r (some (.ref Q)) (some (.int (k : Nat))) (some (.ref (st ++ J).length)) y5 x6 x7, st ++ J ++ [.lst [p0, p1]]) := by
      unfold lbZ
      simp only [ex_ret, ev_tup, evs_cons, evs_nil, ev_str, ev_int, ev_idx, ev_varS, ev_var0, Option.bind_some, Option.map_some, idx_ref, hP, i0, i1, List.length_cons, List.length_nil, Nat.zero_add, Nat.reduceAdd, if_pos hz0, if_pos hz6]
    refine ⟨J ++ [.lst [p0, p1]], lbE T r (some (.ref Q)) (some (.int (k : Nat))) (some (.ref (st ++ J).length)) y5 x6 x7, ?_⟩
    rw [ea, ← List.append_assoc, exs_step a1 rfl]
    show exs (lbF :: [lbZ]) _ _ _ _ = _
    rw [exs_step (s := lbF) e2 rfl, exs_ret e9]
  · have ea : askD k [p0, p1] = v := by unfold askD; rw [hf]
    refine ⟨J ++ [.lst [p0, p1]], ρ', ?_⟩
    rw [ea, ← List.append_assoc, exs_step a1 rfl]
    show exs (lbF :: [lbZ]) _ _ _ _ = _
    exact exs_ret (s := lbF) e2
end K71
end
section
set_option Elab.async false
set_option linter.all false
set_option maxRecDepth 100000
set_option maxHeartbeats 1000000
namespace K71
open Dz PySem L2
theorem byP_say {f : List It → It} {l : List (List It)} {M : Nat} {r : List It} (h : (f r).isNone = false) : byP f l (M + 1) r = .tup [.str "say", enc (f r)] := by
  unfold byP; rw [h]; rfl
theorem byP_stop {f : List It → It} {l : List (List It)} {M : Nat} {r : List It} (h : (f r).isNone = true) (h2 : (ans f l r).isEmpty = true) : byP f l (M + 1) r = .tup [.str "stop"] := by
  unfold byP; rw [h, h2]; rfl
theorem byP_stuck {f : List It → It} {l : List (List It)} {M : Nat} {r : List It} (h : (f r).isNone = true) (h2 : (ans f l r).isEmpty = false) (h3 : askK r (ans f l r) = none) : byP f l (M + 1) r = .tup [.str "stuck", encR r] := by
  unfold byP; rw [h, h2, h3]; rfl
theorem byP_ask {f : List It → It} {l : List (List It)} {M : Nat} {r : List It} {k : Nat} (h : (f r).isNone = true) (h2 : (ans f l r).isEmpty = false) (h3 : askK r (ans f l r) = some k) : byP f l (M + 1) r = askD k [byP f l M (r.set k (some false)), byP f l M (r.set k (some true))] := by
  conv => lhs; unfold byP
  rw [h, h2, h3]; rfl
theorem ask_lt {r : List It} {as : List (List It)} {k : Nat} (hk : askK r as = some k) (b : Bool) : k < r.length ∧ (r.set k (some b)).countP (·.isNone) + 1 = r.countP (·.isNone) := by
  have hk1 : k < r.length := List.mem_range.mp (List.mem_of_find?_eq_some hk)
  have hk2 : askB r as k = true := List.find?_some hk
  unfold askB at hk2
  rw [Bool.and_eq_true] at hk2
  have er : r.getD k none = r[k] := by rw [List.getD_eq_getElem?_getD, List.getElem?_eq_getElem hk1]; rfl
  rw [er] at hk2
  refine ⟨hk1, ?_⟩
  have hp : 0 < r.countP (·.isNone) := List.countP_pos_iff.mpr ⟨r[k], List.getElem_mem hk1, hk2.1⟩
  rw [List.countP_set hk1, hk2.1]
  simp
  omega
theorem lb_for (n T Q : Nat) (r : List It) (as : List (List It)) (x3 x4 x5 x6 x7 : Option D) (st : Sto) (kvs : KVs) (hT : st[T]? = some (.dic false kvs)) (hr : r.length ≤ 1000) (hQ : lstOf st Q = some (as.map encR)) (hlen : ∀ o ∈ as, o.length = r.length) (ha : as.length ≤ 1000) (pb : Nat → Bool → D)
    (hb : ∀ k, askK r as = some k → (∀ b, wf (pb k b)) ∧ ∀ b, ∀ s : Sto, s[T]? = some (.dic false kvs) → ∃ J, callD FS gl n 18 [.ref T, encR (r.set k (some b))] s = some (pb k b, s ++ J)) :
    (askK r as = none ∧ ∃ ρ' J, ex (.for_ .rng1 [(.bi .len [(.var 1)])] (.nm 3) lbR) gl (calls FS gl (n + 1)) (lbE T r (some (.ref Q)) x3 x4 x5 x6 x7) st = some (.nx, ρ', st ++ J) ∧ ρ'[1]? = some (some (encR r))) ∨
    ∃ k, askK r as = some k ∧ ∃ ρ' J, ex (.for_ .rng1 [(.bi .len [(.var 1)])] (.nm 3) lbR) gl (calls FS gl (n + 1)) (lbE T r (some (.ref Q)) x3 x4 x5 x6 x7) st = some (.rt (askD k [pb k false, pb k true]), ρ', st ++ J) := by
  have hinR : inR ((r.length : Nat) : Int) = true := by simp [inR]; omega
  have e0 : evs [(.bi .len [(.var 1)])] gl (calls FS gl (n + 1)) (lbE T r (some (.ref Q)) x3 x4 x5 x6 x7) st = some ([.int (r.length : Nat)], st) := by
    show (some ([D.int ((r.map enc).length : Nat)], st) : Option _) = _
    rw [List.length_map]
  have key := ex_forR (g := gl) (C := calls FS gl (n + 1)) (ik := .rng1) (src := [(.bi .len [(.var 1)])]) (tg := .nm 3) (b := lbR) (ρ := lbE T r (some (.ref Q)) x3 x4 x5 x6 x7) (st := st) (st0 := st) (xs := [.int (r.length : Nat)]) (J := .rng 0 1 r.length) (N := r.length) e0 (by
      show (if inR ((r.length : Nat) : Int) then some (IT.rng 0 1 ((r.length : Nat) : Int).toNat, ((r.length : Nat) : Int).toNat) else none) = _
      rw [if_pos hinR]; rfl)
    (fun i ρ s => (∃ J, s = st ++ J) ∧ (∃ x3 x4 x5 x6 x7, ρ = lbE T r (some (.ref Q)) x3 x4 x5 x6 x7) ∧ ∀ j, j < i → askB r as j = false)
    (fun v ρ s => (∃ J, s = st ++ J) ∧ ∃ k, askK r as = some k ∧ v = askD k [pb k false, pb k true]) ⟨⟨[], by simp⟩, ⟨x3, x4, x5, x6, x7, rfl⟩, fun j hj => absurd hj (Nat.not_lt_zero j)⟩ (by
      rintro i ρ s hi ⟨⟨J, rfl⟩, ⟨x3, x4, x5, x6, x7, rfl⟩, hn⟩
      refine ⟨.int (i : Nat), by simp [nxD, hi], ?_⟩
      have f0 : asgD (.nm 3) (.int (i : Nat)) (st ++ J) (lbE T r (some (.ref Q)) x3 x4 x5 x6 x7) = some (lbE T r (some (.ref Q)) (some (.int (i : Nat))) x4 x5 x6 x7) := rfl
      obtain ⟨J2, et⟩ := lb_test (calls FS gl (n + 1)) T Q i r as x4 x5 x6 x7 (st ++ J) (lst_old hQ) hlen hi ha
      rw [f0]
      cases hB : askB r as i with
      | false =>
        rw [hB] at et
        refine .inl ⟨lbE T r (some (.ref Q)) (some (.int (i : Nat))) x4 x5 x6 x7, st ++ J ++ J2, ?_, ⟨J ++ J2, by rw [List.append_assoc]⟩, ⟨_, _, _, _, _, rfl⟩, fun j hj => ?_⟩
        · show exs lbR gl _ _ _ = _
          unfold lbR
          rw [exs_cons, ex_ife, et]; rfl
        · by_cases h : j = i
          · rw [h]; exact hB
          · exact hn j (by omega)
      | true =>
        rw [hB] at et
        have hk : askK r as = some i := find_range hi hn hB
        obtain ⟨hw, hc⟩ := hb i hk
        have hT2 : (st ++ J ++ J2)[T]? = some (.dic false kvs) := by
          rw [List.append_assoc, List.getElem?_append_left (List.getElem?_eq_some_iff.mp hT).1]; exact hT
        obtain ⟨J3, ρ', e3⟩ := lb_ask n T i Q r x4 x5 x6 x7 (pb i false) (pb i true) (st ++ J ++ J2) kvs hT2 hi hr (hc false) (hc true) (hw false) (hw true)
        refine .inr ⟨askD i [pb i false, pb i true], ρ', st ++ J ++ J2 ++ J3, ?_, ⟨J ++ J2 ++ J3, by simp only [List.append_assoc]⟩, i, hk, rfl⟩
        show exs lbR gl _ _ _ = _
        unfold lbR
        refine exs_ret ?_
        rw [ex_ife, et]
        exact e3) (by
      rintro ρ s _
      simp [stD])
  rcases key with ⟨ρ', st', e, ⟨J, rfl⟩, ⟨y3, y4, y5, y6, y7, rfl⟩, hn⟩ | ⟨v, ρ', st', e, ⟨J, rfl⟩, k, hk, rfl⟩
  · refine .inl ⟨?_, _, J, e, rfl⟩
    unfold askK
    refine List.find?_eq_none.mpr fun j hj => ?_
    rw [hn j (List.mem_range.mp hj)]
    exact Bool.false_ne_true
  · exact .inr ⟨k, hk, ρ', J, e⟩
theorem lb_say (n T : Nat) (r : List It) (v : D) (st : Sto) (h : ∀ C ρ, ρ[0]? = some (some (D.ref T)) → ρ[1]? = some (some (encR r)) → ev (.dget (.var 0) (.var 1)) gl C ρ st = some (v, st)) (hv : cmpD .isn v .non st = some true) : callD FS gl n 18 [.ref T, encR r] st = some (.tup [.str "say", v], st) := by
  have hz2 : 2 ≤ sizeLine := by rw [sizeLine_eq]; omega
  have ev1 := h (calls FS gl n) (lbE T r none none none none none none) rfl rfl
  have e9 : ex (.ret (.tup [(.str "say"), (.dget (.var 0) (.var 1))])) gl (calls FS gl n) (lbE T r none none none none none none) st = some (.rt (.tup [.str "say", v]), lbE T r none none none none none none, st) := by
    simp only [ex_ret, ev_tup, evs_cons, evs_nil, ev_str, ev1, Option.bind_some, Option.map_some, List.length_cons, List.length_nil, Nat.zero_add, Nat.reduceAdd, if_pos hz2]
  have t : evT (.cmp .isn (.dget (.var 0) (.var 1)) .non) gl (calls FS gl n) (lbE T r none none none none none none) st = some (true, st) := by
    simp only [evT_cmp, ev1, ev_non, Option.bind_some, hv, Option.map_some]
  refine cl_ret (d := d18.df) (ρ' := lbE T r none none none none none none) rfl rfl ?_
  show exs b18 gl (calls FS gl n) (lbE T r none none none none none none) st = _
  rw [b18_eq]
  refine exs_ret ?_
  rw [ex_ife, t]
  show exs _ gl (calls FS gl n) _ _ = _
  rw [exs_ret e9]
theorem lb_more (n T Q : Nat) (r : List It) (kvs : KVs) (J : Sto) (res : D) (st s2 : Sto) (ρ' : Dz.Env)
    (ht : evT (.cmp .isn (.dget (.var 0) (.var 1)) .non) gl (calls FS gl n) (lbE T r none none none none none none) st = some (false, st))
    (ha : ex (.lock 0 (.asg (.nm 2) lbA)) gl (calls FS gl n) (lbE T r none none none none none none) st = some (.nx, lbE T r (some (.ref Q)) none none none none none, st ++ J))
    (h : exs [.ife (.cmp .eq (.bi .len [(.var 2)]) (.int 0)) [.ret (.tup [(.str "stop")])] [],
 .for_ .rng1 [(.bi .len [(.var 1)])] (.nm 3) lbR, .ret (.tup [(.str "stuck"), (.var 1)])] gl (calls FS gl n) (lbE T r (some (.ref Q)) none none none none none) (st ++ J) = some (.rt res, ρ', s2)) :
    callD FS gl n 18 [.ref T, encR r] st = some (res, s2) := by
  refine cl_ret (d := d18.df) (ρ' := ρ') rfl rfl ?_
  show exs b18 gl (calls FS gl n) (lbE T r none none none none none none) st = _
  rw [b18_eq]
  have e1 : ex (.ife (.cmp .isn (.dget (.var 0) (.var 1)) .non) [.ret (.tup [(.str "say"), (.dget (.var 0) (.var 1))])] []) gl (calls FS gl n) (lbE T r none none none none none none) st = some (.nx, lbE T r none none none none none none, st) := by
    rw [ex_ife, ht]; rfl
  rw [exs_step e1 rfl, exs_step ha rfl]
  exact h
end K71
end
section
set_option Elab.async false
set_option linter.all false
set_option maxRecDepth 100000
set_option maxHeartbeats 1000000
namespace K71
open Dz PySem L2
theorem ans_le (f : List It → It) (l : List (List It)) (r : List It) : (ans f l r).length ≤ l.length := List.length_filter_le _ _
theorem len_zero (n T Q : Nat) (r : List It) (as : List (List It)) (st : Sto) (hQ : lstOf st Q = some (as.map encR)) : evT (.cmp .eq (.bi .len [(.var 2)]) (.int 0)) gl (calls FS gl n) (lbE T r (some (.ref Q)) none none none none none) st = some (as.isEmpty, st) := by
  have e : ev (.bi .len [(.var 2)]) gl (calls FS gl n) (lbE T r (some (.ref Q)) none none none none none) st = some (.int (as.length : Nat), st) := by
    simp only [ev_bi, evs_cons, evs_nil, ev_varS, ev_var0, Option.bind_some, Option.map_some, len_ref, hQ, List.length_map]
  rw [evT_cmp]
  simp only [e, Option.bind_some, ev_int, cmp_eq, eq_ij, Option.map_some]
  congr 2
  cases as with
  | nil => rfl
  | cons a l => simp; omega
theorem stop_ex (n T Q : Nat) (r : List It) (st : Sto) : ex (.ret (.tup [(.str "stop")])) gl (calls FS gl n) (lbE T r (some (.ref Q)) none none none none none) st = some (.rt (.tup [.str "stop"]), lbE T r (some (.ref Q)) none none none none none, st) := by
  have hz1 : 1 ≤ sizeLine := by rw [sizeLine_eq]; omega
  simp only [ex_ret, ev_tup, evs_cons, evs_nil, ev_str, Option.bind_some, Option.map_some, List.length_cons, List.length_nil, Nat.zero_add, if_pos hz1]
theorem stuck_ex (C : List CS) (r : List It) (ρ : Dz.Env) (st : Sto) (h : ρ[1]? = some (some (encR r))) : ex (.ret (.tup [(.str "stuck"), (.var 1)])) gl C ρ st = some (.rt (.tup [.str "stuck", encR r]), ρ, st) := by
  have hz2 : 2 ≤ sizeLine := by rw [sizeLine_eq]; omega
  simp only [ex_ret, ev_tup, evs_cons, evs_nil, ev_str, ev_var, h, Option.bind_some, Option.map_some, List.length_cons, List.length_nil, Nat.zero_add, Nat.reduceAdd, if_pos hz2]
theorem run_asking (T q : Nat) (f : List It → It) (hq : q ≤ 3) : ∀ (M : Nat) (r : List It) (st : Sto), r.length = q → r.countP (·.isNone) ≤ M → st[T]? = some (.dic false (tb f (rows q))) →
    ∃ J, callD FS gl (M + 1) 18 [.ref T, encR r] st = some (byP f (rows q) (M + 1) r, st ++ J) := by
  intro M
  induction M using Nat.strongRecOn with
  | _ M ih =>
    intro r st hr hc h
    have hm : r ∈ rows q := (mem_rows q r).mpr hr
    have h27 := rows27 hq
    have hlen : ∀ o ∈ rows q, o.length = r.length := fun o ho => by rw [hr]; exact (mem_rows q o).mp ho
    have hT : TbAt st T f (rows q) := ⟨false, h⟩
    have hev : ∀ C ρ, ρ[0]? = some (some (D.ref T)) → ρ[1]? = some (some (encR r)) → ev (.dget (.var 0) (.var 1)) gl C ρ st = some (enc (f r), st) := fun C ρ h0 h1 => by
      simp only [ev_dget, ev_var, h0, h1, Option.bind_some, hT.get hm, Option.map_some]
    cases hf : (f r).isNone with
    | false =>
      refine ⟨[], ?_⟩
      rw [byP_say hf, List.append_nil]
      exact lb_say (M + 1) T r (enc (f r)) st hev (by rw [cmp_isnN, isN_enc, hf]; rfl)
    | true =>
      have t : evT (.cmp .isn (.dget (.var 0) (.var 1)) .non) gl (calls FS gl (M + 1)) (lbE T r none none none none none none) st = some (false, st) := by
        simp only [evT_cmp, hev (calls FS gl (M + 1)) (lbE T r none none none none none none) rfl rfl, ev_non, Option.bind_some, Option.map_some, cmp_isnN, isN_enc, hf]
        rfl
      have hTl : T < st.length := (List.getElem?_eq_some_iff.mp h).1
      obtain ⟨J, ea⟩ := lb_ans M T f (rows q) r none none none none none none (st.set T (.dic true (tb f (rows q)))) (List.getElem?_set_self hTl) (by omega) hlen (by omega)
      have la : ex (.lock 0 (.asg (.nm 2) lbA)) gl (calls FS gl (M + 1)) (lbE T r none none none none none none) st = some (.nx, lbE T r (some (.ref (st ++ J).length)) none none none none none, st ++ (J ++ [.lst (ansD f (rows q) r)])) := by
        refine lock_run rfl h ?_
        rw [ex_asg, ea]
        simp only [Option.bind_some, List.append_assoc, List.length_append, List.length_set]
        rfl
      have hQ : lstOf (st ++ (J ++ [.lst (ansD f (rows q) r)])) (st ++ J).length = some ((ans f (rows q) r).map encR) := by
        rw [← List.append_assoc]; exact lst_mid _ _ _
      generalize hs1 : st ++ (J ++ [.lst (ansD f (rows q) r)]) = s1 at la hQ
      generalize (st ++ J).length = Q at la hQ
      have hT1 : s1[T]? = some (.dic false (tb f (rows q))) := by
        rw [← hs1, List.getElem?_append_left hTl]; exact h
      have hal := ans_le f (rows q) r
      have t2 := len_zero (M + 1) T Q r (ans f (rows q) r) s1 hQ
      cases has : (ans f (rows q) r).isEmpty with
      | true =>
        rw [has] at t2
        refine ⟨J ++ [.lst (ansD f (rows q) r)], ?_⟩
        rw [byP_stop hf has, hs1]
        rw [← hs1] at la
        refine lb_more (M + 1) T Q r (tb f (rows q)) _ _ st s1 (lbE T r (some (.ref Q)) none none none none none) t la ?_
        rw [hs1]
        refine exs_ret ?_
        rw [ex_ife, t2]
        show exs _ gl (calls FS gl (M + 1)) _ _ = _
        rw [exs_ret (stop_ex (M + 1) T Q r s1)]
      | false =>
        rw [has] at t2
        have e2 : ex (.ife (.cmp .eq (.bi .len [(.var 2)]) (.int 0)) [.ret (.tup [(.str "stop")])] []) gl (calls FS gl (M + 1)) (lbE T r (some (.ref Q)) none none none none none) s1 = some (.nx, lbE T r (some (.ref Q)) none none none none none, s1) := by
          rw [ex_ife, t2]; rfl
        have hb : ∀ k, askK r (ans f (rows q) r) = some k → (∀ b, wf (byP f (rows q) M (r.set k (some b)))) ∧ ∀ b, ∀ s : Sto, s[T]? = some (.dic false (tb f (rows q))) → ∃ J, callD FS gl M 18 [.ref T, encR (r.set k (some b))] s = some (byP f (rows q) M (r.set k (some b)), s ++ J) := by
          intro k hk
          have h1 := fun b => ask_lt hk b
          have h1f := (h1 false).2
          obtain ⟨M, rfl⟩ : ∃ m, M = m + 1 := ⟨M - 1, by omega⟩
          refine ⟨fun b => wf_byP f (rows q) M _ (by have := (h1 b).2; omega), fun b s hs => ?_⟩
          exact ih M (by omega) (r.set k (some b)) s (by simpa using hr) (by have := (h1 b).2; omega) hs
        rcases lb_for M T Q r (ans f (rows q) r) none none none none none s1 (tb f (rows q)) hT1 (by omega) hQ (fun o ho => hlen o (List.mem_filter.mp ho).1) (by omega) (fun k b => byP f (rows q) M (r.set k (some b))) hb with ⟨hk, ρ', J2, e3, hρ⟩ | ⟨k, hk, ρ', J2, e3⟩
        · refine ⟨J ++ [.lst (ansD f (rows q) r)] ++ J2, ?_⟩
          rw [byP_stuck hf has hk, ← List.append_assoc, hs1]
          rw [← hs1] at la
          refine lb_more (M + 1) T Q r (tb f (rows q)) _ _ st _ ρ' t la ?_
          rw [hs1, exs_step e2 rfl, exs_step e3 rfl]
          exact exs_ret (stuck_ex _ r ρ' _ hρ)
        · refine ⟨J ++ [.lst (ansD f (rows q) r)] ++ J2, ?_⟩
          rw [byP_ask hf has hk, ← List.append_assoc, hs1]
          rw [← hs1] at la
          refine lb_more (M + 1) T Q r (tb f (rows q)) _ _ st _ ρ' t la ?_
          rw [hs1, exs_step e2 rfl]
          exact exs_ret e3
end K71
end
section
set_option Elab.async false
set_option linter.all false
set_option maxRecDepth 100000
set_option maxHeartbeats 1000000
namespace K71
open Dz PySem L2
/-! ### the store but for X; _law_body -/
def Kq (X : List Nat) (a b : Sto) : Prop := a.length ≤ b.length ∧ ∀ k, k < a.length → k ∉ X → b[k]? = a[k]?
theorem Kq.refl (X : List Nat) (a : Sto) : Kq X a a := ⟨Nat.le_refl _, fun _ _ _ => rfl⟩
theorem Kq.trans {X : List Nat} {a b c : Sto} (h : Kq X a b) (h' : Kq X b c) : Kq X a c := ⟨Nat.le_trans h.1 h'.1, fun k hk n => by rw [h'.2 k (Nat.lt_of_lt_of_le hk h.1) n, h.2 k hk n]⟩
theorem Kq.app (X : List Nat) (a J : Sto) : Kq X a (a ++ J) := ⟨by simp, fun k hk _ => List.getElem?_append_left hk⟩
theorem Kq.set {X : List Nat} {a : Sto} {k : Nat} {o : O} (m : k ∈ X) : Kq X a (a.set k o) := ⟨by simp, fun j _ n => by
  rw [List.getElem?_set_ne]
  exact fun e => n (e ▸ m)⟩
theorem Kq.setN {X : List Nat} {a s : Sto} {k : Nat} {o : O} (h : Kq X a s) (m : a.length ≤ k) : Kq X a (s.set k o) := ⟨by simpa using h.1, fun j hj n => by
  rw [List.getElem?_set_ne (by omega)]
  exact h.2 j hj n⟩
theorem Kq.wk {X Y : List Nat} {a b : Sto} (h : Kq X a b) (s : ∀ x ∈ X, x ∈ Y) : Kq Y a b := ⟨h.1, fun k hk n => h.2 k hk fun m => n (s k m)⟩
/-- what was new at a may be in X -/
theorem Kq.wkN {X Y : List Nat} {a b : Sto} (h : Kq X a b) (s : ∀ x ∈ X, x ∈ Y ∨ a.length ≤ x) : Kq Y a b := ⟨h.1, fun k hk n => h.2 k hk fun m => by
  rcases s k m with h1 | h1
  · exact n h1
  · omega⟩
theorem Kq.get {X : List Nat} {a b : Sto} (h : Kq X a b) {k : Nat} {o : O} (e : a[k]? = some o) (n : k ∉ X) : b[k]? = some o := by
  rw [h.2 k (List.getElem?_eq_some_iff.mp e).1 n, e]
theorem Kq.lst {X : List Nat} {a b : Sto} (h : Kq X a b) {k : Nat} {ds : List D} (e : lstOf a k = some ds) (n : k ∉ X) : lstOf b k = some ds := by
  have e1 := h.get (getO e) n
  unfold lstOf; rw [e1]
theorem Box.kq {b j : Nat} {X : List Nat} {a c : Sto} (h : Box b j a) (k : Kq X a c) (hb : b ∉ X) (hj : j ∉ X) : Box b j c := by
  obtain ⟨n, p, zs, h1, h2⟩ := h
  exact ⟨n, p, zs, k.lst h1 hb, k.lst h2 hj⟩
theorem draw_det {b j : Nat} {st : Sto} (h : Box b j st) (n m : Nat) (hm : 0 < m) : ∃ (r p : Nat), r < m ∧ callD FS gl n 8 [.ref b, .int (m : Nat)] st = some (.int (r : Nat), st.set b (.lst [.ref j, .int (p : Nat)])) := by
  obtain ⟨hn, p, zs, h1, h2⟩ := h
  have hb := lst_lt h1
  have e1 : L2.atI [D.ref j, .int (p : Nat)] 1 = some (.int (p : Nat)) := rfl
  have e0 : L2.atI [D.ref j, .int ((p : Int) + 1)] 0 = some (.ref j) := rfl
  have e3 : L2.ixN [D.ref j, .int (p : Nat)].length 1 = some 1 := rfl
  have es : setD (.ref b) (.int 1) (.int ((p : Int) + 1)) st = some (st.set b (.lst [.ref j, .int ((p : Int) + 1)])) := by
    simp only [setD, getO h1, e3, Option.map_some]
    rfl
  have hl1 : lstOf (st.set b (.lst [.ref j, .int ((p : Int) + 1)])) b = some [.ref j, .int ((p : Int) + 1)] := by rw [lst_set hb, if_pos rfl]
  have hl2 : lstOf (st.set b (.lst [.ref j, .int ((p : Int) + 1)])) j = some (zs.map .int) := by rw [lst_set hb, if_neg hn]; exact h2
  have hm0 : (m : Int) ≠ 0 := by omega
  have hm1 : m ≠ 0 := by omega
  by_cases hp : p < zs.length
  · have e4 : L2.atI (zs.map D.int) (p : Int) = some (.int zs[p]) := L2.atI_nat (by simp [hp])
    have hr : zs[p].fmod m = ((zs[p].fmod m).toNat : Nat) := by
      have := Int.fmod_nonneg_of_pos zs[p] (b := (m : Int)) (by omega)
      omega
    have hr2 := Int.fmod_lt_of_pos zs[p] (b := (m : Int)) (by omega)
    refine ⟨(zs[p].fmod m).toNat, p + 1, by omega, ?_⟩
    rw [← hr]
    refine cl_ret (d := d8.df) (ρ' := [some (.ref b), some (.int (m : Nat)), some (.int (p : Nat))]) rfl rfl ?_
    show exs b8 gl (calls FS gl n) [some (.ref b), some (.int (m : Nat)), none] st = _
    simp [b8, h1, e1, es, hl1, e0, hl2, hp, e4, binD, hm0, hm1]
  · refine ⟨0, p + 1, hm, ?_⟩
    refine cl_ret (d := d8.df) (ρ' := [some (.ref b), some (.int (m : Nat)), some (.int (p : Nat))]) rfl rfl ?_
    show exs b8 gl (calls FS gl n) [some (.ref b), some (.int (m : Nat)), none] st = _
    simp [b8, h1, e1, es, hl1, e0, hl2, hp, binD, hm0, hm1]
theorem run_drawQ (n : Nat) {b j : Nat} {st : Sto} (h : Box b j st) (m : Nat) (hm : 0 < m) : ∃ r st', r < m ∧ callD FS gl n 8 [.ref b, .int (m : Nat)] st = some (.int (r : Nat), st') ∧ Box b j st' ∧ Kq [b] st st' ∧ st'.length = st.length := by
  obtain ⟨r, p, hr, e⟩ := draw_det h n m hm
  have hB : Box b j (st.set b (.lst [.ref j, .int (p : Nat)])) := by
    obtain ⟨hn, p0, zs, h1, h2⟩ := h
    have hb := lst_lt h1
    exact ⟨hn, p, zs, by rw [lst_set hb, if_pos rfl], by rw [lst_set hb, if_neg hn]; exact h2⟩
  exact ⟨r, _, hr, e, hB, Kq.set (by simp), by simp⟩
/-- a drawn program's body, of a kind with no arguments' arguments -/
inductive BT where
  | say (b : Bool) | stop | ask (k : Nat) (z o : BT)
def bd : BT → D
  | .say b => .tup [.str "say", enc (some b)]
  | .stop => .tup [.str "stop"]
  | .ask k z o => .tup [.str "ask", .int 0, .int (k : Nat), .tup [], bd z, bd o]
def okB (q : Nat) : BT → Prop
  | .ask k z o => k < q ∧ okB q z ∧ okB q o
  | _ => True
def htB : BT → Nat
  | .ask _ z o => max (htB z) (htB o) + 1
  | _ => 0
def kindD (q : Nat) : D := .tup (List.replicate q (.tup []))
abbrev ydE (b q G : Nat) (x3 x4 x5 x6 x7 x8 x9 x10 : Option D) : Dz.Env := [some (.ref b), some (.tup [kindD q]), some (.ref G), x3, x4, x5, x6, x7, x8, x9, x10]
def arD (q : Nat) : List D := (List.range q).map fun k => .tup [.int 0, .int (k : Nat)]
def bdS2 : S := .for_ .rng1 [(.bi .len [(.var 1)])] (.nm 4)
  [.for_ .rng1 [(.bi .len [(.idx (.var 1) (.bin .sub (.bin .sub (.bi .len [(.var 1)]) (.int 1)) (.var 4)))])] (.nm 5)
    [.expr (.mth .append (.var 3) [(.tup [(.var 4), (.var 5)])])]]
def bdT : T := .or [(.cmp .eq (.bi .len [(.var 3)]) (.int 0)), (.cmp .eq (.idx (.var 2) (.int 0)) (.int 0)), (.cmp .eq (.call 8 [(.var 0), (.int 5)]) (.int 0))]
def bdL : E := .idx (.lst [(.tup [(.str "say"), (.int 0)]), (.tup [(.str "say"), (.int 1)]), (.tup [(.str "say"), (.int 0)]), (.tup [(.str "say"), (.int 1)]), (.tup [(.str "stop")])]) (.call 8 [(.var 0), (.int 5)])
def bdS4 : S := .asub (.var 2) (.int 0) (.bin .sub (.idx (.var 2) (.int 0)) (.int 1))
def bdS5 : S := .asg (.tp [(.nm 4), (.nm 5)]) (.idx (.var 3) (.bin .mod (.bi .int [(.call 8 [(.var 0), (.int 1000)])]) (.bi .len [(.var 3)])))
def bdS6 : S := .asg (.nm 6) (.idx (.idx (.var 1) (.bin .sub (.bin .sub (.bi .len [(.var 1)]) (.int 1)) (.var 4))) (.var 5))
def bdS8 : S := .for_ .one [(.var 6)] (.nm 8)
  [.expr (.mth .append (.var 7) [(.tup [(.str "program"), (.bi .len [(.var 8)]), (.call 11 [(.var 0), (.bin .add (.var 1) (.tup [(.var 8)])), (.var 2)])])])]
def bdR : S := .ret (.tup [(.str "ask"), (.var 4), (.var 5), (.bi .tuple [(.var 7)]), (.var 9), (.var 10)])
theorem b11_eq : b11 = [.asg (.nm 3) (.lst []), bdS2, .ife bdT [.ret bdL] [], bdS4, bdS5, bdS6, .asg (.nm 7) (.lst []), bdS8,
 .asg (.nm 9) (.call 11 [(.var 0), (.var 1), (.var 2)]), .asg (.nm 10) (.call 11 [(.var 0), (.var 1), (.var 2)]), bdR] := rfl
theorem bd_around (C : List CS) (b q G : Nat) (x4 x5 x6 x7 x8 x9 x10 : Option D) (st : Sto) (hq : q ≤ 1000) :
    ∃ y4 y5, ex bdS2 gl C (ydE b q G (some (.ref st.length)) x4 x5 x6 x7 x8 x9 x10) (st ++ [.lst []]) = some (.nx, ydE b q G (some (.ref st.length)) y4 y5 x6 x7 x8 x9 x10, st ++ [.lst (arD q)]) := by
  have hz2 : 2 ≤ sizeLine := by rw [sizeLine_eq]; omega
  obtain ⟨ρ', st', e, ⟨z4, z5, rfl⟩, rfl⟩ := ex_rng (g := gl) (C := C) (N := 1) (src := .bi .len [.var 1]) (tg := .nm 4) (b := [.for_ .rng1 [(.bi .len [(.idx (.var 1) (.bin .sub (.bin .sub (.bi .len [(.var 1)]) (.int 1)) (.var 4)))])] (.nm 5) [.expr (.mth .append (.var 3) [(.tup [(.var 4), (.var 5)])])]])
    (ρ := ydE b q G (some (.ref st.length)) x4 x5 x6 x7 x8 x9 x10) (st := st ++ [.lst []]) (st0 := st ++ [.lst []]) rfl (by omega)
    (fun i ρ s => (∃ x4 x5, ρ = ydE b q G (some (.ref st.length)) x4 x5 x6 x7 x8 x9 x10) ∧ s = st ++ [.lst (if i = 0 then [] else arD q)]) ⟨⟨_, _, rfl⟩, rfl⟩ (by
      rintro i ρ s hi ⟨⟨y4, y5, rfl⟩, rfl⟩
      obtain rfl : i = 0 := by omega
      have f0 : asgD (.nm 4) (.int ((0 : Nat) : Int)) (st ++ [.lst []]) (ydE b q G (some (.ref st.length)) y4 y5 x6 x7 x8 x9 x10) = some (ydE b q G (some (.ref st.length)) (some (.int 0)) y5 x6 x7 x8 x9 x10) := rfl
      have el : ev (.bi .len [(.idx (.var 1) (.bin .sub (.bin .sub (.bi .len [(.var 1)]) (.int 1)) (.var 4)))]) gl C (ydE b q G (some (.ref st.length)) (some (.int 0)) y5 x6 x7 x8 x9 x10) (st ++ [.lst []]) = some (.int (q : Nat), st ++ [.lst []]) := by
        show (some (D.int ((List.replicate q (D.tup [])).length : Nat), st ++ [O.lst []]) : Option _) = _
        rw [List.length_replicate]
      obtain ⟨ρ2, st2, e2, ⟨z5, rfl⟩, rfl⟩ := ex_rng (g := gl) (C := C) (N := q) (tg := .nm 5) (b := [.expr (.mth .append (.var 3) [(.tup [(.var 4), (.var 5)])])])
        (ρ := ydE b q G (some (.ref st.length)) (some (.int 0)) y5 x6 x7 x8 x9 x10) (st := st ++ [.lst []]) (st0 := st ++ [.lst []]) el (by omega)
        (fun i ρ s => (∃ x5, ρ = ydE b q G (some (.ref st.length)) (some (.int 0)) x5 x6 x7 x8 x9 x10) ∧ s = st ++ [.lst ((arD q).take i)]) ⟨⟨_, rfl⟩, rfl⟩ (by
          rintro i ρ s hi ⟨⟨y5, rfl⟩, rfl⟩
          have hg : (arD q)[i]? = some (.tup [.int 0, .int (i : Nat)]) := by simp [arD, hi]
          have am := appM st [] ((arD q).take i) (.tup [.int 0, .int (i : Nat)]) (by rw [sizeLine_eq, List.length_take]; omega)
          rw [← take_one' hg] at am
          refine ⟨.nx, ydE b q G (some (.ref st.length)) (some (.int 0)) (some (.int (i : Nat))) x6 x7 x8 x9 x10, st ++ [.lst ((arD q).take (i + 1))], ?_, .inl rfl, ⟨_, rfl⟩, rfl⟩
          have f1 : asgD (.nm 5) (.int (i : Nat)) (st ++ [.lst ((arD q).take i)]) (ydE b q G (some (.ref st.length)) (some (.int 0)) y5 x6 x7 x8 x9 x10) = some (ydE b q G (some (.ref st.length)) (some (.int 0)) (some (.int (i : Nat))) x6 x7 x8 x9 x10) := rfl
          rw [f1]
          show exs _ gl C _ _ = _
          refine exs_step (s := .expr (.mth .append (.var 3) [(.tup [(.var 4), (.var 5)])])) ?_ rfl
          simp only [ex_expr, ev_mth, ev_varS, ev_var0, Option.bind_some, isL_ref, lst_mid, Option.isSome_some, if_true, evs_cons, evs_nil, ev_tup, Option.map_some, List.length_cons, List.length_nil, Nat.zero_add, Nat.reduceAdd, if_pos hz2, am])
      have ht : (arD q).take q = arD q := List.take_of_length_le (by simp [arD])
      rw [ht] at e2
      refine ⟨.nx, ydE b q G (some (.ref st.length)) (some (.int 0)) z5 x6 x7 x8 x9 x10, st ++ [.lst (arD q)], ?_, .inl rfl, ⟨_, _, rfl⟩, rfl⟩
      rw [if_pos rfl, f0, Option.bind_some]
      exact exs_step e2 rfl)
  rw [if_neg (by omega)] at e
  unfold bdS2
  exact ⟨z4, z5, e⟩
end K71
end
section
set_option Elab.async false
set_option linter.all false
set_option maxRecDepth 100000
set_option maxHeartbeats 1000000
namespace K71
open Dz PySem L2
theorem evTO_cons (e : T) (es : List T) {g : Str → Option D} {C : List CS} {ρ : Dz.Env} {st : Sto} : evTO (e :: es) g C ρ st = (evT e g C ρ st).bind fun r => if r.1 then some (true, r.2) else evTO es g C ρ r.2 := id rfl
theorem evTO_nil {g : Str → Option D} {C : List CS} {ρ : Dz.Env} {st : Sto} : evTO [] g C ρ st = some (false, st) := id rfl
theorem arD_len (q : Nat) : (arD q).length = q := by simp [arD]
section
variable {n b j q G P : Nat} {x4 x5 x6 x7 x8 x9 x10 : Option D} {s : Sto} {B : Nat}
theorem bd_test (hB : Box b j s) (hP : lstOf s P = some (arD q)) (hG : lstOf s G = some [.int (B : Nat)]) :
    ∃ c s', evT bdT gl (calls FS gl (n + 1)) (ydE b q G (some (.ref P)) x4 x5 x6 x7 x8 x9 x10) s = some (c, s') ∧ Box b j s' ∧ Kq [b] s s' ∧ (c = false → 0 < q ∧ 0 < B) := by
  have t1 : evT (.cmp .eq (.bi .len [(.var 3)]) (.int 0)) gl (calls FS gl (n + 1)) (ydE b q G (some (.ref P)) x4 x5 x6 x7 x8 x9 x10) s = some (decide (q = 0), s) := by
    have e : ev (.bi .len [(.var 3)]) gl (calls FS gl (n + 1)) (ydE b q G (some (.ref P)) x4 x5 x6 x7 x8 x9 x10) s = some (.int (q : Nat), s) := by
      simp only [ev_bi, evs_cons, evs_nil, ev_varS, ev_var0, Option.bind_some, Option.map_some, len_ref, hP, arD_len]
    rw [evT_cmp]
    simp only [e, Option.bind_some, ev_int, cmp_eq, eq_ij, Option.map_some]
    congr 2
    exact decide_eq_decide.mpr (by omega)
  have i0 : L2.atI [D.int (B : Nat)] 0 = some (.int (B : Nat)) := rfl
  have t2 : evT (.cmp .eq (.idx (.var 2) (.int 0)) (.int 0)) gl (calls FS gl (n + 1)) (ydE b q G (some (.ref P)) x4 x5 x6 x7 x8 x9 x10) s = some (decide (B = 0), s) := by
    rw [evT_cmp]
    simp only [ev_idx, ev_varS, ev_var0, Option.bind_some, ev_int, idx_ref, hG, i0, Option.map_some, cmp_eq, eq_ij]
    congr 2
    exact decide_eq_decide.mpr (by omega)
  obtain ⟨r, s', hr, ed, hB', hK, _⟩ := run_drawQ n hB 5 (by omega)
  have t3 : evT (.cmp .eq (.call 8 [(.var 0), (.int 5)]) (.int 0)) gl (calls FS gl (n + 1)) (ydE b q G (some (.ref P)) x4 x5 x6 x7 x8 x9 x10) s = some (decide (r = 0), s') := by
    have e : ev (.call 8 [(.var 0), (.int 5)]) gl (calls FS gl (n + 1)) (ydE b q G (some (.ref P)) x4 x5 x6 x7 x8 x9 x10) s = some (.int (r : Nat), s') := by
      simp only [ev_call, evs_cons, evs_nil, ev_var0, ev_int, Option.bind_some, Option.map_some]
      exact ed
    rw [evT_cmp]
    simp only [e, Option.bind_some, ev_int, cmp_eq, eq_ij, Option.map_some]
    congr 2
    exact decide_eq_decide.mpr (by omega)
  unfold bdT
  by_cases h1 : q = 0
  · refine ⟨true, s, ?_, hB, Kq.refl _ _, fun h => by cases h⟩
    rw [decide_eq_true h1] at t1
    simp only [evT_or, evTO_cons, t1, Option.bind_some, if_true]
  · rw [decide_eq_false h1] at t1
    by_cases h2 : B = 0
    · refine ⟨true, s, ?_, hB, Kq.refl _ _, fun h => by cases h⟩
      rw [decide_eq_true h2] at t2
      simp only [evT_or, evTO_cons, t1, t2, Option.bind_some, if_true, Bool.false_eq_true, if_false]
    · rw [decide_eq_false h2] at t2
      refine ⟨decide (r = 0), s', ?_, hB', hK, fun _ => ⟨by omega, by omega⟩⟩
      simp only [evT_or, evTO_cons, evTO_nil, t1, t2, t3, Option.bind_some, Bool.false_eq_true, if_false]
      by_cases h3 : r = 0 <;> simp [h3]
def lvs : List BT := [.say false, .say true, .say false, .say true, .stop]
theorem lvD : lvs.map bd = [.tup [.str "say", .int 0], .tup [.str "say", .int 1], .tup [.str "say", .int 0], .tup [.str "say", .int 1], .tup [.str "stop"]] := rfl
theorem lv_ev (C : List CS) (ρ : Dz.Env) : ev (.lst [(.tup [(.str "say"), (.int 0)]), (.tup [(.str "say"), (.int 1)]), (.tup [(.str "say"), (.int 0)]), (.tup [(.str "say"), (.int 1)]), (.tup [(.str "stop")])]) gl C ρ s = some (.ref s.length, s ++ [.lst (lvs.map bd)]) := by
  have hz1 : 1 ≤ sizeLine := by rw [sizeLine_eq]; omega
  have hz2 : 2 ≤ sizeLine := by rw [sizeLine_eq]; omega
  have hz5 : 5 ≤ sizeLine := by rw [sizeLine_eq]; omega
  rw [lvD]
  simp only [ev_lst, ev_tup, evs_cons, evs_nil, ev_str, ev_int, Option.bind_some, Option.map_some, List.length_cons, List.length_nil, Nat.zero_add, Nat.reduceAdd, if_pos hz1, if_pos hz2, if_pos hz5, new_eq]
theorem lv_ok : ∀ t ∈ lvs, ∀ q, okB q t ∧ htB t = 0 := by
  intro t h q
  simp only [lvs, List.mem_cons, List.not_mem_nil, or_false] at h
  rcases h with rfl | rfl | rfl | rfl | rfl <;> exact ⟨trivial, rfl⟩
theorem bd_leaf (hB : Box b j s) : ∃ t s', ev bdL gl (calls FS gl (n + 1)) (ydE b q G (some (.ref P)) x4 x5 x6 x7 x8 x9 x10) s = some (bd t, s') ∧ Box b j s' ∧ Kq [b] s s' ∧ okB q t ∧ htB t = 0 := by
  have hB1 : Box b j (s ++ [.lst (lvs.map bd)]) := hB.kq (Kq.app [] s [.lst (lvs.map bd)]) (by simp) (by simp)
  obtain ⟨r, s', hr, ed, hB', hK, _⟩ := run_drawQ n hB1 5 (by omega)
  have hl : lstOf s' s.length = some (lvs.map bd) := hK.lst (lst_mid _ _ _) (by
    have := hB.lt
    simp; omega)
  have hr5 : r < lvs.length := hr
  have hi : L2.atI (lvs.map bd) (r : Nat) = some (bd lvs[r]) := L2.atI_nat (by rw [List.getElem?_map, List.getElem?_eq_getElem hr5]; rfl)
  obtain ⟨h1, h2⟩ := lv_ok lvs[r] (List.getElem_mem hr5) q
  refine ⟨lvs[r], s', ?_, hB', ((Kq.app [b] s _).trans hK), h1, h2⟩
  unfold bdL
  simp only [ev_idx, lv_ev, Option.bind_some, ev_call, evs_cons, evs_nil, ev_var0, ev_int, Option.map_some]
  have ed' : callD FS gl n 8 [.ref b, .int 5] (s ++ [.lst (lvs.map bd)]) = some (.int (r : Nat), s') := ed
  simp only [ed', Option.bind_some, idx_ref, hl, hi, Option.map_some]
theorem bd_dec (C : List CS) (hG : lstOf s G = some [.int ((B + 1 : Nat) : Int)]) : ex bdS4 gl C (ydE b q G (some (.ref P)) x4 x5 x6 x7 x8 x9 x10) s = some (.nx, ydE b q G (some (.ref P)) x4 x5 x6 x7 x8 x9 x10, s.set G (.lst [.int (B : Nat)])) := by
  have i0 : L2.atI [D.int ((B + 1 : Nat) : Int)] 0 = some (.int ((B + 1 : Nat) : Int)) := rfl
  have e1 : ev (.bin .sub (.idx (.var 2) (.int 0)) (.int 1)) gl C (ydE b q G (some (.ref P)) x4 x5 x6 x7 x8 x9 x10) s = some (.int (B : Nat), s) := by
    simp only [ev_bin, ev_idx, ev_varS, ev_var0, Option.bind_some, ev_int, idx_ref, hG, i0, Option.map_some]
    show some (D.int (((B + 1 : Nat) : Int) - 1), s) = _
    congr 3
    omega
  unfold bdS4
  rw [ex_asub, e1]
  simp only [Option.bind_some, ev_varS, ev_var0, ev_int, set0 hG, Option.map_some]
theorem bd_pick (hB : Box b j s) (hP : lstOf s P = some (arD q)) (hPb : P ≠ b) (hq : 0 < q) :
    ∃ k s', k < q ∧ ex bdS5 gl (calls FS gl (n + 1)) (ydE b q G (some (.ref P)) x4 x5 x6 x7 x8 x9 x10) s = some (.nx, ydE b q G (some (.ref P)) (some (.int 0)) (some (.int (k : Nat))) x6 x7 x8 x9 x10, s') ∧ Box b j s' ∧ Kq [b] s s' := by
  obtain ⟨r, s', hr, ed, hB', hK, _⟩ := run_drawQ n hB 1000 (by omega)
  have hP' : lstOf s' P = some (arD q) := hK.lst hP (by simp [hPb])
  have hk : r % q < q := Nat.mod_lt _ hq
  have hq0 : ((q : Nat) : Int) ≠ 0 := by omega
  have hm : ((r : Nat) : Int).fmod (q : Nat) = ((r % q : Nat) : Int) := by
    rw [Int.fmod_eq_emod_of_nonneg _ (by omega)]; omega
  have hi : L2.atI (arD q) ((r % q : Nat) : Int) = some (.tup [.int 0, .int ((r % q : Nat) : Int)]) := L2.atI_nat (by simp [arD, hk])
  have ed' : callD FS gl n 8 [.ref b, .int 1000] s = some (.int (r : Nat), s') := ed
  refine ⟨r % q, s', hk, ?_, hB', hK⟩
  unfold bdS5
  have e1 : ev (.idx (.var 3) (.bin .mod (.bi .int [(.call 8 [(.var 0), (.int 1000)])]) (.bi .len [(.var 3)]))) gl (calls FS gl (n + 1)) (ydE b q G (some (.ref P)) x4 x5 x6 x7 x8 x9 x10) s = some (.tup [.int 0, .int ((r % q : Nat) : Int)], s') := by
    simp only [ev_idx, ev_bin, ev_bi, evs_cons, evs_nil, ev_call, ev_varS, ev_var0, ev_int, Option.bind_some, Option.map_some, ed', int_int, len_ref, hP', arD_len, bin_modI hq0, hm, idx_ref, hi]
  rw [ex_asg, e1]
  rfl
theorem bd_kind (C : List CS) (k : Nat) (hk : k < q) : ex bdS6 gl C (ydE b q G (some (.ref P)) (some (.int 0)) (some (.int (k : Nat))) x6 x7 x8 x9 x10) s = some (.nx, ydE b q G (some (.ref P)) (some (.int 0)) (some (.int (k : Nat))) (some (.tup [])) x7 x8 x9 x10, s) := by
  have i0 : L2.atI [kindD q] 0 = some (kindD q) := rfl
  have i1 : L2.atI (List.replicate q (D.tup [])) (k : Nat) = some (.tup []) := L2.atI_nat (by simp [hk])
  have e1 : ev (.bin .sub (.bin .sub (.bi .len [(.var 1)]) (.int 1)) (.var 4)) gl C (ydE b q G (some (.ref P)) (some (.int 0)) (some (.int (k : Nat))) x6 x7 x8 x9 x10) s = some (.int 0, s) := rfl
  unfold bdS6
  simp only [ex_asg, ev_idx, e1, ev_varS, ev_var0, Option.bind_some, idx_tup, i0, Option.map_some]
  unfold kindD
  simp only [idx_tup, i1, Option.map_some, asgD_nm, Option.bind_some]
  rfl
end
theorem bd_rec {n b q G : Nat} {x3 x4 x5 x6 x7 x8 x9 x10 : Option D} {d : D} {s s' : Sto} (e : callD FS gl n 11 [.ref b, .tup [kindD q], .ref G] s = some (d, s')) :
    ex (.asg (.nm 9) (.call 11 [(.var 0), (.var 1), (.var 2)])) gl (calls FS gl (n + 1)) (ydE b q G x3 x4 x5 x6 x7 x8 x9 x10) s = some (.nx, ydE b q G x3 x4 x5 x6 x7 x8 (some d) x10, s') := by
  have h : evs [(.var 0), (.var 1), (.var 2)] gl (calls FS gl (n + 1)) (ydE b q G x3 x4 x5 x6 x7 x8 x9 x10) s = some ([.ref b, .tup [kindD q], .ref G], s) := by
    simp only [evs_cons, evs_nil, ev_varS, ev_var0, Option.bind_some, Option.map_some]
  have f : asgD (.nm 9) d s' (ydE b q G x3 x4 x5 x6 x7 x8 x9 x10) = some (ydE b q G x3 x4 x5 x6 x7 x8 (some d) x10) := rfl
  rw [ex_asg, ev_call, h, Option.bind_some, e, Option.bind_some, f, Option.map_some]
theorem bd_rec2 {n b q G : Nat} {x3 x4 x5 x6 x7 x8 x9 x10 : Option D} {d : D} {s s' : Sto} (e : callD FS gl n 11 [.ref b, .tup [kindD q], .ref G] s = some (d, s')) :
    ex (.asg (.nm 10) (.call 11 [(.var 0), (.var 1), (.var 2)])) gl (calls FS gl (n + 1)) (ydE b q G x3 x4 x5 x6 x7 x8 x9 x10) s = some (.nx, ydE b q G x3 x4 x5 x6 x7 x8 x9 (some d), s') := by
  have h : evs [(.var 0), (.var 1), (.var 2)] gl (calls FS gl (n + 1)) (ydE b q G x3 x4 x5 x6 x7 x8 x9 x10) s = some ([.ref b, .tup [kindD q], .ref G], s) := by
    simp only [evs_cons, evs_nil, ev_varS, ev_var0, Option.bind_some, Option.map_some]
  have f : asgD (.nm 10) d s' (ydE b q G x3 x4 x5 x6 x7 x8 x9 x10) = some (ydE b q G x3 x4 x5 x6 x7 x8 x9 (some d)) := rfl
  rw [ex_asg, ev_call, h, Option.bind_some, e, Option.bind_some, f, Option.map_some]
theorem bd_ret (C : List CS) (b q G P k R : Nat) (dz dn : D) (x8 : Option D) (s : Sto) (hA : lstOf s R = some []) :
    ex bdR gl C (ydE b q G (some (.ref P)) (some (.int 0)) (some (.int (k : Nat))) (some (.tup [])) (some (.ref R)) x8 (some dz) (some dn)) s = some (.rt (.tup [.str "ask", .int 0, .int (k : Nat), .tup [], dz, dn]), ydE b q G (some (.ref P)) (some (.int 0)) (some (.int (k : Nat))) (some (.tup [])) (some (.ref R)) x8 (some dz) (some dn), s) := by
  have hz6 : 6 ≤ sizeLine := by rw [sizeLine_eq]; omega
  have et : bfD .tuple [.ref R] s = some (.tup [], s) := by
    show (lstOf s R).map _ = _
    rw [hA]; rfl
  unfold bdR
  simp only [ex_ret, ev_tup, evs_cons, evs_nil, ev_str, ev_varS, ev_var0, ev_bi, et, Option.bind_some, Option.map_some, List.length_cons, List.length_nil, Nat.zero_add, Nat.reduceAdd, if_pos hz6]
theorem run_body_draw : ∀ (B : Nat) (n b j q G : Nat) (st : Sto), q ≤ 1000 → Box b j st → lstOf st G = some [.int (B : Nat)] → G ≠ b → G ≠ j →
    ∃ t B' st', callD FS gl (n + B + 1) 11 [.ref b, .tup [kindD q], .ref G] st = some (bd t, st') ∧ okB q t ∧ htB t ≤ B ∧ B' ≤ B ∧ Box b j st' ∧ lstOf st' G = some [.int (B' : Nat)] ∧ Kq [b, G] st st' := by
  have hz0 : 0 ≤ sizeLine := Nat.zero_le _
  have hz6 : 6 ≤ sizeLine := by rw [sizeLine_eq]; omega
  intro B
  induction B using Nat.strongRecOn with
  | _ B ih =>
    intro n b j q G st hq hB hG hGb hGj
    have hGl := lst_lt hG
    obtain ⟨hbl, hjl⟩ := hB.lt
    have a1 : ex (.asg (.nm 3) (.lst [])) gl (calls FS gl (n + B + 1)) (ydE b q G none none none none none none none none) st = some (.nx, ydE b q G (some (.ref st.length)) none none none none none none none, st ++ [.lst []]) := by
      simp only [ex_asg, ev_lst, evs_nil, Option.bind_some, List.length_nil, if_pos hz0, new_eq, asgD_nm]
      rfl
    obtain ⟨y4, y5, a2⟩ := bd_around (calls FS gl (n + B + 1)) b q G none none none none none none none st hq
    have k1 : Kq [b, G] st (st ++ [.lst (arD q)]) := Kq.app _ _ _
    have hP : lstOf (st ++ [.lst (arD q)]) st.length = some (arD q) := lst_mid _ _ _
    have hG1 : lstOf (st ++ [.lst (arD q)]) G = some [.int (B : Nat)] := lst_old hG
    have hB1 : Box b j (st ++ [.lst (arD q)]) := hB.kq (Kq.app [] _ _) (by simp) (by simp)
    generalize hs1 : st ++ [.lst (arD q)] = s1 at a2 k1 hP hG1 hB1
    have hPl : st.length ≠ b ∧ st.length ≠ G ∧ st.length ≠ j := ⟨by omega, by omega, by omega⟩
    generalize st.length = P at a1 a2 hP hPl
    obtain ⟨hPb, hPG, hPj⟩ := hPl
    obtain ⟨c, s2, a3, hB2, k2, hc⟩ := bd_test (n := n + B) (x4 := y4) (x5 := y5) (x6 := none) (x7 := none) (x8 := none) (x9 := none) (x10 := none) hB1 hP hG1
    have hP2 := k2.lst hP (by simp [hPb])
    have hG2 := k2.lst hG1 (by simp [hGb])
    cases c with
    | true =>
      obtain ⟨t, s3, e4, hB3, k3, ho, hh⟩ := bd_leaf (n := n + B) (q := q) (G := G) (P := P) (x4 := y4) (x5 := y5) (x6 := none) (x7 := none) (x8 := none) (x9 := none) (x10 := none) hB2
      refine ⟨t, B, s3, ?_, ho, by omega, Nat.le_refl _, hB3, k3.lst hG2 (by simp [hGb]), (k1.trans (k2.wk (by simp))).trans (k3.wk (by simp))⟩
      refine cl_ret (d := d11.df) (ρ' := ydE b q G (some (.ref P)) y4 y5 none none none none none) rfl rfl ?_
      show exs b11 gl (calls FS gl (n + B + 1)) (ydE b q G none none none none none none none none) st = _
      rw [b11_eq, exs_step a1 rfl, exs_step a2 rfl]
      refine exs_ret ?_
      rw [ex_ife, a3]
      show exs _ gl (calls FS gl (n + B + 1)) _ _ = _
      refine exs_ret ?_
      rw [ex_ret, e4]
      rfl
    | false =>
      obtain ⟨hq0, hB0⟩ := hc rfl
      obtain ⟨A, rfl⟩ : ∃ A, B = A + 1 := ⟨B - 1, by omega⟩
      have a3' : ex (.ife bdT [.ret bdL] []) gl (calls FS gl (n + (A + 1) + 1)) (ydE b q G (some (.ref P)) y4 y5 none none none none none) s1 = some (.nx, ydE b q G (some (.ref P)) y4 y5 none none none none none, s2) := by
        rw [ex_ife, a3]; rfl
      have a4 := bd_dec (calls FS gl (n + (A + 1) + 1)) (b := b) (q := q) (P := P) (x4 := y4) (x5 := y5) (x6 := none) (x7 := none) (x8 := none) (x9 := none) (x10 := none) hG2
      have k3 : Kq [b, G] s2 (s2.set G (.lst [.int (A : Nat)])) := Kq.set (by simp)
      have k3' : Kq [G] s2 (s2.set G (.lst [.int (A : Nat)])) := Kq.set (by simp)
      have hB3 := hB2.kq k3' (by simp [Ne.symm hGb]) (by simp [Ne.symm hGj])
      have hP3 := k3'.lst hP2 (by simp [hPG])
      have hG3 : lstOf (s2.set G (.lst [.int (A : Nat)])) G = some [.int (A : Nat)] := by rw [lst_set (lst_lt hG2), if_pos rfl]
      generalize s2.set G (.lst [.int (A : Nat)]) = s3 at a4 k3 k3' hB3 hP3 hG3
      obtain ⟨k, s4, hk, a5, hB4, k4⟩ := bd_pick (n := n + (A + 1)) (G := G) (x4 := y4) (x5 := y5) (x6 := none) (x7 := none) (x8 := none) (x9 := none) (x10 := none) hB3 hP3 hPb hq0
      have hG4 := k4.lst hG3 (by simp [hGb])
      have a6 := bd_kind (s := s4) (b := b) (G := G) (P := P) (x6 := none) (x7 := none) (x8 := none) (x9 := none) (x10 := none) (calls FS gl (n + (A + 1) + 1)) k hk
      have a7 : ex (.asg (.nm 7) (.lst [])) gl (calls FS gl (n + (A + 1) + 1)) (ydE b q G (some (.ref P)) (some (.int 0)) (some (.int (k : Nat))) (some (.tup [])) none none none none) s4 = some (.nx, ydE b q G (some (.ref P)) (some (.int 0)) (some (.int (k : Nat))) (some (.tup [])) (some (.ref s4.length)) none none none, s4 ++ [.lst []]) := by
        simp only [ex_asg, ev_lst, evs_nil, Option.bind_some, List.length_nil, if_pos hz0, new_eq, asgD_nm]
        rfl
      have k5 : Kq [b, G] s4 (s4 ++ [.lst []]) := Kq.app _ _ _
      have hB5 : Box b j (s4 ++ [.lst []]) := hB4.kq (Kq.app [] _ _) (by simp) (by simp)
      have hG5 : lstOf (s4 ++ [.lst []]) G = some [.int (A : Nat)] := lst_old hG4
      have hA5 : lstOf (s4 ++ [.lst []]) s4.length = some [] := lst_mid _ _ _
      have hAne : s4.length ≠ b ∧ s4.length ≠ G := ⟨by have := hB4.lt; omega, by have := lst_lt hG4; omega⟩
      generalize s4 ++ [.lst []] = s5 at a7 k5 hB5 hG5 hA5
      generalize s4.length = R at a7 hA5 hAne
      obtain ⟨hRb, hRG⟩ := hAne
      have a8 : ex bdS8 gl (calls FS gl (n + (A + 1) + 1)) (ydE b q G (some (.ref P)) (some (.int 0)) (some (.int (k : Nat))) (some (.tup [])) (some (.ref R)) none none none) s5 = some (.nx, ydE b q G (some (.ref P)) (some (.int 0)) (some (.int (k : Nat))) (some (.tup [])) (some (.ref R)) none none none, s5) := rfl
      obtain ⟨tz, B1, s6, e9, ho1, hh1, hb1, hB6, hG6, k6⟩ := ih A (by omega) n b j q G s5 hq hB5 hG5 hGb hGj
      have hA6 := k6.lst hA5 (by simp [hRb, hRG])
      have a9 : ex (.asg (.nm 9) (.call 11 [(.var 0), (.var 1), (.var 2)])) gl (calls FS gl (n + (A + 1) + 1)) (ydE b q G (some (.ref P)) (some (.int 0)) (some (.int (k : Nat))) (some (.tup [])) (some (.ref R)) none none none) s5 = some (.nx, ydE b q G (some (.ref P)) (some (.int 0)) (some (.int (k : Nat))) (some (.tup [])) (some (.ref R)) none (some (bd tz)) none, s6) := bd_rec e9
      obtain ⟨tn, B2, s7, e10, ho2, hh2, hb2, hB7, hG7, k7⟩ := ih B1 (by omega) (n + (A - B1)) b j q G s6 hq hB6 hG6 hGb hGj
      rw [show n + (A - B1) + B1 + 1 = n + (A + 1) from by omega] at e10
      have hA7 := k7.lst hA6 (by simp [hRb, hRG])
      have a10 := bd_rec2 (x3 := some (.ref P)) (x4 := some (.int 0)) (x5 := some (.int (k : Nat))) (x6 := some (.tup [])) (x7 := some (.ref R)) (x8 := none) (x9 := some (bd tz)) (x10 := none) e10
      have a11 := bd_ret (calls FS gl (n + (A + 1) + 1)) b q G P k R (bd tz) (bd tn) none s7 hA7
      refine ⟨.ask k tz tn, B2, s7, ?_, ⟨hk, ho1, ho2⟩, ?_, by omega, hB7, hG7, ?_⟩
      · refine cl_ret (d := d11.df) (ρ' := ydE b q G (some (.ref P)) (some (.int 0)) (some (.int (k : Nat))) (some (.tup [])) (some (.ref R)) none (some (bd tz)) (some (bd tn))) rfl rfl ?_
        show exs b11 gl (calls FS gl (n + (A + 1) + 1)) (ydE b q G none none none none none none none none) st = _
        rw [b11_eq, exs_step a1 rfl, exs_step a2 rfl, exs_step a3' rfl, exs_step a4 rfl, exs_step a5 rfl, exs_step a6 rfl, exs_step a7 rfl, exs_step a8 rfl, exs_step a9 rfl, exs_step a10 rfl, exs_ret a11]
        rfl
      · show max (htB tz) (htB tn) + 1 ≤ A + 1
        omega
      · have k4' := k4.wk (Y := [b, G]) (by simp)
        have k2' := k2.wk (Y := [b, G]) (by simp)
        exact ((((((k1.trans k2').trans k3).trans k4').trans k5).trans k6).trans k7)
end K71
end
section
set_option Elab.async false
set_option linter.all false
set_option maxRecDepth 100000
set_option maxHeartbeats 1000000
namespace K71
open Dz PySem L2
/-! ### _law_answer, _law_plain, _law_program -/
def lfD : It → D
  | none => .tup [.str "stop"]
  | some b => .tup [.str "say", enc (some b)]
def pgD (d : D) : D := .tup [.str "program", .int 0, d]
def evB (r : List It) : BT → It
  | .say b => some b
  | .stop => none
  | .ask k z o => match r.getD k none with
    | none => none
    | some false => evB r z
    | some true => evB r o
theorem eq_texts {x y : Str} (h : txt x = true) (h' : txt y = true) (st : Sto) : eqD st (.str x) (.str y) = some (x == y) := by
  have h1 := txt_lay h
  have h2 := txt_lay h'
  simp [eqD, toP, toPw, h1, h2, PyData.eqv]
theorem head_test {x y : Str} {rest : List D} (hx : txt x = true) (hy : txt y = true) {b : Bool} (hb : (x == y) = b) (C : List CS) (ρ : Dz.Env) (i : Nat) (st : Sto) (hv : ρ[i]? = some (some (.tup (.str x :: rest)))) : evT (.cmp .eq (.idx (.var i) (.int 0)) (.str y)) gl C ρ st = some (b, st) := by
  have e0 : L2.atI (D.str x :: rest) 0 = some (.str x) := L2.atI_nat (j := 0) rfl
  rw [← hb]
  simp only [evT_cmp, ev_idx, ev_var, hv, Option.bind_some, ev_int, idx_tup, e0, Option.map_some, ev_str, cmp_eq, eq_texts hx hy]
abbrev anE (d : D) (F : Nat) (x2 x3 x4 x5 : Option D) : Dz.Env := [some d, some (.ref F), x2, x3, x4, x5]
def anS1 : S := .ife (.cmp .eq (.idx (.var 0) (.int 0)) (.str "say")) [.ret (.idx (.var 0) (.int 1))] []
def anS2 : S := .ife (.cmp .eq (.idx (.var 0) (.int 0)) (.str "stop")) [.ret .non] []
def anS3 : S := .asg (.nm 2) (.idx (.idx (.var 1) (.bin .sub (.bin .sub (.bi .len [(.var 1)]) (.int 1)) (.idx (.var 0) (.int 1)))) (.idx (.var 0) (.int 2)))
def anS4 : S := .asg (.nm 3) (.lc .one [(.idx (.var 0) (.int 3))] (.nm 5) [] (.tup [(.var 5), (.var 1)]) [5])
def anS5 : S := .asg (.nm 4) (.call 13 [(.idx (.idx (.var 2) (.int 0)) (.int 2)), (.bin .add (.idx (.var 2) (.int 1)) (.lst [(.var 3)]))])
def anS6 : S := .ife (.cmp .is (.var 4) .non) [.ret .non] []
def anS7 : S := .ret (.call 13 [(.idx (.var 0) (.bin .add (.int 4) (.var 4))), (.var 1)])
theorem b13_eq : b13 = [anS1, anS2, anS3, anS4, anS5, anS6, anS7] := rfl
theorem an_say (n : Nat) (v : D) (F : Nat) (st : Sto) : callD FS gl n 13 [.tup [.str "say", v], .ref F] st = some (v, st) := by
  have t := head_test (x := "say") (y := "say") (rest := [v]) (b := true) (by decide) (by decide) (by decide) (calls FS gl n) (anE (.tup [.str "say", v]) F none none none none) 0 st rfl
  have i1 : L2.atI [D.str "say", v] 1 = some v := L2.atI_nat (j := 1) rfl
  refine cl_ret (d := d13.df) (ρ' := anE (.tup [.str "say", v]) F none none none none) rfl rfl ?_
  show exs b13 gl (calls FS gl n) (anE (.tup [.str "say", v]) F none none none none) st = _
  rw [b13_eq]
  refine exs_ret ?_
  unfold anS1
  rw [ex_ife, t]
  show exs _ gl (calls FS gl n) _ _ = _
  refine exs_ret ?_
  simp only [ex_ret, ev_idx, ev_var0, ev_int, Option.bind_some, idx_tup, i1, Option.map_some]
theorem an_stop (n : Nat) (F : Nat) (st : Sto) : callD FS gl n 13 [.tup [.str "stop"], .ref F] st = some (.non, st) := by
  have t := head_test (x := "stop") (y := "say") (rest := []) (b := false) (by decide) (by decide) (by decide) (calls FS gl n) (anE (.tup [.str "stop"]) F none none none none) 0 st rfl
  have t2 := head_test (x := "stop") (y := "stop") (rest := []) (b := true) (by decide) (by decide) (by decide) (calls FS gl n) (anE (.tup [.str "stop"]) F none none none none) 0 st rfl
  refine cl_ret (d := d13.df) (ρ' := anE (.tup [.str "stop"]) F none none none none) rfl rfl ?_
  show exs b13 gl (calls FS gl n) (anE (.tup [.str "stop"]) F none none none none) st = _
  have a1 : ex anS1 gl (calls FS gl n) (anE (.tup [.str "stop"]) F none none none none) st = some (.nx, anE (.tup [.str "stop"]) F none none none none, st) := by
    unfold anS1
    rw [ex_ife, t]; rfl
  rw [b13_eq, exs_step a1 rfl]
  refine exs_ret ?_
  unfold anS2
  rw [ex_ife, t2]; rfl
theorem an_leaf (n : Nat) (x : It) (F : Nat) (st : Sto) : callD FS gl n 13 [lfD x, .ref F] st = some (enc x, st) := by
  cases x with
  | none => exact an_stop n F st
  | some b => exact an_say n _ F st
def Fr (st : Sto) (F : Nat) (r : List It) : Prop := ∃ A ds, lstOf st F = some [.ref A] ∧ lstOf st A = some ds ∧ ∀ (k : Nat) x, r[k]? = some x → ∃ e, ds[k]? = some (.tup [pgD (lfD x), .ref e]) ∧ lstOf st e = some []
theorem Fr.app {st J : Sto} {F : Nat} {r : List It} (h : Fr st F r) : Fr (st ++ J) F r := by
  obtain ⟨A, ds, h1, h2, h3⟩ := h
  refine ⟨A, ds, lst_old h1, lst_old h2, fun k x hx => ?_⟩
  obtain ⟨e, e1, e2⟩ := h3 k x hx
  exact ⟨e, e1, lst_old e2⟩
section
variable {n F k : Nat} {dz dn : D} {st : Sto} {r : List It}
abbrev akD (k : Nat) (dz dn : D) : D := .tup [.str "ask", .int 0, .int (k : Nat), .tup [], dz, dn]
theorem an_ask1 (C : List CS) : ex anS1 gl C (anE (akD k dz dn) F none none none none) st = some (.nx, anE (akD k dz dn) F none none none none, st) := by
  have t := head_test (x := "ask") (y := "say") (rest := [.int 0, .int (k : Nat), .tup [], dz, dn]) (b := false) (by decide) (by decide) (by decide) C (anE (akD k dz dn) F none none none none) 0 st rfl
  unfold anS1
  rw [ex_ife, t]; rfl
theorem an_ask2 (C : List CS) : ex anS2 gl C (anE (akD k dz dn) F none none none none) st = some (.nx, anE (akD k dz dn) F none none none none, st) := by
  have t := head_test (x := "ask") (y := "stop") (rest := [.int 0, .int (k : Nat), .tup [], dz, dn]) (b := false) (by decide) (by decide) (by decide) C (anE (akD k dz dn) F none none none none) 0 st rfl
  unfold anS2
  rw [ex_ife, t]; rfl
theorem an_ask3 (C : List CS) {A : Nat} {ds : List D} {d : D} (h1 : lstOf st F = some [.ref A]) (h2 : lstOf st A = some ds) (h3 : ds[k]? = some d) : ex anS3 gl C (anE (akD k dz dn) F none none none none) st = some (.nx, anE (akD k dz dn) F (some d) none none none, st) := by
  have i1 : L2.atI [D.str "ask", .int 0, .int (k : Nat), .tup [], dz, dn] 1 = some (.int 0) := L2.atI_nat (j := 1) rfl
  have i2 : L2.atI [D.str "ask", .int 0, .int (k : Nat), .tup [], dz, dn] 2 = some (.int (k : Nat)) := L2.atI_nat (j := 2) rfl
  have i0 : L2.atI [D.ref A] 0 = some (.ref A) := rfl
  have ik : L2.atI ds (k : Nat) = some d := L2.atI_nat h3
  have e1 : ev (.bin .sub (.bin .sub (.bi .len [(.var 1)]) (.int 1)) (.idx (.var 0) (.int 1))) gl C (anE (akD k dz dn) F none none none none) st = some (.int 0, st) := by
    simp only [ev_bin, ev_bi, evs_cons, evs_nil, ev_varS, ev_var0, ev_idx, ev_int, Option.bind_some, Option.map_some, len_ref, h1, idx_tup, i1]
    rfl
  unfold anS3
  simp only [ex_asg, ev_idx, e1, ev_varS, ev_var0, Option.bind_some, idx_ref, h1, i0, Option.map_some, ev_int, idx_tup, i2, h2, ik]
  rfl
theorem an_ask4 (C : List CS) (x2 : Option D) : ex anS4 gl C (anE (akD k dz dn) F x2 none none none) st = some (.nx, anE (akD k dz dn) F x2 (some (.ref st.length)) none none, st ++ [.lst []]) := by
  have i3 : L2.atI [D.str "ask", .int 0, .int (k : Nat), .tup [], dz, dn] 3 = some (.tup []) := L2.atI_nat (j := 3) rfl
  have e1 : evs [(.idx (.var 0) (.int 3))] gl C (anE (akD k dz dn) F x2 none none none) st = some ([.tup []], st) := by
    simp only [evs_cons, evs_nil, ev_idx, ev_var0, ev_int, Option.bind_some, idx_tup, i3, Option.map_some]
  obtain ⟨acc, st', e, rfl, rfl⟩ := ev_comp (g := gl) (C := C) (ik := .one) (src := [(.idx (.var 0) (.int 3))]) (tg := .nm 5) (cnd := []) (elt := .tup [(.var 5), (.var 1)]) (own := [5]) (N := 0) (J := .tup []) (xs := [.tup []]) (st0 := st) (st := st) (ρ := anE (akD k dz dn) F x2 none none none) e1 rfl
    (fun i acc s => acc = [] ∧ s = st) ⟨rfl, rfl⟩ (fun i _ _ hi => absurd hi (Nat.not_lt_zero i)) (fun _ _ _ => rfl)
  unfold anS4
  rw [ex_asg, e]
  rfl
theorem an_ask5 {p g : D} {e G : Nat} {s2 : Sto} {v : D} (he : lstOf st e = some []) (hc : callD FS gl n 13 [p, .ref st.length.succ] (st ++ [.lst [.ref G]] ++ [.lst [.ref G]]) = some (v, s2)) :
    ex anS5 gl (calls FS gl (n + 1)) (anE (akD k dz dn) F (some (.tup [pgD p, .ref e])) (some (.ref G)) none none) st = some (.nx, anE (akD k dz dn) F (some (.tup [pgD p, .ref e])) (some (.ref G)) (some v) none, s2) := by
  have hz1 : 1 ≤ sizeLine := by rw [sizeLine_eq]; omega
  have i0 : L2.atI [pgD p, .ref e] 0 = some (pgD p) := rfl
  have i1 : L2.atI [pgD p, .ref e] 1 = some (.ref e) := L2.atI_nat (j := 1) rfl
  have i2 : L2.atI [D.str "program", .int 0, p] 2 = some p := L2.atI_nat (j := 2) rfl
  have he2 : lstOf (st ++ [.lst [.ref G]]) e = some [] := lst_old he
  have hg : lstOf (st ++ [.lst [.ref G]]) st.length = some [.ref G] := lst_mid _ _ _
  have eb : binD .add (.ref e) (.ref st.length) (st ++ [.lst [.ref G]]) = some (.ref st.length.succ, st ++ [.lst [.ref G]] ++ [.lst [.ref G]]) := by
    show ((lstOf (st ++ [.lst [.ref G]]) e).bind fun a => (lstOf (st ++ [.lst [.ref G]]) st.length).bind fun b => _) = _
    rw [he2, hg]
    simp only [Option.bind_some, List.length_nil, List.length_cons, Nat.zero_add, if_pos hz1, new_eq, List.length_append, List.nil_append]
  have e1 : evs [(.idx (.idx (.var 2) (.int 0)) (.int 2)), (.bin .add (.idx (.var 2) (.int 1)) (.lst [(.var 3)]))] gl (calls FS gl (n + 1)) (anE (akD k dz dn) F (some (.tup [pgD p, .ref e])) (some (.ref G)) none none) st = some ([p, .ref st.length.succ], st ++ [.lst [.ref G]] ++ [.lst [.ref G]]) := by
    simp only [evs_cons, evs_nil, ev_idx, ev_varS, ev_var0, ev_int, Option.bind_some, idx_tup, i0, i1, Option.map_some]
    unfold pgD
    simp only [idx_tup, i2, Option.map_some, Option.bind_some, ev_bin, ev_idx, ev_varS, ev_var0, ev_int]
    have i1' : L2.atI [D.tup [.str "program", .int 0, p], .ref e] 1 = some (.ref e) := i1
    simp only [i1', Option.map_some, Option.bind_some, ev_lst, evs_cons, evs_nil, ev_varS, ev_var0, List.length_cons, List.length_nil, Nat.zero_add, if_pos hz1, new_eq, eb]
  have f : asgD (.nm 4) v s2 (anE (akD k dz dn) F (some (.tup [pgD p, .ref e])) (some (.ref G)) none none) = some (anE (akD k dz dn) F (some (.tup [pgD p, .ref e])) (some (.ref G)) (some v) none) := rfl
  unfold anS5
  rw [ex_asg, ev_call, e1, Option.bind_some, hc, Option.bind_some, f, Option.map_some]
theorem an_ask7 {x2 x3 x5 : Option D} {b : Bool} {v : D} {s2 : Sto} (hc : callD FS gl n 13 [if b then dn else dz, .ref F] st = some (v, s2)) :
    ex anS7 gl (calls FS gl (n + 1)) (anE (akD k dz dn) F x2 x3 (some (enc (some b))) x5) st = some (.rt v, anE (akD k dz dn) F x2 x3 (some (enc (some b))) x5, s2) := by
  have i4 : L2.atI [D.str "ask", .int 0, .int (k : Nat), .tup [], dz, dn] (4 + (if b then 1 else 0)) = some (if b then dn else dz) := by
    cases b
    · exact L2.atI_nat (j := 4) rfl
    · exact L2.atI_nat (j := 5) rfl
  have e1 : evs [(.idx (.var 0) (.bin .add (.int 4) (.var 4))), (.var 1)] gl (calls FS gl (n + 1)) (anE (akD k dz dn) F x2 x3 (some (enc (some b))) x5) st = some ([if b then dn else dz, .ref F], st) := by
    unfold enc
    simp only [evs_cons, evs_nil, ev_idx, ev_bin, ev_varS, ev_var0, ev_int, Option.bind_some, bin_addI, idx_tup, i4, Option.map_some]
  unfold anS7
  rw [ex_ret, ev_call, e1, Option.bind_some, hc, Option.map_some]
end
theorem run_answer (F : Nat) (r : List It) : ∀ (t : BT) (n : Nat) (st : Sto), htB t ≤ n → okB r.length t → Fr st F r → ∃ J, callD FS gl n 13 [bd t, .ref F] st = some (enc (evB r t), st ++ J)
  | .say b, n, st, _, _, _ => ⟨[], by rw [List.append_nil]; exact an_say n _ F st⟩
  | .stop, n, st, _, _, _ => ⟨[], by rw [List.append_nil]; exact an_stop n F st⟩
  | .ask k z o, n, st, hn, hk, hF => by
    obtain ⟨n, rfl⟩ : ∃ m, n = m + 1 := ⟨n - 1, by have : htB (.ask k z o) = max (htB z) (htB o) + 1 := rfl; omega⟩
    have hh : max (htB z) (htB o) + 1 ≤ n + 1 := hn
    obtain ⟨hk1, hk2, hk3⟩ := hk
    have hF0 := hF
    obtain ⟨A, ds, h1, h2, h3⟩ := hF
    obtain ⟨e, e1, e2⟩ := h3 k r[k] (List.getElem?_eq_getElem hk1)
    have er : r.getD k none = r[k] := by rw [List.getD_eq_getElem?_getD, List.getElem?_eq_getElem hk1]; rfl
    generalize r[k] = x at e1 er
    have a1 := an_ask1 (F := F) (k := k) (dz := bd z) (dn := bd o) (st := st) (calls FS gl (n + 1))
    have a2 := an_ask2 (F := F) (k := k) (dz := bd z) (dn := bd o) (st := st) (calls FS gl (n + 1))
    have a3 := an_ask3 (dz := bd z) (dn := bd o) (calls FS gl (n + 1)) h1 h2 e1
    have a4 := an_ask4 (F := F) (k := k) (dz := bd z) (dn := bd o) (st := st) (calls FS gl (n + 1)) (some (.tup [pgD (lfD x), .ref e]))
    have a5 := an_ask5 (n := n) (F := F) (k := k) (dz := bd z) (dn := bd o) (p := lfD x) (G := st.length) (g := .non) (e := e) (v := enc x) (st := st ++ [.lst []]) (lst_old e2) (an_leaf n x _ _)
    generalize hJ : ([.lst []] ++ [.lst [.ref st.length]] ++ [.lst [.ref st.length]] : Sto) = J
    have hs : st ++ [.lst []] ++ [.lst [.ref st.length]] ++ [.lst [.ref st.length]] = st ++ J := by rw [← hJ]; simp
    rw [hs] at a5
    cases x with
    | none =>
      have ee : evB r (.ask k z o) = none := by show (match r.getD k none with | none => none | some false => evB r z | some true => evB r o) = _; rw [er]
      refine ⟨J, ?_⟩
      rw [ee]
      refine cl_ret (d := d13.df) (ρ' := anE (akD k (bd z) (bd o)) F (some (.tup [pgD (lfD none), .ref e])) (some (.ref st.length)) (some .non) none) rfl rfl ?_
      show exs b13 gl (calls FS gl (n + 1)) (anE (akD k (bd z) (bd o)) F none none none none) st = _
      rw [b13_eq, exs_step a1 rfl, exs_step a2 rfl, exs_step a3 rfl, exs_step a4 rfl, exs_step a5 rfl]
      refine exs_ret ?_
      rfl
    | some b =>
      have ee : evB r (.ask k z o) = if b then evB r o else evB r z := by
        show (match r.getD k none with | none => none | some false => evB r z | some true => evB r o) = _
        rw [er]
        cases b <;> rfl
      have hrec : ∃ J2, callD FS gl n 13 [if b then bd o else bd z, .ref F] (st ++ J) = some (enc (if b then evB r o else evB r z), st ++ J ++ J2) := by
        cases b with
        | false => exact run_answer F r z n (st ++ J) (by omega) hk2 hF0.app
        | true => exact run_answer F r o n (st ++ J) (by omega) hk3 hF0.app
      obtain ⟨J2, e7⟩ := hrec
      refine ⟨J ++ J2, ?_⟩
      rw [ee, ← List.append_assoc]
      have a7 := an_ask7 (k := k) (x2 := some (.tup [pgD (lfD (some b)), .ref e])) (x3 := some (.ref st.length)) (x5 := none) e7
      have a6 : ex anS6 gl (calls FS gl (n + 1)) (anE (akD k (bd z) (bd o)) F (some (.tup [pgD (lfD (some b)), .ref e])) (some (.ref st.length)) (some (enc (some b))) none) (st ++ J) = some (.nx, anE (akD k (bd z) (bd o)) F (some (.tup [pgD (lfD (some b)), .ref e])) (some (.ref st.length)) (some (enc (some b))) none, st ++ J) := rfl
      refine cl_ret (d := d13.df) (ρ' := anE (akD k (bd z) (bd o)) F (some (.tup [pgD (lfD (some b)), .ref e])) (some (.ref st.length)) (some (enc (some b))) none) rfl rfl ?_
      show exs b13 gl (calls FS gl (n + 1)) (anE (akD k (bd z) (bd o)) F none none none none) st = _
      rw [b13_eq, exs_step a1 rfl, exs_step a2 rfl, exs_step a3 rfl, exs_step a4 rfl, exs_step a5 rfl, exs_step a6 rfl, exs_ret a7]
end K71
end
section
set_option Elab.async false
set_option linter.all false
set_option maxRecDepth 100000
set_option maxHeartbeats 1000000
namespace K71
open Dz PySem L2
def plL : E := .lc .one [(.var 1)] (.nm 2) [] (.tup [(.var 2), (.lst [])]) [2]
theorem b14_eq : b14 = [.ret (.call 13 [(.idx (.var 0) (.int 2)), (.lst [plL])])] := rfl
def ptD (q : Nat) (d : D) : D := .tup [.str "program", .int (q : Nat), d]
theorem pl_list (C : List CS) (d : D) (L : Nat) (r : List It) (st : Sto) (hL : lstOf st L = some (r.map fun x => pgD (lfD x))) (hr : r.length ≤ 1000) :
    ∃ J ds, ev plL gl C [some d, some (.ref L), none] st = some (.ref (st ++ J).length, st ++ J ++ [.lst ds]) ∧ ∀ (k : Nat) x, r[k]? = some x → ∃ e, ds[k]? = some (.tup [pgD (lfD x), .ref e]) ∧ lstOf (st ++ J) e = some [] := by
  have hz0 : 0 ≤ sizeLine := Nat.zero_le _
  have hz2 : 2 ≤ sizeLine := by rw [sizeLine_eq]; omega
  obtain ⟨acc, st', e, ⟨J, rfl⟩, hl, hk⟩ := ev_comp (g := gl) (C := C) (ik := .one) (src := [(.var 1)]) (tg := .nm 2) (cnd := []) (elt := .tup [(.var 2), (.lst [])]) (own := [2]) (N := r.length) (J := .lst L) (xs := [.ref L]) (st0 := st) (st := st) (ρ := [some d, some (.ref L), none]) rfl (by
      show (lstOf st L).map _ = _
      rw [hL]; simp)
    (fun i acc s => (∃ J, s = st ++ J) ∧ acc.length = i ∧ ∀ (k : Nat) x, k < i → r[k]? = some x → ∃ e, acc[k]? = some (.tup [pgD (lfD x), .ref e]) ∧ lstOf s e = some []) ⟨⟨[], by simp⟩, rfl, fun k x h => absurd h (Nat.not_lt_zero k)⟩ (by
      rintro i acc s hi ⟨⟨J, rfl⟩, rfl, hk⟩
      have hg : r[acc.length]? = some r[acc.length] := List.getElem?_eq_getElem hi
      generalize r[acc.length] = x at hg
      have hL' : lstOf (st ++ J) L = some (r.map fun x => pgD (lfD x)) := lst_old hL
      refine ⟨pgD (lfD x), some (.tup [pgD (lfD x), .ref (st ++ J).length]), st ++ J ++ [.lst []], ?_, ?_, ?_, ⟨J ++ [.lst []], by rw [List.append_assoc]⟩, by simp, ?_⟩
      · show (lstOf (st ++ J) L).bind _ = _
        rw [hL']
        show (r.map _)[acc.length]? = _
        rw [List.getElem?_map, hg]; rfl
      · have k0 : asgD (.nm 2) (pgD (lfD x)) (st ++ J) (wipeD [some d, some (.ref L), none] [2]) = some [some d, some (.ref L), some (pgD (lfD x))] := rfl
        simp only [k0, Option.bind_some, evTA_nil, if_true, ev_tup, evs_cons, evs_nil, ev_varS, ev_var0, ev_lst, List.length_nil, List.length_cons, Nat.zero_add, Nat.reduceAdd, if_pos hz0, if_pos hz2, new_eq, Option.map_some]
      · intro _
        rw [sizeLine_eq]; omega
      · intro k y hk1 hy
        by_cases h : k = acc.length
        · subst h
          rw [hg] at hy
          cases hy
          exact ⟨(st ++ J).length, by simp, lst_mid _ _ _⟩
        · obtain ⟨e, e1, e2⟩ := hk k y (by omega) hy
          exact ⟨e, by rw [Option.toList_some, List.getElem?_append_left (by omega)]; exact e1, lst_old e2⟩) (by
      rintro acc s ⟨⟨J, rfl⟩, _, _⟩
      show (match lstOf (st ++ J) L with | some ds => decide (ds.length ≤ r.length) | none => false) = true
      rw [lst_old hL]; simp)
  exact ⟨J, acc, e, fun k x hx => hk k x (List.getElem?_eq_some_iff.mp hx).1 hx⟩
theorem run_plain (n q L : Nat) (r : List It) (t : BT) (st : Sto) (hL : lstOf st L = some (r.map fun x => pgD (lfD x))) (hr : r.length ≤ 1000) (hn : htB t ≤ n) (ht : okB r.length t) :
    ∃ J, callD FS gl (n + 1) 14 [ptD q (bd t), .ref L] st = some (enc (evB r t), st ++ J) := by
  have hz1 : 1 ≤ sizeLine := by rw [sizeLine_eq]; omega
  obtain ⟨J, ds, e1, hk⟩ := pl_list (calls FS gl (n + 1)) (ptD q (bd t)) L r st hL hr
  have hA : lstOf (st ++ J ++ [.lst ds]) (st ++ J).length = some ds := lst_mid _ _ _
  have hF : Fr (st ++ J ++ [.lst ds] ++ [.lst [.ref (st ++ J).length]]) (st ++ J ++ [O.lst ds]).length r := by
    refine ⟨(st ++ J).length, ds, lst_mid _ _ _, lst_old hA, fun k x hx => ?_⟩
    obtain ⟨e, h1, h2⟩ := hk k x hx
    exact ⟨e, h1, lst_old (lst_old h2)⟩
  have i2 : L2.atI [D.str "program", .int (q : Nat), bd t] 2 = some (bd t) := L2.atI_nat (j := 2) rfl
  have e2 : evs [(.idx (.var 0) (.int 2)), (.lst [plL])] gl (calls FS gl (n + 1)) [some (ptD q (bd t)), some (.ref L), none] st = some ([bd t, .ref (st ++ J ++ [O.lst ds]).length], st ++ J ++ [.lst ds] ++ [.lst [.ref (st ++ J).length]]) := by
    have e3 : ev (.idx (.var 0) (.int 2)) gl (calls FS gl (n + 1)) [some (ptD q (bd t)), some (.ref L), none] st = some (bd t, st) := by
      unfold ptD
      simp only [ev_idx, ev_var0, ev_int, Option.bind_some, idx_tup, i2, Option.map_some]
    simp only [evs_cons, evs_nil, e3, Option.bind_some, ev_lst, e1, Option.map_some, List.length_cons, List.length_nil, Nat.zero_add, if_pos hz1, new_eq]
  obtain ⟨J2, e4⟩ := run_answer _ r t n _ hn ht hF
  refine ⟨J ++ [.lst ds] ++ [.lst [.ref (st ++ J).length]] ++ J2, ?_⟩
  refine cl_ret (d := d14.df) (ρ' := [some (ptD q (bd t)), some (.ref L), none]) rfl rfl ?_
  show exs b14 gl (calls FS gl (n + 1)) [some (ptD q (bd t)), some (.ref L), none] st = _
  rw [b14_eq]
  refine exs_ret ?_
  rw [ex_ret, ev_call, e2, Option.bind_some, e4, Option.map_some]
  simp only [List.append_assoc]
theorem run_program (n b j q : Nat) (st : Sto) (hq : q ≤ 1000) (hB : Box b j st) :
    ∃ t st', callD FS gl (n + 5 + 1 + 1) 12 [.ref b, kindD q, .int 5] st = some (ptD q (bd t), st') ∧ okB q t ∧ htB t ≤ 5 ∧ Box b j st' ∧ Kq [b] st st' := by
  have hz1 : 1 ≤ sizeLine := by rw [sizeLine_eq]; omega
  have hz3 : 3 ≤ sizeLine := by rw [sizeLine_eq]; omega
  obtain ⟨hb, hj⟩ := hB.lt
  have hB1 : Box b j (st ++ [.lst [.int 5]]) := hB.kq (Kq.app [] _ _) (by simp) (by simp)
  obtain ⟨t, B', st', e, ho, hh, _, hB2, hG, hK⟩ := run_body_draw 5 n b j q st.length (st ++ [.lst [.int 5]]) hq hB1 (lst_mid _ _ _) (by omega) (by omega)
  have e1 : evs [(.var 0), (.tup [(.var 1)]), (.lst [(.var 2)])] gl (calls FS gl (n + 5 + 1 + 1)) [some (.ref b), some (kindD q), some (.int 5)] st = some ([.ref b, .tup [kindD q], .ref st.length], st ++ [.lst [.int 5]]) := by
    simp only [evs_cons, evs_nil, ev_varS, ev_var0, ev_tup, ev_lst, Option.bind_some, Option.map_some, List.length_cons, List.length_nil, Nat.zero_add, if_pos hz1, new_eq]
  have e2 : ev (.bi .len [(.var 1)]) gl (calls FS gl (n + 5 + 1 + 1)) [some (.ref b), some (kindD q), some (.int 5)] st = some (.int (q : Nat), st) := by
    show (some (D.int ((List.replicate q (D.tup [])).length : Nat), st) : Option _) = _
    rw [List.length_replicate]
  refine ⟨t, st', ?_, ho, hh, hB2, ((Kq.app [b, st.length] st [O.lst [.int 5]]).trans hK).wkN fun x hx => ?_⟩
  · refine cl_ret (d := d12.df) (ρ' := [some (.ref b), some (kindD q), some (.int 5)]) rfl rfl ?_
    show exs b12 gl (calls FS gl (n + 5 + 1 + 1)) [some (.ref b), some (kindD q), some (.int 5)] st = _
    unfold b12
    refine exs_ret ?_
    rw [ex_ret, ev_tup]
    rw [evs_cons, ev_str, Option.bind_some, evs_cons, e2, Option.bind_some, evs_cons, ev_call, e1, Option.bind_some, e, Option.bind_some, evs_nil]
    simp only [Option.map_some, Option.bind_some, List.length_cons, List.length_nil, Nat.zero_add, Nat.reduceAdd, if_pos hz3]
    rfl
  · simp at hx
    rcases hx with rfl | rfl
    · exact .inl (by simp)
    · exact .inr (Nat.le_refl _)
end K71
end
section
set_option Elab.async false
set_option linter.all false
set_option maxRecDepth 100000
set_option maxHeartbeats 1000000
namespace K71
open Dz PySem L2
/-! ### _law_table -/
theorem ev_dof (e : E) (C : List CS) (ρ : Dz.Env) (st : Sto) : ev (.dof e) gl C ρ st = (ev e gl C ρ st).bind fun r => dofD r.1 r.2 := rfl
theorem ev_dnew (C : List CS) (ρ : Dz.Env) (st : Sto) : ev .dnew gl C ρ st = some (.ref st.length, st ++ [.dic false []]) := rfl
theorem ev_item {n b j m : Nat} {s : Sto} {ρ : Dz.Env} (L : List E) (xs : List It) (i : Int) (hL : ∀ C ρ s, evs L gl C ρ s = some (xs.map enc, s)) (hm : m = xs.length) (hm0 : 0 < m) (hm9 : m ≤ 9) (hi : i = (m : Nat)) (h0 : ρ[0]? = some (some (.ref b))) (hB : Box b j s) :
    ∃ x s', ev (.idx (.lst L) (.call 8 [(.var 0), (.int i)])) gl (calls FS gl (n + 1)) ρ s = some (enc x, s') ∧ Box b j s' ∧ Kq [b] s s' := by
  have hz : (xs.map enc).length ≤ sizeLine := by rw [sizeLine_eq, List.length_map]; omega
  have hB1 : Box b j (s ++ [.lst (xs.map enc)]) := hB.kq (Kq.app [] s [.lst (xs.map enc)]) (by simp) (by simp)
  obtain ⟨r, s', hr, ed, hB', hK, _⟩ := run_drawQ n hB1 m hm0
  rw [← hi] at ed
  have hl : lstOf s' s.length = some (xs.map enc) := hK.lst (lst_mid _ _ _) (by
    have := hB.lt
    simp; omega)
  have hr5 : r < xs.length := hm ▸ hr
  have hi : L2.atI (xs.map enc) (r : Nat) = some (enc xs[r]) := L2.atI_nat (by rw [List.getElem?_map, List.getElem?_eq_getElem hr5]; rfl)
  refine ⟨xs[r], s', ?_, hB', ((Kq.app [b] s _).trans hK)⟩
  have e1 : ev (.lst L) gl (calls FS gl (n + 1)) ρ s = some (.ref s.length, s ++ [.lst (xs.map enc)]) := by
    rw [ev_lst, hL, Option.bind_some, if_pos hz, new_eq]
  have e2 : evs [(.var 0), (.int i)] gl (calls FS gl (n + 1)) ρ (s ++ [.lst (xs.map enc)]) = some ([.ref b, .int i], s ++ [.lst (xs.map enc)]) := by
    simp only [evs_cons, evs_nil, ev_var, h0, ev_int, Option.bind_some, Option.map_some]
  rw [ev_idx, e1, Option.bind_some, ev_call, e2, Option.bind_some, ed, Option.bind_some, idx_ref, hl, Option.bind_some, hi, Option.map_some]
theorem pairs_tb (f : List It → It) : ∀ l : List (List It), pairsD (l.map fun r => .tup [encR r, enc (f r)]) = some (tb f l)
  | [] => rfl
  | r :: l => by
    rw [List.map_cons]
    unfold pairsD
    rw [kOf_enc, Option.bind_some, pairs_tb f l]; rfl
abbrev tbE (b q : Nat) (x2 x3 x4 x5 x6 x7 x8 x9 x10 : Option D) : Dz.Env := [some (.ref b), some (.int (q : Nat)), x2, x3, x4, x5, x6, x7, x8, x9, x10]
def tbC (L : List E) (i : Int) : E := .lc .one [(.var 2)] (.nm 6) [] (.tup [(.var 6), (.idx (.lst L) (.call 8 [(.var 0), (.int i)]))]) [6]
section
variable {n b j q P : Nat} {x3 x4 x5 x6 x7 x8 x9 x10 : Option D} {s : Sto}
theorem tab_dof (L : List E) (xs : List It) (i : Int) {m : Nat} (hL : ∀ C ρ s, evs L gl C ρ s = some (xs.map enc, s)) (hm : m = xs.length) (hm0 : 0 < m) (hm9 : m ≤ 9) (hi : i = (m : Nat)) (hq : q ≤ 3) (hB : Box b j s) (hP : lstOf s P = some (rowsD q)) (hPb : P ≠ b) :
    ∃ f T s', ev (.dof (tbC L i)) gl (calls FS gl (n + 1)) (tbE b q (some (.ref P)) x3 x4 x5 x6 x7 x8 x9 x10) s = some (.ref T, s') ∧ s'[T]? = some (.dic false (tb f (rows q))) ∧ s.length ≤ T ∧ Box b j s' ∧ Kq [b] s s' := by
  have hz2 : 2 ≤ sizeLine := by rw [sizeLine_eq]; omega
  have h27 := rows27 hq
  have hnd := rows_nodup hq
  obtain ⟨acc, s', e, ⟨f, rfl⟩, hB', hK⟩ := ev_comp (g := gl) (C := calls FS gl (n + 1)) (ik := .one) (src := [(.var 2)]) (tg := .nm 6) (cnd := []) (elt := (.tup [(.var 6), (.idx (.lst L) (.call 8 [(.var 0), (.int i)]))])) (own := [6]) (N := (rows q).length) (J := .lst P) (xs := [.ref P]) (st0 := s) (st := s) (ρ := tbE b q (some (.ref P)) x3 x4 x5 x6 x7 x8 x9 x10) rfl (by
      show (lstOf s P).map _ = _
      rw [hP]; simp [rowsD])
    (fun i acc s' => (∃ f : List It → It, acc = ((rows q).take i).map fun r => D.tup [encR r, enc (f r)]) ∧ Box b j s' ∧ Kq [b] s s') ⟨⟨fun _ => none, rfl⟩, hB, Kq.refl _ _⟩ (by
      rintro k acc s1 hk ⟨⟨f, rfl⟩, hB1, hK1⟩
      have hg : (rows q)[k]? = some (rows q)[k] := List.getElem?_eq_getElem hk
      have hnot : (rows q)[k] ∉ (rows q).take k := fun hm => by
        obtain ⟨i, hi, e⟩ := List.mem_take_iff_getElem.mp hm
        have := (List.getElem_inj (h₀ := by omega) (h₁ := hk) hnd).mp e
        omega
      generalize (rows q)[k] = r at hg hnot
      have k0 : asgD (.nm 6) (encR r) s1 (wipeD (tbE b q (some (.ref P)) x3 x4 x5 x6 x7 x8 x9 x10) [6]) = some (tbE b q (some (.ref P)) x3 x4 x5 (some (encR r)) x7 x8 x9 x10) := rfl
      obtain ⟨x, s2, e2, hB2, hK2⟩ := ev_item (n := n) (ρ := tbE b q (some (.ref P)) x3 x4 x5 (some (encR r)) x7 x8 x9 x10) L xs i hL hm hm0 hm9 hi rfl hB1
      have hP1 := hK1.lst hP (by simp [hPb])
      refine ⟨encR r, some (.tup [encR r, enc x]), s2, ?_, ?_, ?_, ⟨set1 f r x, ?_⟩, hB2, hK1.trans hK2⟩
      · show (lstOf s1 P).bind _ = _
        rw [hP1]
        show (rowsD q)[k]? = _
        rw [rowsD, List.getElem?_map, hg]; rfl
      · simp only [k0, Option.bind_some, evTA_nil, if_true, ev_tup, evs_cons, evs_nil, ev_varS, ev_var0, e2, Option.map_some, List.length_cons, List.length_nil, Nat.zero_add, Nat.reduceAdd, if_pos hz2]
      · intro _
        rw [sizeLine_eq, List.length_map, List.length_take]; omega
      · rw [take_one' hg, List.map_append]
        congr 1
        · refine List.map_congr_left fun o ho => ?_
          have : o ≠ r := fun h => hnot (h ▸ ho)
          simp [set1, this]
        · simp [set1]) (by
      rintro acc s1 ⟨_, _, hK1⟩
      show (match lstOf s1 P with | some ds => decide (ds.length ≤ (rows q).length) | none => false) = true
      rw [hK1.lst hP (by simp [hPb])]; simp [rowsD])
  rw [List.take_length] at e
  refine ⟨f, (s' ++ [O.lst ((rows q).map fun r => D.tup [encR r, enc (f r)])]).length, s' ++ [O.lst ((rows q).map fun r => D.tup [encR r, enc (f r)])] ++ [.dic false (tb f (rows q))], ?_, ?_, ?_, ?_, ?_⟩
  · have e' : ev (tbC L i) gl (calls FS gl (n + 1)) (tbE b q (some (.ref P)) x3 x4 x5 x6 x7 x8 x9 x10) s = _ := e
    rw [ev_dof, e', Option.bind_some]
    show ((lstOf (s' ++ [O.lst ((rows q).map fun r => D.tup [encR r, enc (f r)])]) s'.length).bind fun ds => (pairsD ds).bind fun ps => if ds.length ≤ sizeLine then some (new _ (.dic false (putAll ps))) else none) = _
    rw [lst_mid, Option.bind_some, pairs_tb, Option.bind_some, if_pos (by rw [List.length_map, sizeLine_eq]; omega), putAll_tb _ _ hnd, new_eq]
  · simp
  · have := hK.1
    simp; omega
  · exact hB'.kq ((Kq.app [] _ _).trans (Kq.app [] _ _)) (by simp) (by simp)
  · exact hK.trans ((Kq.app [b] _ _).trans (Kq.app [b] _ _))
end
end K71
end
section
set_option Elab.async false
set_option linter.all false
set_option maxRecDepth 100000
set_option maxHeartbeats 1000000
namespace K71
open Dz PySem L2
theorem tb_length (f : List It → It) (l : List (List It)) : (tb f l).length = l.length := by unfold tb; rw [List.length_map]
theorem dset_tb {s : Sto} {T : Nat} {f : List It → It} {l : List (List It)} {r : List It} (x : It) (h : s[T]? = some (.dic false (tb f l))) (hr : r ∈ l) (hl : l.length ≤ 1000) : dsetD (.ref T) (encR r) (enc x) s = some (s.set T (.dic false (tb (set1 f r x) l))) := by
  unfold dsetD
  simp only [h, kOf_enc, Option.bind_some, if_pos (show (tb f l).length < sizeLine by rw [tb_length, sizeLine_eq]; omega), dPut_tb f hr x]
theorem dset_new {s : Sto} {T : Nat} {f : List It → It} {l : List (List It)} {r : List It} (x : It) (h : s[T]? = some (.dic false (tb f l))) (hr : r ∉ l) (hl : l.length ≤ 1000) : dsetD (.ref T) (encR r) (enc x) s = some (s.set T (.dic false (tb (set1 f r x) (l ++ [r])))) := by
  unfold dsetD
  simp only [h, kOf_enc, Option.bind_some, if_pos (show (tb f l).length < sizeLine by rw [tb_length, sizeLine_eq]; omega), dPut_new f hr x]
/-- the box, the rows' list and the table, seen from st -/
structure TI (st : Sto) (b j P T q : Nat) (l : List (List It)) (s : Sto) : Prop where
  hB : Box b j s
  hK : Kq [b] st s
  hP : lstOf s P = some (rowsD q)
  hT : ∃ f, s[T]? = some (.dic false (tb f l))
  ht : st.length ≤ T
  hp : P ≠ b
theorem TI.app {st : Sto} {b j P T q : Nat} {l : List (List It)} {s : Sto} (h : TI st b j P T q l s) (J : Sto) : TI st b j P T q l (s ++ J) := ⟨h.hB.kq (Kq.app [] s J) (by simp) (by simp), h.hK.trans (Kq.app _ _ _), lst_old h.hP, by
  obtain ⟨f, e⟩ := h.hT
  exact ⟨f, by rw [List.getElem?_append_left (List.getElem?_eq_some_iff.mp e).1]; exact e⟩, h.ht, h.hp⟩
theorem ne_dic {s : Sto} {k T : Nat} {ds : List D} {kvs : KVs} (h : lstOf s k = some ds) (h' : s[T]? = some (.dic false kvs)) : k ≠ T := by
  rintro rfl
  rw [getO h] at h'
  cases h'
theorem TI.put {st : Sto} {b j P T q : Nat} {l l2 : List (List It)} {s : Sto} (h : TI st b j P T q l s) (f : List It → It) : TI st b j P T q l2 (s.set T (.dic false (tb f l2))) := by
  obtain ⟨g, e⟩ := h.hT
  have hT := (List.getElem?_eq_some_iff.mp e).1
  have k : Kq [T] s (s.set T (.dic false (tb f l2))) := Kq.set (by simp)
  obtain ⟨hn, p0, zs, h1, h2⟩ := h.hB
  have nb := ne_dic h1 e
  have nj := ne_dic h2 e
  exact ⟨h.hB.kq k (by simp [nb]) (by simp [nj]), h.hK.setN h.ht, k.lst h.hP (by simp [ne_dic h.hP e]), ⟨f, List.getElem?_set_self hT⟩, h.ht, h.hp⟩
theorem TI.draw {st : Sto} {b j P T q : Nat} {l : List (List It)} {s s' : Sto} (h : TI st b j P T q l s) (hB : Box b j s') (hK : Kq [b] s s') : TI st b j P T q l s' := by
  obtain ⟨g, e⟩ := h.hT
  obtain ⟨hn, p0, zs, h1, h2⟩ := h.hB
  exact ⟨hB, h.hK.trans hK, hK.lst h.hP (by simp [h.hp]), ⟨g, hK.get e (by simp [Ne.symm (ne_dic h1 e)])⟩, h.ht, h.hp⟩
def k1J : S := .ife (.and [(.cmp .isn (.dget (.var 5) (.var 6)) .non), (.val (.call 16 [(.var 6), (.var 9)]))]) [.dset (.var 5) (.var 9) (.dget (.var 5) (.var 6))] []
section
variable {n b j q P T : Nat} {x3 x4 x7 x8 x9 x10 : Option D} {st s : Sto}
theorem k1_step {r o : List It} (hq : q ≤ 3) (hr : r ∈ rows q) (ho : o ∈ rows q) (h : TI st b j P T q (rows q) s) :
    ∃ s', ex k1J gl (calls FS gl (n + 1)) (tbE b q (some (.ref P)) x3 x4 (some (.ref T)) (some (encR r)) x7 x8 (some (encR o)) x10) s = some (.nx, tbE b q (some (.ref P)) x3 x4 (some (.ref T)) (some (encR r)) x7 x8 (some (encR o)) x10, s') ∧ TI st b j P T q (rows q) s' := by
  have h27 := rows27 hq
  have hrl := (mem_rows q r).mp hr
  have hol := (mem_rows q o).mp ho
  obtain ⟨f, e⟩ := h.hT
  have hT : TbAt s T f (rows q) := ⟨false, e⟩
  obtain ⟨J, em⟩ := run_law_more n r o s (by omega) (by omega)
  have t1 : evT (.cmp .isn (.dget (.var 5) (.var 6)) .non) gl (calls FS gl (n + 1)) (tbE b q (some (.ref P)) x3 x4 (some (.ref T)) (some (encR r)) x7 x8 (some (encR o)) x10) s = some (!(f r).isNone, s) := by
    simp only [evT_cmp, ev_dget, ev_varS, ev_var0, ev_non, Option.bind_some, hT.get hr, Option.map_some, cmp_isnN, isN_enc]
  have t2 : evT (.val (.call 16 [(.var 6), (.var 9)])) gl (calls FS gl (n + 1)) (tbE b q (some (.ref P)) x3 x4 (some (.ref T)) (some (encR r)) x7 x8 (some (encR o)) x10) s = some (more r o, s ++ J) := by
    simp only [evT_val, ev_call, evs_cons, evs_nil, ev_varS, ev_var0, Option.bind_some, Option.map_some, em, truD_bl]
  unfold k1J
  cases hf : (f r).isNone with
  | true =>
    rw [hf] at t1
    refine ⟨s, ?_, h⟩
    rw [ex_ife, evT_and, evTA_cons, t1]; rfl
  | false =>
    rw [hf] at t1
    have t3 : evT (.and [(.cmp .isn (.dget (.var 5) (.var 6)) .non), (.val (.call 16 [(.var 6), (.var 9)]))]) gl (calls FS gl (n + 1)) (tbE b q (some (.ref P)) x3 x4 (some (.ref T)) (some (encR r)) x7 x8 (some (encR o)) x10) s = some (more r o, s ++ J) := by
      simp only [evT_and, evTA_cons, evTA_nil, t1, t2, Option.bind_some, Bool.not_false, if_true]
      cases more r o <;> rfl
    cases hm : more r o with
    | false =>
      rw [hm] at t3
      refine ⟨s ++ J, ?_, h.app J⟩
      rw [ex_ife, t3]; rfl
    | true =>
      rw [hm] at t3
      have h2 := h.app J
      have e2 : (s ++ J)[T]? = some (.dic false (tb f (rows q))) := by
        rw [List.getElem?_append_left (List.getElem?_eq_some_iff.mp e).1]; exact e
      have hT2 : TbAt (s ++ J) T f (rows q) := ⟨false, e2⟩
      refine ⟨(s ++ J).set T (.dic false (tb (set1 f o (f r)) (rows q))), ?_, h2.put _⟩
      have a : ex (.dset (.var 5) (.var 9) (.dget (.var 5) (.var 6))) gl (calls FS gl (n + 1)) (tbE b q (some (.ref P)) x3 x4 (some (.ref T)) (some (encR r)) x7 x8 (some (encR o)) x10) (s ++ J) = some (.nx, tbE b q (some (.ref P)) x3 x4 (some (.ref T)) (some (encR r)) x7 x8 (some (encR o)) x10, (s ++ J).set T (.dic false (tb (set1 f o (f r)) (rows q)))) := by
        simp only [ex_dset, ev_dget, ev_varS, ev_var0, Option.bind_some, hT2.get hr, Option.map_some, dset_tb (f r) e2 ho (by omega)]
      rw [ex_ife, t3]
      exact exs_step a rfl
theorem for_rows {C : List CS} {ρ : Dz.Env} {iv : Nat} {tg : Tg} {body : List S} (hq : q ≤ 3) (hv : evs [(.var iv)] gl C ρ s = some ([.ref P], s)) (hP : lstOf s P = some (rowsD q)) (I : Nat → Dz.Env → Sto → Prop) (h0 : I 0 ρ s)
    (hs : ∀ i ρ s r, (rows q)[i]? = some r → I i ρ s → lstOf s P = some (rowsD q) ∧ ∃ ρ' s', ((asgD tg (encR r) s ρ).bind fun ρ1 => exs body gl C ρ1 s) = some (.nx, ρ', s') ∧ I (i + 1) ρ' s')
    (he : ∀ i ρ s, I i ρ s → lstOf s P = some (rowsD q)) :
    ∃ ρ' s', ex (.for_ .one [(.var iv)] tg body) gl C ρ s = some (.nx, ρ', s') ∧ I (rows q).length ρ' s' := by
  refine ex_for (g := gl) (C := C) (ik := .one) (src := [(.var iv)]) (tg := tg) (b := body) (ρ := ρ) (st := s) (st0 := s) (xs := [.ref P]) (J := .lst P) (N := (rows q).length) hv ?_ I h0 ?_ ?_
  · show (lstOf s P).map _ = _
    rw [hP]; simp [rowsD]
  · intro i ρ s hi hI
    have hg : (rows q)[i]? = some (rows q)[i] := List.getElem?_eq_getElem hi
    generalize (rows q)[i] = r at hg
    obtain ⟨hP', ρ', s', e, hI'⟩ := hs i ρ s r hg hI
    refine ⟨encR r, .nx, ρ', s', ?_, e, .inl rfl, hI'⟩
    show (lstOf s P).bind _ = _
    rw [hP']
    show (rowsD q)[i]? = _
    rw [rowsD, List.getElem?_map, hg]; rfl
  · intro ρ s hI
    show (match lstOf s P with | some ds => decide (ds.length ≤ (rows q).length) | none => false) = true
    rw [he _ _ _ hI]; simp [rowsD]
def k1I : S := .for_ .one [(.var 2)] (.nm 9) [k1J]
theorem k1_inner {r : List It} (hq : q ≤ 3) (hr : r ∈ rows q) (h : TI st b j P T q (rows q) s) :
    ∃ y9 s', ex k1I gl (calls FS gl (n + 1)) (tbE b q (some (.ref P)) x3 x4 (some (.ref T)) (some (encR r)) x7 x8 x9 x10) s = some (.nx, tbE b q (some (.ref P)) x3 x4 (some (.ref T)) (some (encR r)) x7 x8 y9 x10, s') ∧ TI st b j P T q (rows q) s' := by
  obtain ⟨ρ', s', e, ⟨y9, rfl⟩, h'⟩ := for_rows (C := calls FS gl (n + 1)) (ρ := tbE b q (some (.ref P)) x3 x4 (some (.ref T)) (some (encR r)) x7 x8 x9 x10) (tg := .nm 9) (body := [k1J]) (iv := 2) hq rfl h.hP
    (fun _ ρ s => (∃ y9, ρ = tbE b q (some (.ref P)) x3 x4 (some (.ref T)) (some (encR r)) x7 x8 y9 x10) ∧ TI st b j P T q (rows q) s) ⟨⟨x9, rfl⟩, h⟩ (by
      rintro i ρ s o ho ⟨⟨y9, rfl⟩, h⟩
      obtain ⟨s', e, h'⟩ := k1_step (n := n) (x3 := x3) (x4 := x4) (x7 := x7) (x8 := x8) (x10 := x10) hq hr (List.mem_of_getElem? ho) h
      have f0 : asgD (.nm 9) (encR o) s (tbE b q (some (.ref P)) x3 x4 (some (.ref T)) (some (encR r)) x7 x8 y9 x10) = some (tbE b q (some (.ref P)) x3 x4 (some (.ref T)) (some (encR r)) x7 x8 (some (encR o)) x10) := rfl
      refine ⟨h.hP, tbE b q (some (.ref P)) x3 x4 (some (.ref T)) (some (encR r)) x7 x8 (some (encR o)) x10, s', ?_, ⟨_, rfl⟩, h'⟩
      rw [f0, Option.bind_some]
      exact exs_step e rfl) (fun i ρ s h => h.2.hP)
  exact ⟨y9, s', e, h'⟩
theorem k1_outer (hq : q ≤ 3) (h : TI st b j P T q (rows q) s) :
    ∃ ρ' s', ex (.for_ .one [(.var 2)] (.nm 6) [k1I]) gl (calls FS gl (n + 1)) (tbE b q (some (.ref P)) x3 x4 (some (.ref T)) none x7 x8 x9 x10) s = some (.nx, ρ', s') ∧ ρ'[5]? = some (some (.ref T)) ∧ TI st b j P T q (rows q) s' := by
  obtain ⟨ρ', s', e, ⟨y6, y9, rfl⟩, h'⟩ := for_rows (C := calls FS gl (n + 1)) (ρ := tbE b q (some (.ref P)) x3 x4 (some (.ref T)) none x7 x8 x9 x10) (tg := .nm 6) (body := [k1I]) (iv := 2) hq rfl h.hP
    (fun _ ρ s => (∃ y6 y9, ρ = tbE b q (some (.ref P)) x3 x4 (some (.ref T)) y6 x7 x8 y9 x10) ∧ TI st b j P T q (rows q) s) ⟨⟨none, x9, rfl⟩, h⟩ (by
      rintro i ρ s r hr ⟨⟨y6, y9, rfl⟩, h⟩
      obtain ⟨z9, s', e, h'⟩ := k1_inner (n := n) (x3 := x3) (x4 := x4) (x7 := x7) (x8 := x8) (x9 := y9) (x10 := x10) hq (List.mem_of_getElem? hr) h
      have f0 : asgD (.nm 6) (encR r) s (tbE b q (some (.ref P)) x3 x4 (some (.ref T)) y6 x7 x8 y9 x10) = some (tbE b q (some (.ref P)) x3 x4 (some (.ref T)) (some (encR r)) x7 x8 y9 x10) := rfl
      refine ⟨h.hP, tbE b q (some (.ref P)) x3 x4 (some (.ref T)) (some (encR r)) x7 x8 z9 x10, s', ?_, ⟨_, _, rfl⟩, h'⟩
      rw [f0, Option.bind_some]
      exact exs_step e rfl) (fun i ρ s h => h.2.hP)
  exact ⟨_, s', e, rfl, h'⟩
end
end K71
end
section
set_option Elab.async false
set_option linter.all false
set_option maxRecDepth 100000
set_option maxHeartbeats 1000000
namespace K71
open Dz PySem L2
def giX : E := .tup [(.str "program"), (.int 0), (.idx (.lst [(.tup [(.str "say"), (.var 10)]), (.tup [(.str "stop")])]) (.bi .int [(.cmp .is (.var 10) .non)]))]
def giE : E := .lc .one [(.var 6)] (.nm 10) [] giX [10]
section
variable {n b j q P T : Nat} {x2 x3 x4 x5 x7 x8 x9 x10 : Option D} {st s : Sto}
theorem gi_one (C : List CS) (x6 : Option D) (x : It) : ev giX gl C (tbE b q x2 x3 x4 x5 x6 x7 x8 x9 (some (enc x))) s = some (pgD (lfD x), s ++ [.lst [.tup [.str "say", enc x], .tup [.str "stop"]]]) := by
  have hz1 : 1 ≤ sizeLine := by rw [sizeLine_eq]; omega
  have hz2 : 2 ≤ sizeLine := by rw [sizeLine_eq]; omega
  have hz3 : 3 ≤ sizeLine := by rw [sizeLine_eq]; omega
  have hl : lstOf (s ++ [.lst [.tup [.str "say", enc x], .tup [.str "stop"]]]) s.length = some [.tup [.str "say", enc x], .tup [.str "stop"]] := lst_mid _ _ _
  have hi : L2.atI [D.tup [.str "say", enc x], .tup [.str "stop"]] (if isN (enc x) then 1 else 0) = some (lfD x) := by
    cases x with
    | none => exact L2.atI_nat (j := 1) rfl
    | some c => cases c <;> exact L2.atI_nat (j := 0) rfl
  have eI : ∀ (c : Bool) (s : Sto), bfD .int [.bl c] s = some (.int (if c then 1 else 0), s) := fun _ _ => rfl
  unfold giX
  simp only [ev_tup, evs_cons, evs_nil, ev_str, ev_int, ev_idx, ev_lst, ev_varS, ev_var0, ev_bi, ev_cmp, ev_non, cmp_isN, Option.bind_some, Option.map_some, List.length_cons, List.length_nil, Nat.zero_add, Nat.reduceAdd, if_pos hz1, if_pos hz2, if_pos hz3, new_eq, eI, idx_ref, hl, hi]
  rfl
theorem gi_all (C : List CS) (r : List It) (hr : r.length ≤ 1000) : ∃ J L, ev giE gl C (tbE b q x2 x3 x4 x5 (some (encR r)) x7 x8 x9 x10) s = some (.ref L, s ++ J) ∧ lstOf (s ++ J) L = some (r.map fun x => pgD (lfD x)) := by
  obtain ⟨acc, st', e, rfl, J, rfl⟩ := ev_comp (g := gl) (C := C) (ik := .one) (src := [(.var 6)]) (tg := .nm 10) (cnd := []) (elt := giX) (own := [10]) (N := r.length) (J := .tup (r.map enc)) (xs := [encR r]) (st0 := s) (st := s) (ρ := tbE b q x2 x3 x4 x5 (some (encR r)) x7 x8 x9 x10) rfl (by
      show some (IT.tup (r.map enc), (r.map enc).length) = _
      rw [List.length_map])
    (fun i acc s' => acc = (r.take i).map (fun x => pgD (lfD x)) ∧ ∃ J, s' = s ++ J) ⟨rfl, [], by simp⟩ (by
      rintro i acc s' hi ⟨rfl, J, rfl⟩
      have hg : r[i]? = some r[i] := List.getElem?_eq_getElem hi
      generalize r[i] = x at hg
      refine ⟨enc x, some (pgD (lfD x)), s ++ J ++ [.lst [.tup [.str "say", enc x], .tup [.str "stop"]]], ?_, ?_, ?_, ?_, J ++ [.lst [.tup [.str "say", enc x], .tup [.str "stop"]]], by rw [List.append_assoc]⟩
      · show (r.map enc)[i]? = _
        rw [List.getElem?_map, hg]; rfl
      · have k0 : asgD (.nm 10) (enc x) (s ++ J) (wipeD (tbE b q x2 x3 x4 x5 (some (encR r)) x7 x8 x9 x10) [10]) = some (tbE b q x2 x3 x4 x5 (some (encR r)) x7 x8 x9 (some (enc x))) := rfl
        simp only [k0, Option.bind_some, evTA_nil, if_true, gi_one, Option.map_some]
      · intro _
        rw [sizeLine_eq, List.length_map, List.length_take]; omega
      · rw [take_one' hg, List.map_append]; rfl) (by
      rintro acc s' _
      show decide (_ ≤ _) = true
      simp)
  rw [List.take_length] at e
  exact ⟨J ++ [.lst (r.map fun x => pgD (lfD x))], (s ++ J).length, by rw [← List.append_assoc]; exact e, by rw [← List.append_assoc]; exact lst_mid _ _ _⟩
def k2B : List S := [.asg (.nm 8) giE, .dset (.var 5) (.var 6) (.call 14 [(.var 4), (.var 8)])]
theorem k2_step {t : BT} {i : Nat} {r : List It} (hq : q ≤ 3) (hn : htB t ≤ n) (ho : okB q t) (hr : (rows q)[i]? = some r) (h : TI st b j P T q ((rows q).take i) s) :
    ∃ y8 s', exs k2B gl (calls FS gl (n + 1 + 1)) (tbE b q (some (.ref P)) x3 (some (ptD q (bd t))) (some (.ref T)) (some (encR r)) x7 x8 x9 x10) s = some (.nx, tbE b q (some (.ref P)) x3 (some (ptD q (bd t))) (some (.ref T)) (some (encR r)) x7 y8 x9 x10, s') ∧ TI st b j P T q ((rows q).take (i + 1)) s' := by
  have h27 := rows27 hq
  have hrl := (mem_rows q r).mp (List.mem_of_getElem? hr)
  have hnot : r ∉ (rows q).take i := fun hm => by
    obtain ⟨hi, e0⟩ := List.getElem?_eq_some_iff.mp hr
    obtain ⟨k, hk, e⟩ := List.mem_take_iff_getElem.mp hm
    have := (List.getElem_inj (h₀ := by omega) (h₁ := hi) (rows_nodup hq)).mp (e.trans e0.symm)
    omega
  obtain ⟨J, L, e1, hL⟩ := gi_all (s := s) (b := b) (q := q) (x2 := some (.ref P)) (x3 := x3) (x4 := some (ptD q (bd t))) (x5 := some (.ref T)) (x7 := x7) (x8 := x8) (x9 := x9) (x10 := x10) (calls FS gl (n + 1 + 1)) r (by omega)
  have a1 : ex (.asg (.nm 8) giE) gl (calls FS gl (n + 1 + 1)) (tbE b q (some (.ref P)) x3 (some (ptD q (bd t))) (some (.ref T)) (some (encR r)) x7 x8 x9 x10) s = some (.nx, tbE b q (some (.ref P)) x3 (some (ptD q (bd t))) (some (.ref T)) (some (encR r)) x7 (some (.ref L)) x9 x10, s ++ J) := by
    rw [ex_asg, e1]; rfl
  obtain ⟨J2, e2⟩ := run_plain n q L r t (s ++ J) hL (by omega) hn (by rw [hrl]; exact ho)
  have h2 := (h.app J).app J2
  obtain ⟨f, hf⟩ := h2.hT
  have e3 : ev (.call 14 [(.var 4), (.var 8)]) gl (calls FS gl (n + 1 + 1)) (tbE b q (some (.ref P)) x3 (some (ptD q (bd t))) (some (.ref T)) (some (encR r)) x7 (some (.ref L)) x9 x10) (s ++ J) = some (enc (evB r t), s ++ J ++ J2) := by
    have hh : evs [(.var 4), (.var 8)] gl (calls FS gl (n + 1 + 1)) (tbE b q (some (.ref P)) x3 (some (ptD q (bd t))) (some (.ref T)) (some (encR r)) x7 (some (.ref L)) x9 x10) (s ++ J) = some ([ptD q (bd t), .ref L], s ++ J) := by
      simp only [evs_cons, evs_nil, ev_varS, ev_var0, Option.bind_some, Option.map_some]
    rw [ev_call, hh, Option.bind_some, e2]
  have hd := dset_new (evB r t) hf hnot (by rw [List.length_take]; omega)
  rw [← take_one' hr] at hd
  have a2 : ex (.dset (.var 5) (.var 6) (.call 14 [(.var 4), (.var 8)])) gl (calls FS gl (n + 1 + 1)) (tbE b q (some (.ref P)) x3 (some (ptD q (bd t))) (some (.ref T)) (some (encR r)) x7 (some (.ref L)) x9 x10) (s ++ J) = some (.nx, tbE b q (some (.ref P)) x3 (some (ptD q (bd t))) (some (.ref T)) (some (encR r)) x7 (some (.ref L)) x9 x10, (s ++ J ++ J2).set T (.dic false (tb (set1 f r (evB r t)) ((rows q).take (i + 1))))) := by
    rw [ex_dset, e3, Option.bind_some]
    simp only [ev_varS, ev_var0, Option.bind_some, hd, Option.map_some]
  refine ⟨some (.ref L), (s ++ J ++ J2).set T (.dic false (tb (set1 f r (evB r t)) ((rows q).take (i + 1)))), ?_, h2.put _⟩
  unfold k2B
  rw [exs_step a1 rfl, exs_step a2 rfl]
  rfl
theorem k2_loop {t : BT} (hq : q ≤ 3) (hn : htB t ≤ n) (ho : okB q t) (h : TI st b j P T q [] s) :
    ∃ y6 y8 s', ex (.for_ .one [(.var 2)] (.nm 6) k2B) gl (calls FS gl (n + 1 + 1)) (tbE b q (some (.ref P)) x3 (some (ptD q (bd t))) (some (.ref T)) none x7 x8 x9 x10) s = some (.nx, tbE b q (some (.ref P)) x3 (some (ptD q (bd t))) (some (.ref T)) y6 x7 y8 x9 x10, s') ∧ TI st b j P T q (rows q) s' := by
  obtain ⟨ρ', s', e, ⟨y6, y8, rfl⟩, h'⟩ := for_rows (C := calls FS gl (n + 1 + 1)) (ρ := tbE b q (some (.ref P)) x3 (some (ptD q (bd t))) (some (.ref T)) none x7 x8 x9 x10) (tg := .nm 6) (body := k2B) (iv := 2) hq rfl h.hP
    (fun i ρ s => (∃ y6 y8, ρ = tbE b q (some (.ref P)) x3 (some (ptD q (bd t))) (some (.ref T)) y6 x7 y8 x9 x10) ∧ TI st b j P T q ((rows q).take i) s) ⟨⟨none, x8, rfl⟩, h⟩ (by
      rintro i ρ s r hr ⟨⟨y6, y8, rfl⟩, h⟩
      obtain ⟨z8, s', e, h'⟩ := k2_step (n := n) (x3 := x3) (x7 := x7) (x8 := y8) (x9 := x9) (x10 := x10) hq hn ho hr h
      have f0 : asgD (.nm 6) (encR r) s (tbE b q (some (.ref P)) x3 (some (ptD q (bd t))) (some (.ref T)) y6 x7 y8 x9 x10) = some (tbE b q (some (.ref P)) x3 (some (ptD q (bd t))) (some (.ref T)) (some (encR r)) x7 y8 x9 x10) := rfl
      refine ⟨h.hP, tbE b q (some (.ref P)) x3 (some (ptD q (bd t))) (some (.ref T)) (some (encR r)) x7 z8 x9 x10, s', ?_, ⟨_, _, rfl⟩, h'⟩
      rw [f0, Option.bind_some]
      exact e) (fun i ρ s h => h.2.hP)
  rw [List.take_length] at h'
  exact ⟨y6, y8, s', e, h'⟩
def k3D : S := .dset (.var 5) (.idx (.var 2) (.bin .mod (.bi .int [(.call 8 [(.var 0), (.int 1000)])]) (.bi .len [(.var 2)]))) (.idx (.lst [.non, (.int 0), (.int 1)]) (.call 8 [(.var 0), (.int 3)]))
theorem L3 : ∀ (C : List CS) (ρ : Dz.Env) (s : Sto), evs [.non, (.int 0), (.int 1)] gl C ρ s = some ([none, some false, some true].map enc, s) := fun _ _ _ => rfl
theorem L4 : ∀ (C : List CS) (ρ : Dz.Env) (s : Sto), evs [.non, .non, (.int 0), (.int 1)] gl C ρ s = some ([none, none, some false, some true].map enc, s) := fun _ _ _ => rfl
theorem k3_step {x6 : Option D} (hq : q ≤ 3) (h : TI st b j P T q (rows q) s) :
    ∃ s', ex k3D gl (calls FS gl (n + 1)) (tbE b q (some (.ref P)) x3 x4 (some (.ref T)) x6 x7 x8 x9 x10) s = some (.nx, tbE b q (some (.ref P)) x3 x4 (some (.ref T)) x6 x7 x8 x9 x10, s') ∧ TI st b j P T q (rows q) s' := by
  have h27 := rows27 hq
  obtain ⟨x, s1, e1, hB1, hK1⟩ := ev_item (m := 3) (n := n) (ρ := tbE b q (some (.ref P)) x3 x4 (some (.ref T)) x6 x7 x8 x9 x10) [.non, (.int 0), (.int 1)] [none, some false, some true] 3 L3 rfl (by omega) (by omega) rfl rfl h.hB
  have h1 := h.draw hB1 hK1
  obtain ⟨r, s2, hr, e2, hB2, hK2, _⟩ := run_drawQ n h1.hB 1000 (by omega)
  have h2 := h1.draw hB2 hK2
  have e2' : callD FS gl n 8 [.ref b, .int 1000] s1 = some (.int (r : Nat), s2) := e2
  have hlen : (rowsD q).length = 3 ^ q := rowsD_len q
  have hpos : 0 < (rowsD q).length := by rw [hlen]; exact Nat.pow_pos (by omega)
  have hpi : (((rowsD q).length : Nat) : Int) ≠ 0 := by omega
  have hm : ((r : Nat) : Int).fmod ((rowsD q).length : Nat) = ((r % (rowsD q).length : Nat) : Int) := by
    rw [Int.fmod_eq_emod_of_nonneg _ (by omega)]; omega
  have hk : r % (rowsD q).length < (rowsD q).length := Nat.mod_lt _ hpos
  generalize r % (rowsD q).length = k at hm hk
  have hk2 : k < (rows q).length := by rw [rowsD, List.length_map] at hk; exact hk
  have hi : L2.atI (rowsD q) (k : Nat) = some (encR (rows q)[k]) := L2.atI_nat (by rw [rowsD, List.getElem?_map, List.getElem?_eq_getElem hk2]; rfl)
  have hro : (rows q)[k] ∈ rows q := List.getElem_mem hk2
  generalize (rows q)[k] = o at hi hro
  have e3 : ev (.idx (.var 2) (.bin .mod (.bi .int [(.call 8 [(.var 0), (.int 1000)])]) (.bi .len [(.var 2)]))) gl (calls FS gl (n + 1)) (tbE b q (some (.ref P)) x3 x4 (some (.ref T)) x6 x7 x8 x9 x10) s1 = some (encR o, s2) := by
    simp only [ev_idx, ev_bin, ev_bi, evs_cons, evs_nil, ev_call, ev_varS, ev_var0, ev_int, Option.bind_some, Option.map_some, e2', int_int, len_ref, h2.hP, bin_modI hpi, hm, idx_ref, hi]
  obtain ⟨f, hf⟩ := h2.hT
  refine ⟨s2.set T (.dic false (tb (set1 f o x) (rows q))), ?_, h2.put _⟩
  unfold k3D
  rw [ex_dset, e1, Option.bind_some, ev_varS, ev_varS, ev_varS, ev_varS, ev_varS, ev_var0, Option.bind_some, e3, Option.bind_some, dset_tb x hf hro (by omega), Option.map_some]
def k3S : S := .for_ .rng1 [(.bin .mul (.call 8 [(.var 0), (.int 3)]) (.bi .int [(.cmp .eq (.var 3) (.int 2))]))] (.nm 7) [k3D]
theorem k3_loop {x6 : Option D} {kd : Nat} (hq : q ≤ 3) (h : TI st b j P T q (rows q) s) :
    ∃ ρ' s', ex k3S gl (calls FS gl (n + 1)) (tbE b q (some (.ref P)) (some (.int (kd : Nat))) x4 (some (.ref T)) x6 x7 x8 x9 x10) s = some (.nx, ρ', s') ∧ ρ'[5]? = some (some (.ref T)) ∧ TI st b j P T q (rows q) s' := by
  obtain ⟨r, s1, hr, e1, hB1, hK1, _⟩ := run_drawQ n h.hB 3 (by omega)
  have h1 := h.draw hB1 hK1
  have e1' : callD FS gl n 8 [.ref b, .int 3] s = some (.int (r : Nat), s1) := e1
  have eI : ∀ (c : Bool) (s : Sto), bfD .int [.bl c] s = some (.int (if c then 1 else 0), s) := fun _ _ => rfl
  have e2 : ∃ N : Nat, N ≤ 3 ∧ ev (.bin .mul (.call 8 [(.var 0), (.int 3)]) (.bi .int [(.cmp .eq (.var 3) (.int 2))])) gl (calls FS gl (n + 1)) (tbE b q (some (.ref P)) (some (.int (kd : Nat))) x4 (some (.ref T)) x6 x7 x8 x9 x10) s = some (.int (N : Nat), s1) := by
    have ea : ev (.bi .int [(.cmp .eq (.var 3) (.int 2))]) gl (calls FS gl (n + 1)) (tbE b q (some (.ref P)) (some (.int (kd : Nat))) x4 (some (.ref T)) x6 x7 x8 x9 x10) s1 = some (.int (if decide (((kd : Nat) : Int) = 2) then 1 else 0), s1) := by
      simp only [ev_bi, evs_cons, evs_nil, ev_cmp, ev_varS, ev_var0, ev_int, Option.bind_some, Option.map_some, cmp_eq, eq_ij, eI]
    have eb : ev (.call 8 [(.var 0), (.int 3)]) gl (calls FS gl (n + 1)) (tbE b q (some (.ref P)) (some (.int (kd : Nat))) x4 (some (.ref T)) x6 x7 x8 x9 x10) s = some (.int (r : Nat), s1) := by
      simp only [ev_call, evs_cons, evs_nil, ev_var0, ev_int, Option.bind_some, Option.map_some, e1']
    by_cases hd : ((kd : Nat) : Int) = 2
    · refine ⟨r, by omega, ?_⟩
      rw [decide_eq_true hd] at ea
      rw [ev_bin, eb, Option.bind_some, ea, Option.bind_some, bin_mulR (by decide)]
      simp
    · refine ⟨0, by omega, ?_⟩
      rw [decide_eq_false hd] at ea
      rw [ev_bin, eb, Option.bind_some, ea, Option.bind_some, bin_mulR (by decide)]
      simp
  obtain ⟨N, hN, e2⟩ := e2
  obtain ⟨ρ', s', e, ⟨y7, rfl⟩, h'⟩ := ex_rng (g := gl) (C := calls FS gl (n + 1)) (N := N) (tg := .nm 7) (b := [k3D]) (ρ := tbE b q (some (.ref P)) (some (.int (kd : Nat))) x4 (some (.ref T)) x6 x7 x8 x9 x10) (st := s) (st0 := s1) e2 (by omega)
    (fun i ρ s => (∃ y7, ρ = tbE b q (some (.ref P)) (some (.int (kd : Nat))) x4 (some (.ref T)) x6 y7 x8 x9 x10) ∧ TI st b j P T q (rows q) s) ⟨⟨x7, rfl⟩, h1⟩ (by
      rintro i ρ s hi ⟨⟨y7, rfl⟩, h⟩
      obtain ⟨s', e, h'⟩ := k3_step (n := n) (x3 := some (.int (kd : Nat))) (x4 := x4) (x6 := x6) (x7 := some (.int (i : Nat))) (x8 := x8) (x9 := x9) (x10 := x10) hq h
      have f0 : asgD (.nm 7) (.int (i : Nat)) s (tbE b q (some (.ref P)) (some (.int (kd : Nat))) x4 (some (.ref T)) x6 y7 x8 x9 x10) = some (tbE b q (some (.ref P)) (some (.int (kd : Nat))) x4 (some (.ref T)) x6 (some (.int (i : Nat))) x8 x9 x10) := rfl
      refine ⟨.nx, tbE b q (some (.ref P)) (some (.int (kd : Nat))) x4 (some (.ref T)) x6 (some (.int (i : Nat))) x8 x9 x10, s', ?_, .inl rfl, ⟨_, rfl⟩, h'⟩
      rw [f0, Option.bind_some]
      exact exs_step e rfl)
  exact ⟨tbE b q (some (.ref P)) (some (.int (kd : Nat))) x4 (some (.ref T)) x6 y7 x8 x9 x10, s', e, rfl, h'⟩
end
end K71
end
section
set_option Elab.async false
set_option linter.all false
set_option maxRecDepth 100000
set_option maxHeartbeats 1000000
namespace K71
open Dz PySem L2
theorem mul_kind {q : Nat} (h : q ≤ 3) (st : Sto) : binD .mul (.tup [.tup []]) (.int (q : Nat)) st = some (kindD q, st) := by
  rw [mul_one]
  have : q = 0 ∨ q = 1 ∨ q = 2 ∨ q = 3 := by omega
  rcases this with rfl | rfl | rfl | rfl <;> rfl
def t0 : S := .ife (.cmp .eq (.var 3) (.int 0)) [.ret (.dof (tbC [.non, (.int 0), (.int 1)] 3))] []
def t1 : S := .ife (.cmp .eq (.var 3) (.int 1)) [.asg (.nm 5) (.dof (tbC [.non, .non, (.int 0), (.int 1)] 4)), .for_ .one [(.var 2)] (.nm 6) [k1I], .ret (.var 5)] []
theorem b17_eq : b17 = [.asg (.nm 2) (.call 15 [(.var 1)]), .asg (.nm 3) (.call 8 [(.var 0), (.int 4)]), t0, t1, .asg (.nm 4) (.call 12 [(.var 0), (.bin .mul (.tup [(.tup [])]) (.var 1)), (.int 5)]), .asg (.nm 5) .dnew,
 .for_ .one [(.var 2)] (.nm 6) k2B, k3S, .ret (.var 5)] := rfl
section
variable {n b j q P kd : Nat} {x4 x5 x6 x7 x8 x9 x10 : Option D} {s : Sto}
theorem kd_test (C : List CS) (i : Nat) : evT (.cmp .eq (.var 3) (.int (i : Nat))) gl C (tbE b q (some (.ref P)) (some (.int (kd : Nat))) x4 x5 x6 x7 x8 x9 x10) s = some (decide (kd = i), s) := by
  simp only [evT_cmp, ev_varS, ev_var0, ev_int, Option.bind_some, cmp_eq, eq_ij, Option.map_some]
  congr 2
  exact decide_eq_decide.mpr (by omega)
theorem t0_run (hq : q ≤ 3) (hB : Box b j s) (hP : lstOf s P = some (rowsD q)) (hPb : P ≠ b) :
    (kd = 0 → ∃ f T s' ρ', ex t0 gl (calls FS gl (n + 1)) (tbE b q (some (.ref P)) (some (.int (kd : Nat))) x4 x5 x6 x7 x8 x9 x10) s = some (.rt (.ref T), ρ', s') ∧ s'[T]? = some (.dic false (tb f (rows q))) ∧ Box b j s' ∧ Kq [b] s s') ∧
    (kd ≠ 0 → ex t0 gl (calls FS gl (n + 1)) (tbE b q (some (.ref P)) (some (.int (kd : Nat))) x4 x5 x6 x7 x8 x9 x10) s = some (.nx, tbE b q (some (.ref P)) (some (.int (kd : Nat))) x4 x5 x6 x7 x8 x9 x10, s)) := by
  have t := kd_test (b := b) (q := q) (P := P) (kd := kd) (x4 := x4) (x5 := x5) (x6 := x6) (x7 := x7) (x8 := x8) (x9 := x9) (x10 := x10) (s := s) (calls FS gl (n + 1)) 0
  refine ⟨fun h => ?_, fun h => ?_⟩
  · rw [decide_eq_true h] at t
    obtain ⟨f, T, s', e, h1, _, h2, h3⟩ := tab_dof (n := n) (x3 := some (.int (kd : Nat))) (x4 := x4) (x5 := x5) (x6 := x6) (x7 := x7) (x8 := x8) (x9 := x9) (x10 := x10) [.non, (.int 0), (.int 1)] [none, some false, some true] 3 (m := 3) L3 rfl (by omega) (by omega) rfl hq hB hP hPb
    refine ⟨f, T, s', tbE b q (some (.ref P)) (some (.int (kd : Nat))) x4 x5 x6 x7 x8 x9 x10, ?_, h1, h2, h3⟩
    unfold t0
    rw [ex_ife]
    refine (congrArg (fun z => Option.bind z _) t).trans ?_
    show exs _ gl (calls FS gl (n + 1)) _ _ = _
    refine exs_ret ?_
    rw [ex_ret, e]; rfl
  · rw [decide_eq_false h] at t
    unfold t0
    rw [ex_ife]
    refine (congrArg (fun z => Option.bind z _) t).trans ?_
    rfl
theorem t1_run (hq : q ≤ 3) (hB : Box b j s) (hP : lstOf s P = some (rowsD q)) (hPb : P ≠ b) :
    (kd = 1 → ∃ f T s' ρ', ex t1 gl (calls FS gl (n + 1)) (tbE b q (some (.ref P)) (some (.int (kd : Nat))) x4 x5 none x7 x8 x9 x10) s = some (.rt (.ref T), ρ', s') ∧ s'[T]? = some (.dic false (tb f (rows q))) ∧ Box b j s' ∧ Kq [b] s s') ∧
    (kd ≠ 1 → ex t1 gl (calls FS gl (n + 1)) (tbE b q (some (.ref P)) (some (.int (kd : Nat))) x4 x5 none x7 x8 x9 x10) s = some (.nx, tbE b q (some (.ref P)) (some (.int (kd : Nat))) x4 x5 none x7 x8 x9 x10, s)) := by
  have t := kd_test (b := b) (q := q) (P := P) (kd := kd) (x4 := x4) (x5 := x5) (x6 := none) (x7 := x7) (x8 := x8) (x9 := x9) (x10 := x10) (s := s) (calls FS gl (n + 1)) 1
  refine ⟨fun h => ?_, fun h => ?_⟩
  · rw [decide_eq_true h] at t
    obtain ⟨f, T, s1, e, h1, hl, h2, h3⟩ := tab_dof (n := n) (x3 := some (.int (kd : Nat))) (x4 := x4) (x5 := x5) (x6 := none) (x7 := x7) (x8 := x8) (x9 := x9) (x10 := x10) [.non, .non, (.int 0), (.int 1)] [none, none, some false, some true] 4 (m := 4) L4 rfl (by omega) (by omega) rfl hq hB hP hPb
    have a1 : ex (.asg (.nm 5) (.dof (tbC [.non, .non, (.int 0), (.int 1)] 4))) gl (calls FS gl (n + 1)) (tbE b q (some (.ref P)) (some (.int (kd : Nat))) x4 x5 none x7 x8 x9 x10) s = some (.nx, tbE b q (some (.ref P)) (some (.int (kd : Nat))) x4 (some (.ref T)) none x7 x8 x9 x10, s1) := by
      rw [ex_asg, e]; rfl
    have hTI : TI s b j P T q (rows q) s1 := ⟨h2, h3, h3.lst hP (by simp [hPb]), ⟨f, h1⟩, hl, hPb⟩
    obtain ⟨ρ', s', e2, hρ, hTI2⟩ := k1_outer (n := n) (x3 := some (.int (kd : Nat))) (x4 := x4) (x7 := x7) (x8 := x8) (x9 := x9) (x10 := x10) hq hTI
    obtain ⟨f2, hf2⟩ := hTI2.hT
    refine ⟨f2, T, s', ρ', ?_, hf2, hTI2.hB, hTI2.hK⟩
    unfold t1
    rw [ex_ife]
    refine (congrArg (fun z => Option.bind z _) t).trans ?_
    show exs _ gl (calls FS gl (n + 1)) _ _ = _
    rw [exs_step a1 rfl, exs_step e2 rfl]
    refine exs_ret ?_
    rw [ex_ret, ev_var, hρ]; rfl
  · rw [decide_eq_false h] at t
    unfold t1
    rw [ex_ife]
    refine (congrArg (fun z => Option.bind z _) t).trans ?_
    rfl
end
theorem run_table (n b j q : Nat) (st : Sto) (hq : q ≤ 3) (hB : Box b j st) :
    ∃ f T st', callD FS gl (n + 5 + 1 + 1 + 1) 17 [.ref b, .int (q : Nat)] st = some (.ref T, st') ∧ st'[T]? = some (.dic false (tb f (rows q))) ∧ Box b j st' ∧ Kq [b] st st' := by
  obtain ⟨J, P, e1, hP, hPl⟩ := run_law_inputs (n + 5 + 1 + 1) q st hq
  have hlt := hB.lt
  have a1 : ex (.asg (.nm 2) (.call 15 [(.var 1)])) gl (calls FS gl (n + 5 + 1 + 1 + 1)) (tbE b q none none none none none none none none none) st = some (.nx, tbE b q (some (.ref P)) none none none none none none none none, st ++ J) := by
    have h : evs [(.var 1)] gl (calls FS gl (n + 5 + 1 + 1 + 1)) (tbE b q none none none none none none none none none) st = some ([.int (q : Nat)], st) := rfl
    rw [ex_asg, ev_call, h, Option.bind_some, e1]; rfl
  have hPb : P ≠ b := by omega
  have hB1 : Box b j (st ++ J) := hB.kq (Kq.app [] _ _) (by simp) (by simp)
  have k1 : Kq [b] st (st ++ J) := Kq.app _ _ _
  generalize st ++ J = s1 at a1 hP hB1 k1
  obtain ⟨kd, s2, hkd, e2, hB2, k2, _⟩ := run_drawQ (n + 5 + 1 + 1) hB1 4 (by omega)
  have e2' : callD FS gl (n + 5 + 1 + 1) 8 [.ref b, .int 4] s1 = some (.int (kd : Nat), s2) := e2
  have a2 : ex (.asg (.nm 3) (.call 8 [(.var 0), (.int 4)])) gl (calls FS gl (n + 5 + 1 + 1 + 1)) (tbE b q (some (.ref P)) none none none none none none none none) s1 = some (.nx, tbE b q (some (.ref P)) (some (.int (kd : Nat))) none none none none none none none, s2) := by
    have h : evs [(.var 0), (.int 4)] gl (calls FS gl (n + 5 + 1 + 1 + 1)) (tbE b q (some (.ref P)) none none none none none none none none) s1 = some ([.ref b, .int 4], s1) := rfl
    rw [ex_asg, ev_call, h, Option.bind_some, e2']; rfl
  have hP2 := k2.lst hP (by simp [hPb])
  have k12 := k1.trans k2
  have start : ∀ (x : D) ρ' s', exs [t0, t1, .asg (.nm 4) (.call 12 [(.var 0), (.bin .mul (.tup [(.tup [])]) (.var 1)), (.int 5)]), .asg (.nm 5) .dnew, .for_ .one [(.var 2)] (.nm 6) k2B, k3S, .ret (.var 5)] gl (calls FS gl (n + 5 + 1 + 1 + 1)) (tbE b q (some (.ref P)) (some (.int (kd : Nat))) none none none none none none none) s2 = some (.rt x, ρ', s') → callD FS gl (n + 5 + 1 + 1 + 1) 17 [.ref b, .int (q : Nat)] st = some (x, s') := by
    intro x ρ' s' h
    refine cl_ret (d := d17.df) (ρ' := ρ') rfl rfl ?_
    show exs b17 gl (calls FS gl (n + 5 + 1 + 1 + 1)) (tbE b q none none none none none none none none none) st = _
    rw [b17_eq, exs_step a1 rfl, exs_step a2 rfl]
    exact h
  obtain ⟨z0, z1⟩ := t0_run (n := n + 5 + 1 + 1) (kd := kd) (x4 := none) (x5 := none) (x6 := none) (x7 := none) (x8 := none) (x9 := none) (x10 := none) hq hB2 hP2 hPb
  by_cases h0 : kd = 0
  · obtain ⟨f, T, s', ρ', e, hf, hB3, k3⟩ := z0 h0
    exact ⟨f, T, s', start _ ρ' s' (exs_ret e), hf, hB3, k12.trans k3⟩
  · have e3 := z1 h0
    obtain ⟨y0, y1⟩ := t1_run (n := n + 5 + 1 + 1) (kd := kd) (x4 := none) (x5 := none) (x7 := none) (x8 := none) (x9 := none) (x10 := none) hq hB2 hP2 hPb
    by_cases h1 : kd = 1
    · obtain ⟨f, T, s', ρ', e, hf, hB3, k3⟩ := y0 h1
      exact ⟨f, T, s', start _ ρ' s' (by rw [exs_step e3 rfl]; exact exs_ret e), hf, hB3, k12.trans k3⟩
    · have e4 := y1 h1
      obtain ⟨t, s3, e5, ho, hh, hB3, k3⟩ := run_program n b j q s2 (by omega) hB2
      have a5 : ex (.asg (.nm 4) (.call 12 [(.var 0), (.bin .mul (.tup [(.tup [])]) (.var 1)), (.int 5)])) gl (calls FS gl (n + 5 + 1 + 1 + 1)) (tbE b q (some (.ref P)) (some (.int (kd : Nat))) none none none none none none none) s2 = some (.nx, tbE b q (some (.ref P)) (some (.int (kd : Nat))) (some (ptD q (bd t))) none none none none none none, s3) := by
        have hz0 : 0 ≤ sizeLine := Nat.zero_le _
        have hz1 : 1 ≤ sizeLine := by rw [sizeLine_eq]; omega
        have h : evs [(.var 0), (.bin .mul (.tup [(.tup [])]) (.var 1)), (.int 5)] gl (calls FS gl (n + 5 + 1 + 1 + 1)) (tbE b q (some (.ref P)) (some (.int (kd : Nat))) none none none none none none none) s2 = some ([.ref b, kindD q, .int 5], s2) := by
          simp only [evs_cons, evs_nil, ev_varS, ev_var0, ev_bin, ev_tup, Option.bind_some, Option.map_some, List.length_cons, List.length_nil, Nat.zero_add, if_pos hz0, if_pos hz1, mul_kind hq, ev_int]
        rw [ex_asg, ev_call, h, Option.bind_some, e5]; rfl
      have a6 : ex (.asg (.nm 5) .dnew) gl (calls FS gl (n + 5 + 1 + 1 + 1)) (tbE b q (some (.ref P)) (some (.int (kd : Nat))) (some (ptD q (bd t))) none none none none none none) s3 = some (.nx, tbE b q (some (.ref P)) (some (.int (kd : Nat))) (some (ptD q (bd t))) (some (.ref s3.length)) none none none none none, s3 ++ [.dic false []]) := by
        rw [ex_asg, ev_dnew]; rfl
      have hP3 := k3.lst hP2 (by simp [hPb])
      have hTI : TI s3 b j P s3.length q [] (s3 ++ [.dic false []]) := ⟨hB3.kq (Kq.app [] _ _) (by simp) (by simp), Kq.app _ _ _, lst_old hP3, ⟨fun _ => none, by simp [tb]⟩, Nat.le_refl _, hPb⟩
      obtain ⟨y6, y8, s4, a7, hTI2⟩ := k2_loop (n := n + 5 + 1) (x3 := some (.int (kd : Nat))) (x7 := none) (x8 := none) (x9 := none) (x10 := none) hq (by omega) ho hTI
      obtain ⟨ρ', s5, a8, hρ, hTI3⟩ := k3_loop (n := n + 5 + 1 + 1) (kd := kd) (x4 := some (ptD q (bd t))) (x6 := y6) (x7 := none) (x8 := y8) (x9 := none) (x10 := none) hq hTI2
      obtain ⟨f, hf⟩ := hTI3.hT
      refine ⟨f, s3.length, s5, start _ ρ' s5 ?_, hf, hTI3.hB, (k12.trans k3).trans hTI3.hK⟩
      rw [exs_step e3 rfl, exs_step e4 rfl, exs_step a5 rfl, exs_step a6 rfl, exs_step a7 rfl, exs_step a8 rfl]
      refine exs_ret ?_
      rw [ex_ret, ev_var, hρ]; rfl
end K71
end
section
set_option Elab.async false
set_option linter.all false
set_option maxRecDepth 100000
set_option maxHeartbeats 1000000
namespace K71
open Dz PySem L2
/-! ### the due answer: its size; the law's loops -/
theorem encR_cov (r : List It) : sm (encR r) = true ∧ hgt (encR r) ≤ 1 ∧ sz (encR r) = 1 + r.length := by
  have h1 : ∀ x : It, sm (enc x) = true ∧ hgt (enc x) = 0 ∧ sz (enc x) = 1 := fun x => by cases x <;> exact ⟨rfl, rfl, rfl⟩
  induction r with
  | nil => exact ⟨rfl, by decide, rfl⟩
  | cons x r ih =>
    obtain ⟨a, b, c⟩ := h1 x
    obtain ⟨i1, i2, i3⟩ := ih
    have i1' : sms (r.map enc) = true := i1
    have i2' : hgts (r.map enc) ≤ 1 := i2
    have i3' : 1 + szs (r.map enc) = 1 + r.length := i3
    refine ⟨?_, ?_, ?_⟩
    · show (sm (enc x) && sms (r.map enc)) = true
      rw [a, i1']; rfl
    · show max (1 + hgt (enc x)) (hgts (r.map enc)) ≤ 1
      rw [b]; omega
    · show 1 + (sz (enc x) + szs (r.map enc)) = 1 + (r.length + 1)
      rw [c]; omega
theorem byP_cov (f : List It → It) (l : List (List It)) : ∀ (m : Nat) (r : List It), r.length ≤ 3 → sm (byP f l m r) = true ∧ hgt (byP f l m r) ≤ m + 2 ∧ sz (byP f l m r) + 5 ≤ 11 * 2 ^ m
  | 0, r, _ => ⟨rfl, Nat.zero_le _, by show 1 + 5 ≤ 11 * 2 ^ 0; decide⟩
  | m + 1, r, h => by
    have hp : 0 < 2 ^ m := Nat.pow_pos (by omega)
    have hp2 : 2 ^ (m + 1) = 2 * 2 ^ m := by rw [Nat.pow_succ]; omega
    cases hf : (f r).isNone with
    | false =>
      rw [byP_say hf]
      refine ⟨by cases f r <;> rfl, ?_, ?_⟩
      · have : hgt (.tup [.str "say", enc (f r)]) = 1 := by cases f r <;> rfl
        omega
      · have : sz (.tup [.str "say", enc (f r)]) = 3 := by cases f r <;> rfl
        omega
    | true =>
      cases has : (ans f l r).isEmpty with
      | true =>
        rw [byP_stop hf has]
        refine ⟨rfl, ?_, ?_⟩
        · show 1 ≤ m + 1 + 2; omega
        · show 2 + 5 ≤ _; omega
      | false =>
        cases hk : askK r (ans f l r) with
        | none =>
          rw [byP_stuck hf has hk]
          obtain ⟨a, b, c⟩ := encR_cov r
          refine ⟨?_, ?_, ?_⟩
          · show (sm (.str "stuck") && (sm (encR r) && true)) = true
            rw [a]; rfl
          · show max (1 + 0) (max (1 + hgt (encR r)) 0) ≤ m + 1 + 2
            omega
          · show 1 + (1 + (sz (encR r) + 0)) + 5 ≤ _
            omega
        | some k =>
          rw [byP_ask hf has hk]
          have h0 := byP_cov f l m (r.set k (some false)) (by simpa using h)
          have h1 := byP_cov f l m (r.set k (some true)) (by simpa using h)
          generalize byP f l m (r.set k (some false)) = p0 at h0
          generalize byP f l m (r.set k (some true)) = p1 at h1
          obtain ⟨a0, b0, c0⟩ := h0
          obtain ⟨a1, b1, c1⟩ := h1
          unfold askD
          split
          · rename_i v hv
            have := List.mem_of_find?_eq_some hv
            simp only [List.mem_cons, List.not_mem_nil, or_false] at this
            rcases this with rfl | rfl
            · exact ⟨a0, by omega, by omega⟩
            · exact ⟨a1, by omega, by omega⟩
          · refine ⟨?_, ?_, ?_⟩
            · show (sm (.str "ask") && (sm (.int 0) && (sm (.int (k : Nat)) && (sm (.tup []) && (sm p0 && (sm p1 && true)))))) = true
              rw [a0, a1]; rfl
            · show max (1 + 0) (max (1 + 0) (max (1 + 0) (max (1 + 0) (max (1 + hgt p0) (max (1 + hgt p1) 0))))) ≤ _
              omega
            · show 1 + (1 + (1 + (1 + (1 + (sz p0 + (sz p1 + 0)))))) + 5 ≤ _
              omega
theorem fall_mem {f : List It → It} {l : List (List It)} {p : List It × List It} (h : fallP f l = some p) : p.1 ∈ l ∧ p.2 ∈ l := by
  unfold fallP at h
  obtain ⟨r, hr, h⟩ := List.exists_of_findSome?_eq_some h
  obtain ⟨o, ho, h⟩ := List.exists_of_findSome?_eq_some h
  unfold hit at h
  split at h
  · cases h; exact ⟨hr, ho⟩
  · cases h
theorem decP_cov (f : List It → It) (q : Nat) (hq : q ≤ 3) : sm (decP f q) = true ∧ hgt (decP f q) ≤ 8 ∧ sz (decP f q) ≤ 1000 := by
  unfold decP
  split
  · rename_i p hp
    obtain ⟨h1, h2⟩ := fall_mem hp
    have l1 := (mem_rows q _).mp h1
    have l2 := (mem_rows q _).mp h2
    obtain ⟨a, b, c⟩ := encR_cov p.1
    obtain ⟨a', b', c'⟩ := encR_cov p.2
    refine ⟨?_, ?_, ?_⟩
    · show (sm (.str "falls") && (sm (encR p.1) && (sm (encR p.2) && true))) = true
      rw [a, a']; rfl
    · show max (1 + 0) (max (1 + hgt (encR p.1)) (max (1 + hgt (encR p.2)) 0)) ≤ 8
      omega
    · show 1 + (1 + (sz (encR p.1) + (sz (encR p.2) + 0))) ≤ 1000
      omega
  · obtain ⟨a, b, c⟩ := byP_cov f (rows q) (q + 1) (nones q) (by simp [nones]; omega)
    have hp : 11 * 2 ^ (q + 1) ≤ 176 := by
      have : q = 0 ∨ q = 1 ∨ q = 2 ∨ q = 3 := by omega
      rcases this with rfl | rfl | rfl | rfl <;> decide
    generalize byP f (rows q) (q + 1) (nones q) = d at a b c
    unfold wrapD
    split
    · exact ⟨a, by omega, by omega⟩
    · refine ⟨?_, ?_, ?_⟩
      · show (sm (.str "program") && ((sm (.str "program") && (sm (.int (q : Nat)) && (sm d && true))) && true)) = true
        rw [a]; rfl
      · show max (1 + 0) (max (1 + max (1 + 0) (max (1 + 0) (max (1 + hgt d) 0))) 0) ≤ 8
        omega
      · show 1 + (1 + ((1 + (1 + (1 + (sz d + 0)))) + 0)) ≤ 1000
        omega
def dueD : Option (List It × List It) → D
  | none => .non
  | some p => .tup [.str "falls", encR p.1, encR p.2]
abbrev lwE (ns : List Int) (b : Nat) (x2 x3 x4 x5 x6 x7 x8 x9 : Option D) : Dz.Env := [some (.fz (ns.map .int)), some (.ref b), x2, x3, x4, x5, x6, x7, x8, x9]
def lwT : T := .and [(.cmp .is (.var 5) .non), (.cmp .isn (.dget (.var 4) (.var 7)) .non), (.val (.call 16 [(.var 7), (.var 8)])), (.cmp .ne (.dget (.var 4) (.var 8)) (.dget (.var 4) (.var 7)))]
def lwJ : S := .ife lwT [.asg (.nm 5) (.tup [(.str "falls"), (.var 7), (.var 8)])] []
def lwI : S := .for_ .one [(.var 6)] (.nm 8) [lwJ]
def lwO : S := .for_ .one [(.var 6)] (.nm 7) [lwI]
section
variable {n b q P T : Nat} {ns : List Int} {x2 x3 x9 : Option D} {f : List It → It} {s : Sto}
theorem lw_step (hq : q ≤ 3) {r o : List It} (d : Option (List It × List It)) (hr : r ∈ rows q) (ho : o ∈ rows q) (hT : TbAt s T f (rows q)) :
    ∃ J, ex lwJ gl (calls FS gl (n + 1)) (lwE ns b x2 x3 (some (.ref T)) (some (dueD d)) (some (.ref P)) (some (encR r)) (some (encR o)) x9) s = some (.nx, lwE ns b x2 x3 (some (.ref T)) (some (dueD (d.or (hit f r o)))) (some (.ref P)) (some (encR r)) (some (encR o)) x9, s ++ J) := by
  have hz3 : 3 ≤ sizeLine := by rw [sizeLine_eq]; omega
  have t0 : ∀ z : D, evT (.cmp .is (.var 5) .non) gl (calls FS gl (n + 1)) (lwE ns b x2 x3 (some (.ref T)) (some z) (some (.ref P)) (some (encR r)) (some (encR o)) x9) s = some (isN z, s) := fun z => by
    simp only [evT_cmp, ev_varS, ev_var0, ev_non, Option.bind_some, cmp_isN, Option.map_some]
  cases d with
  | some p =>
    refine ⟨[], ?_⟩
    have t := t0 (dueD (some p))
    have t' : evT lwT gl (calls FS gl (n + 1)) (lwE ns b x2 x3 (some (.ref T)) (some (dueD (some p))) (some (.ref P)) (some (encR r)) (some (encR o)) x9) s = some (false, s) := by
      unfold lwT
      rw [evT_and, evTA_cons, t]; rfl
    unfold lwJ
    rw [ex_ife, t', List.append_nil]
    rfl
  | none =>
    have hrl := (mem_rows q r).mp hr
    have hol := (mem_rows q o).mp ho
    have t := t0 (dueD none)
    have tn : isN (dueD none) = true := rfl
    rw [tn] at t
    obtain ⟨J, em⟩ := run_law_more n r o s (by omega) (by omega)
    have hT2 : TbAt (s ++ J) T f (rows q) := hT.app
    have t1 : evT (.cmp .isn (.dget (.var 4) (.var 7)) .non) gl (calls FS gl (n + 1)) (lwE ns b x2 x3 (some (.ref T)) (some (dueD none)) (some (.ref P)) (some (encR r)) (some (encR o)) x9) s = some (!(f r).isNone, s) := by
      simp only [evT_cmp, ev_dget, ev_varS, ev_var0, ev_non, Option.bind_some, hT.get hr, Option.map_some, cmp_isnN, isN_enc]
    have t2 : evT (.val (.call 16 [(.var 7), (.var 8)])) gl (calls FS gl (n + 1)) (lwE ns b x2 x3 (some (.ref T)) (some (dueD none)) (some (.ref P)) (some (encR r)) (some (encR o)) x9) s = some (more r o, s ++ J) := by
      simp only [evT_val, ev_call, evs_cons, evs_nil, ev_varS, ev_var0, Option.bind_some, Option.map_some, em, truD_bl]
    have t3 : evT (.cmp .ne (.dget (.var 4) (.var 8)) (.dget (.var 4) (.var 7))) gl (calls FS gl (n + 1)) (lwE ns b x2 x3 (some (.ref T)) (some (dueD none)) (some (.ref P)) (some (encR r)) (some (encR o)) x9) (s ++ J) = some (!decide (f o = f r), s ++ J) := by
      have e : ∀ u v : D, cmpD .ne u v (s ++ J) = (eqD (s ++ J) u v).map (!·) := fun _ _ => rfl
      simp only [evT_cmp, ev_dget, ev_varS, ev_var0, Option.bind_some, hT2.get hr, hT2.get ho, Option.map_some, e, eq_enc]
    have tt : ∃ J, evT lwT gl (calls FS gl (n + 1)) (lwE ns b x2 x3 (some (.ref T)) (some (dueD none)) (some (.ref P)) (some (encR r)) (some (encR o)) x9) s = some (fls f r o, s ++ J) := by
      unfold lwT fls
      cases hf : (f r).isNone with
      | true =>
        rw [hf] at t1
        refine ⟨[], ?_⟩
        rw [evT_and, evTA_cons, t, Option.bind_some, if_pos rfl, evTA_cons, t1, List.append_nil]; rfl
      | false =>
        rw [hf] at t1
        cases hm : more r o with
        | false =>
          rw [hm] at t2
          refine ⟨J, ?_⟩
          simp only [evT_and, evTA_cons, evTA_nil, t, t1, t2, Option.bind_some, Bool.not_false, if_true]
          rfl
        | true =>
          rw [hm] at t2
          refine ⟨J, ?_⟩
          simp only [evT_and, evTA_cons, evTA_nil, t, t1, t2, t3, Option.bind_some, Bool.not_false, if_true]
          cases decide (f o = f r) <;> rfl
    obtain ⟨J, tt⟩ := tt
    refine ⟨J, ?_⟩
    unfold lwJ
    cases hb : fls f r o with
    | false =>
      rw [hb] at tt
      have hh : hit f r o = none := by unfold hit; rw [hb]; rfl
      rw [ex_ife, tt, hh]
      rfl
    | true =>
      rw [hb] at tt
      have hh : hit f r o = some (r, o) := by unfold hit; rw [hb]; rfl
      rw [ex_ife, tt, hh]
      show exs _ gl (calls FS gl (n + 1)) _ _ = _
      have a : ex (.asg (.nm 5) (.tup [(.str "falls"), (.var 7), (.var 8)])) gl (calls FS gl (n + 1)) (lwE ns b x2 x3 (some (.ref T)) (some (dueD none)) (some (.ref P)) (some (encR r)) (some (encR o)) x9) (s ++ J) = some (.nx, lwE ns b x2 x3 (some (.ref T)) (some (dueD (some (r, o)))) (some (.ref P)) (some (encR r)) (some (encR o)) x9, s ++ J) := by
        simp only [ex_asg, ev_tup, evs_cons, evs_nil, ev_str, ev_varS, ev_var0, Option.bind_some, Option.map_some, List.length_cons, List.length_nil, Nat.zero_add, Nat.reduceAdd, if_pos hz3]
        rfl
      exact exs_step a rfl
theorem find_step {α β : Type} {g : α → Option β} {l : List α} {i : Nat} {x : α} (h : l[i]? = some x) : (l.take (i + 1)).findSome? g = ((l.take i).findSome? g).or (g x) := by
  rw [take_one' h, List.findSome?_append]
  simp
theorem lw_inner (hq : q ≤ 3) {r : List It} (d : Option (List It × List It)) (x8 : Option D) (hr : r ∈ rows q) (hT : TbAt s T f (rows q)) (hP : lstOf s P = some (rowsD q)) :
    ∃ J y8, ex lwI gl (calls FS gl (n + 1)) (lwE ns b x2 x3 (some (.ref T)) (some (dueD d)) (some (.ref P)) (some (encR r)) x8 x9) s = some (.nx, lwE ns b x2 x3 (some (.ref T)) (some (dueD (d.or ((rows q).findSome? (hit f r))))) (some (.ref P)) (some (encR r)) y8 x9, s ++ J) := by
  obtain ⟨ρ', s', e, ⟨y8, rfl⟩, J, rfl⟩ := for_rows (C := calls FS gl (n + 1)) (ρ := lwE ns b x2 x3 (some (.ref T)) (some (dueD d)) (some (.ref P)) (some (encR r)) x8 x9) (tg := .nm 8) (body := [lwJ]) (iv := 6) hq rfl hP
    (fun i ρ s' => (∃ y8, ρ = lwE ns b x2 x3 (some (.ref T)) (some (dueD (d.or (((rows q).take i).findSome? (hit f r))))) (some (.ref P)) (some (encR r)) y8 x9) ∧ ∃ J, s' = s ++ J) ⟨⟨x8, by simp⟩, [], by simp⟩ (by
      rintro i ρ s' o ho ⟨⟨y8, rfl⟩, J, rfl⟩
      refine ⟨lst_old hP, ?_⟩
      obtain ⟨J2, e⟩ := lw_step (n := n) (b := b) (P := P) (ns := ns) (x2 := x2) (x3 := x3) (x9 := x9) (s := s ++ J) hq (d.or (((rows q).take i).findSome? (hit f r))) hr (List.mem_of_getElem? ho) hT.app
      rw [find_step ho]
      rw [Option.or_assoc] at e
      generalize d.or (((rows q).take i).findSome? (hit f r)) = d1 at e
      generalize (d.or ((List.findSome? (hit f r) (List.take i (rows q))).or (hit f r o))) = d2 at e
      refine ⟨lwE ns b x2 x3 (some (.ref T)) (some (dueD d2)) (some (.ref P)) (some (encR r)) (some (encR o)) x9, s ++ J ++ J2, ?_, ⟨_, rfl⟩, J ++ J2, by rw [List.append_assoc]⟩
      have f0 : asgD (.nm 8) (encR o) (s ++ J) (lwE ns b x2 x3 (some (.ref T)) (some (dueD d1)) (some (.ref P)) (some (encR r)) y8 x9) = some (lwE ns b x2 x3 (some (.ref T)) (some (dueD d1)) (some (.ref P)) (some (encR r)) (some (encR o)) x9) := rfl
      rw [f0, Option.bind_some]
      exact exs_step e rfl) (by
      rintro i ρ s' ⟨_, J, rfl⟩
      exact lst_old hP)
  rw [List.take_length] at e
  exact ⟨J, y8, e⟩
theorem lw_outer (hq : q ≤ 3) (x7 x8 : Option D) (hT : TbAt s T f (rows q)) (hP : lstOf s P = some (rowsD q)) :
    ∃ J y7 y8, ex lwO gl (calls FS gl (n + 1)) (lwE ns b x2 x3 (some (.ref T)) (some .non) (some (.ref P)) x7 x8 x9) s = some (.nx, lwE ns b x2 x3 (some (.ref T)) (some (dueD (fallP f (rows q)))) (some (.ref P)) y7 y8 x9, s ++ J) := by
  obtain ⟨ρ', s', e, ⟨y7, y8, rfl⟩, J, rfl⟩ := for_rows (C := calls FS gl (n + 1)) (ρ := lwE ns b x2 x3 (some (.ref T)) (some .non) (some (.ref P)) x7 x8 x9) (tg := .nm 7) (body := [lwI]) (iv := 6) hq rfl hP
    (fun i ρ s' => (∃ y7 y8, ρ = lwE ns b x2 x3 (some (.ref T)) (some (dueD (((rows q).take i).findSome? fun r => (rows q).findSome? (hit f r)))) (some (.ref P)) y7 y8 x9) ∧ ∃ J, s' = s ++ J) ⟨⟨x7, x8, by simp; rfl⟩, [], by simp⟩ (by
      rintro i ρ s' r hr ⟨⟨y7, y8, rfl⟩, J, rfl⟩
      refine ⟨lst_old hP, ?_⟩
      obtain ⟨J2, z8, e⟩ := lw_inner (n := n) (b := b) (P := P) (ns := ns) (x2 := x2) (x3 := x3) (x9 := x9) (s := s ++ J) hq (((rows q).take i).findSome? fun r => (rows q).findSome? (hit f r)) y8 (List.mem_of_getElem? hr) hT.app (lst_old hP)
      rw [find_step hr]
      generalize (((rows q).take i).findSome? fun r => (rows q).findSome? (hit f r)) = d1 at e
      generalize (d1.or ((rows q).findSome? (hit f r))) = d2 at e
      refine ⟨lwE ns b x2 x3 (some (.ref T)) (some (dueD d2)) (some (.ref P)) (some (encR r)) z8 x9, s ++ J ++ J2, ?_, ⟨_, _, rfl⟩, J ++ J2, by rw [List.append_assoc]⟩
      have f0 : asgD (.nm 7) (encR r) (s ++ J) (lwE ns b x2 x3 (some (.ref T)) (some (dueD d1)) (some (.ref P)) y7 y8 x9) = some (lwE ns b x2 x3 (some (.ref T)) (some (dueD d1)) (some (.ref P)) (some (encR r)) y8 x9) := rfl
      rw [f0, Option.bind_some]
      exact exs_step e rfl) (by
      rintro i ρ s' ⟨_, J, rfl⟩
      exact lst_old hP)
  rw [List.take_length] at e
  exact ⟨J, y7, y8, e⟩
end
end K71
end
section
set_option Elab.async false
set_option linter.all false
set_option maxRecDepth 100000
set_option maxHeartbeats 1000000
namespace K71
open Dz PySem L2
theorem head_ne {d : D} (h : wf d) (C : List CS) (ρ : Dz.Env) (i : Nat) (st : Sto) (hv : ρ[i]? = some (some d)) : evT (.cmp .ne (.idx (.var i) (.int 0)) (.str "stuck")) gl C ρ st = some (!isSt d, st) := by
  have t := wf_test h C ρ i st hv
  rw [evT_cmp] at t ⊢
  obtain ⟨x, rest, rfl, hx⟩ := h
  have e0 : L2.atI (D.str x :: rest) 0 = some (.str x) := L2.atI_nat (j := 0) rfl
  have e : ∀ u v : D, cmpD .ne u v st = (eqD st u v).map (!·) := fun _ _ => rfl
  simp only [ev_idx, ev_var, hv, Option.bind_some, ev_int, idx_tup, e0, Option.map_some, ev_str, e, eq_stuck hx]
  rfl
def lwL : E := .lc .one [(.var 6)] (.nm 7) [] (.dget (.var 4) (.var 7)) [7]
def lwB : S := .ife (.cmp .is (.var 5) .non)
    [.asg (.nm 9) (.call 18 [(.var 4), (.bin .mul (.tup [.non]) (.var 3))]),
     .asg (.nm 5) (.var 9),
     .ife (.cmp .ne (.idx (.var 9) (.int 0)) (.str "stuck"))
      [.asg (.nm 5) (.tup [(.str "program"), (.tup [(.str "program"), (.var 3), (.var 9)])])]
      []]
    []
def lwC : E := .call 10 [(.call 5 [(.var 3), (.bi .tuple [lwL])]), (.var 5)]
def lwX : List S := [.asg (.nm 3) (.call 8 [(.var 1), (.int 4)]), .asg (.nm 4) (.call 17 [(.var 1), (.var 3)]), .asg (.nm 5) .non, .asg (.nm 6) (.call 15 [(.var 3)]), lwO, lwB, .ife (.not (.val lwC)) [.ret (.bl false)] []]
theorem b19_eq : b19 = [.asg (.nm 1) (.call 9 [(.var 0), (.int 0), (.int 62)]), .for_ .rng1 [(.int 4)] (.nm 2) lwX, .ret (.bl true)] := rfl
section
variable {n b j q P T : Nat} {ns : List Int} {x2 x3 x5 x6 x7 x8 x9 : Option D} {f : List It → It} {s : Sto}
theorem lw_list (C : List CS) (hq : q ≤ 3) (hT : TbAt s T f (rows q)) (hP : lstOf s P = some (rowsD q)) :
    ev lwL gl C (lwE ns b x2 x3 (some (.ref T)) x5 (some (.ref P)) x7 x8 x9) s = some (.ref s.length, s ++ [.lst (tabD f (rows q))]) := by
  have h27 := rows27 hq
  obtain ⟨acc, s', e, rfl, rfl⟩ := ev_comp (g := gl) (C := C) (ik := .one) (src := [(.var 6)]) (tg := .nm 7) (cnd := []) (elt := .dget (.var 4) (.var 7)) (own := [7]) (N := (rows q).length) (J := .lst P) (xs := [.ref P]) (st0 := s) (st := s) (ρ := lwE ns b x2 x3 (some (.ref T)) x5 (some (.ref P)) x7 x8 x9) rfl (by
      show (lstOf s P).map _ = _
      rw [hP]; simp [rowsD])
    (fun i acc s' => acc = tabD f ((rows q).take i) ∧ s' = s) ⟨rfl, rfl⟩ (by
      rintro i acc s' hi ⟨rfl, rfl⟩
      have hg : (rows q)[i]? = some (rows q)[i] := List.getElem?_eq_getElem hi
      have hm : (rows q)[i] ∈ rows q := List.getElem_mem hi
      generalize (rows q)[i] = r at hg hm
      refine ⟨encR r, some (enc (f r)), s', ?_, ?_, ?_, ?_, rfl⟩
      · show (lstOf s' P).bind _ = _
        rw [hP]
        show (rowsD q)[i]? = _
        rw [rowsD, List.getElem?_map, hg]; rfl
      · have k0 : asgD (.nm 7) (encR r) s' (wipeD (lwE ns b x2 x3 (some (.ref T)) x5 (some (.ref P)) x7 x8 x9) [7]) = some (lwE ns b x2 x3 (some (.ref T)) x5 (some (.ref P)) (some (encR r)) x8 x9) := rfl
        simp only [k0, Option.bind_some, evTA_nil, if_true, ev_dget, ev_varS, ev_var0, hT.get hm, Option.map_some]
      · intro _
        rw [sizeLine_eq, tabD, List.length_map, List.length_take]; omega
      · unfold tabD
        rw [take_one' hg, List.map_append]; rfl) (by
      rintro acc s' ⟨_, rfl⟩
      show (match lstOf s' P with | some ds => decide (ds.length ≤ (rows q).length) | none => false) = true
      rw [hP]; simp [rowsD])
  rw [List.take_length] at e
  exact e
theorem lw_due (M : Nat) (hM : 3 ≤ M) (hq : q ≤ 3) (hT : s[T]? = some (.dic false (tb f (rows q)))) :
    ∃ J y9, ex lwB gl (calls FS gl (M + 1 + 1)) (lwE ns b x2 (some (.int (q : Nat))) (some (.ref T)) (some (dueD (fallP f (rows q)))) (some (.ref P)) x7 x8 x9) s = some (.nx, lwE ns b x2 (some (.int (q : Nat))) (some (.ref T)) (some (decP f q)) (some (.ref P)) x7 x8 y9, s ++ J) := by
  have hz1 : 1 ≤ sizeLine := by rw [sizeLine_eq]; omega
  have hz2 : 2 ≤ sizeLine := by rw [sizeLine_eq]; omega
  have hz3 : 3 ≤ sizeLine := by rw [sizeLine_eq]; omega
  cases hp : fallP f (rows q) with
  | some p =>
    have ed : decP f q = dueD (some p) := by unfold decP; rw [hp]; rfl
    refine ⟨[], x9, ?_⟩
    rw [ed, List.append_nil]
    rfl
  | none =>
    have ed : decP f q = wrapD q (byP f (rows q) (q + 1) (nones q)) := by unfold decP; rw [hp]
    have hcn : (nones q).countP (·.isNone) ≤ q := by rw [nones_count]; omega
    have hcM : (nones q).countP (·.isNone) ≤ M := by omega
    have hln : (nones q).length = q := by simp [nones]
    obtain ⟨J, ea⟩ := run_asking T q f hq M (nones q) s hln hcM hT
    rw [byP_fuel f (rows q) M q (nones q) hcM hcn] at ea
    have hw := wf_byP f (rows q) q (nones q) hcn
    rw [ed]
    generalize byP f (rows q) (q + 1) (nones q) = d at ea hw
    have a1 : ex (.asg (.nm 9) (.call 18 [(.var 4), (.bin .mul (.tup [.non]) (.var 3))])) gl (calls FS gl (M + 1 + 1)) (lwE ns b x2 (some (.int (q : Nat))) (some (.ref T)) (some (dueD none)) (some (.ref P)) x7 x8 x9) s = some (.nx, lwE ns b x2 (some (.int (q : Nat))) (some (.ref T)) (some (dueD none)) (some (.ref P)) x7 x8 (some d), s ++ J) := by
      have h : evs [(.var 4), (.bin .mul (.tup [.non]) (.var 3))] gl (calls FS gl (M + 1 + 1)) (lwE ns b x2 (some (.int (q : Nat))) (some (.ref T)) (some (dueD none)) (some (.ref P)) x7 x8 x9) s = some ([.ref T, encR (nones q)], s) := by
        simp only [evs_cons, evs_nil, ev_varS, ev_var0, ev_bin, ev_tup, ev_non, Option.bind_some, Option.map_some, List.length_cons, List.length_nil, Nat.zero_add, if_pos hz1, mul_nones hq]
      rw [ex_asg, ev_call, h, Option.bind_some, ea]; rfl
    have a2 : ex (.asg (.nm 5) (.var 9)) gl (calls FS gl (M + 1 + 1)) (lwE ns b x2 (some (.int (q : Nat))) (some (.ref T)) (some (dueD none)) (some (.ref P)) x7 x8 (some d)) (s ++ J) = some (.nx, lwE ns b x2 (some (.int (q : Nat))) (some (.ref T)) (some d) (some (.ref P)) x7 x8 (some d), s ++ J) := rfl
    have t := head_ne hw (calls FS gl (M + 1 + 1)) (lwE ns b x2 (some (.int (q : Nat))) (some (.ref T)) (some d) (some (.ref P)) x7 x8 (some d)) 9 (s ++ J) rfl
    have a3 : ex (.ife (.cmp .ne (.idx (.var 9) (.int 0)) (.str "stuck")) [.asg (.nm 5) (.tup [(.str "program"), (.tup [(.str "program"), (.var 3), (.var 9)])])] []) gl (calls FS gl (M + 1 + 1)) (lwE ns b x2 (some (.int (q : Nat))) (some (.ref T)) (some d) (some (.ref P)) x7 x8 (some d)) (s ++ J) = some (.nx, lwE ns b x2 (some (.int (q : Nat))) (some (.ref T)) (some (wrapD q d)) (some (.ref P)) x7 x8 (some d), s ++ J) := by
      unfold wrapD
      cases hs : isSt d with
      | true =>
        rw [hs] at t
        rw [ex_ife, t]; rfl
      | false =>
        rw [hs] at t
        rw [ex_ife, t]
        have a4 : ex (.asg (.nm 5) (.tup [(.str "program"), (.tup [(.str "program"), (.var 3), (.var 9)])])) gl (calls FS gl (M + 1 + 1)) (lwE ns b x2 (some (.int (q : Nat))) (some (.ref T)) (some d) (some (.ref P)) x7 x8 (some d)) (s ++ J) = some (.nx, lwE ns b x2 (some (.int (q : Nat))) (some (.ref T)) (some (.tup [.str "program", .tup [.str "program", .int (q : Nat), d]])) (some (.ref P)) x7 x8 (some d), s ++ J) := by
          simp only [ex_asg, ev_tup, evs_cons, evs_nil, ev_str, ev_varS, ev_var0, Option.bind_some, Option.map_some, List.length_cons, List.length_nil, Nat.zero_add, Nat.reduceAdd, if_pos hz2, if_pos hz3]
          rfl
        exact exs_step a4 rfl
    refine ⟨J, some d, ?_⟩
    have t0 : evT (.cmp .is (.var 5) .non) gl (calls FS gl (M + 1 + 1)) (lwE ns b x2 (some (.int (q : Nat))) (some (.ref T)) (some (dueD none)) (some (.ref P)) x7 x8 x9) s = some (true, s) := rfl
    unfold lwB
    rw [ex_ife, t0]
    show exs _ gl (calls FS gl (M + 1 + 1)) _ _ = _
    rw [exs_step a1 rfl, exs_step a2 rfl, exs_step a3 rfl]
    rfl
theorem lw_same (k : Nat) (hk : 8 ≤ k) (hq : q ≤ 3) (hT : TbAt s T f (rows q)) (hP : lstOf s P = some (rowsD q)) :
    ∃ J, ex (.ife (.not (.val lwC)) [.ret (.bl false)] []) gl (calls FS gl (k + 1 + 1 + 1 + 1)) (lwE ns b x2 (some (.int (q : Nat))) (some (.ref T)) (some (decP f q)) (some (.ref P)) x7 x8 x9) s = some (.nx, lwE ns b x2 (some (.int (q : Nat))) (some (.ref T)) (some (decP f q)) (some (.ref P)) x7 x8 x9, s ++ J) := by
  obtain ⟨h1, h2, h3⟩ := decP_cov f q hq
  obtain ⟨J, ed⟩ := run_decide k q f (s ++ [.lst (tabD f (rows q))]) hq (by omega)
  have es := run_same (k + 1 + 1 + 1) (decP f q) (s ++ [.lst (tabD f (rows q))] ++ J) h1 (by omega) (by omega)
  have el := lw_list (ns := ns) (b := b) (x2 := x2) (x3 := some (.int (q : Nat))) (x5 := some (decP f q)) (x7 := x7) (x8 := x8) (x9 := x9) (calls FS gl (k + 1 + 1 + 1 + 1)) hq hT hP
  have hl : lstOf (s ++ [.lst (tabD f (rows q))]) s.length = some (tabD f (rows q)) := lst_mid _ _ _
  generalize decP f q = d at ed es el
  have e1 : evs [(.var 3), (.bi .tuple [lwL])] gl (calls FS gl (k + 1 + 1 + 1 + 1)) (lwE ns b x2 (some (.int (q : Nat))) (some (.ref T)) (some d) (some (.ref P)) x7 x8 x9) s = some ([.int (q : Nat), .tup (tabD f (rows q))], s ++ [.lst (tabD f (rows q))]) := by
    have et : bfD .tuple [.ref s.length] (s ++ [.lst (tabD f (rows q))]) = some (.tup (tabD f (rows q)), s ++ [.lst (tabD f (rows q))]) := by
      show (lstOf _ _).map _ = _
      rw [hl]; rfl
    simp only [evs_cons, evs_nil, ev_varS, ev_var0, ev_bi, el, et, Option.bind_some, Option.map_some]
  have e2 : evs [(.call 5 [(.var 3), (.bi .tuple [lwL])]), (.var 5)] gl (calls FS gl (k + 1 + 1 + 1 + 1)) (lwE ns b x2 (some (.int (q : Nat))) (some (.ref T)) (some d) (some (.ref P)) x7 x8 x9) s = some ([d, d], s ++ [.lst (tabD f (rows q))] ++ J) := by
    rw [evs_cons, ev_call, e1, Option.bind_some, ed, Option.bind_some]
    rfl
  have e3 : evT (.not (.val lwC)) gl (calls FS gl (k + 1 + 1 + 1 + 1)) (lwE ns b x2 (some (.int (q : Nat))) (some (.ref T)) (some d) (some (.ref P)) x7 x8 x9) s = some (false, s ++ [.lst (tabD f (rows q))] ++ J) := by
    unfold lwC
    rw [evT_not, evT_val, ev_call, e2, Option.bind_some, es]
    rfl
  refine ⟨[.lst (tabD f (rows q))] ++ J, ?_⟩
  rw [ex_ife, e3, ← List.append_assoc]
  rfl
end
theorem lw_turn (n b j : Nat) (ns : List Int) (i : Nat) (y3 y4 y5 y6 y7 y8 y9 : Option D) (s : Sto) (hB : Box b j s) :
    ∃ z3 z4 z5 z6 z7 z8 z9 s', exs lwX gl (calls FS gl (n + 8 + 1 + 1 + 1 + 1)) (lwE ns b (some (.int (i : Nat))) y3 y4 y5 y6 y7 y8 y9) s = some (.nx, lwE ns b (some (.int (i : Nat))) z3 z4 z5 z6 z7 z8 z9, s') ∧ Box b j s' := by
  obtain ⟨q, s1, hq, e1, hB1, _, _⟩ := run_drawQ (n + 8 + 1 + 1 + 1) hB 4 (by omega)
  have hq3 : q ≤ 3 := by omega
  have e1' : callD FS gl (n + 8 + 1 + 1 + 1) 8 [.ref b, .int 4] s = some (.int (q : Nat), s1) := e1
  have a1 : ex (.asg (.nm 3) (.call 8 [(.var 1), (.int 4)])) gl (calls FS gl (n + 8 + 1 + 1 + 1 + 1)) (lwE ns b (some (.int (i : Nat))) y3 y4 y5 y6 y7 y8 y9) s = some (.nx, lwE ns b (some (.int (i : Nat))) (some (.int (q : Nat))) y4 y5 y6 y7 y8 y9, s1) := by
    have h : evs [(.var 1), (.int 4)] gl (calls FS gl (n + 8 + 1 + 1 + 1 + 1)) (lwE ns b (some (.int (i : Nat))) y3 y4 y5 y6 y7 y8 y9) s = some ([.ref b, .int 4], s) := rfl
    rw [ex_asg, ev_call, h, Option.bind_some, e1']; rfl
  obtain ⟨f, T, s2, e2, hT, hB2, _⟩ := run_table (n + 3) b j q s1 hq3 hB1
  have e2' : callD FS gl (n + 8 + 1 + 1 + 1) 17 [.ref b, .int (q : Nat)] s1 = some (.ref T, s2) := e2
  have a2 : ex (.asg (.nm 4) (.call 17 [(.var 1), (.var 3)])) gl (calls FS gl (n + 8 + 1 + 1 + 1 + 1)) (lwE ns b (some (.int (i : Nat))) (some (.int (q : Nat))) y4 y5 y6 y7 y8 y9) s1 = some (.nx, lwE ns b (some (.int (i : Nat))) (some (.int (q : Nat))) (some (.ref T)) y5 y6 y7 y8 y9, s2) := by
    have h : evs [(.var 1), (.var 3)] gl (calls FS gl (n + 8 + 1 + 1 + 1 + 1)) (lwE ns b (some (.int (i : Nat))) (some (.int (q : Nat))) y4 y5 y6 y7 y8 y9) s1 = some ([.ref b, .int (q : Nat)], s1) := rfl
    rw [ex_asg, ev_call, h, Option.bind_some, e2']; rfl
  have a3 : ex (.asg (.nm 5) .non) gl (calls FS gl (n + 8 + 1 + 1 + 1 + 1)) (lwE ns b (some (.int (i : Nat))) (some (.int (q : Nat))) (some (.ref T)) y5 y6 y7 y8 y9) s2 = some (.nx, lwE ns b (some (.int (i : Nat))) (some (.int (q : Nat))) (some (.ref T)) (some .non) y6 y7 y8 y9, s2) := rfl
  obtain ⟨J4, P, e4, hP, _⟩ := run_law_inputs (n + 8 + 1 + 1 + 1) q s2 hq3
  have a4 : ex (.asg (.nm 6) (.call 15 [(.var 3)])) gl (calls FS gl (n + 8 + 1 + 1 + 1 + 1)) (lwE ns b (some (.int (i : Nat))) (some (.int (q : Nat))) (some (.ref T)) (some .non) y6 y7 y8 y9) s2 = some (.nx, lwE ns b (some (.int (i : Nat))) (some (.int (q : Nat))) (some (.ref T)) (some .non) (some (.ref P)) y7 y8 y9, s2 ++ J4) := by
    have h : evs [(.var 3)] gl (calls FS gl (n + 8 + 1 + 1 + 1 + 1)) (lwE ns b (some (.int (i : Nat))) (some (.int (q : Nat))) (some (.ref T)) (some .non) y6 y7 y8 y9) s2 = some ([.int (q : Nat)], s2) := rfl
    rw [ex_asg, ev_call, h, Option.bind_some, e4]; rfl
  have hTl := (List.getElem?_eq_some_iff.mp hT).1
  have hT4 : (s2 ++ J4)[T]? = some (.dic false (tb f (rows q))) := by rw [List.getElem?_append_left hTl]; exact hT
  have hTb4 : TbAt (s2 ++ J4) T f (rows q) := ⟨false, hT4⟩
  obtain ⟨J5, z7, z8, a5⟩ := lw_outer (n := n + 8 + 1 + 1 + 1) (b := b) (ns := ns) (x2 := some (.int (i : Nat))) (x3 := some (.int (q : Nat))) (x9 := y9) hq3 y7 y8 hTb4 hP
  have hT5 : (s2 ++ J4 ++ J5)[T]? = some (.dic false (tb f (rows q))) := by
    rw [List.getElem?_append_left (List.getElem?_eq_some_iff.mp hT4).1]; exact hT4
  have hP5 : lstOf (s2 ++ J4 ++ J5) P = some (rowsD q) := lst_old hP
  obtain ⟨J6, z9, a6⟩ := lw_due (b := b) (P := P) (ns := ns) (x2 := some (.int (i : Nat))) (x7 := z7) (x8 := z8) (x9 := y9) (n + 8 + 1 + 1) (by omega) hq3 hT5
  have hTb6 : TbAt (s2 ++ J4 ++ J5 ++ J6) T f (rows q) := TbAt.app ⟨false, hT5⟩
  obtain ⟨J7, a7⟩ := lw_same (b := b) (ns := ns) (x2 := some (.int (i : Nat))) (x7 := z7) (x8 := z8) (x9 := z9) (n + 8) (by omega) hq3 hTb6 (lst_old hP5)
  refine ⟨some (.int (q : Nat)), some (.ref T), some (decP f q), some (.ref P), z7, z8, z9, s2 ++ J4 ++ J5 ++ J6 ++ J7, ?_, hB2.kq (((Kq.app [] s2 J4).trans (Kq.app _ _ J5)).trans ((Kq.app _ _ J6).trans (Kq.app _ _ J7))) (by simp) (by simp)⟩
  unfold lwX
  rw [exs_step a1 rfl, exs_step a2 rfl, exs_step a3 rfl, exs_step a4 rfl, exs_step a5 rfl, exs_step a6 rfl, exs_step a7 rfl]
  rfl
theorem run_law (n : Nat) (ns : List Int) : ∃ st', callD FS gl (n + 8 + 1 + 1 + 1 + 1) 19 [.fz (ns.map .int)] [] = some (.bl true, st') := by
  obtain ⟨st, b, j, e, hB⟩ := run_box (n + 8 + 1) ns
  have e' : callD FS gl (n + 8 + 1 + 1 + 1) 9 [.fz (ns.map .int), .int 0, .int 62] [] = some (.ref b, st) := e
  have a1 : ex (.asg (.nm 1) (.call 9 [(.var 0), (.int 0), (.int 62)])) gl (calls FS gl (n + 8 + 1 + 1 + 1 + 1)) [some (.fz (ns.map .int)), none, none, none, none, none, none, none, none, none] [] = some (.nx, lwE ns b none none none none none none none none, st) := by
    have h : evs [(.var 0), (.int 0), (.int 62)] gl (calls FS gl (n + 8 + 1 + 1 + 1 + 1)) [some (.fz (ns.map .int)), none, none, none, none, none, none, none, none, none] [] = some ([.fz (ns.map .int), .int 0, .int 62], []) := rfl
    rw [ex_asg, ev_call, h, Option.bind_some, e']; rfl
  obtain ⟨ρ', st', e2, _, hB2⟩ := ex_rng (g := gl) (C := calls FS gl (n + 8 + 1 + 1 + 1 + 1)) (N := 4) (src := .int 4) (tg := .nm 2) (b := lwX) (ρ := lwE ns b none none none none none none none none) (st := st) (st0 := st) rfl (by omega)
    (fun i ρ s => (∃ x2 y3 y4 y5 y6 y7 y8 y9, ρ = lwE ns b x2 y3 y4 y5 y6 y7 y8 y9) ∧ Box b j s) ⟨⟨_, _, _, _, _, _, _, _, rfl⟩, hB⟩ (by
      rintro i ρ s hi ⟨⟨x2, y3, y4, y5, y6, y7, y8, y9, rfl⟩, hB⟩
      obtain ⟨z3, z4, z5, z6, z7, z8, z9, s', e, hB'⟩ := lw_turn n b j ns i y3 y4 y5 y6 y7 y8 y9 s hB
      have f0 : asgD (.nm 2) (.int (i : Nat)) s (lwE ns b x2 y3 y4 y5 y6 y7 y8 y9) = some (lwE ns b (some (.int (i : Nat))) y3 y4 y5 y6 y7 y8 y9) := rfl
      refine ⟨.nx, lwE ns b (some (.int (i : Nat))) z3 z4 z5 z6 z7 z8 z9, s', ?_, .inl rfl, ⟨_, _, _, _, _, _, _, _, rfl⟩, hB'⟩
      rw [f0, Option.bind_some]
      exact e)
  refine ⟨st', ?_⟩
  refine cl_ret (d := d19.df) (ρ' := ρ') rfl rfl ?_
  show exs b19 gl (calls FS gl (n + 8 + 1 + 1 + 1 + 1)) [some (.fz (ns.map .int)), none, none, none, none, none, none, none, none, none] [] = _
  rw [b19_eq, exs_step a1 rfl, exs_step e2 rfl]
  exact exs_ret rfl
end K71
end
section
set_option Elab.async false
set_option linter.all false
set_option maxRecDepth 100000
set_option maxHeartbeats 0
namespace K71
open Dz PySem PySem.Spec PyProof.Rows L2 He
def fa : List Fa := (defs.map (fun d => Fa.glo d.x) ++ [Fa.glo "ITEMS"]) ++ blts.map Fa.free
/-- what ITEMS holds -/
def items3 : List Value → Bool
  | [.none, .int i _, .int j _] => decide (i = 0) && decide (j = 1)
  | _ => false
def exK (K : PySem.W.Frag) : Bool := match K.lookup (ga K "ITEMS") with
  | some o => (match o.data with
    | .seq its _ => decide (o.cls = .type "tuple") && items3 its.toList
    | _ => false) && o.dict.isNone
  | none => false
def tf : List Defn := (defs.filter (·.gn)).map fun d => (d.x, none)
def fnD : List DefD := defs.map (DD.defD Pr)
abbrev R : PySem.W.OpenRow := PySem.W.OpenLaw.row PySem.Challenge.rw_sensehouse_k71_tables_and_programs
def hk : PySem.W.Hook := hookX 5 fa fnD [] tf exK
def ob (s : PySem.W.SharedT) : AlX := obsX 5 fa fnD [] tf (exK) (HandSHeadRun.getT s)
theorem ob_eq (s : PySem.W.SharedT) : ob s = hk.obs s.abs := obsX_eq (HandSHeadRun.getT_eq s)
abbrev iLaw : Nat := 22
def loose : List Str := "ITEMS" :: names.filter fun x => decide (x ≠ ("law" : Str))
theorem run (w : World) : HandSHeadRun.RunEq R (PySem.W.view R.prog [iLaw]) hk ob 2000 loose w := by
  intro os
  kernel_rfl
end K71
end
section
set_option Elab.async false
set_option linter.all false
set_option maxRecDepth 100000
set_option maxHeartbeats 0
namespace K71
open Dz PySem PySem.Spec PyProof.Rows L2 He
theorem hglo : ∀ d ∈ defs, Fa.glo d.x ∈ fa := fun d hd => List.mem_append_left _ (List.mem_append_left _ (List.mem_map.mpr ⟨d, hd, rfl⟩))
theorem hite : Fa.glo "ITEMS" ∈ fa := List.mem_append_left _ (List.mem_append_right _ (List.mem_singleton.mpr rfl))
theorem hfree : ∀ x ∈ blts, Fa.free x ∈ fa := fun x hx => List.mem_append_right _ (List.mem_map.mpr ⟨x, hx, rfl⟩)
theorem hok : ∀ d ∈ defs, d.ok Pr (defs.map (·.x)) = true := fun d hd => List.all_eq_true.mp ok0 d hd
theorem hgn : ∀ d ∈ defs, d.gn = true → (d.x, none) ∈ tf := fun d hd hg => List.mem_map.mpr ⟨d, List.mem_filter.mpr ⟨hd, hg⟩, rfl⟩
theorem hbd : ∀ d ∈ defs, d.Bd Pr := by
  have h1 : ∀ d : DD, d ∈ defs → d.ps.length = 1 ∨ d.ps.length = 2 ∨ d.ps.length = 3 := by decide +kernel
  intro d hd
  simp only [defs, List.mem_cons, List.not_mem_nil, or_false] at hd
  rcases hd with rfl | rfl | rfl | rfl | rfl | rfl | rfl | rfl | rfl | rfl | rfl | rfl | rfl | rfl | rfl | rfl | rfl | rfl | rfl | rfl <;>
    first
      | exact fun _ _ _ _ _ _ us hl => match us, hl with | [_], _ => rfl
      | exact fun _ _ _ _ _ _ us hl => match us, hl with | [_, _], _ => rfl
      | exact fun _ _ _ _ _ _ us hl => match us, hl with | [_, _, _], _ => rfl
/-- ITEMS -/
theorem items3_is : ∀ {its : List Value}, items3 its = true → ∃ t u, its = [.none, .int 0 t, .int 1 u]
  | [.none, .int i t, .int j u], h => by
    have h : (decide (i = 0) && decide (j = 1)) = true := h
    rw [Bool.and_eq_true] at h
    obtain rfl := of_decide_eq_true h.1
    obtain rfl := of_decide_eq_true h.2
    exact ⟨t, u, rfl⟩
theorem exK_is {K : PySem.W.Frag} (h : exK K = true) : ∃ (o : Obj) (its : Array Value) (n : Nat) (t u : Tok), K.lookup (ga K "ITEMS") = some o ∧ o.cls = .type "tuple" ∧ o.data = .seq its n ∧ its.toList = [.none, .int 0 t, .int 1 u] := by
  unfold exK at h
  split at h
  · rename_i o e
    rw [Bool.and_eq_true] at h
    obtain ⟨h, _⟩ := h
    split at h
    · rename_i its n e2
      rw [Bool.and_eq_true] at h
      obtain ⟨t, u, e3⟩ := items3_is h.2
      exact ⟨o, its, n, t, u, e, of_decide_eq_true h.1, e2, e3⟩
    · cases h
  · cases h
theorem hgl {K : PySem.W.Frag} {mg : Str → Option Value} (e : mg "ITEMS" = some (.ref (ga K "ITEMS"))) (h : exK K = true) : ∀ x d, gl x = some d → ∃ u v, mg x = some u ∧ RelV v u ∧ ∀ H m, RV K H m d v := by
  intro x d hx
  unfold gl at hx
  split at hx
  · rename_i hx'
    subst hx'
    cases hx
    obtain ⟨o, its, n, t, u, e1, e2, e3, e4⟩ := exK_is h
    refine ⟨_, .ref (ga K "ITEMS"), e, rfl, fun H m => ⟨_, [.non, .int 0, .int 1], rfl, .inr ⟨o, its, n, e1, e2, e3, ?_, ?_⟩, ?_⟩⟩
    · rw [← Array.length_toList, e4, sizeLine_eq]; simp
    · rw [e4]; exact .cons rfl (.cons ⟨t, rfl⟩ (.cons ⟨u, rfl⟩ .nil))
    · exact ⟨_, _, rfl, rfl, _, _, rfl, rfl, _, _, rfl, rfl, rfl⟩
  · cases hx
def LawOk : Prop := ∀ ns : List Int, ns.length ≤ 63 → (∀ z ∈ ns, Builtin.Int.intBits z ≤ 1048576) → ∃ st', callD (defs.map (·.df)) gl 229 19 [.fz (ns.map .int)] [] = some (.bl true, st')
theorem holds (law : LawOk) : PySem.Challenge.rw_sensehouse_k71_tables_and_programs.Holds := by
  w_on; o_law
  refine HandSHeadRun.head_any (r := PySem.W.OpenLaw.row PySem.Challenge.rw_sensehouse_k71_tables_and_programs) (q := PySem.W.view (PySem.W.OpenLaw.row PySem.Challenge.rw_sensehouse_k71_tables_and_programs).prog [iLaw]) (H := hk) (ob := ob) (M := 2000) (loose := loose) (d := HandSHeadRun.topDef (PySem.W.OpenLaw.row PySem.Challenge.rw_sensehouse_k71_tables_and_programs).prog iLaw) (kwd := []) ob_eq
    (by kernel_rfl) (fun s => by kernel_rfl) run (by kernel_rfl) (by kernel_rfl) (by kernel_rfl) (by rfl) (by first | assumption | decide +kernel) (by decide +kernel) ⟨rfl, rfl, rfl, rfl, rfl, by decide +kernel⟩ ?hw ?hc
  case hw => w_witness2
  case hc =>
    refine LamX.walk_ofTsE (l := PySem.Challenge.rw_sensehouse_k71_tables_and_programs) (n := 63) (k := 230) (x := "script") (CX := fun _ => C8.CX0) rfl (by decide) (by kernel_rfl) ⟨rfl, by decide, by decide⟩ ?F (fun _ _ _ _ _ z => z)
    intro w mg fA h Y G hmg0
    obtain ⟨K, KX, c⟩ := Y
    have hmg : mg ("law" : PySem.Str) = some (.ref fA) := by
      have e : (HandSHeadRun.topDef (PySem.W.OpenLaw.row PySem.Challenge.rw_sensehouse_k71_tables_and_programs).prog iLaw).name = ("law" : PySem.Str) := by kernel_rfl
      rw [← e]
      exact hmg0
    exact ⟨K, KX, law_end (g := gl) (L := defs) (f := 19) (d := d19) (k := 229) KX G c hglo hfree hok hbd hgn (hgl (glo_ok KX G ((saysD c).facts hite)) c.more) rfl rfl hmg law⟩
end K71
end
theorem PySem.Challenge.cw_sensehouse_k71_tables_and_programs_holds : PySem.Challenge.rw_sensehouse_k71_tables_and_programs.Holds := by
  exact K71.holds fun ns _ _ => K71.run_law 217 ns
