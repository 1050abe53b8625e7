import PyProof.Rows.All
import Wide.All
import OpenK.AllK
import Wide.FinOn
import HandS.ForMost
import HandS.Exc
import HandS.Lambda
import HandS.EndTab
import HandS.AnyAll
import HandS.TupAny
import HandS.TupMul
import HandS.IsInst
import HandS.Style
import HandS.Zip
import HandS.Rev
import HandS.Deep
import PyProof.Rows.InDataRows
import HandS.Iter
import HandS.Walk
import KE.GoesEnum
import PyProof.FactsAll.list_0
import PyProof.FactsAll.list_3
import HandS.GenList
import PyProof.TupleOfGen
import HandS.Defaults
import HandS.HeadHook4
import HandS.HeadWalk
import HandS.Words
import PySem.Challenge.RW_sensehouse_k00_kinds_and_their_places
import KE.KStateDown
import HandS.Head0
import HandS.Head1
import HandS.Head2
import HandS.HeadEnd
section
set_option Elab.async false
set_option linter.all false
set_option maxRecDepth 100000
/-! a small language of pure values over a store, and what its programs do -/
namespace Dz
open PySem L2

/-- a value: tuples are values through and through, and so is a list that nobody writes (fz); a list, a dict, an instance is a number in the store -/
inductive D where
  | non | bl (b : Bool) | int (i : Int) | str (x : Str) | tup (ds : List D) | fz (ds : List D) | ref (k : Nat)
inductive O where
  | lst (ds : List D) | dic (kvs : List (D × D)) | ins (c : Nat) (fs : List (Str × D))
abbrev Sto := List O
abbrev Env := List (Option D)

inductive Bop where | add | sub | mul | fdiv | mod | pow
inductive Cop where | eq | ne | lt | le | gt | ge | is | isn | inn | nin
inductive Ty where | tuple | int | bool | str | list
/-- built-ins of one or more values -/
inductive Bf where | len | int | tuple | list | max1 | max2 | str
inductive Mt where | append | extend | pop
/-- what is walked -/
inductive Ik where | one | rng1 | rng2 | rng3 | enum | zip | rev
inductive Cn where | tuple | all | any | sum | max
inductive Tg where | nm (i : Nat) | tp (ts : List Tg)

mutual
inductive E where
  | var (i : Nat) | non | bl (b : Bool) | int (i : Int) | str (x : Str) | glb (x : Str)
  | tup (es : List E) | lst (es : List E)
  | bin (o : Bop) (a b : E) | neg (a : E)
  | cmp (o : Cop) (a b : E) | chn (o p : Cop) (a b c : E)
  | and (es : List E) | or (es : List E) | not (a : E) | ife (c : T) (a b : E)
  | call (f : Nat) (es : List E) | bi (f : Bf) (es : List E) | isi (a : E) (t : Ty) | mth (m : Mt) (o : E) (es : List E)
  | idx (a i : E) | slF (a lo : E) | slT (a hi : E) | slB (a lo hi : E) | slR (a : E)
  | lc (ik : Ik) (src : List E) (tg : Tg) (cnd : List T) (elt : E) (own : List Nat)
  | lc2 (ik : Ik) (src : List E) (tg : Tg) (cnd : List T) (ik1 : Ik) (src1 : List E) (tg1 : Tg) (cnd1 : List T) (elt : E) (own own1 : List Nat)
  | gen (c : Cn) (ik : Ik) (src : List E) (tg : Tg) (cnd : List T) (elt : E) (own : List Nat)
/-- a test -/
inductive T where
  | val (e : E) | not (a : T) | and (es : List T) | or (es : List T) | cmp (o : Cop) (a b : E) | chn (o p : Cop) (a b c : E) | ife (c a b : T)
end

inductive S where
  | expr (e : E) | asg (tg : Tg) (e : E) | asub (o i e : E) | aug (i : Nat) (o : Bop) (e : E)
  | ret (e : E) | retN | pass | brk | cnt
  | ife (c : T) (a b : List S) | whl (c : T) (b : List S) | for_ (ik : Ik) (src : List E) (tg : Tg) (b : List S)

/-! ### data for == -/
mutual
def toPw (f : Nat → Option PyData) : D → Option PyData
  | .non => some .none
  | .bl b => some (.bool b)
  | .int i => some (.int i)
  | .str x => some (.str x)
  | .tup ds => (toPws f ds).map .tuple
  | .fz ds => (toPws f ds).map .list
  | .ref k => f k
def toPws (f : Nat → Option PyData) : List D → Option (List PyData)
  | [] => some []
  | d :: ds => (toPw f d).bind fun x => (toPws f ds).map fun xs => x :: xs
end
def toP : Nat → Sto → D → Option PyData
  | 0, _, d => toPw (fun _ => none) d
  | n + 1, st, d => toPw (fun k => match st[k]? with
    | some (.lst ds) => (ds.mapM (toP n st)).map .list
    | _ => none) d
def eqD (st : Sto) (x y : D) : Option Bool :=
  (toP 3 st x).bind fun a => (toP 3 st y).bind fun b => if SeqAt.shaped a && SeqAt.shaped b then some (PyData.eqv a b) else none
def inD (st : Sto) (x c : D) : Option Bool :=
  (toP 3 st x).bind fun a => (toP 3 st c).bind fun b => if SeqAt.shaped a && SeqAt.shaped b then (match b with
    | .list xs => some (xs.any fun z => PyData.eqv z a)
    | .tuple xs => some (xs.any fun z => PyData.eqv z a)
    | _ => none) else none

/-! ### operators -/
def lstOf (st : Sto) (k : Nat) : Option (List D) := match st[k]? with
  | some (.lst ds) => some ds
  | _ => none
def new (st : Sto) (o : O) : D × Sto := (.ref st.length, st ++ [o])
def small (i : Int) : Bool := decide (-(2 ^ 64) < i) && decide (i < 2 ^ 64)
def binD (o : Bop) (x y : D) (st : Sto) : Option (D × Sto) := match o, x, y with
  | .add, .int i, .int j => some (.int (i + j), st)
  | .add, .str a, .str b => if a.length + b.length ≤ sizeLine then some (.str (a ++ b), st) else none
  | .add, .tup a, .tup b => if a.length + b.length ≤ sizeLine then some (.tup (a ++ b), st) else none
  | .add, .ref k, .ref j => (lstOf st k).bind fun a => (lstOf st j).bind fun b => if a.length + b.length ≤ sizeLine then some (new st (.lst (a ++ b))) else none
  | .sub, .int i, .int j => some (.int (i - j), st)
  | .mul, .int i, .int j => if small i || small j then some (.int (i * j), st) else none
  | .mul, .ref k, .int j => (lstOf st k).bind fun a => if a.length * j.toNat ≤ sizeLine ∧ -(2 ^ 63) ≤ j ∧ j < 2 ^ 63 then some (new st (.lst (List.replicate j.toNat a).flatten)) else none
  | .mul, .tup a, .int j => if a.isEmpty then (if -(2 ^ 63) ≤ j ∧ j < 2 ^ 63 then some (.tup [], st) else none) else if 2 ≤ j ∧ j ≤ 1000 ∧ a.length ≤ 1000 then some (.tup (List.replicate j.toNat a).flatten, st) else none
  | .fdiv, .int i, .int j => if j ≠ 0 ∧ j.natAbs < 1073741824 then some (.int (i.fdiv j), st) else none
  | .mod, .int i, .int j => if j ≠ 0 then some (.int (i.fmod j), st) else none
  | .pow, .int i, .int j => if 0 ≤ j ∧ j ≤ 1000000 ∧ i.natAbs < 2 ^ 64 then some (.int (i ^ j.toNat), st) else none
  | _, _, _ => none
def isN : D → Bool
  | .non => true
  | _ => false
def cmpD (o : Cop) (x y : D) (st : Sto) : Option Bool := match o, x, y with
  | .eq, x, y => eqD st x y
  | .ne, x, y => (eqD st x y).map (!·)
  | .lt, .int i, .int j => some (decide (i < j))
  | .le, .int i, .int j => some (decide (i ≤ j))
  | .gt, .int i, .int j => some (decide (i > j))
  | .ge, .int i, .int j => some (decide (i ≥ j))
  | .is, x, .non => some (isN x)
  | .isn, x, .non => some (!isN x)
  | .is, .bl a, .bl b => some (decide (a = b))
  | .isn, .bl a, .bl b => some (!decide (a = b))
  | .inn, x, y => inD st x y
  | .nin, x, y => (inD st x y).map (!·)
  | _, _, _ => none
def truD (x : D) (st : Sto) : Option Bool := match x with
  | .non => some false
  | .bl b => some b
  | .int i => some (i != 0)
  | .tup ds => some (!ds.isEmpty)
  | .ref k => (lstOf st k).map fun ds => !ds.isEmpty
  | _ => none
def idxD (x i : D) (st : Sto) : Option D := match x, i with
  | .tup ds, .int j => atI ds j
  | .fz ds, .int j => atI ds j
  | .ref k, .int j => (lstOf st k).bind fun ds => atI ds j
  | _, _ => none
def cutD (ds : List D) (lo hi : Option Int) : List D := (ds.drop (HT.sIx ds.length 0 lo)).take (HT.sIx ds.length ds.length hi - HT.sIx ds.length 0 lo)
def slcD (x : D) (lo hi : Option Int) (st : Sto) : Option (D × Sto) := match x with
  | .tup ds => some (.tup (cutD ds lo hi), st)
  | .ref k => (lstOf st k).map fun ds => new st (.lst (cutD ds lo hi))
  | _ => none
def isiD (x : D) (t : Ty) (st : Sto) : Option Bool := match x, t with
  | .non, _ => some false
  | .bl _, .bool => some true
  | .bl _, .int => some true
  | .bl _, _ => some false
  | .int _, .int => some true
  | .int _, _ => some false
  | .str _, .str => some true
  | .str _, _ => some false
  | .tup _, .tuple => some true
  | .tup _, _ => some false
  | .fz _, _ => none
  | .ref k, .list => (lstOf st k).map fun _ => true
  | .ref k, _ => (lstOf st k).map fun _ => false
def maxI : List D → Option Int
  | [] => none
  | [.int i] => some i
  | .int i :: ds => (maxI ds).map fun j => if i < j then j else i
  | _ => none
def bfD (f : Bf) (xs : List D) (st : Sto) : Option (D × Sto) := match f, xs with
  | .len, [.tup ds] => some (.int ds.length, st)
  | .len, [.fz ds] => some (.int ds.length, st)
  | .len, [.ref k] => (lstOf st k).map fun ds => (.int ds.length, st)
  | .int, [.int i] => some (.int i, st)
  | .int, [.bl b] => some (.int (if b then 1 else 0), st)
  | .tuple, [.tup ds] => some (.tup ds, st)
  | .tuple, [.ref k] => (lstOf st k).map fun ds => (.tup ds, st)
  | .max1, [.ref k] => (lstOf st k).bind fun ds => (maxI ds).map fun j => (.int j, st)
  | .max2, [.int i, .int j] => some (.int (if j > i then j else i), st)
  | .list, [.tup ds] => some (new st (.lst ds))
  | .list, [.ref k] => (lstOf st k).map fun ds => new st (.lst ds)
  | _, _ => none
/-- a list (ahead of a method's arguments) -/
def isL (x : D) (st : Sto) : Bool := match x with
  | .ref k => (lstOf st k).isSome
  | _ => false
def mtD (m : Mt) (x : D) (ys : List D) (st : Sto) : Option (D × Sto) := match x, st with
  | .ref k, st => (match st[k]? with
    | some (.lst ds) => (match m, ys with
      | .append, [y] => if ds.length < sizeLine then some (.non, st.set k (.lst (ds ++ [y]))) else none
      | .extend, [.tup zs] => if ds.length + zs.length ≤ sizeLine then some (.non, st.set k (.lst (ds ++ zs))) else none
      | .extend, [.ref j] => if j = k then none else (lstOf st j).bind fun zs => if ds.length + zs.length ≤ sizeLine then some (.non, st.set k (.lst (ds ++ zs))) else none
      | .pop, [] => (match ds.getLast? with
        | some d => some (d, st.set k (.lst ds.dropLast))
        | none => none)
      | _, _ => none)
    | _ => none)
  | _, _ => none
/-- o[i] = v -/
def setD (o i v : D) (st : Sto) : Option Sto := match o, i with
  | .ref k, .int j => (match st[k]? with
    | some (.lst ds) => (ixN ds.length j).map fun p => st.set k (.lst (ds.set p v))
    | _ => none)
  | _, _ => none

/-! ### targets -/
mutual
def asgD : Tg → D → Sto → Env → Option Env
  | .nm i, d, _, ρ => if i < ρ.length then some (ρ.set i (some d)) else none
  | .tp ts, .tup ds, st, ρ => asgDs ts ds st ρ
  | .tp ts, .ref k, st, ρ => (lstOf st k).bind fun ds => asgDs ts ds st ρ
  | .tp _, _, _, _ => none
def asgDs : List Tg → List D → Sto → Env → Option Env
  | [], [], _, ρ => some ρ
  | t :: ts, d :: ds, st, ρ => (asgD t d st ρ).bind fun ρ1 => asgDs ts ds st ρ1
  | _, _, _, _ => none
end
def wipeD (ρ : Env) : List Nat → Env
  | [] => ρ
  | v :: vs => (wipeD ρ vs).set v none

/-! ### iterators -/
inductive IT where
  | tup (ds : List D) | lst (k : Nat) | rng (lo st : Int) (n : Nat) | enT (ds : List D) | enL (k : Nat) | zpT (a b : List D) | zpL (k j : Nat) | rvT (ds : List D) | rvL (k n : Nat)
def inR (i : Int) : Bool := decide (-(2 ^ 62) ≤ i) && decide (i < 2 ^ 62)
/-- the iterator and how many turns it takes -/
def itD (ik : Ik) (xs : List D) (st : Sto) : Option (IT × Nat) := match ik, xs with
  | .one, [.tup ds] => some (.tup ds, ds.length)
  | .one, [.ref k] => (lstOf st k).map fun ds => (.lst k, ds.length)
  | .rng1, [.int j] => if inR j then some (.rng 0 1 j.toNat, j.toNat) else none
  | .rng2, [.int i, .int j] => if inR i && inR j then some (.rng i 1 (j - i).toNat, (j - i).toNat) else none
  | .rng3, [.int i, .int j, .int c] => if c ≠ 0 ∧ c.natAbs < 1073741824 ∧ Builtin.Range.small i j c = true ∧ 0 ≤ Builtin.Range.rangeSize i j c then
      some (.rng i c (Builtin.Range.rangeSize i j c).toNat, (Builtin.Range.rangeSize i j c).toNat) else none
  | .enum, [.tup ds] => some (.enT ds, ds.length)
  | .enum, [.ref k] => (lstOf st k).map fun ds => (.enL k, ds.length)
  | .zip, [.tup a, .tup b] => some (.zpT a b, min a.length b.length)
  | .zip, [.ref k, .ref j] => (lstOf st k).bind fun a => (lstOf st j).map fun b => (.zpL k j, min a.length b.length)
  | .rev, [.tup ds] => some (.rvT ds, ds.length)
  | .rev, [.ref k] => (lstOf st k).map fun ds => (.rvL k ds.length, ds.length)
  | _, _ => none
def pair2 (a b : Option D) : Option D := a.bind fun x => b.map fun y => .tup [x, y]
def nxD (J : IT) (i : Nat) (st : Sto) : Option D := match J with
  | .tup ds => ds[i]?
  | .lst k => (lstOf st k).bind fun ds => ds[i]?
  | .rng lo c n => if i < n then some (.int (lo + (i : Nat) * c)) else none
  | .enT ds => pair2 (some (.int (i : Nat))) ds[i]?
  | .enL k => (lstOf st k).bind fun ds => pair2 (some (.int (i : Nat))) ds[i]?
  | .zpT a b => pair2 a[i]? b[i]?
  | .zpL k j => (lstOf st k).bind fun a => (lstOf st j).bind fun b => pair2 a[i]? b[i]?
  | .rvT ds => if i < ds.length then ds[ds.length - 1 - i]? else none
  | .rvL k n => (lstOf st k).bind fun ds => if i < n then ds[n - 1 - i]? else none
/-- it stops at turn i -/
def stD (J : IT) (i : Nat) (st : Sto) : Bool := match J with
  | .tup ds => decide (ds.length ≤ i)
  | .lst k => (match lstOf st k with | some ds => decide (ds.length ≤ i) | none => false)
  | .rng _ _ n => decide (n ≤ i)
  | .enT ds => decide (ds.length = i)
  | .enL k => (match lstOf st k with | some ds => decide (ds.length ≤ i) | none => false)
  | .zpT a b => decide (min a.length b.length ≤ i)
  | .zpL k j => (match lstOf st k, lstOf st j with | some a, some b => decide (min a.length b.length ≤ i) | _, _ => false)
  | .rvT ds => decide (ds.length ≤ i)
  | .rvL _ n => decide (n ≤ i)

/-! ### loops -/
inductive Fl where | nx | rt (d : D) | bk | ct
def loopF (J : IT) (body : D → Env → Sto → Option (Fl × Env × Sto)) : Nat → Nat → Env → Sto → Option (Fl × Env × Sto)
  | 0, i, ρ, st => if stD J i st then some (.nx, ρ, st) else none
  | r + 1, i, ρ, st => (nxD J i st).bind fun x => (body x ρ st).bind fun q => match q with
    | (.nx, ρ', st') => loopF J body r (i + 1) ρ' st'
    | (.ct, ρ', st') => loopF J body r (i + 1) ρ' st'
    | (.bk, ρ', st') => some (.nx, ρ', st')
    | (.rt d, ρ', st') => some (.rt d, ρ', st')
/-- a comprehension: body gives the item, or none where a test fails -/
def loopC (J : IT) (body : D → Sto → Option (Option D × Sto)) : Nat → Nat → List D → Sto → Option (List D × Sto)
  | 0, i, acc, st => if stD J i st then some (acc, st) else none
  | r + 1, i, acc, st => (nxD J i st).bind fun x => (body x st).bind fun q => match q with
    | (some y, st') => if acc.length < sizeLine then loopC J body r (i + 1) (acc ++ [y]) st' else none
    | (none, st') => loopC J body r (i + 1) acc st'
/-- a comprehension of two clauses: the inner one is a loop of its own -/
def loopC2 (J : IT) (body : D → List D → Sto → Option (List D × Sto)) : Nat → Nat → List D → Sto → Option (List D × Sto)
  | 0, i, acc, st => if stD J i st then some (acc, st) else none
  | r + 1, i, acc, st => (nxD J i st).bind fun x => (body x acc st).bind fun q => loopC2 J body r (i + 1) q.1 q.2
def inL (i : Int) : Bool := decide (-(2 ^ 63) ≤ i) && decide (i < 2 ^ 63)
/-- a generator's consumer -/
def conD (c : Cn) (acc : D) (y : D) (st : Sto) : Option (Bool × D) := match c, acc, y with
  | .tuple, .tup ds, y => if ds.length < sizeLine then some (false, .tup (ds ++ [y])) else none
  | .all, _, .bl b => some (!b, .bl b)
  | .any, _, .bl b => some (b, .bl b)
  | .sum, .int i, .int j => if inL i && inL j && inL (i + j) then some (false, .int (i + j)) else none
  | .max, .non, .int j => some (false, .int j)
  | .max, .int i, .int j => some (false, .int (if i < j then j else i))
  | _, _, _ => none
def con0 : Cn → D
  | .tuple => .tup []
  | .all => .bl true
  | .any => .bl false
  | .sum => .int 0
  | .max => .non
def conE (c : Cn) (acc : D) : Option D := match c, acc with
  | .max, .non => none
  | _, d => some d
/-- the generator is walked by its consumer; true: it leaves early -/
def loopG (c : Cn) (J : IT) (body : D → Sto → Option (Option D × Sto)) : Nat → Nat → D → Sto → Option (D × Sto)
  | 0, i, acc, st => if stD J i st then (conE c acc).map fun d => (d, st) else none
  | r + 1, i, acc, st => (nxD J i st).bind fun x => (body x st).bind fun q => match q with
    | (some y, st') => (conD c acc y st').bind fun z => if z.1 then some (z.2, st') else loopG c J body r (i + 1) z.2 st'
    | (none, st') => loopG c J body r (i + 1) acc st'
def loopW (cnd : Env → Sto → Option (Bool × Sto)) (body : Env → Sto → Option (Fl × Env × Sto)) : Nat → Env → Sto → Option (Fl × Env × Sto)
  | 0, _, _ => none
  | r + 1, ρ, st => (cnd ρ st).bind fun c => if c.1 then (body ρ c.2).bind fun q => match q with
    | (.nx, ρ', st') => loopW cnd body r ρ' st'
    | (.ct, ρ', st') => loopW cnd body r ρ' st'
    | (.bk, ρ', st') => some (.nx, ρ', st')
    | (.rt d, ρ', st') => some (.rt d, ρ', st')
    else some (.nx, ρ, c.2)
def KW : Nat := 100000000

/-! ### evaluation -/
abbrev CS := Nat → List D → Sto → Option (D × Sto)
mutual
def ev : E → (Str → Option D) → List CS → Env → Sto → Option (D × Sto)
  | .var i, _, _, ρ, st => (match ρ[i]? with | some (some d) => some (d, st) | _ => none)
  | .non, _, _, _, st => some (.non, st)
  | .bl b, _, _, _, st => some (.bl b, st)
  | .int i, _, _, _, st => some (.int i, st)
  | .str x, _, _, _, st => some (.str x, st)
  | .glb x, g, _, _, st => (g x).map fun d => (d, st)
  | .tup es, g, C, ρ, st => (evs es g C ρ st).bind fun r => if r.1.length ≤ sizeLine then some (.tup r.1, r.2) else none
  | .lst es, g, C, ρ, st => (evs es g C ρ st).bind fun r => if r.1.length ≤ sizeLine then some (new r.2 (.lst r.1)) else none
  | .bin o a b, g, C, ρ, st => (ev a g C ρ st).bind fun r => (ev b g C ρ r.2).bind fun q => binD o r.1 q.1 q.2
  | .neg a, g, C, ρ, st => (ev a g C ρ st).bind fun r => match r.1 with | .int i => some (.int (-i), r.2) | _ => none
  | .cmp o a b, g, C, ρ, st => (ev a g C ρ st).bind fun r => (ev b g C ρ r.2).bind fun q => (cmpD o r.1 q.1 q.2).map fun c => (.bl c, q.2)
  | .chn o p a b c, g, C, ρ, st => (ev a g C ρ st).bind fun r => (ev b g C ρ r.2).bind fun q => (cmpD o r.1 q.1 q.2).bind fun x =>
      if x then (ev c g C ρ q.2).bind fun z => (cmpD p q.1 z.1 z.2).map fun y => (.bl y, z.2) else some (.bl false, q.2)
  | .and es, g, C, ρ, st => evAnd es g C ρ st
  | .or es, g, C, ρ, st => evOr es g C ρ st
  | .not a, g, C, ρ, st => (ev a g C ρ st).bind fun r => (truD r.1 r.2).map fun b => (.bl (!b), r.2)
  | .ife c a b, g, C, ρ, st => (evT c g C ρ st).bind fun r => if r.1 then ev a g C ρ r.2 else ev b g C ρ r.2
  | .call f es, g, C, ρ, st => (match C with | [] => none | F :: _ => (evs es g C ρ st).bind fun r => F f r.1 r.2)
  | .bi f es, g, C, ρ, st => (evs es g C ρ st).bind fun r => bfD f r.1 r.2
  | .isi a t, g, C, ρ, st => (ev a g C ρ st).bind fun r => (isiD r.1 t r.2).map fun b => (.bl b, r.2)
  | .mth m o es, g, C, ρ, st => (ev o g C ρ st).bind fun r => if isL r.1 r.2 then (evs es g C ρ r.2).bind fun q => mtD m r.1 q.1 q.2 else none
  | .idx a i, g, C, ρ, st => (ev a g C ρ st).bind fun r => (ev i g C ρ r.2).bind fun q => (idxD r.1 q.1 q.2).map fun d => (d, q.2)
  | .slF a lo, g, C, ρ, st => (ev a g C ρ st).bind fun r => (ev lo g C ρ r.2).bind fun q => match q.1 with | .int i => slcD r.1 (some i) none q.2 | _ => none
  | .slT a hi, g, C, ρ, st => (ev a g C ρ st).bind fun r => (ev hi g C ρ r.2).bind fun q => match q.1 with | .int i => slcD r.1 none (some i) q.2 | _ => none
  | .slB a lo hi, g, C, ρ, st => (ev a g C ρ st).bind fun r => (ev lo g C ρ r.2).bind fun q => (ev hi g C ρ q.2).bind fun z => match q.1, z.1 with | .int i, .int j => slcD r.1 (some i) (some j) z.2 | _, _ => none
  | .slR a, g, C, ρ, st => (ev a g C ρ st).bind fun r => match r.1 with | .ref k => (lstOf r.2 k).map fun ds => new r.2 (.lst ds.reverse) | _ => none
  | .lc ik src tg cnd elt own, g, C, ρ, st => (evs src g C ρ st).bind fun r => (itD ik r.1 r.2).bind fun J =>
      (loopC J.1 (fun x s => (asgD tg x s (wipeD ρ own)).bind fun ρ1 => (evTA cnd g C ρ1 s).bind fun c => if c.1 then (ev elt g C ρ1 c.2).map fun y => (some y.1, y.2) else some (none, c.2)) J.2 0 [] r.2).map fun q => new q.2 (.lst q.1)
  | .lc2 ik src tg cnd ik1 src1 tg1 cnd1 elt own own1, g, C, ρ, st => (evs src g C ρ st).bind fun r => (itD ik r.1 r.2).bind fun J =>
      (loopC2 J.1 (fun x acc s => (asgD tg x s (wipeD ρ own)).bind fun ρ1 => (evTA cnd g C ρ1 s).bind fun c => if c.1 then
          (evs src1 g C ρ1 c.2).bind fun r1 => (itD ik1 r1.1 r1.2).bind fun J1 =>
            loopC J1.1 (fun x1 s1 => (asgD tg1 x1 s1 (wipeD ρ1 own1)).bind fun ρ2 => (evTA cnd1 g C ρ2 s1).bind fun c1 => if c1.1 then (ev elt g C ρ2 c1.2).map fun y => (some y.1, y.2) else some (none, c1.2)) J1.2 0 acc r1.2
        else some (acc, c.2)) J.2 0 [] r.2).map fun q => new q.2 (.lst q.1)
  | .gen cn ik src tg cnd elt own, g, C, ρ, st => (match C with | [] => none | _ :: C' => (evs src g C ρ st).bind fun r => (itD ik r.1 r.2).bind fun J =>
      (loopG cn J.1 (fun x s => (asgD tg x s (wipeD ρ own)).bind fun ρ1 => (evTA cnd g C' ρ1 s).bind fun c => if c.1 then (ev elt g C' ρ1 c.2).map fun y => (some y.1, y.2) else some (none, c.2)) J.2 0 (con0 cn) r.2))
def evs : List E → (Str → Option D) → List CS → Env → Sto → Option (List D × Sto)
  | [], _, _, _, st => some ([], st)
  | e :: es, g, C, ρ, st => (ev e g C ρ st).bind fun r => (evs es g C ρ r.2).map fun q => (r.1 :: q.1, q.2)
/-- and, or as values: bools, the last one any value -/
def evAnd : List E → (Str → Option D) → List CS → Env → Sto → Option (D × Sto)
  | [], _, _, _, _ => none
  | e :: es, g, C, ρ, st => (ev e g C ρ st).bind fun r => if es.isEmpty then some r else match r.1 with | .bl true => evAnd es g C ρ r.2 | .bl false => some (.bl false, r.2) | _ => none
def evOr : List E → (Str → Option D) → List CS → Env → Sto → Option (D × Sto)
  | [], _, _, _, _ => none
  | e :: es, g, C, ρ, st => (ev e g C ρ st).bind fun r => if es.isEmpty then some r else match r.1 with | .bl true => some (.bl true, r.2) | .bl false => evOr es g C ρ r.2 | _ => none
/-- a test -/
def evT : T → (Str → Option D) → List CS → Env → Sto → Option (Bool × Sto)
  | .val e, g, C, ρ, st => (ev e g C ρ st).bind fun r => (truD r.1 r.2).map fun b => (b, r.2)
  | .not a, g, C, ρ, st => (evT a g C ρ st).map fun r => (!r.1, r.2)
  | .and es, g, C, ρ, st => evTA es g C ρ st
  | .or es, g, C, ρ, st => evTO es g C ρ st
  | .cmp o a b, g, C, ρ, st => (ev a g C ρ st).bind fun r => (ev b g C ρ r.2).bind fun q => (cmpD o r.1 q.1 q.2).map fun c => (c, q.2)
  | .chn o p a b c, g, C, ρ, st => (ev a g C ρ st).bind fun r => (ev b g C ρ r.2).bind fun q => (cmpD o r.1 q.1 q.2).bind fun x =>
      if x then (ev c g C ρ q.2).bind fun z => (cmpD p q.1 z.1 z.2).map fun y => (y, z.2) else some (false, q.2)
  | .ife c a b, g, C, ρ, st => (evT c g C ρ st).bind fun r => if r.1 then evT a g C ρ r.2 else evT b g C ρ r.2
def evTA : List T → (Str → Option D) → List CS → Env → Sto → Option (Bool × Sto)
  | [], _, _, _, st => some (true, st)
  | e :: es, g, C, ρ, st => (evT e g C ρ st).bind fun r => if r.1 then evTA es g C ρ r.2 else some (false, r.2)
def evTO : List T → (Str → Option D) → List CS → Env → Sto → Option (Bool × Sto)
  | [], _, _, _, st => some (false, st)
  | e :: es, g, C, ρ, st => (evT e g C ρ st).bind fun r => if r.1 then some (true, r.2) else evTO es g C ρ r.2
end
mutual
def ex : S → (Str → Option D) → List CS → Env → Sto → Option (Fl × Env × Sto)
  | .expr e, g, C, ρ, st => (ev e g C ρ st).map fun r => (.nx, ρ, r.2)
  | .asg tg e, g, C, ρ, st => (ev e g C ρ st).bind fun r => (asgD tg r.1 r.2 ρ).map fun ρ1 => (.nx, ρ1, r.2)
  | .asub o i e, g, C, ρ, st => (ev e g C ρ st).bind fun v => (ev o g C ρ v.2).bind fun r => (ev i g C ρ r.2).bind fun q => (setD r.1 q.1 v.1 q.2).map fun s => (.nx, ρ, s)
  | .aug i o e, g, C, ρ, st => (match ρ[i]? with | some (some x) => (ev e g C ρ st).bind fun r => (match x, r.1 with | .int a, .int b => (match o with | .add => some (.nx, ρ.set i (some (.int (a + b))), r.2) | .sub => some (.nx, ρ.set i (some (.int (a - b))), r.2) | _ => none) | _, _ => none) | _ => none)
  | .ret e, g, C, ρ, st => (ev e g C ρ st).map fun r => (.rt r.1, ρ, r.2)
  | .retN, _, _, ρ, st => some (.rt .non, ρ, st)
  | .pass, _, _, ρ, st => some (.nx, ρ, st)
  | .brk, _, _, ρ, st => some (.bk, ρ, st)
  | .cnt, _, _, ρ, st => some (.ct, ρ, st)
  | .ife c a b, g, C, ρ, st => (evT c g C ρ st).bind fun r => if r.1 then exs a g C ρ r.2 else exs b g C ρ r.2
  | .whl c b, g, C, ρ, st => loopW (fun ρ s => evT c g C ρ s) (fun ρ s => exs b g C ρ s) KW ρ st
  | .for_ ik src tg b, g, C, ρ, st => (evs src g C ρ st).bind fun r => (itD ik r.1 r.2).bind fun J =>
      loopF J.1 (fun x ρ s => (asgD tg x s ρ).bind fun ρ1 => exs b g C ρ1 s) J.2 0 ρ r.2
def exs : List S → (Str → Option D) → List CS → Env → Sto → Option (Fl × Env × Sto)
  | [], _, _, ρ, st => some (.nx, ρ, st)
  | s :: ss, g, C, ρ, st => (ex s g C ρ st).bind fun q => match q with
    | (.nx, ρ', st') => exs ss g C ρ' st'
    | q => some q
end
/-- a def: how many parameters, how many slots, its body -/
structure Df where
  ar : Nat
  sl : Nat
  body : List S
def runD (fs : List Df) (g : Str → Option D) (C : List CS) : CS := fun f xs st => (fs[f]?).bind fun d =>
  if xs.length = d.ar then (exs d.body g C (xs.map some ++ List.replicate (d.sl - xs.length) none) st).bind fun q => match q with
    | (.nx, _, st') => some (.non, st')
    | (.rt v, _, st') => some (v, st')
    | _ => none
  else none
def calls (fs : List Df) (g : Str → Option D) : Nat → List CS
  | 0 => []
  | n + 1 => runD fs g (calls fs g n) :: calls fs g n
/-- a call with n levels beneath it -/
def callD (fs : List Df) (g : Str → Option D) (n : Nat) : CS := runD fs g (calls fs g n)
end Dz

namespace Dz
example (el : List E) (g : PySem.Str → Option D) (C : List CS) (ρ : Env) (st : Sto) : ev (.tup el) g C ρ st = (evs el g C ρ st).bind fun r => if r.1.length ≤ PySem.sizeLine then some (.tup r.1, r.2) else none := rfl
example (c : T) (a b : List S) (g : PySem.Str → Option D) (C : List CS) (ρ : Env) (st : Sto) : ex (.ife c a b) g C ρ st = (evT c g C ρ st).bind fun r => if r.1 then exs a g C ρ r.2 else exs b g C ρ r.2 := rfl
end Dz
end
section
set_option Elab.async false
set_option linter.all false
set_option maxRecDepth 100000
namespace Dz
open PySem L2
/-! ### two lists place by place -/
def P2 {α β : Type} (R : α → β → Prop) (as : List α) (bs : List β) : Prop := as.length = bs.length ∧ ∀ (i : Nat) (a : α) (b : β), as[i]? = some a → bs[i]? = some b → R a b
section
variable {α β : Type} {R R' : α → β → Prop} {as as' : List α} {bs bs' : List β} {a : α} {b : β}
theorem P2.nil : P2 R [] [] := ⟨rfl, fun i a b h => by simp at h⟩
theorem P2.cons (h : R a b) (t : P2 R as bs) : P2 R (a :: as) (b :: bs) := ⟨by simp [t.1], fun i x y hx hy => by
  cases i with
  | zero => simp at hx hy; subst hx hy; exact h
  | succ i => simp at hx hy; exact t.2 i x y hx hy⟩
theorem P2.uncons (h : P2 R (a :: as) (b :: bs)) : R a b ∧ P2 R as bs := ⟨h.2 0 a b rfl rfl, by simpa using h.1, fun i x y hx hy => h.2 (i + 1) x y (by simpa using hx) (by simpa using hy)⟩
theorem P2.nil_l (h : P2 R [] bs) : bs = [] := by have := h.1; simp at this; exact List.eq_nil_of_length_eq_zero this.symm
theorem P2.cons_l (h : P2 R (a :: as) bs) : ∃ b bs', bs = b :: bs' ∧ R a b ∧ P2 R as bs' := by
  cases bs with
  | nil => have := h.1; simp at this
  | cons b bs => exact ⟨b, bs, rfl, h.uncons⟩
theorem P2.get (h : P2 R as bs) {i : Nat} (e : as[i]? = some a) : ∃ b, bs[i]? = some b ∧ R a b := by
  obtain ⟨hi, _⟩ := List.getElem?_eq_some_iff.mp e
  have hj : i < bs.length := by rw [← h.1]; exact hi
  exact ⟨bs[i], List.getElem?_eq_getElem hj, h.2 i a _ e (List.getElem?_eq_getElem hj)⟩
theorem P2.get' (h : P2 R as bs) {i : Nat} (e : bs[i]? = some b) : ∃ a, as[i]? = some a ∧ R a b := by
  obtain ⟨hi, _⟩ := List.getElem?_eq_some_iff.mp e
  have hj : i < as.length := by rw [h.1]; exact hi
  exact ⟨as[i], List.getElem?_eq_getElem hj, h.2 i _ b (List.getElem?_eq_getElem hj) e⟩
theorem P2.mono (h : P2 R as bs) (f : ∀ a b, R a b → R' a b) : P2 R' as bs := ⟨h.1, fun i a b x y => f a b (h.2 i a b x y)⟩
theorem P2.append (h : P2 R as bs) (h' : P2 R as' bs') : P2 R (as ++ as') (bs ++ bs') := ⟨by simp [h.1, h'.1], fun i a b x y => by
  by_cases hi : i < as.length
  · rw [List.getElem?_append_left hi] at x
    rw [List.getElem?_append_left (by rw [← h.1]; exact hi)] at y
    exact h.2 i a b x y
  · rw [List.getElem?_append_right (by omega)] at x
    rw [List.getElem?_append_right (by rw [← h.1]; omega), ← h.1] at y
    exact h'.2 _ a b x y⟩
theorem P2.one (h : R a b) : P2 R [a] [b] := P2.cons h P2.nil
theorem P2.take (h : P2 R as bs) (n : Nat) : P2 R (as.take n) (bs.take n) := ⟨by simp [h.1], fun i a b x y => by
  simp only [List.getElem?_take] at x y
  split at x
  · rename_i q
    rw [if_pos q] at y
    exact h.2 i a b x y
  · cases x⟩
theorem P2.drop (h : P2 R as bs) (n : Nat) : P2 R (as.drop n) (bs.drop n) := ⟨by simp [h.1], fun i a b x y => by
  simp only [List.getElem?_drop] at x y
  exact h.2 _ a b x y⟩
theorem P2.set (h : P2 R as bs) (r : R a b) (n : Nat) : P2 R (as.set n a) (bs.set n b) := ⟨by simp [h.1], fun i x y hx hy => by
  rw [List.getElem?_set] at hx hy
  rw [h.1] at hx
  split at hx
  · rename_i q
    rw [if_pos q] at hy
    split at hx
    · rename_i q2
      rw [if_pos q2] at hy
      cases hx; cases hy; exact r
    · cases hx
  · rename_i q
    rw [if_neg q] at hy
    exact h.2 i x y hx hy⟩
theorem P2.dropLast (h : P2 R as bs) : P2 R as.dropLast bs.dropLast := by rw [List.dropLast_eq_take, List.dropLast_eq_take, h.1]; exact h.take _
theorem P2.reverse : ∀ {as : List α} {bs : List β}, P2 R as bs → P2 R as.reverse bs.reverse
  | [], bs, h => by rw [h.nil_l]; exact P2.nil
  | a :: as, bs, h => by
    obtain ⟨b, bs', rfl, r, t⟩ := h.cons_l
    rw [List.reverse_cons, List.reverse_cons]
    exact (P2.reverse t).append (P2.one r)
theorem P2.rep (h : P2 R as bs) : ∀ n : Nat, P2 R (List.replicate n as).flatten (List.replicate n bs).flatten
  | 0 => P2.nil
  | n + 1 => by
    rw [List.replicate_succ, List.replicate_succ, List.flatten_cons, List.flatten_cons]
    exact h.append (P2.rep h n)
theorem P2.isEmpty (h : P2 R as bs) : as.isEmpty = bs.isEmpty := by
  cases as with
  | nil => have e := h.nil_l; subst e; rfl
  | cons a as => obtain ⟨b, bs', rfl, _⟩ := h.cons_l; rfl
theorem P2.atI (h : P2 R as bs) {i : Int} (e : atI as i = some a) : ∃ b, L2.atI bs i = some b ∧ R a b := by
  unfold L2.atI at e ⊢
  rw [← h.1]
  cases q : ixN as.length i with
  | none => rw [q] at e; cases e
  | some j => rw [q] at e; exact h.get e
theorem P2.ne (h : P2 R as bs) : as ≠ [] → bs ≠ [] := fun n e => n (by subst e; have := h.1; exact List.eq_nil_of_length_eq_zero (by simpa using this))
end

/-! ### what a value is in the heap -/
/-- a list that nobody writes -/
def SqF (K : PySem.W.Frag) (H : Hp) (a : Addr) (xs : List V) : Prop :=
  (∃ o, H a = some (.frz o (.lst xs))) ∨
    ∃ (o : Obj) (its : Array Value) (n : Nat), K.lookup a = some o ∧ o.cls = .type "list" ∧ o.dict = none ∧ o.data = .seq its n ∧ its.size ≤ sizeLine ∧ Vals xs its.toList
theorem SqF.l {K : PySem.W.Frag} {H : Hp} {a : Addr} {xs : List V} (h : SqF K H a xs) : SqL K H a xs := by
  rcases h with ⟨o, h⟩ | h
  · exact .inl (.inr ⟨o, h⟩)
  · exact .inr h
mutual
def RV (K : PySem.W.Frag) (H : Hp) (m : List Addr) : D → V → Prop
  | .non, v => v = .non
  | .bl b, v => v = .bl b
  | .int i, v => v = .int i
  | .str x, v => v = .str x
  | .tup ds, v => ∃ a xs, v = .ref a ∧ SqT K H a xs ∧ RVs K H m ds xs
  | .fz ds, v => ∃ a xs, v = .ref a ∧ SqF K H a xs ∧ RVs K H m ds xs
  | .ref k, v => ∃ a, v = .ref a ∧ m[k]? = some a
def RVs (K : PySem.W.Frag) (H : Hp) (m : List Addr) : List D → List V → Prop
  | [], xs => xs = []
  | d :: ds, xs => ∃ v vs, xs = v :: vs ∧ RV K H m d v ∧ RVs K H m ds vs
end
section
variable {K : PySem.W.Frag} {H H' : Hp} {m m' : List Addr}
theorem RVs.p2 : ∀ {ds : List D} {xs : List V}, RVs K H m ds xs → P2 (RV K H m) ds xs
  | [], xs, h => by have e : xs = [] := h; subst e; exact P2.nil
  | d :: ds, xs, h => by
    obtain ⟨v, vs, rfl, r, t⟩ := h
    exact P2.cons r (RVs.p2 t)
theorem P2.rvs : ∀ {ds : List D} {xs : List V}, P2 (RV K H m) ds xs → RVs K H m ds xs
  | [], xs, h => h.nil_l
  | d :: ds, xs, h => by
    obtain ⟨v, vs, rfl, r, t⟩ := h.cons_l
    exact ⟨v, vs, rfl, r, P2.rvs t⟩
mutual
theorem RV.ext (ht : ∀ a xs, SqT K H a xs → SqT K H' a xs) (hf : ∀ a xs, SqF K H a xs → SqF K H' a xs) (hm : ∀ (k : Nat) (a : Addr), m[k]? = some a → m'[k]? = some a) : ∀ (d : D) {v : V}, RV K H m d v → RV K H' m' d v
  | .non, _, h => h
  | .bl _, _, h => h
  | .int _, _, h => h
  | .str _, _, h => h
  | .tup ds, _, h => by
    obtain ⟨a, xs, e, s, r⟩ := h
    exact ⟨a, xs, e, ht a xs s, RVs.ext ht hf hm ds r⟩
  | .fz ds, _, h => by
    obtain ⟨a, xs, e, s, r⟩ := h
    exact ⟨a, xs, e, hf a xs s, RVs.ext ht hf hm ds r⟩
  | .ref k, _, h => by
    obtain ⟨a, e, q⟩ := h
    exact ⟨a, e, hm k a q⟩
theorem RVs.ext (ht : ∀ a xs, SqT K H a xs → SqT K H' a xs) (hf : ∀ a xs, SqF K H a xs → SqF K H' a xs) (hm : ∀ (k : Nat) (a : Addr), m[k]? = some a → m'[k]? = some a) : ∀ (ds : List D) {xs : List V}, RVs K H m ds xs → RVs K H' m' ds xs
  | [], _, h => h
  | d :: ds, _, h => by
    obtain ⟨v, vs, e, r, t⟩ := h
    exact ⟨v, vs, e, RV.ext ht hf hm d r, RVs.ext ht hf hm ds t⟩
end
end
/-- not a code object's table -/
def NoTbl : HO → Prop
  | .tbl _ => False
  | _ => True
/-- what an evaluation may do to the heap and the names of its objects -/
structure Ext (m : List Addr) (H : Hp) (m' : List Addr) (H' : Hp) : Prop where
  new : ∃ n, m' = m ++ n ∧ ∀ b ∈ n, H b = none
  keep : ∀ b u, H b = some u → b ∉ m → NoTbl u → H' b = some u
  stay : ∀ b, H b ≠ none → H' b ≠ none
section
variable {K : PySem.W.Frag} {H H' H'' : Hp} {m m' m'' : List Addr}
theorem Ext.refl : Ext m H m H := ⟨⟨[], by simp, fun b hb => by simp at hb⟩, fun _ _ e _ _ => e, fun _ e => e⟩
theorem Ext.trans (x : Ext m H m' H') (y : Ext m' H' m'' H'') : Ext m H m'' H'' := by
  obtain ⟨n, rfl, hn⟩ := x.new
  obtain ⟨n', rfl, hn'⟩ := y.new
  refine ⟨⟨n ++ n', by simp, fun b hb => ?_⟩, fun b u e h1 h2 => ?_, fun b e => y.stay b (x.stay b e)⟩
  · rcases List.mem_append.mp hb with h | h
    · exact hn b h
    · cases q : H b with
      | none => rfl
      | some u => exact absurd (hn' b h) (x.stay b (by rw [q]; simp))
  · refine y.keep b u (x.keep b u e h1 h2) (fun h => ?_) h2
    rcases List.mem_append.mp h with h | h
    · exact h1 h
    · rw [hn b h] at e; cases e
theorem Ext.names (x : Ext m H m' H') : ∀ (k : Nat) (a : Addr), m[k]? = some a → m'[k]? = some a := fun k a e => by
  obtain ⟨n, rfl, _⟩ := x.new
  obtain ⟨hi, _⟩ := List.getElem?_eq_some_iff.mp e
  rw [List.getElem?_append_left hi]; exact e
end

/-! ### the store -/
theorem nodup_at {α : Type} : ∀ {l : List α}, l.Nodup → ∀ {i j : Nat} (hi : i < l.length) (hj : j < l.length), l[i] = l[j] → i = j
  | [], _, i, j, hi, _, _ => by simp at hi
  | a :: l, h, 0, 0, _, _, _ => rfl
  | a :: l, h, 0, j + 1, _, hj, e => by
    simp at e
    exact absurd (e ▸ List.getElem_mem _) (List.nodup_cons.mp h).1
  | a :: l, h, i + 1, 0, hi, _, e => by
    simp at e
    exact absurd (e.symm ▸ List.getElem_mem _) (List.nodup_cons.mp h).1
  | a :: l, h, i + 1, j + 1, hi, hj, e => by
    simp at e hi hj
    rw [nodup_at (List.nodup_cons.mp h).2 hi hj e]
def RO (K : PySem.W.Frag) (H : Hp) (m : List Addr) (a : Addr) : O → Prop
  | .lst ds => ∃ xs, H a = some (.lst xs) ∧ P2 (RV K H m) ds xs
  | .dic _ => False
  | .ins _ _ => False
structure Rp (K : PySem.W.Frag) (Tb : List Addr) (H : Hp) (m : List Addr) (st : Sto) : Prop where
  len : m.length = st.length
  nd : m.Nodup
  obj : ∀ (k : Nat) (a : Addr) (o : O), m[k]? = some a → st[k]? = some o → RO K H m a o
  tab : ∀ P ∈ Tb, GxR.TabG H P
theorem upd_some {H : Hp} {p b : Addr} {u : HO} (e : H b ≠ none) : upd H p u b ≠ none := by
  unfold upd
  split
  · simp
  · exact e
section
variable {K : PySem.W.Frag} {Tb : List Addr} {H H' : Hp} {m m' : List Addr} {st st' : Sto}
theorem Rp.at (x : Rp K Tb H m st) {k : Nat} {o : O} (e : st[k]? = some o) : ∃ a, m[k]? = some a ∧ RO K H m a o := by
  obtain ⟨hi, _⟩ := List.getElem?_eq_some_iff.mp e
  have hj : k < m.length := by rw [x.len]; exact hi
  exact ⟨m[k], List.getElem?_eq_getElem hj, x.obj k _ o (List.getElem?_eq_getElem hj) e⟩
theorem Rp.mem (x : Rp K Tb H m st) {b : Addr} (h : b ∈ m) : ∃ (k : Nat) (o : O), m[k]? = some b ∧ st[k]? = some o ∧ RO K H m b o := by
  obtain ⟨k, hk, e⟩ := List.mem_iff_getElem.mp h
  have hj : k < st.length := by rw [← x.len]; exact hk
  have e1 : m[k]? = some b := by rw [List.getElem?_eq_getElem hk, e]
  exact ⟨k, st[k], e1, List.getElem?_eq_getElem hj, x.obj k b _ e1 (List.getElem?_eq_getElem hj)⟩
theorem Rp.some_of (x : Rp K Tb H m st) {b : Addr} (h : b ∈ m) : ∃ xs, H b = some (.lst xs) := by
  obtain ⟨k, o, _, _, r⟩ := x.mem h
  cases o with
  | lst ds => obtain ⟨ys, q, _⟩ := r; exact ⟨ys, q⟩
  | dic _ => exact r.elim
  | ins _ _ => exact r.elim
theorem Rp.fresh (x : Rp K Tb H m st) {p : Addr} (hp : H p = none) : p ∉ m := fun h => by
  obtain ⟨xs, e⟩ := x.some_of h
  rw [hp] at e; cases e
theorem Rp.sqT (x : Rp K Tb H m st) (y : Ext m H m' H') : ∀ a xs, SqT K H a xs → SqT K H' a xs := fun a xs h => by
  rcases h with h | h
  · have hn : a ∉ m := fun z => by
      obtain ⟨ys, e⟩ := x.some_of z
      rcases h with h | ⟨o, h⟩
      · rw [e] at h; cases h
      · rw [e] at h; cases h
    rcases h with h | ⟨o, h⟩
    · exact .inl (.inl (y.keep a _ h hn trivial))
    · exact .inl (.inr ⟨o, y.keep a _ h hn trivial⟩)
  · exact .inr h
theorem Rp.sqF (x : Rp K Tb H m st) (y : Ext m H m' H') : ∀ a xs, SqF K H a xs → SqF K H' a xs := fun a xs h => by
  rcases h with ⟨o, h⟩ | h
  · have hn : a ∉ m := fun z => by
      obtain ⟨ys, e⟩ := x.some_of z
      rw [e] at h; cases h
    exact .inl ⟨o, y.keep a _ h hn trivial⟩
  · exact .inr h
theorem Rp.rv (x : Rp K Tb H m st) (y : Ext m H m' H') {d : D} {v : V} (h : RV K H m d v) : RV K H' m' d v := RV.ext (x.sqT y) (x.sqF y) y.names d h
theorem Rp.rvs (x : Rp K Tb H m st) (y : Ext m H m' H') {ds : List D} {vs : List V} (h : P2 (RV K H m) ds vs) : P2 (RV K H' m') ds vs := h.mono fun _ _ r => x.rv y r
theorem Rp.lst (x : Rp K Tb H m st) {k : Nat} {ds : List D} (e : lstOf st k = some ds) : ∃ a xs, m[k]? = some a ∧ H a = some (.lst xs) ∧ P2 (RV K H m) ds xs ∧ st[k]? = some (.lst ds) := by
  unfold lstOf at e
  cases q : st[k]? with
  | none => rw [q] at e; cases e
  | some o =>
    rw [q] at e
    cases o with
    | lst ds' =>
      cases e
      obtain ⟨a, e1, xs, e2, r⟩ := x.at q
      exact ⟨a, xs, e1, e2, r, rfl⟩
    | dic _ => cases e
    | ins _ _ => cases e
theorem RO.carry (x : Rp K Tb H m st) (y : Ext m H m' H') {a : Addr} {o : O} (h : RO K H m a o) (e : H' a = H a) : RO K H' m' a o := by
  cases o with
  | lst ds =>
    obtain ⟨ys, q1, q2⟩ := h
    exact ⟨ys, by rw [e]; exact q1, x.rvs y q2⟩
  | dic _ => exact h.elim
  | ins _ _ => exact h.elim
theorem ext_laid {u : HO} {p : Addr} (hp : H p = none) : Ext m H m (upd H p u) :=
  ⟨⟨[], by simp, fun b hb => by simp at hb⟩, fun b w e _ _ => by rw [upd_ne (ne_of_none e hp)]; exact e, fun b e => upd_some e⟩
theorem ext_new {u : HO} {p : Addr} (hp : H p = none) : Ext m H (m ++ [p]) (upd H p u) :=
  ⟨⟨[p], rfl, fun b hb => by simp at hb; subst hb; exact hp⟩, fun b w e _ _ => by rw [upd_ne (ne_of_none e hp)]; exact e, fun b e => upd_some e⟩
theorem ext_put {u : HO} {p : Addr} (hp : p ∈ m) : Ext m H m (upd H p u) :=
  ⟨⟨[], by simp, fun b hb => by simp at hb⟩, fun b w _ h1 _ => by rw [upd_ne (fun z => h1 (by rw [z]; exact hp))]; assumption, fun b e => upd_some e⟩
theorem tab_upd {u : HO} {p : Addr} (hp : ∀ ps, H p ≠ some (.tbl ps)) {P : Addr} (h : GxR.TabG H P) : GxR.TabG (upd H p u) P := by
  obtain ⟨ps, e, t⟩ := h
  exact ⟨ps, by rw [upd_ne (fun z => by subst z; exact hp ps e)]; exact e, t⟩
/-- the heap may be grown by what is no object of the store -/
theorem Rp.laid (x : Rp K Tb H m st) {p : Addr} {u : HO} (hp : H p = none) : Rp K Tb (upd H p u) m st :=
  ⟨x.len, x.nd, fun k a o e1 e2 => (x.obj k a o e1 e2).carry x (ext_laid hp) (upd_ne fun z => x.fresh hp (z ▸ List.mem_of_getElem? e1)), fun P hP => tab_upd (fun ps z => by rw [hp] at z; cases z) (x.tab P hP)⟩
/-- a new object at p -/
theorem Rp.new (x : Rp K Tb H m st) {p : Addr} {ds : List D} {xs : List V} (hp : H p = none) (r : P2 (RV K H m) ds xs) : Rp K Tb (upd H p (.lst xs)) (m ++ [p]) (st ++ [.lst ds]) := by
  have hm := x.fresh hp
  refine ⟨by simp [x.len], ?_, fun k a o e1 e2 => ?_, fun P hP => tab_upd (fun ps z => by rw [hp] at z; cases z) (x.tab P hP)⟩
  · rw [List.nodup_append]
    refine ⟨x.nd, by simp, fun a ha b hb => ?_⟩
    simp at hb
    subst hb
    exact fun e => hm (e ▸ ha)
  · by_cases hk : k < m.length
    · rw [List.getElem?_append_left hk] at e1
      rw [List.getElem?_append_left (by rw [← x.len]; exact hk)] at e2
      exact (x.obj k a o e1 e2).carry x (ext_new hp) (upd_ne fun z => hm (z ▸ List.mem_of_getElem? e1))
    · rw [List.getElem?_append_right (by omega)] at e1
      rw [List.getElem?_append_right (by rw [← x.len]; omega), ← x.len] at e2
      cases hz : k - m.length with
      | zero =>
        rw [hz] at e1 e2
        simp at e1 e2
        subst e1 e2
        exact ⟨xs, upd_same, x.rvs (ext_new hp) r⟩
      | succ z => rw [hz] at e1; simp at e1
/-- a list is changed -/
theorem Rp.put (x : Rp K Tb H m st) {k : Nat} {a : Addr} {ds ds' : List D} {xs : List V} (hk : m[k]? = some a) (hs : st[k]? = some (.lst ds)) (r : P2 (RV K H m) ds' xs) :
    Rp K Tb (upd H a (.lst xs)) m (st.set k (.lst ds')) := by
  have hm := List.mem_of_getElem? hk
  obtain ⟨ys, ha⟩ := x.some_of hm
  refine ⟨by simp [x.len], x.nd, fun j b o e1 e2 => ?_, fun P hP => tab_upd (fun ps z => by rw [ha] at z; cases z) (x.tab P hP)⟩
  by_cases hj : j = k
  · subst hj
    rw [hk] at e1; cases e1
    obtain ⟨hi, _⟩ := List.getElem?_eq_some_iff.mp hs
    rw [List.getElem?_set_self hi] at e2
    cases e2
    exact ⟨xs, upd_same, x.rvs (ext_put hm) r⟩
  · rw [List.getElem?_set_ne (fun z => hj z.symm)] at e2
    refine (x.obj j b o e1 e2).carry x (ext_put hm) (upd_ne fun z => ?_)
    subst z
    obtain ⟨h1, e3⟩ := List.getElem?_eq_some_iff.mp e1
    obtain ⟨h2, e4⟩ := List.getElem?_eq_some_iff.mp hk
    exact hj (nodup_at x.nd h1 h2 (e3.trans e4.symm))
end
/-- the slots -/
structure RE (K : PySem.W.Frag) (H : Hp) (m : List Addr) (ρ : Env) (σ : L2.St) : Prop where
  len : ρ.length = σ.length
  at_ : ∀ (i : Nat) (d : D), ρ[i]? = some (some d) → ∃ v, σ[i]? = some (some v) ∧ RV K H m d v
section
variable {K : PySem.W.Frag} {Tb : List Addr} {H H' : Hp} {m m' : List Addr} {st : Sto} {ρ : Env} {σ : L2.St}
theorem RE.ext (h : RE K H m ρ σ) (x : Rp K Tb H m st) (y : Ext m H m' H') : RE K H' m' ρ σ := ⟨h.len, fun i d e => by
  obtain ⟨v, e1, r⟩ := h.at_ i d e
  exact ⟨v, e1, x.rv y r⟩⟩
theorem RE.set (h : RE K H m ρ σ) {d : D} {v : V} (r : RV K H m d v) (i : Nat) : RE K H m (ρ.set i (some d)) (σ.set i (some v)) := ⟨by simp [h.len], fun j e q => by
  rw [List.getElem?_set] at q
  by_cases hj : i = j
  · subst hj
    rw [if_pos rfl] at q
    split at q
    · rename_i hi
      cases q
      exact ⟨v, by rw [List.getElem?_set_self (by rw [← h.len]; exact hi)], r⟩
    · cases q
  · rw [if_neg hj] at q
    obtain ⟨w, e1, r1⟩ := h.at_ j e q
    exact ⟨w, by rw [List.getElem?_set_ne hj]; exact e1, r1⟩⟩
theorem RE.unset (h : RE K H m ρ σ) (i : Nat) : RE K H m (ρ.set i none) (σ.set i none) := ⟨by simp [h.len], fun j e q => by
  rw [List.getElem?_set] at q
  by_cases hj : i = j
  · subst hj
    rw [if_pos rfl] at q
    split at q
    · cases q
    · cases q
  · rw [if_neg hj] at q
    obtain ⟨w, e1, r1⟩ := h.at_ j e q
    exact ⟨w, by rw [List.getElem?_set_ne hj]; exact e1, r1⟩⟩
theorem RE.wipe (h : RE K H m ρ σ) : ∀ vs : List Nat, RE K H m (wipeD ρ vs) (L2.wipe σ vs)
  | [] => h
  | v :: vs => (RE.wipe h vs).unset v
end
end Dz
end
section
set_option Elab.async false
set_option linter.all false
set_option maxRecDepth 100000
set_option maxHeartbeats 1000000
namespace Dz
open PySem L2
section
open PySem.Spec PyProof.Rows
open AutoSeq1 (wpAny_loadPart')
theorem tuple_mulE (l : Addr) (n : Nat) (dd : Option Addr) (sl : Array (Option Value)) (x : Int) (u : Tok) (c0 : (decide (x < -(2 ^ 63)) || decide (x ≥ 2 ^ 63)) = false) :
    Meets (Builtin.«tuple.__mul__» ⟨[.ref l, .int x u], []⟩) (fun _ R s => s.heap.get? l = some { cls := .type "tuple", dict := dd, data := .seq #[] n, slots := sl } ∧
      R (.ok (.ret (Value.ref l))) s) :=
  .of_wp fun prog w A R s h => by
    obtain ⟨hp, g, d, tk, os⟩ := s
    obtain ⟨hl, h⟩ := h
    have f1 := AutoSeq1.idx_int
    wp_walk using wpAny_loadPart' hl
    repeat (first
      | (refine wpAny_ite_false (decide_eq_false (by rw [c0]; exact Bool.false_ne_true)) ?_; wp_walk using wpAny_loadPart' hl)
      | (refine wpAny_ite_true (decide_eq_true (by rfl)) ?_; wp_walk using wpAny_loadPart' hl))
    exact ⟨_, rfl, h⟩
theorem op_rep0 {X : Cx} : OpR X (binaryOp .Mult) (fun x y H Q => ∃ l k, x = .ref l ∧ y = .int k ∧ SqT X.K H l [] ∧ (-(2 ^ 63) ≤ k ∧ k < 2 ^ 63) ∧ Q (.ref l) H) := by
  intro pins s σ H x y v u Q I rx ry h
  obtain ⟨l, k, rfl, rfl, hT, hk, q⟩ := h
  cases rx
  obtain ⟨t, rfl⟩ := ry
  obtain ⟨its, r, ⟨⟨cls, dd, data, sl⟩, ho, hc, n, hd⟩, hs⟩ := I.tuple hT
  simp only at hc hd
  subst hc hd
  cases r
  have c0 : (decide (k < -(2 ^ 63)) || decide (k ≥ 2 ^ 63)) = false := by
    rw [decide_eq_false (by omega), decide_eq_false (by omega)] <;> rfl
  exact wpAny_binaryOp_repeat_ref (T := "tuple") (U := "int") (by decide) ⟨_, ho, rfl⟩ (fun s' => typeIs_int s' k t) noFill_tuple_mul F.fills_int_mul F.slot_int_rmul repeat_tuple F.slot_int_index.lookup
    (call_meets F.slot_int_rmul (typeIs_int s k t) F.entry_int_rmul (F.args_int_rmul_2 _ _) (int_rmul_tuple k t l #[] n dd sl)
      ⟨ho, rfl, ⟨_, ho, rfl⟩, call_meets F.slot_tuple_mul ⟨_, ho, rfl⟩ F.entry_tuple_mul (F.args_tuple_mul_2 _ _) (tuple_mulE l n dd sl k t c0) ⟨ho, ⟨.ref l, H, I, rfl, q⟩⟩⟩)
end
/-- what follows an evaluation to d, the store st' -/
def Aft (K : PySem.W.Frag) (Tb : List Addr) (m : List Addr) (H : Hp) (d : D) (st' : Sto) (Q : VK) : Prop :=
  ∀ v H' m', Ext m H m' H' → Rp K Tb H' m' st' → RV K H' m' d v → Q v H'
section
variable {K : PySem.W.Frag} {Tb : List Addr} {H H' : Hp} {m m' : List Addr} {st st' : Sto} {d : D} {Q : VK} {v : V}
theorem Aft.here (h : Aft K Tb m H d st Q) (x : Rp K Tb H m st) (r : RV K H m d v) : Q v H := h v H m Ext.refl x r
theorem Aft.later (h : Aft K Tb m H d st' Q) (y : Ext m H m' H') : Aft K Tb m' H' d st' Q := fun v H2 m2 e x r => h v H2 m2 (y.trans e) x r
/-- a new tuple -/
theorem Aft.tup {ds : List D} {xs : List V} (h : Aft K Tb m H (.tup ds) st Q) (x : Rp K Tb H m st) (r : P2 (RV K H m) ds xs) : ∀ p, H p = none → Q (.ref p) (upd H p (.tup xs)) := fun p hp =>
  h _ _ m (ext_laid hp) (x.laid hp) ⟨p, xs, rfl, SqT.of upd_same, (x.rvs (ext_laid hp) r).rvs⟩
/-- a new list -/
theorem Aft.new {ds : List D} {xs : List V} (h : Aft K Tb m H (.ref st.length) (st ++ [.lst ds]) Q) (x : Rp K Tb H m st) (r : P2 (RV K H m) ds xs) : ∀ p, H p = none → Q (.ref p) (upd H p (.lst xs)) := fun p hp =>
  h _ _ (m ++ [p]) (ext_new hp) (x.new hp r) ⟨p, rfl, by rw [← x.len]; simp⟩
end
/-! ### operators by values -/
def rD2 (K : PySem.W.Frag) (Tb : List Addr) (f : D → D → Sto → Option (D × Sto)) : R2 := fun x y H Q => ∃ m st dx dy d st', Rp K Tb H m st ∧ RV K H m dx x ∧ RV K H m dy y ∧ f dx dy st = some (d, st') ∧ Aft K Tb m H d st' Q
def bop : Bop → Operator
  | .add => .Add
  | .sub => .Sub
  | .mul => .Mult
  | .fdiv => .FloorDiv
  | .mod => .Mod
  | .pow => .Pow
theorem small_iff {i : Int} (h : small i = true) : -(2 ^ 64) < i ∧ i < 2 ^ 64 := by
  unfold small at h
  rw [Bool.and_eq_true] at h
  exact ⟨of_decide_eq_true h.1, of_decide_eq_true h.2⟩
section
variable {X : Cx} {Tb : List Addr}
theorem op_bin (o : Bop) : OpR X (binaryOp (bop o)) (rD2 X.K Tb (binD o)) := by
  intro pins s σ H x y v u Q I rx ry h
  obtain ⟨m, st, dx, dy, d, st', R, vx, vy, e, q⟩ := h
  unfold binD at e
  split at e
  · cases e; cases vx; cases vy
    exact op_add pins s σ H _ _ v u Q I rx ry ⟨_, _, rfl, rfl, q.here R rfl⟩
  · split at e
    · rename_i hz
      cases e; cases vx; cases vy
      exact op_add_str pins s σ H _ _ v u Q I rx ry ⟨_, _, rfl, rfl, hz, q.here R rfl⟩
    · cases e
  · split at e
    · rename_i a b hz
      cases e
      obtain ⟨p, xs, rfl, h1, r1⟩ := vx
      obtain ⟨p2, ys, rfl, h2, r2⟩ := vy
      have r1 := r1.p2
      have r2 := r2.p2
      refine op_catA pins s σ H _ _ v u Q I rx ry ⟨p, p2, xs, ys, rfl, rfl, h1, h2, by rw [← r1.1, ← r2.1]; exact hz, fun e => ?_, fun _ e => ?_, fun _ _ => q.tup R (r1.append r2)⟩
      · subst e
        have : a = [] := List.eq_nil_of_length_eq_zero r1.1
        subst this
        exact q.here R ⟨p2, ys, rfl, h2, r2.rvs⟩
      · subst e
        have : b = [] := List.eq_nil_of_length_eq_zero r2.1
        subst this
        rw [List.append_nil] at q
        exact q.here R ⟨p, xs, rfl, h1, r1.rvs⟩
    · cases e
  · rename_i k j
    cases e1 : lstOf st k with
    | none => rw [e1] at e; cases e
    | some a =>
      cases e2 : lstOf st j with
      | none => rw [e1, e2] at e; cases e
      | some b =>
        rw [e1, e2] at e
        simp only [Option.bind_some] at e
        split at e
        · rename_i hz
          cases e
          obtain ⟨p, rfl, hp⟩ := vx
          obtain ⟨p2, rfl, hp2⟩ := vy
          obtain ⟨p', xs, hp', h1, r1, _⟩ := R.lst e1
          obtain ⟨p2', ys, hp2', h2, r2, _⟩ := R.lst e2
          rw [hp] at hp'; cases hp'
          rw [hp2] at hp2'; cases hp2'
          exact op_cat pins s σ H _ _ v u Q I rx ry ⟨p, p2, xs, ys, rfl, rfl, h1, h2, by rw [← r1.1, ← r2.1]; exact hz, q.new R (r1.append r2)⟩
        · cases e
  · cases e; cases vx; cases vy
    exact op_sub pins s σ H _ _ v u Q I rx ry ⟨_, _, rfl, rfl, q.here R rfl⟩
  · split at e
    · rename_i hz
      cases e; cases vx; cases vy
      refine op_mul pins s σ H _ _ v u Q I rx ry ⟨_, _, rfl, rfl, ?_, q.here R rfl⟩
      rw [Bool.or_eq_true] at hz
      exact hz.imp small_iff small_iff
    · cases e
  · rename_i k j
    cases e1 : lstOf st k with
    | none => rw [e1] at e; cases e
    | some a =>
      rw [e1] at e
      simp only [Option.bind_some] at e
      split at e
      · rename_i hz
        cases e
        obtain ⟨p, rfl, hp⟩ := vx
        cases vy
        obtain ⟨p', xs, hp', h1, r1, _⟩ := R.lst e1
        rw [hp] at hp'; cases hp'
        exact op_rep pins s σ H _ _ v u Q I rx ry ⟨p, j, xs, rfl, rfl, h1, hz.2.1, hz.2.2, by rw [← r1.1]; exact hz.1, q.new R (r1.rep _)⟩
      · cases e
  · rename_i a j
    obtain ⟨p, xs, rfl, h1, r1⟩ := vx
    have r1 := r1.p2
    cases vy
    split at e
    · rename_i he
      have he : a = [] := List.isEmpty_iff.mp he
      subst he
      have hx := r1.nil_l
      subst hx
      split at e
      · rename_i hz
        cases e
        exact op_rep0 pins s σ H _ _ v u Q I rx ry ⟨p, j, rfl, rfl, h1, hz, q.here R ⟨p, [], rfl, h1, rfl⟩⟩
      · cases e
    · rename_i he
      split at e
      · rename_i hz
        cases e
        exact op_repT pins s σ H _ _ v u Q I rx ry ⟨p, j, xs, rfl, rfl, h1, r1.ne (fun z => he (by rw [z]; rfl)), hz.1, hz.2.1, by rw [← r1.1]; exact hz.2.2, q.tup R (r1.rep _)⟩
      · cases e
  · split at e
    · rename_i hz
      cases e; cases vx; cases vy
      exact op_fdivN pins s σ H _ _ v u Q I rx ry ⟨_, _, rfl, rfl, hz, q.here R rfl⟩
    · cases e
  · split at e
    · rename_i hz
      cases e; cases vx; cases vy
      exact op_modN pins s σ H _ _ v u Q I rx ry ⟨_, _, rfl, rfl, hz, q.here R rfl⟩
    · cases e
  · split at e
    · rename_i hz
      cases e; cases vx; cases vy
      exact op_pow pins s σ H _ _ v u Q I rx ry ⟨_, _, rfl, rfl, hz, q.here R rfl⟩
    · cases e
  · cases e
end
/-! ### data -/
section
variable {K : PySem.W.Frag} {Tb : List Addr} {H : Hp} {m : List Addr} {st : Sto}
mutual
theorem toPw_dp {f : Nat → Option PyData} (hf : ∀ k x a, f k = some x → m[k]? = some a → Dp K H (.ref a) x) : ∀ (d : D) {v : V} {x : PyData}, RV K H m d v → toPw f d = some x → Dp K H v x
  | .non, _, _, r, e => by cases r; cases e; exact .non
  | .bl b, _, _, r, e => by cases r; cases e; exact .bl b
  | .int i, _, _, r, e => by cases r; cases e; exact .int i
  | .str z, _, _, r, e => by cases r; cases e; exact .str z
  | .tup ds, _, _, r, e => by
    obtain ⟨a, xs, rfl, h, r⟩ := r
    obtain ⟨ys, e1, rfl⟩ := Option.map_eq_some_iff.mp (show (toPws f ds).map PyData.tuple = some _ from e)
    exact .tup h (toPws_dp hf ds r e1)
  | .fz ds, _, _, r, e => by
    obtain ⟨a, xs, rfl, h, r⟩ := r
    obtain ⟨ys, e1, rfl⟩ := Option.map_eq_some_iff.mp (show (toPws f ds).map PyData.list = some _ from e)
    exact .lst h.l (toPws_dp hf ds r e1)
  | .ref k, _, _, r, e => by
    obtain ⟨a, rfl, h⟩ := r
    exact hf k _ a e h
theorem toPws_dp {f : Nat → Option PyData} (hf : ∀ k x a, f k = some x → m[k]? = some a → Dp K H (.ref a) x) : ∀ (ds : List D) {vs : List V} {xs : List PyData}, RVs K H m ds vs → toPws f ds = some xs → DpAll K H vs xs
  | [], _, _, r, e => by cases r; cases e; exact .nil
  | d :: ds, _, _, r, e => by
    obtain ⟨v, vs, rfl, r1, r2⟩ := r
    have e' : ((toPw f d).bind fun x => (toPws f ds).map fun xs => x :: xs) = some _ := e
    obtain ⟨x, e1, e2⟩ := Option.bind_eq_some_iff.mp e'
    obtain ⟨xs, e3, rfl⟩ := Option.map_eq_some_iff.mp e2
    exact .cons (toPw_dp hf d r1 e1) (toPws_dp hf ds r2 e3)
end
theorem mapM_dp {g : D → Option PyData} (hg : ∀ d v x, RV K H m d v → g d = some x → Dp K H v x) : ∀ {ds : List D} {vs : List V} {xs : List PyData}, P2 (RV K H m) ds vs → ds.mapM g = some xs → DpAll K H vs xs
  | [], vs, xs, r, e => by
    have e1 := r.nil_l
    subst e1
    simp at e
    subst e
    exact .nil
  | d :: ds, vs, xs, r, e => by
    obtain ⟨v, vs', rfl, r1, r2⟩ := r.cons_l
    rw [List.mapM_cons] at e
    obtain ⟨x, e1, e2⟩ := Option.bind_eq_some_iff.mp e
    obtain ⟨ys, e3, e4⟩ := Option.bind_eq_some_iff.mp e2
    cases e4
    exact .cons (hg d v x r1 e1) (mapM_dp hg r2 e3)
theorem toP_dp (R : Rp K Tb H m st) : ∀ (n : Nat) (d : D) (v : V) (x : PyData), RV K H m d v → toP n st d = some x → Dp K H v x
  | 0, d, v, x, r, e => toPw_dp (fun k x a e => by cases e) d r e
  | n + 1, d, v, x, r, e => by
    refine toPw_dp (fun k x a e hk => ?_) d r e
    cases q : st[k]? with
    | none => rw [q] at e; cases e
    | some o =>
      rw [q] at e
      cases o with
      | lst ds =>
        obtain ⟨ys, e1, rfl⟩ := Option.map_eq_some_iff.mp (show (ds.mapM (toP n st)).map PyData.list = some _ from e)
        obtain ⟨xs, h1, r1⟩ := R.obj k a _ hk q
        exact .lst (SqL.of h1) (mapM_dp (fun d v x => toP_dp R n d v x) r1 e1)
      | dic _ => cases e
      | ins _ _ => cases e
theorem eqD_dp (R : Rp K Tb H m st) {dx dy : D} {x y : V} {b : Bool} (rx : RV K H m dx x) (ry : RV K H m dy y) (e : eqD st dx dy = some b) : ∃ p q, Dp K H x p ∧ Dp K H y q ∧ SeqAt.shaped p = true ∧ SeqAt.shaped q = true ∧ PyData.eqv p q = b := by
  unfold eqD at e
  obtain ⟨p, e1, e2⟩ := Option.bind_eq_some_iff.mp e
  obtain ⟨q, e3, e4⟩ := Option.bind_eq_some_iff.mp e2
  split at e4
  · rename_i hs
    rw [Bool.and_eq_true] at hs
    exact ⟨p, q, toP_dp R 3 dx x p rx e1, toP_dp R 3 dy y q ry e3, hs.1, hs.2, Option.some.inj e4⟩
  · cases e4
end
/-! ### comparisons -/
def cop : Cop → CmpOp
  | .eq => .Eq
  | .ne => .NotEq
  | .lt => .Lt
  | .le => .LtE
  | .gt => .Gt
  | .ge => .GtE
  | .is => .Is
  | .isn => .IsNot
  | .inn => .In
  | .nin => .NotIn
def rDC (K : PySem.W.Frag) (Tb : List Addr) (f : D → D → Sto → Option Bool) : R2 := fun x y H Q => ∃ m st dx dy b, Rp K Tb H m st ∧ RV K H m dx x ∧ RV K H m dy y ∧ f dx dy st = some b ∧ Q (.bl b) H
section
variable {X : Cx} {Tb : List Addr} {K : PySem.W.Frag} {H : Hp} {m : List Addr}
theorem isN_iff {d : D} {v : V} (r : RV K H m d v) : isN d = decide (v = .non) := by
  cases d with
  | non => cases r; rfl
  | bl _ => cases r; rfl
  | int _ => cases r; rfl
  | str _ => cases r; rfl
  | tup _ => obtain ⟨a, xs, rfl, _⟩ := r; rfl
  | fz _ => obtain ⟨a, xs, rfl, _⟩ := r; rfl
  | ref _ => obtain ⟨a, rfl, _⟩ := r; rfl
end
end Dz
namespace Dz
open PySem L2
section
variable {K : PySem.W.Frag} {Tb : List Addr} {H : Hp} {m : List Addr} {st : Sto}
theorem inD_dp (R : Rp K Tb H m st) {dx dy : D} {x y : V} {b : Bool} (rx : RV K H m dx x) (ry : RV K H m dy y) (e : inD st dx dy = some b) :
    ∃ p qs, Dp K H x p ∧ SeqAt.shaped p = true ∧ (qs.any fun z => PyData.eqv z p) = b ∧ ((Dp K H y (.list qs) ∧ SeqAt.shaped (.list qs) = true) ∨ (Dp K H y (.tuple qs) ∧ SeqAt.shaped (.tuple qs) = true)) := by
  unfold inD at e
  obtain ⟨p, e1, e2⟩ := Option.bind_eq_some_iff.mp e
  obtain ⟨q, e3, e4⟩ := Option.bind_eq_some_iff.mp e2
  split at e4
  · rename_i hs
    rw [Bool.and_eq_true] at hs
    have d2 := toP_dp R 3 dy y q ry e3
    split at e4
    · exact ⟨p, _, toP_dp R 3 dx x p rx e1, hs.1, Option.some.inj e4, .inl ⟨d2, hs.2⟩⟩
    · exact ⟨p, _, toP_dp R 3 dx x p rx e1, hs.1, Option.some.inj e4, .inr ⟨d2, hs.2⟩⟩
    · cases e4
  · cases e4
end
section
variable {X : Cx} {Tb : List Addr} {k : Nat}
theorem room_in {d : PyData} (h : SeqAt.shaped d = true) (hr : Room k X.A) : X.A.units + 65 < cLine := by have := hr.un; omega
theorem op_inDT (hu : X.A.units + 65 < cLine) {neg : Bool} : OpR X (compareOp (if neg then .NotIn else .In)) (fun x y H Q => ∃ d ds, Dp X.K H x d ∧ Dp X.K H y (.tuple ds) ∧ SeqAt.shaped d = true ∧ SeqAt.shaped (.tuple ds) = true ∧ Q (.bl (if neg then !(ds.any fun z => PyData.eqv z d) else ds.any fun z => PyData.eqv z d)) H) := by
  intro pins s σ H x y v u Q I rx ry h
  obtain ⟨d, ds, hd, he, sd, se, q⟩ := h
  obtain ⟨as, r1⟩ := Dp.reads I d x v hd rx
  obtain ⟨bs, r2⟩ := Dp.reads I (.tuple ds) y u he ry
  cases neg with
  | false => exact SeqAt.in_tuple_reads r2 r1 (SeqAt.canLay_of_shaped se) (SeqAt.canLay_of_shaped sd) (PyProof.Rows.room_in_shaped sd hu) ⟨.bl _, H, I, rfl, q⟩
  | true => exact SeqAt.notIn_tuple_reads r2 r1 (SeqAt.canLay_of_shaped se) (SeqAt.canLay_of_shaped sd) (PyProof.Rows.room_in_shaped sd hu) ⟨.bl _, H, I, rfl, q⟩
theorem op_cmp (hr : Room k X.A) (o : Cop) : OpR X (compareOp (cop o)) (rDC X.K Tb (cmpD o)) := by
  intro pins s σ H x y v u Q I rx ry h
  obtain ⟨m, st, dx, dy, b, R, vx, vy, e, q⟩ := h
  have hu : X.A.units + 65 < cLine := by have := hr.un; omega
  unfold cmpD at e
  split at e
  · obtain ⟨p, p2, h1, h2, s1, s2, rfl⟩ := eqD_dp R vx vy e
    exact op_eqD hr.units pins s σ H _ _ v u Q I rx ry ⟨p, p2, h1, h2, s1, s2, q⟩
  · obtain ⟨b', e', rfl⟩ := Option.map_eq_some_iff.mp e
    obtain ⟨p, p2, h1, h2, s1, s2, rfl⟩ := eqD_dp R vx vy e'
    exact op_neD hr.units pins s σ H _ _ v u Q I rx ry ⟨p, p2, h1, h2, s1, s2, q⟩
  · cases e; cases vx; cases vy
    exact op_lt pins s σ H _ _ v u Q I rx ry ⟨_, _, rfl, rfl, q⟩
  · cases e; cases vx; cases vy
    exact op_le pins s σ H _ _ v u Q I rx ry ⟨_, _, rfl, rfl, q⟩
  · cases e; cases vx; cases vy
    exact op_gt pins s σ H _ _ v u Q I rx ry ⟨_, _, rfl, rfl, q⟩
  · cases e; cases vx; cases vy
    exact op_ge pins s σ H _ _ v u Q I rx ry ⟨_, _, rfl, rfl, q⟩
  · cases e; cases vy
    rw [isN_iff vx] at q
    exact op_isN pins s σ H _ _ v u Q I rx ry ⟨rfl, q⟩
  · cases e; cases vy
    rw [isN_iff vx] at q
    exact op_notN pins s σ H _ _ v u Q I rx ry ⟨rfl, q⟩
  · cases e; cases vx; cases vy
    exact op_isBl pins s σ H _ _ v u Q I rx ry ⟨_, _, rfl, rfl, q⟩
  · cases e; cases vx; cases vy
    exact op_notBl pins s σ H _ _ v u Q I rx ry ⟨_, _, rfl, rfl, q⟩
  · obtain ⟨p, qs, h1, s1, rfl, h2 | h2⟩ := inD_dp R vx vy e
    · exact op_inD hu pins s σ H _ _ v u Q I rx ry ⟨p, qs, h1, h2.1, s1, h2.2, q⟩
    · exact op_inDT (neg := false) hu pins s σ H _ _ v u Q I rx ry ⟨p, qs, h1, h2.1, s1, h2.2, q⟩
  · obtain ⟨b', e', rfl⟩ := Option.map_eq_some_iff.mp e
    obtain ⟨p, qs, h1, s1, rfl, h2 | h2⟩ := inD_dp R vx vy e'
    · exact op_notInD hu pins s σ H _ _ v u Q I rx ry ⟨p, qs, h1, h2.1, s1, h2.2, q⟩
    · exact op_inDT (neg := true) hu pins s σ H _ _ v u Q I rx ry ⟨p, qs, h1, h2.1, s1, h2.2, q⟩
  · cases e
/-! ### truth -/
theorem truD_tru {K : PySem.W.Frag} {H : Hp} {m : List Addr} {st : Sto} (R : Rp K Tb H m st) {d : D} {v : V} {b : Bool} (r : RV K H m d v) (e : truD d st = some b) : TruV K v H b := by
  cases d with
  | non => cases r; cases e; rfl
  | bl _ => cases r; cases e; rfl
  | int _ => cases r; cases e; rfl
  | str _ => cases e
  | tup ds =>
    obtain ⟨a, xs, rfl, h, r⟩ := r
    cases e
    exact .inr (.inl ⟨xs, h, by rw [r.p2.isEmpty]⟩)
  | fz _ => cases e
  | ref k =>
    obtain ⟨a, rfl, h⟩ := r
    obtain ⟨ds, e1, rfl⟩ := Option.map_eq_some_iff.mp (show (lstOf st k).map (fun ds => !ds.isEmpty) = some b from e)
    obtain ⟨a', xs, h', h1, r1, _⟩ := R.lst e1
    rw [h] at h'; cases h'
    exact .inl ⟨xs, SqL.of h1, by rw [r1.isEmpty]⟩
/-! ### items, slices -/
def rDI (K : PySem.W.Frag) (Tb : List Addr) : R2 := fun x y H Q => ∃ m st dx dy d, Rp K Tb H m st ∧ RV K H m dx x ∧ RV K H m dy y ∧ idxD dx dy st = some d ∧ Aft K Tb m H d st Q
theorem ix_D : IxR X (rDI X.K Tb) := by
  intro b1 b2 pins s σ H x y v u Q I rx ry h hp
  refine ix_seq b1 b2 pins s σ H x y v u Q I rx ry ?_ hp
  obtain ⟨m, st, dx, dy, d, R, vx, vy, e, q⟩ := h
  unfold idxD at e
  split at e
  · obtain ⟨a, xs, rfl, h, r⟩ := vx
    cases vy
    obtain ⟨v', e2, r2⟩ := r.p2.atI e
    exact .inr (.inl ⟨a, xs, _, v', rfl, rfl, h, e2, q.here R r2⟩)
  · obtain ⟨a, xs, rfl, h, r⟩ := vx
    cases vy
    obtain ⟨v', e2, r2⟩ := r.p2.atI e
    exact .inl ⟨a, xs, _, v', rfl, rfl, h.l, e2, q.here R r2⟩
  · obtain ⟨a, rfl, h⟩ := vx
    cases vy
    obtain ⟨ds, e1, e2⟩ := Option.bind_eq_some_iff.mp e
    obtain ⟨a', xs, h', h1, r1, _⟩ := R.lst e1
    rw [h] at h'; cases h'
    obtain ⟨v', e3, r2⟩ := r1.atI e2
    exact .inl ⟨a, xs, _, v', rfl, rfl, SqL.of h1, e3, q.here R r2⟩
  · cases e
def rDS (K : PySem.W.Frag) (Tb : List Addr) : V → Option Int → Option Int → Hp → VK → Prop := fun x lo hi H Q => ∃ m st dx d st', Rp K Tb H m st ∧ RV K H m dx x ∧ slcD dx lo hi st = some (d, st') ∧ Aft K Tb m H d st' Q
theorem P2.cut {K : PySem.W.Frag} {H : Hp} {m : List Addr} {ds : List D} {xs : List V} (h : P2 (RV K H m) ds xs) (lo hi : Option Int) : P2 (RV K H m) (cutD ds lo hi) (cutV xs lo hi) := by
  unfold cutD cutV
  rw [← h.1]
  exact (h.drop _).take _
theorem cut_whole {α : Type} {xs : List α} {lo hi : Option Int} (h : HT.sIx xs.length 0 lo = 0 ∧ HT.sIx xs.length xs.length hi = xs.length) : (xs.drop (HT.sIx xs.length 0 lo)).take (HT.sIx xs.length xs.length hi - HT.sIx xs.length 0 lo) = xs := by
  rw [h.1, h.2]
  simp
theorem sl_D : SlR X (rDS X.K Tb) := by
  refine fun pins s σ H x v vl vu lo hi sl Q I rx hs pl pu h => (sl_tupA.or sl_list) pins s σ H x v vl vu lo hi sl Q I rx hs pl pu ?_
  obtain ⟨m, st, dx, d, st', R, vx, e, q⟩ := h
  unfold slcD at e
  split at e
  · cases e
    rename_i ds
    obtain ⟨a, xs, rfl, h, r⟩ := vx
    have r := r.p2
    refine .inl ⟨a, xs, rfl, h, fun hw => ?_, fun _ => q.tup R (r.cut lo hi)⟩
    have e2 : cutD ds lo hi = ds := by
      unfold cutD
      exact cut_whole (by rw [r.1]; exact hw)
    rw [e2] at q
    exact q.here R ⟨a, xs, rfl, h, r.rvs⟩
  · obtain ⟨ds, e1, e2⟩ := Option.map_eq_some_iff.mp e
    cases e2
    obtain ⟨a, rfl, h⟩ := vx
    obtain ⟨a', xs, h', h1, r1, _⟩ := R.lst e1
    rw [h] at h'; cases h'
    exact .inr ⟨a, xs, rfl, SqL.of h1, q.new R (r1.cut lo hi)⟩
  · cases e
/-! ### isinstance -/
def tyN : Ty → String
  | .tuple => "tuple"
  | .int => "int"
  | .bool => "bool"
  | .str => "str"
  | .list => "list"
theorem kit_rows : kitB "NoneType" "tuple" = some false ∧ kitB "NoneType" "int" = some false ∧ kitB "NoneType" "bool" = some false ∧ kitB "NoneType" "str" = some false ∧ kitB "NoneType" "list" = some false
  ∧ kitB "bool" "tuple" = some false ∧ kitB "bool" "int" = some true ∧ kitB "bool" "bool" = some true ∧ kitB "bool" "str" = some false ∧ kitB "bool" "list" = some false
  ∧ kitB "int" "tuple" = some false ∧ kitB "int" "int" = some true ∧ kitB "int" "bool" = some false ∧ kitB "int" "str" = some false ∧ kitB "int" "list" = some false
  ∧ kitB "str" "tuple" = some false ∧ kitB "str" "int" = some false ∧ kitB "str" "bool" = some false ∧ kitB "str" "str" = some true ∧ kitB "str" "list" = some false
  ∧ kitB "tuple" "tuple" = some true ∧ kitB "tuple" "int" = some false ∧ kitB "tuple" "bool" = some false ∧ kitB "tuple" "str" = some false ∧ kitB "tuple" "list" = some false
  ∧ kitB "list" "tuple" = some false ∧ kitB "list" "int" = some false ∧ kitB "list" "bool" = some false ∧ kitB "list" "str" = some false ∧ kitB "list" "list" = some true := by decide +kernel
theorem tyX_of {K : PySem.W.Frag} {H : Hp} {a : Addr} {xs : List V} (h : SqT K H a xs) : TyX K H (.ref a) (.type "tuple") := by
  rcases h with (h | ⟨o, h⟩) | ⟨o, its, n, hk, hc, _⟩
  · exact .base (.tup h)
  · exact .fTuple h
  · exact .kTuple hk hc
theorem isiD_kit {K : PySem.W.Frag} {H : Hp} {m : List Addr} {st : Sto} (R : Rp K Tb H m st) {d : D} {v : V} {t : Ty} {b : Bool} (r : RV K H m d v) (e : isiD d t st = some b) :
    ∃ u : String, TyX K H v (.type u) ∧ kitB u (tyN t) = some b := by
  obtain ⟨a1, a2, a3, a4, a5, b1, b2, b3, b4, b5, c1, c2, c3, c4, c5, d1, d2, d3, d4, d5, e1, e2, e3, e4, e5, f1, f2, f3, f4, f5⟩ := kit_rows
  cases d with
  | non => cases r; refine ⟨"NoneType", .base .non, ?_⟩; cases t <;> cases e <;> assumption
  | bl x => cases r; refine ⟨"bool", .base (.bl x), ?_⟩; cases t <;> cases e <;> assumption
  | int x => cases r; refine ⟨"int", .base (.int x), ?_⟩; cases t <;> cases e <;> assumption
  | str x => cases r; refine ⟨"str", .base (.str x), ?_⟩; cases t <;> cases e <;> assumption
  | tup ds =>
    obtain ⟨a, xs, rfl, h, _⟩ := r
    refine ⟨"tuple", tyX_of h, ?_⟩
    cases t <;> cases e <;> assumption
  | fz _ => cases t <;> cases e
  | ref k =>
    obtain ⟨a, rfl, h⟩ := r
    have z : ∃ ds, lstOf st k = some ds := by
      cases q : lstOf st k with
      | none => cases t <;> (simp only [isiD, q] at e; cases e)
      | some ds => exact ⟨ds, rfl⟩
    obtain ⟨ds, z⟩ := z
    obtain ⟨a', xs, h', h1, _⟩ := R.lst z
    rw [h] at h'; cases h'
    refine ⟨"list", .base (.lst h1), ?_⟩
    cases t <;> (simp only [isiD, z] at e; cases e; assumption)
end
end Dz
end
section
set_option Elab.async false
set_option linter.all false
set_option maxRecDepth 100000
set_option maxHeartbeats 1000000
namespace Dz
open PySem L2
def rDB (K : PySem.W.Frag) (Tb : List Addr) (f : List D → Sto → Option (D × Sto)) : List V → Hp → VK → Prop := fun xs H Q => ∃ m st ds d st', Rp K Tb H m st ∧ P2 (RV K H m) ds xs ∧ f ds st = some (d, st') ∧ Aft K Tb m H d st' Q
def bfV : Bf → Value
  | .len => .builtin "len"
  | .int => .type "int"
  | .tuple => .type "tuple"
  | .list => .type "list"
  | .max1 => .builtin "max"
  | .max2 => .builtin "max"
  | .str => .type "str"
theorem maxI_ok : ∀ {ds : List D} {j : Int}, maxI ds = some j → ∃ ns : List Int, ds = ns.map D.int ∧ j ∈ ns ∧ ∀ y ∈ ns, y ≤ j
  | [], j, e => by cases e
  | [.int i], j, e => by cases e; exact ⟨[i], rfl, by simp, by simp⟩
  | .int i :: d :: ds, j, e => by
    have e' : ((maxI (d :: ds)).map fun j => if i < j then j else i) = some j := e
    obtain ⟨j', e1, rfl⟩ := Option.map_eq_some_iff.mp e'
    obtain ⟨ns, e2, h1, h2⟩ := maxI_ok e1
    refine ⟨i :: ns, by rw [e2]; rfl, ?_, fun y hy => ?_⟩
    · split
      · exact List.mem_cons_of_mem _ h1
      · exact List.mem_cons_self
    · rcases List.mem_cons.mp hy with rfl | hy
      · split
        · omega
        · exact Int.le_refl _
      · have := h2 y hy
        split <;> omega
  | .non :: ds, j, e => by cases ds <;> cases e
  | .bl _ :: ds, j, e => by cases ds <;> cases e
  | .str _ :: ds, j, e => by cases ds <;> cases e
  | .tup _ :: ds, j, e => by cases ds <;> cases e
  | .fz _ :: ds, j, e => by cases ds <;> cases e
  | .ref _ :: ds, j, e => by cases ds <;> cases e
theorem p2_ints {K : PySem.W.Frag} {H : Hp} {m : List Addr} : ∀ {ns : List Int} {xs : List V}, P2 (RV K H m) (ns.map D.int) xs → xs = ns.map V.int
  | [], xs, h => h.nil_l
  | n :: ns, xs, h => by
    obtain ⟨v, vs, rfl, r, t⟩ := h.cons_l
    cases r
    rw [p2_ints t]; rfl
section
variable {X : Cx} {Tb : List Addr}
theorem bf_ok (hc : X.calm = true) (f : Bf) : CallR X (bfV f) (rDB X.K Tb (bfD f)) := by
  intro pins s σ H xs us Q I r h
  obtain ⟨m, st, ds, d, st', R, vs, e, q⟩ := h
  unfold bfD at e
  split at e
  · cases e
    obtain ⟨v, _, rfl, r1, t⟩ := vs.cons_l
    obtain rfl := t.nil_l
    obtain ⟨a, ys, rfl, h, rr⟩ := r1
    exact call_len_seq pins s σ H _ us Q I r ⟨a, ys, rfl, .inr h, by rw [← rr.p2.1]; exact q.here R rfl⟩
  · cases e
    obtain ⟨v, _, rfl, r1, t⟩ := vs.cons_l
    obtain rfl := t.nil_l
    obtain ⟨a, ys, rfl, h, rr⟩ := r1
    exact call_len_seq pins s σ H _ us Q I r ⟨a, ys, rfl, .inl h.l, by rw [← rr.p2.1]; exact q.here R rfl⟩
  · obtain ⟨ys, e1, e2⟩ := Option.map_eq_some_iff.mp e
    cases e2
    obtain ⟨v, _, rfl, r1, t⟩ := vs.cons_l
    obtain rfl := t.nil_l
    obtain ⟨a, rfl, h⟩ := r1
    obtain ⟨a', zs, h', h1, rr, _⟩ := R.lst e1
    rw [h] at h'; cases h'
    exact call_len_seq pins s σ H _ us Q I r ⟨a, zs, rfl, .inl (SqL.of h1), by rw [← rr.1]; exact q.here R rfl⟩
  · cases e
    obtain ⟨v, _, rfl, r1, t⟩ := vs.cons_l
    obtain rfl := t.nil_l
    cases r1
    exact call_int1 pins s σ H _ us Q I r (.inl ⟨_, rfl, q.here R rfl⟩)
  · cases e
    obtain ⟨v, _, rfl, r1, t⟩ := vs.cons_l
    obtain rfl := t.nil_l
    cases r1
    exact call_int1 pins s σ H _ us Q I r (.inr ⟨_, rfl, q.here R rfl⟩)
  · cases e
    obtain ⟨v, _, rfl, r1, t⟩ := vs.cons_l
    obtain rfl := t.nil_l
    obtain ⟨a, ys, rfl, h, rr⟩ := r1
    exact call_tuple_of pins s σ H _ us Q I r ⟨a, ys, rfl, .inr ⟨h, q.here R ⟨a, ys, rfl, h, rr⟩⟩⟩
  · obtain ⟨ys, e1, e2⟩ := Option.map_eq_some_iff.mp e
    cases e2
    obtain ⟨v, _, rfl, r1, t⟩ := vs.cons_l
    obtain rfl := t.nil_l
    obtain ⟨a, rfl, h⟩ := r1
    obtain ⟨a', zs, h', h1, rr, _⟩ := R.lst e1
    rw [h] at h'; cases h'
    exact call_tuple_of pins s σ H _ us Q I r ⟨a, zs, rfl, .inl ⟨SqL.of h1, q.tup R rr⟩⟩
  · obtain ⟨ys, e1, e2⟩ := Option.bind_eq_some_iff.mp e
    obtain ⟨j, e3, e4⟩ := Option.map_eq_some_iff.mp e2
    cases e4
    obtain ⟨v, _, rfl, r1, t⟩ := vs.cons_l
    obtain rfl := t.nil_l
    obtain ⟨a, rfl, h⟩ := r1
    obtain ⟨a', zs, h', h1, rr, _⟩ := R.lst e1
    rw [h] at h'; cases h'
    obtain ⟨ns, rfl, k1, k2⟩ := maxI_ok e3
    have := p2_ints rr
    subst this
    refine cr_max hc pins s σ H _ us Q I r ⟨a, ns, rfl, SqL.of h1, List.length_pos_of_mem k1, fun j' g1 g2 => ?_⟩
    have : j' = j := Int.le_antisymm (k2 j' g1) (g2 j k1)
    subst this
    exact q.here R rfl
  · cases e
    obtain ⟨v, _, rfl, r1, t⟩ := vs.cons_l
    obtain ⟨v2, _, rfl, r2, t⟩ := t.cons_l
    obtain rfl := t.nil_l
    cases r1
    cases r2
    exact call_max2 hc pins s σ H _ us Q I r ⟨_, _, rfl, q.here R rfl⟩
  · cases e
    obtain ⟨v, _, rfl, r1, t⟩ := vs.cons_l
    obtain rfl := t.nil_l
    obtain ⟨a, ys, rfl, h, rr⟩ := r1
    exact call_list_of pins s σ H _ us Q I r ⟨a, ys, rfl, .inr h, q.new R rr.p2⟩
  · obtain ⟨ys, e1, e2⟩ := Option.map_eq_some_iff.mp e
    cases e2
    obtain ⟨v, _, rfl, r1, t⟩ := vs.cons_l
    obtain rfl := t.nil_l
    obtain ⟨a, rfl, h⟩ := r1
    obtain ⟨a', zs, h', h1, rr, _⟩ := R.lst e1
    rw [h] at h'; cases h'
    exact call_list_of pins s σ H _ us Q I r ⟨a, zs, rfl, .inl (SqL.of h1), q.new R rr⟩
  · cases e
/-! ### methods of lists -/
def mtS : Mt → String
  | .append => "list.append"
  | .extend => "list.extend"
  | .pop => "list.pop"
def rDM (K : PySem.W.Frag) (Tb : List Addr) (f : D → List D → Sto → Option (D × Sto)) : V → List V → Hp → VK → Prop := fun x xs H Q => ∃ m st dx ds d st', Rp K Tb H m st ∧ RV K H m dx x ∧ P2 (RV K H m) ds xs ∧ f dx ds st = some (d, st') ∧ Aft K Tb m H d st' Q
theorem ext_tup (l : Addr) (items : Array Value) (n : Nat) (b : Addr) (items2 : Array Value) (n2 : Nat) (dd : Option Addr) (sl : Array (Option Value)) (hs0 : ¬(!items.isEmpty && Builtin.List.listTooLong (items.size + items2.size)) = true) (hs1 : items.size ≤ sizeLine) (hs2 : items.size + items2.size ≤ sizeLine + 1) :
    Meets (Builtin.«list.extend» ⟨[.ref l, .ref b], []⟩) (fun _ R s => s.heap.get? l = some { cls := .type "list", dict := none, data := .seq items n, slots := #[] } ∧ s.heap.get? b = some { cls := .type "tuple", dict := dd, data := .seq items2 n2, slots := sl } ∧ R (.ok (.ret Value.none)) { s with heap := s.heap.update l (Obj.mapSeq fun x => x ++ items2), toks := s.toks }) :=
  .of_wp fun prog w A R s h => by
    obtain ⟨hp, g, d, tk, os⟩ := s; obtain ⟨hl, hb, h⟩ := h; have f1 := PySem.AutoSeq1.idx_int; have f2 := PySem.AutoSeq1.sub_tuple_tuple; have f3 := PySem.AutoSeq1.sub_list_list; have f4 := PySem.AutoSeq1.sub_tuple_list; have f5 := PySem.AutoSeq1.sub_list_tuple;
    have hz' : (items ++ items2).size ≤ sizeLine + 1 := by rw [Array.size_append]; exact hs2
    wp_walk using (wpAny_updateSeq hl rfl (hz := hs1) (_hz' := hz')), wpAny_loadPart' hl, wpAny_loadPart' hb; exact ⟨_, rfl, h⟩
theorem mt_extendT : MtM X "list.extend" (fun x vs H Q => ∃ l b xs zs, x = .ref l ∧ vs = [.ref b] ∧ H l = some (.lst xs) ∧ SqT X.K H b zs ∧ xs.length + zs.length ≤ sizeLine ∧ Q .non (upd H l (.lst (xs ++ zs)))) := by
  intro pins s σ H x vs v us Q I rx rv h
  obtain ⟨l, b, xs, zs, rfl, rfl, hH, hB, hz, q⟩ := h
  cases rx
  obtain ⟨u, rfl, ru⟩ := rv.one
  cases ru
  obtain ⟨z, its, n, r, hl, e⟩ := I.lstM hH
  obtain ⟨its2, r2, ⟨⟨oc, od, dt, sl⟩, e2, hc2, n2, hd2⟩, _⟩ := I.tuple hB
  simp only at hc2 hd2
  subst hc2 hd2
  have hsz : its.toArray.size + its2.toArray.size ≤ sizeLine := by rw [List.size_toArray, List.size_toArray, ← hl, ← r2.length]; exact hz
  have hlong : ¬ (!its.toArray.isEmpty && Builtin.List.listTooLong (its.toArray.size + its2.toArray.size)) = true := by
    rw [notLongL hsz, Bool.and_false]
    exact Bool.false_ne_true
  refine call_meets PySem.F.slot_list_extend ⟨_, e, rfl⟩ PySem.F.entry_list_extend (PySem.F.args_list_extend_2 _ _)
    (ext_tup l its.toArray n b its2.toArray n2 od sl hlong (by rw [List.size_toArray]; omega) (by omega)) ⟨e, e2, ?_⟩
  refine ⟨.non, _, I.lset (its' := its ++ its2) hH e (by simp) (r.append r2) ?_, rfl, q⟩
  rw [List.length_append]
  omega
theorem mt_ok (mm : Mt) : MtM X (mtS mm) (rDM X.K Tb (mtD mm)) := by
  intro pins s σ H x xs v us Q I rx rxs h
  obtain ⟨m, st, dx, ds, d, st', R, vx, vs, e, q⟩ := h
  unfold mtD at e
  split at e
  · rename_i k
    split at e
    · rename_i zs hk
      obtain ⟨a, rfl, ha⟩ := vx
      obtain ⟨ys, h1, r1⟩ := R.obj k a _ ha hk
      split at e
      · split at e
        · rename_i hz
          cases e
          obtain ⟨w, _, rfl, r2, t⟩ := vs.cons_l
          obtain rfl := t.nil_l
          exact mt_append pins s σ H _ _ v us Q I rx rxs ⟨a, ys, w, rfl, rfl, h1, by rw [← r1.1]; exact hz, q _ _ m (ext_put (List.mem_of_getElem? ha)) (R.put ha hk (r1.append (P2.one r2))) rfl⟩
        · cases e
      · split at e
        · rename_i hz
          cases e
          obtain ⟨w, _, rfl, r2, t⟩ := vs.cons_l
          obtain rfl := t.nil_l
          obtain ⟨b, bs, rfl, h2, r2⟩ := r2
          exact mt_extendT pins s σ H _ _ v us Q I rx rxs ⟨a, b, ys, bs, rfl, rfl, h1, h2, by rw [← r1.1, ← r2.p2.1]; exact hz, q _ _ m (ext_put (List.mem_of_getElem? ha)) (R.put ha hk (r1.append r2.p2)) rfl⟩
        · cases e
      · split at e
        · cases e
        · rename_i j hj
          obtain ⟨bs, e1, e2⟩ := Option.bind_eq_some_iff.mp e
          split at e2
          · rename_i hz
            cases e2
            obtain ⟨w, _, rfl, r2, t⟩ := vs.cons_l
            obtain rfl := t.nil_l
            obtain ⟨b, rfl, hb⟩ := r2
            obtain ⟨b', cs, hb', h2, r2, _⟩ := R.lst e1
            rw [hb] at hb'; cases hb'
            exact mt_extend pins s σ H _ _ v us Q I rx rxs ⟨a, b, ys, cs, rfl, rfl, h1, h2, by rw [← r1.1, ← r2.1]; exact hz, q _ _ m (ext_put (List.mem_of_getElem? ha)) (R.put ha hk (r1.append r2)) rfl⟩
          · cases e2
      · split at e
        · rename_i y hy
          cases e
          obtain rfl := vs.nil_l
          rw [List.getLast?_eq_getElem?] at hy
          obtain ⟨w, hw, rw_⟩ := r1.get hy
          rw [r1.1] at hw
          exact mt_pop pins s σ H _ _ v us Q I rx rxs ⟨a, ys, w, rfl, rfl, h1, hw, q _ _ m (ext_put (List.mem_of_getElem? ha)) (R.put ha hk r1.dropLast) (R.rv (ext_put (List.mem_of_getElem? ha)) rw_)⟩
        · cases e
      · cases e
    · cases e
  · cases e
/-! ### o[i] = v -/
def rDSet (K : PySem.W.Frag) (Tb : List Addr) : TSet := fun o i v H Q => ∃ m st d1 d2 d3 st', Rp K Tb H m st ∧ RV K H m d1 o ∧ RV K H m d2 i ∧ RV K H m d3 v ∧ setD d1 d2 d3 st = some st' ∧ ∀ H' m', Ext m H m' H' → Rp K Tb H' m' st' → Q H'
theorem set_D : PSet X (rDSet X.K Tb) := by
  intro pins s σ H o i v ov iv u Q I ro ri rv h
  obtain ⟨m, st, d1, d2, d3, st', R, v1, v2, v3, e, q⟩ := h
  unfold setD at e
  split at e
  · split at e
    · rename_i ds hk
      obtain ⟨p, e1, rfl⟩ := Option.map_eq_some_iff.mp e
      obtain ⟨a, rfl, ha⟩ := v1
      cases v2
      obtain ⟨ys, h1, r1⟩ := R.obj _ a _ ha hk
      exact set_list pins s σ H _ _ v ov iv u Q I ro ri rv ⟨a, ys, _, p, rfl, rfl, h1, by rw [← r1.1]; exact e1, q _ m (ext_put (List.mem_of_getElem? ha)) (R.put ha hk (r1.set v3 p))⟩
    · cases e
  · cases e
end
end Dz
end
section
set_option Elab.async false
set_option linter.all false
set_option maxRecDepth 100000
set_option maxHeartbeats 1000000
namespace Dz
open PySem L2 PyProof.Rows
/-! ### enumerate(a tuple) -/
theorem meets_enumerate_newT (l : Addr) (items : Array Value) (n : Nat) (dct : Option Addr) (sl : Array (Option Value)) :
    Meets (Builtin.«enumerate.__new__» ⟨[.type "enumerate", .ref l], []⟩) (fun _ R s => s.heap.get? l = some { cls := .type "tuple", dict := dct, data := .seq items n, slots := sl } ∧
      R (.ok (.ret (.ref (s.heap.push { cls := .type "tuple_iterator", data := .fields #[.ref l, .int 0 0] }).objs.size)))
        { s with heap := (s.heap.push { cls := .type "tuple_iterator", data := .fields #[.ref l, .int 0 0] }).push { cls := .type "enumerate", data := .fields #[.none, .bool false, .ref s.heap.objs.size, rawInt 0, .none, .none] } }) :=
  .of_wp fun prog w A R s h => by
    obtain ⟨hp, g, d, tk, os⟩ := s; obtain ⟨hl, h⟩ := h
    have hsub := sub_enumerate
    have hL : Heap.IsTuple (Shared.heap ⟨hp, g, d, tk, os⟩) l items := ⟨_, hl, rfl, n, rfl⟩
    wp_walk using AutoSeq1.wpAny_loadPart' hl
    refine wpAny_stack_any fun st => wpAny_pure ?_
    split
    · rename_i c _ _ _ _ _
      cases (c == Value.type "enumerate")
      · wp_walk using AutoSeq1.wpAny_loadPart' hl, wpAny_pyIter_tuple hL
        exact ⟨_, rfl, h⟩
      · wp_walk using AutoSeq1.wpAny_loadPart' hl, wpAny_pyIter_tuple hL
        exact ⟨_, rfl, h⟩
    · wp_walk using AutoSeq1.wpAny_loadPart' hl, wpAny_pyIter_tuple hL
      exact ⟨_, rfl, h⟩
def IteT (K : PySem.W.Frag) (a : Addr) : It :=
  ⟨fun i H => ∃ (xs : List V) (x : V), SqT K H a xs ∧ xs[i]? = some x, fun i H v H' => ∃ T x, v = .ref T ∧ H T = none ∧ H' = upd H T (.tup [.int (i : Nat), x]) ∧ ∀ xs, SqT K H a xs → xs[i]? = some x, fun i H => ∃ xs : List V, SqT K H a xs ∧ xs.length = i⟩
theorem turn_enumT {P : Program} {w : World} {K : PySem.W.Frag} {elts : List Expr} {kk : Nat} {tpos : Pos} (a e it : Addr) (hat : a ≠ it) (hae : e ≠ a) :
    Turn P w K (.Tuple elts kk tpos) (IteT K a) [e, it] e (fun i h => (∃ old, IsEnum h e it ((i : Nat) : Int) old) ∧ h.IsTupleIter it a i ∧ e ≠ it) where
  mem := by simp
  obj := fun i h st b hb => by
    obtain ⟨⟨old, he⟩, ⟨o, ho, hc, hd⟩, _⟩ := st
    have e' : b = e ∨ b = it := by simpa using hb
    rcases e' with z | z
    · rw [z]; exact ⟨_, he, fun v q => nomatch q⟩
    · rw [z]; exact ⟨o, ho, fun v q => by rw [hd] at q; cases q⟩
  keep := fun i h h' st k => let ⟨⟨old, he⟩, hi, hne⟩ := st; ⟨⟨old, k e (by simp) _ he⟩, hi.at fun o q => k it (by simp) o q, hne⟩
  item := by
    intro X hP hw hK hc i pins s σ H E I hf st hg
    subst hP hw hK
    obtain ⟨⟨old, he⟩, hit, hne⟩ := st
    obtain ⟨xs, x, hq, hx⟩ := hg
    obtain ⟨its, rv, p, hz⟩ := I.tuple hq
    obtain ⟨u, hu, ru⟩ := rv.get hx
    have hel : e < s.heap.objs.size := Heap.lt_size he
    have hil : it < s.heap.objs.size := by obtain ⟨_, q, _⟩ := hit; exact Heap.lt_size q
    have hlt : i < its.toArray.size := by
      rw [List.size_toArray]
      exact (List.getElem?_eq_some_iff.mp hu).1
    refine wpAny_pyNext_enum_itemD (Draws.tuple (A := X.A.in1) (I.ok.hd hc) it a hat its.toArray) he ⟨hit, p⟩ hlt hne (by simp; exact ⟨hne, hae⟩) fun u' h' tk hu' ho hit' hT hsz hk => ?_
    have eu : u' = u := by
      have h1 : its.toArray[i]? = some u' := hu'
      have h2 : its.toArray[i]? = some u := by simpa using hu
      rw [h1] at h2
      exact Option.some.inj h2
    subst eu
    refine ⟨_, rfl, wpAny_letOwnedTupleGo_enum (s := { s with heap := h', toks := tk + 1 }) ho fun h'' he' sb => ?_⟩
    have hT2 : h''.get? s.heap.objs.size = some { cls := .type "tuple", data := .seq #[.int i tk, u'] } := (sb.2 _ (Nat.ne_of_gt hel)).trans hT
    have new : ObjOk X.prog X.w (upd H s.heap.objs.size (.tup [.int (i : Nat), x])) h'' s.heap.objs.size (.tup [.int (i : Nat), x]) :=
      ⟨by show 2 ≤ sizeLine; decide, [.int i tk, u'], .cons ⟨_, rfl⟩ (.cons ru .nil), ⟨_, hT2, rfl, _, rfl⟩⟩
    have I1 : Inv X pins σ (upd H s.heap.objs.size (.tup [.int (i : Nat), x])) { s with heap := h'', toks := tk + 1 } :=
      I.turnedNew (ch := [e, it]) (fun b ob hb q => (sb.2 b (fun z => hb (by simp [z]))).trans (hk b ob (fun z => hb (by simp [z])) (fun z => hb (by simp [z])) q)) hf (Nat.le_refl _) new
    refine ⟨.ref s.heap.objs.size, _, I1, rfl, ⟨_, x, rfl, I.hok.fresh (Nat.le_refl _), rfl, fun ys hy => by rw [I.tuple_inj hy hq]; exact hx⟩, ⟨⟨u', ?_⟩, hit'.1.at fun o q => (sb.2 it (Ne.symm hne)).trans q, hne⟩, fun b hb => ?_⟩
    · have e1 : ((i + 1 : Nat) : Int) = (i : Int) + 1 := by omega
      rw [e1]; exact he'
    · have hb' : b < s.heap.objs.size := by
        have e' : b = e ∨ b = it := by simpa using hb
        rcases e' with z | z
        · rw [z]; exact hel
        · rw [z]; exact hil
      rw [upd_ne (Nat.ne_of_lt hb')]
      exact (hf b hb).1
  done := by
    intro X hP hw hK hc i pins s σ H E I hf st hg
    subst hP hw hK
    obtain ⟨⟨old, he⟩, hit, hne⟩ := st
    obtain ⟨xs, hq, hx⟩ := hg
    obtain ⟨its, rv, p, hz⟩ := I.tuple hq
    obtain ⟨f0, f1, f2, f3, f4, f5⟩ := hf it (by simp)
    have hl := rv.length
    have hi : i = its.toArray.size := by rw [List.size_toArray, ← hl, hx]
    subst hi
    exact wpAny_pyNext_enum_endD (Draws.tuple (A := X.A.in1) (I.ok.hd hc) it a hat its.toArray) he ⟨hit, p⟩ fun h' eb => ⟨rfl, I.turned (t' := s.toks) (fun b o hb q => eb b o hb q) f0 f1 f3 f4 f5⟩
  self := fun A i s Q E st h => let ⟨⟨_, he⟩, _⟩ := st; wpAny_pyIter_enum he h

theorem call_enumerate_tup {prog : Program} {w : World} {A : Around} {E : Value → Shared → Prop} {s : Shared} {l : Addr} {items : Array Value} {Q : Value → Shared → Prop} (hL : s.heap.IsTuple l items)
    (h : ∀ h', IsEnum h' (s.heap.objs.size + 1) s.heap.objs.size 0 .none → h'.IsTupleIter s.heap.objs.size l 0 → h'.objs.size = s.heap.objs.size + 2 →
      (∀ b o, s.heap.get? b = some o → h'.get? b = some o) → Q (.ref (s.heap.objs.size + 1)) { s with heap := h' }) :
    wpAny (model prog w) A (call (.type "enumerate") [.ref l]) Q E s := by
  obtain ⟨⟨c, dct, dt, sl⟩, hl, hc, n, hd⟩ := hL
  replace hc : c = .type "tuple" := hc
  replace hd : dt = .seq items n := hd
  subst hc hd
  refine callType_new PySem.F.called_enumerate (by decide) (PySem.F.typeCall_enumerate_1 _) (PySem.F.newCall_enumerate_1 _) (fun obj => PySem.F.args_object_init_2 obj _) PySem.F.entry_enumerate_new
    (meets_enumerate_newT l items n dct sl) ⟨hl, ?_⟩
  have hz : (s.heap.push { cls := .type "tuple_iterator", data := .fields #[.ref l, .int 0 0] }).objs.size = s.heap.objs.size + 1 := Heap.size_push ..
  show _ ∧ _
  rw [hz]
  have he : IsEnum ((s.heap.push { cls := .type "tuple_iterator", data := .fields #[.ref l, .int 0 0] }).push
      { cls := .type "enumerate", data := .fields #[.none, .bool false, .ref s.heap.objs.size, rawInt 0, .none, .none] }) (s.heap.objs.size + 1) s.heap.objs.size 0 .none := by
    have := Heap.get?_push_size (s.heap.push { cls := .type "tuple_iterator", data := .fields #[.ref l, .int 0 0] })
      (o := { cls := .type "enumerate", data := .fields #[.none, .bool false, .ref s.heap.objs.size, rawInt 0, .none, .none] }) rfl
    rw [hz] at this; exact this
  refine ⟨⟨_, he, rfl⟩, h _ he ⟨_, Heap.get?_push_of_some _ (Heap.get?_push_size _ rfl), rfl, rfl⟩ (by rw [Heap.size_push, hz]) fun b o x => Heap.get?_push_of_some _ (Heap.get?_push_of_some _ x)⟩
def iEnumA (K : PySem.W.Frag) (ta : TA) : TI := fun σ H R => ta σ H fun vs H1 => ∃ a xs, vs = [.ref a] ∧ ((SqL K H1 a xs ∧ R (Ite K a) H1) ∨ (SqT K H1 a xs ∧ R (IteT K a) H1))
theorem pi_enumA {X : Cx} {e : Expr} {ta : TA} {p pos tpos : Pos} {elts : List Expr} {kk : Nat} (hg : Gl X "enumerate") (hm : X.mg "enumerate" = none) (ha : PA X [e] ta) (hs : starEach [e] X.env = [(false, eval e X.env)]) :
    PI X (.Tuple elts kk tpos) (.Call (.Name "enumerate" p) [e] [] pos) (iEnumA X.K ta) := by
  refine ⟨fun pins s σ H R I h => ?_⟩
  refine Call_ (ld_blt I hg hm boot_enumerate (PyProof.Rows.callWith_type1 (thn (ha.run pos pins s σ H _ I h) fun us s1 ⟨vs, H1, I1, r1, q1⟩ => ?_) hs rfl))
  obtain ⟨a, xs, ex, q⟩ := q1
  subst ex
  have le2 : ∀ b, b ∈ [s1.heap.objs.size + 1, s1.heap.objs.size] → s1.heap.objs.size ≤ b := fun b hb => by
    have e' : b = s1.heap.objs.size + 1 ∨ b = s1.heap.objs.size := by simpa using hb
    rcases e' with z | z
    · rw [z]; exact Nat.le_add_right _ _
    · rw [z]; exact Nat.le_refl _
  cases r1 with
  | cons r rr =>
    cases rr
    cases r
    rcases q with ⟨hq, q⟩ | ⟨hq, q⟩
    · obtain ⟨its, rv, p', hz⟩ := I1.list hq
      refine call_enumerate_list p'.isList fun h' he hit hsz hk => wpAny_pyIter_enum he ?_
      have I2 : Inv X pins σ H1 { s1 with heap := h' } := I1.kept (t' := s1.toks) hk
      exact ⟨s1.heap.objs.size + 1, [s1.heap.objs.size + 1, s1.heap.objs.size], _, _, H1, rfl, I2, turn_enum a (s1.heap.objs.size + 1) s1.heap.objs.size, ⟨⟨.none, he⟩, hit, Nat.succ_ne_self _⟩, fun b hb => I1.fpOk (le2 b hb) (I1.hok.fresh (le2 b hb)), q⟩
    · obtain ⟨its, rv, p', hz⟩ := I1.tuple hq
      have hal : a < s1.heap.objs.size := by obtain ⟨o, e, _⟩ := p'; exact Heap.lt_size e
      refine call_enumerate_tup p' fun h' he hit hsz hk => wpAny_pyIter_enum he ?_
      have I2 : Inv X pins σ H1 { s1 with heap := h' } := I1.kept (t' := s1.toks) hk
      exact ⟨s1.heap.objs.size + 1, [s1.heap.objs.size + 1, s1.heap.objs.size], _, _, H1, rfl, I2, turn_enumT a (s1.heap.objs.size + 1) s1.heap.objs.size (Nat.ne_of_lt hal) (Ne.symm (Nat.ne_of_lt (Nat.lt_succ_of_lt hal))), ⟨⟨.none, he⟩, hit, Nat.succ_ne_self _⟩, fun b hb => I1.fpOk (le2 b hb) (I1.hok.fresh (le2 b hb)), q⟩
/-! ### a list taken apart by a target -/
section
variable {prog : Program} {w : World} {A : Around} {E : Value → Shared → Prop} {s : Shared}
theorem draw_list {it t : Addr} {items : Array Value} (hne : t ≠ it) : ∀ (n i : Nat) (s : Shared) (Q : List Value → Shared → Prop), s.heap.IsListIter it t i → s.heap.IsList t items → i + n ≤ items.size →
    (∀ h', h'.IsListIter it t (i + n) → Heap.SameBut it s.heap h' → Q ((items.toList.drop i).take n) { s with heap := h' }) → wpAny (model prog w) A (draw (.ref it) n) Q E s
  | 0, i, s, Q, hit, _, _, hQ => by
    show wpAny _ _ (pure []) Q E s
    exact wpAny_pure (by simpa using hQ s.heap hit (Heap.SameBut.refl ..))
  | n + 1, i, s, Q, hit, ht, hle, hQ => by
    have hlt : i < items.size := by omega
    show wpAny _ _ (pyNext (.ref it) >>= _) Q E s
    refine wpAny_bind (wpAny_pyNext_list_item hit ht (x := items[i]) (by simp [hlt]) fun h₁ hit₁ hs₁ => ?_)
    refine wpAny_bind (wpAny_holding (draw_list hne n (i + 1) _ _ hit₁ (ht.extBut hs₁.extBut hne) (by omega) fun h₂ hit₂ hs₂ => wpAny_pure ?_))
    have hd : items.toList.drop i = items[i] :: items.toList.drop (i + 1) := by simp [List.drop_eq_getElem_cons, hlt]
    have := hQ h₂ (by rw [show i + (n + 1) = i + 1 + n by omega]; exact hit₂) (hs₁.trans hs₂)
    rw [hd, List.take_succ_cons] at this
    exact this
theorem unpackItems_list {t : Addr} {items : Array Value} {Q : List Value → Shared → Prop} (hh : A.handled = none) (ht : s.heap.IsList t items)
    (hQ : ∀ h', Heap.ExtBut s.heap.objs.size s.heap h' → Q items.toList { s with heap := h' }) : wpAny (model prog w) A (unpackItems (.ref t) items.size none) Q E s := by
  have hlt : t ≠ s.heap.objs.size := by obtain ⟨o, ho, _⟩ := ht; exact Nat.ne_of_lt (Heap.lt_size ho)
  unfold unpackItems
  refine wpAny_bind ?_
  · unfold notIterableAtAll
    refine wpAny_bind (wpAny_specialOf ht.typeIs PySem.F.slot_list_iter.lookup ?_)
    refine wpAny_pure ?_
    simp only [Bool.false_eq_true, if_false]
    refine wpAny_bind (wpAny_holding (wpAny_pyIter_list ht ?_))
    refine wpAny_bind (wpAny_holding (draw_list hlt items.size 0 _ _ ⟨_, Heap.get?_push_size _ rfl, rfl, rfl⟩ (ht.push _) (by omega) fun h₁ hit₁ hs₁ => ?_))
    have hall : List.take items.size (List.drop 0 items.toList) = items.toList := by
      rw [List.drop_zero]; exact List.take_of_length_le (by simp)
    rw [hall]
    rw [if_neg (by simp)]
    have ht₁ : h₁.IsList t items := (ht.push _).extBut hs₁.extBut hlt
    refine wpAny_bind (wpAny_holding (wpAny_pyNext_list_end hh hit₁ ht₁ (by simp) fun h₂ he₂ => ?_))
    simp only [Option.isSome_none, Bool.false_eq_true, if_false]
    refine wpAny_pure (hQ h₂ fun b o hb e => he₂ b o hb (hs₁.extBut b o hb (Heap.get?_push_of_some _ e)))
theorem assign_Tuple_list {env : PySem.Env} {elts : List Expr} {x1} {pos : Pos} {t : Addr} {items : Array Value} {Q : Unit → Shared → Prop} (hh : A.handled = none) (ht : s.heap.IsList t items)
    (hn : (assignEach elts env).length = items.size) (hstar : (assignEach elts env).findIdx? (·.1) = none)
    (h : ∀ h', Heap.ExtBut s.heap.objs.size s.heap h' → wpAny (model prog w) A (assignInOrder ((assignEach elts env).map (·.2)) items.toList) Q E { s with heap := h' }) :
    wpAny (model prog w) A (assign (.Tuple elts x1 pos) env (.ref t)) Q E s := by
  rw [assign_Tuple]
  refine wpAny_bind (wpAny_standAt ?_)
  unfold unpack
  rw [hn, hstar]
  exact wpAny_bind (wpAny_holding (unpackItems_list hh ht h))
end
/-- (a, b, ..) = a list or a tuple of that length -/
def gTupA (K : PySem.W.Frag) (n : Nat) (t : TGs) : TG := fun v σ H Q => ∃ a xs, v = .ref a ∧ (SqT K H a xs ∨ SqL K H a xs) ∧ xs.length = n ∧ t xs σ H Q
theorem pg_tupA {X : Cx} {pos : Pos} {es : List Expr} {k : Nat} {t : TGs} {n : Nat} (hc : X.calm = true) (h : PGs X es t)
    (hn : (assignEach es X.env).length = n) (hst : (assignEach es X.env).findIdx? (·.1) = none) : PG X (.Tuple es k pos) (gTupA X.K n t) := by
  refine ⟨fun pins s σ H v u Q I r hw => ?_⟩
  obtain ⟨a, xs, e1, hq, hl, hw⟩ := hw
  subst e1
  cases r
  rcases hq with hq | hq
  · obtain ⟨its, rv, ht, hz⟩ := I.tuple hq
    refine assign_Tuple_tuple (I.ok.hd hc) ht (by simp [hn, ← hl, rv.length]) hst fun h' hx => ?_
    have I1 : Inv X pins σ H { s with heap := h' } := I.kept (t' := s.toks) fun b o e => hx b o (Nat.ne_of_lt (Heap.lt_size e)) e
    exact h.run pins _ σ H xs _ Q I1 (by simpa using rv) hw
  · obtain ⟨its, rv, ht, hz⟩ := I.list hq
    refine assign_Tuple_list (I.ok.hd hc) ht.isList (by simp [hn, ← hl, rv.length]) hst fun h' hx => ?_
    have I1 : Inv X pins σ H { s with heap := h' } := I.kept (t' := s.toks) fun b o e => hx b o (Nat.ne_of_lt (Heap.lt_size e)) e
    exact h.run pins _ σ H xs _ Q I1 (by simpa using rv) hw
end Dz
end
section
set_option Elab.async false
set_option linter.all false
set_option maxRecDepth 100000
set_option maxHeartbeats 1000000
namespace Dz
open PySem L2 PyProof.Rows
/-! ### iterators -/
def RI (K : PySem.W.Frag) (H : Hp) (m : List Addr) : IT → It → Prop
  | .tup ds, J => ∃ a xs, J = Itt K a ∧ SqT K H a xs ∧ P2 (RV K H m) ds xs
  | .lst k, J => ∃ a, J = Itl K a ∧ m[k]? = some a
  | .rng lo c n, J => J = Itc lo c n ∨ (c = 1 ∧ J = Itr lo n)
  | .enT ds, J => ∃ a xs, J = IteT K a ∧ SqT K H a xs ∧ P2 (RV K H m) ds xs
  | .enL k, J => ∃ a, J = Ite K a ∧ m[k]? = some a
  | .zpT as bs, J => ∃ a b xs ys, J = RZ.ItzT K a b ∧ SqT K H a xs ∧ P2 (RV K H m) as xs ∧ SqT K H b ys ∧ P2 (RV K H m) bs ys
  | .zpL k j, J => ∃ a b, J = Itz K a b ∧ m[k]? = some a ∧ m[j]? = some b
  | .rvT ds, J => ∃ a xs, J = RT.ItvT K a xs.length ∧ SqT K H a xs ∧ P2 (RV K H m) ds xs
  | .rvL k n, J => ∃ a, J = Itv K a n ∧ m[k]? = some a
section
variable {K : PySem.W.Frag} {Tb : List Addr} {H H' : Hp} {m m' : List Addr} {st st' : Sto} {T : IT} {J : It} {i : Nat} {d : D} {v : V}
theorem RI.ext (x : Rp K Tb H m st) (y : Ext m H m' H') (h : RI K H m T J) : RI K H' m' T J := by
  cases T with
  | tup ds => obtain ⟨a, xs, e, s, r⟩ := h; exact ⟨a, xs, e, x.sqT y a xs s, x.rvs y r⟩
  | lst k => obtain ⟨a, e, q⟩ := h; exact ⟨a, e, y.names k a q⟩
  | rng => exact h
  | enT ds => obtain ⟨a, xs, e, s, r⟩ := h; exact ⟨a, xs, e, x.sqT y a xs s, x.rvs y r⟩
  | enL k => obtain ⟨a, e, q⟩ := h; exact ⟨a, e, y.names k a q⟩
  | zpT as bs => obtain ⟨a, b, xs, ys, e, s, r, s2, r2⟩ := h; exact ⟨a, b, xs, ys, e, x.sqT y a xs s, x.rvs y r, x.sqT y b ys s2, x.rvs y r2⟩
  | zpL k j => obtain ⟨a, b, e, q, q2⟩ := h; exact ⟨a, b, e, y.names k a q, y.names j b q2⟩
  | rvT ds => obtain ⟨a, xs, e, s, r⟩ := h; exact ⟨a, xs, e, x.sqT y a xs s, x.rvs y r⟩
  | rvL k n => obtain ⟨a, e, q⟩ := h; exact ⟨a, e, y.names k a q⟩
theorem Rp.lst_at (x : Rp K Tb H m st) {k : Nat} {a : Addr} {ds : List D} (hk : m[k]? = some a) (e : lstOf st k = some ds) : ∃ xs, SqL K H a xs ∧ P2 (RV K H m) ds xs := by
  obtain ⟨a', xs, h1, h2, r, _⟩ := x.lst e
  rw [hk] at h1; cases h1
  exact ⟨xs, SqL.of h2, r⟩
theorem pair2_some {a b : Option D} (e : pair2 a b = some d) : ∃ x y, a = some x ∧ b = some y ∧ d = .tup [x, y] := by
  unfold pair2 at e
  obtain ⟨x, e1, e2⟩ := Option.bind_eq_some_iff.mp e
  obtain ⟨y, e3, rfl⟩ := Option.map_eq_some_iff.mp e2
  exact ⟨x, y, e1, e3, rfl⟩
theorem RI.go (x : Rp K Tb H m st) (h : RI K H m T J) (e : nxD T i st = some d) : J.go i H := by
  cases T with
  | tup ds =>
    obtain ⟨a, xs, rfl, s, r⟩ := h
    obtain ⟨v, hv, _⟩ := r.get (show ds[i]? = some d from e)
    exact ⟨xs, v, s, hv⟩
  | lst k =>
    obtain ⟨a, rfl, q⟩ := h
    obtain ⟨ds, e1, e2⟩ := Option.bind_eq_some_iff.mp (show (lstOf st k).bind _ = some d from e)
    obtain ⟨xs, s, r⟩ := x.lst_at q e1
    obtain ⟨v, hv, _⟩ := r.get e2
    exact ⟨xs, v, s, hv⟩
  | rng lo c n =>
    have e' : (if i < n then some (D.int (lo + (i : Nat) * c)) else none) = some d := e
    split at e'
    · rename_i hi
      rcases h with rfl | ⟨rfl, rfl⟩
      · exact hi
      · exact hi
    · cases e'
  | enT ds =>
    obtain ⟨a, xs, rfl, s, r⟩ := h
    obtain ⟨z, y, _, e2, _⟩ := pair2_some (show pair2 _ _ = some d from e)
    obtain ⟨v, hv, _⟩ := r.get e2
    exact ⟨xs, v, s, hv⟩
  | enL k =>
    obtain ⟨a, rfl, q⟩ := h
    obtain ⟨ds, e1, e2⟩ := Option.bind_eq_some_iff.mp (show (lstOf st k).bind _ = some d from e)
    obtain ⟨z, y, _, e2, _⟩ := pair2_some e2
    obtain ⟨xs, s, r⟩ := x.lst_at q e1
    obtain ⟨v, hv, _⟩ := r.get e2
    exact ⟨xs, v, s, hv⟩
  | zpT as bs =>
    obtain ⟨a, b, xs, ys, rfl, s, r, s2, r2⟩ := h
    obtain ⟨z, y, e1, e2, _⟩ := pair2_some (show pair2 _ _ = some d from e)
    obtain ⟨v, hv, _⟩ := r.get e1
    obtain ⟨w, hw, _⟩ := r2.get e2
    exact ⟨xs, ys, v, w, s, s2, hv, hw⟩
  | zpL k j =>
    obtain ⟨a, b, rfl, q, q2⟩ := h
    obtain ⟨as, e1, e2⟩ := Option.bind_eq_some_iff.mp (show (lstOf st k).bind _ = some d from e)
    obtain ⟨bs, e3, e4⟩ := Option.bind_eq_some_iff.mp e2
    obtain ⟨z, y, e5, e6, _⟩ := pair2_some e4
    obtain ⟨xs, s, r⟩ := x.lst_at q e1
    obtain ⟨ys, s2, r2⟩ := x.lst_at q2 e3
    obtain ⟨v, hv, _⟩ := r.get e5
    obtain ⟨w, hw, _⟩ := r2.get e6
    exact ⟨xs, ys, v, w, s, s2, hv, hw⟩
  | rvT ds =>
    obtain ⟨a, xs, rfl, s, r⟩ := h
    have e' : (if i < ds.length then ds[ds.length - 1 - i]? else none) = some d := e
    split at e'
    · rename_i hi
      obtain ⟨v, hv, _⟩ := r.get e'
      rw [r.1] at hv hi
      exact ⟨hi, xs, v, s, hv⟩
    · cases e'
  | rvL k n =>
    obtain ⟨a, rfl, q⟩ := h
    obtain ⟨ds, e1, e2⟩ := Option.bind_eq_some_iff.mp (show (lstOf st k).bind _ = some d from e)
    split at e2
    · rename_i hi
      obtain ⟨xs, s, r⟩ := x.lst_at q e1
      obtain ⟨v, hv, _⟩ := r.get e2
      exact ⟨hi, xs, v, s, hv⟩
    · cases e2
/-- an item's own new pair -/
theorem rv_pair (x : Rp K Tb H m st) {p : Addr} {a b : D} {u w : V} (hp : H p = none) (ra : RV K H m a u) (rb : RV K H m b w) : Ext m H m (upd H p (.tup [u, w])) ∧ Rp K Tb (upd H p (.tup [u, w])) m st ∧ RV K (upd H p (.tup [u, w])) m (.tup [a, b]) (.ref p) :=
  ⟨ext_laid hp, x.laid hp, ⟨p, [u, w], rfl, SqT.of upd_same, (x.rvs (ext_laid hp) (P2.cons ra (P2.one rb))).rvs⟩⟩
theorem RI.yld (x : Rp K Tb H m st) (h : RI K H m T J) (e : nxD T i st = some d) (y : J.yld i H v H') : Ext m H m H' ∧ Rp K Tb H' m st ∧ RV K H' m d v := by
  cases T with
  | tup ds =>
    obtain ⟨a, xs, rfl, s, r⟩ := h
    obtain ⟨rfl, y⟩ := y
    exact ⟨Ext.refl, x, r.2 i d v e (y xs s)⟩
  | lst k =>
    obtain ⟨a, rfl, q⟩ := h
    obtain ⟨rfl, y⟩ := y
    obtain ⟨ds, e1, e2⟩ := Option.bind_eq_some_iff.mp (show (lstOf st k).bind _ = some d from e)
    obtain ⟨xs, s, r⟩ := x.lst_at q e1
    exact ⟨Ext.refl, x, r.2 i d v e2 (y xs s)⟩
  | rng lo c n =>
    have e' : (if i < n then some (D.int (lo + (i : Nat) * c)) else none) = some d := e
    split at e'
    · cases e'
      rcases h with rfl | ⟨rfl, rfl⟩
      · obtain ⟨rfl, rfl⟩ := y
        exact ⟨Ext.refl, x, rfl⟩
      · obtain ⟨rfl, rfl⟩ := y
        refine ⟨Ext.refl, x, ?_⟩
        rw [Int.mul_one]; rfl
    · cases e'
  | enT ds =>
    obtain ⟨a, xs, rfl, s, r⟩ := h
    obtain ⟨p, u, rfl, hp, rfl, y⟩ := y
    obtain ⟨z, w, e1, e2, rfl⟩ := pair2_some (show pair2 _ _ = some d from e)
    cases e1
    exact rv_pair x hp rfl (r.2 i w u e2 (y xs s))
  | enL k =>
    obtain ⟨a, rfl, q⟩ := h
    obtain ⟨p, u, rfl, hp, rfl, y⟩ := y
    obtain ⟨ds, e1, e2⟩ := Option.bind_eq_some_iff.mp (show (lstOf st k).bind _ = some d from e)
    obtain ⟨z, w, e3, e4, rfl⟩ := pair2_some e2
    cases e3
    obtain ⟨xs, s, r⟩ := x.lst_at q e1
    exact rv_pair x hp rfl (r.2 i w u e4 (y xs s))
  | zpT as bs =>
    obtain ⟨a, b, xs, ys, rfl, s, r, s2, r2⟩ := h
    obtain ⟨p, u, w, rfl, hp, rfl, y1, y2⟩ := y
    obtain ⟨z, z2, e1, e2, rfl⟩ := pair2_some (show pair2 _ _ = some d from e)
    exact rv_pair x hp (r.2 i z u e1 (y1 xs s)) (r2.2 i z2 w e2 (y2 ys s2))
  | zpL k j =>
    obtain ⟨a, b, rfl, q, q2⟩ := h
    obtain ⟨p, u, w, rfl, hp, rfl, y1, y2⟩ := y
    obtain ⟨as, e1, e2⟩ := Option.bind_eq_some_iff.mp (show (lstOf st k).bind _ = some d from e)
    obtain ⟨bs, e3, e4⟩ := Option.bind_eq_some_iff.mp e2
    obtain ⟨z, z2, e5, e6, rfl⟩ := pair2_some e4
    obtain ⟨xs, s, r⟩ := x.lst_at q e1
    obtain ⟨ys, s2, r2⟩ := x.lst_at q2 e3
    exact rv_pair x hp (r.2 i z u e5 (y1 xs s)) (r2.2 i z2 w e6 (y2 ys s2))
  | rvT ds =>
    obtain ⟨a, xs, rfl, s, r⟩ := h
    obtain ⟨rfl, y⟩ := y
    have e' : (if i < ds.length then ds[ds.length - 1 - i]? else none) = some d := e
    split at e'
    · have q := y xs s
      rw [← r.1] at q
      exact ⟨Ext.refl, x, r.2 _ d v e' q⟩
    · cases e'
  | rvL k n =>
    obtain ⟨a, rfl, q⟩ := h
    obtain ⟨rfl, y⟩ := y
    obtain ⟨ds, e1, e2⟩ := Option.bind_eq_some_iff.mp (show (lstOf st k).bind _ = some d from e)
    split at e2
    · obtain ⟨xs, s, r⟩ := x.lst_at q e1
      exact ⟨Ext.refl, x, r.2 _ d v e2 (y xs s)⟩
    · cases e2
theorem RI.stop (x : Rp K Tb H m st) (h : RI K H m T J) (e : stD T i st = true) : J.stop i H := by
  cases T with
  | tup ds =>
    obtain ⟨a, xs, rfl, s, r⟩ := h
    exact ⟨xs, s, by rw [← r.1]; exact of_decide_eq_true e⟩
  | lst k =>
    obtain ⟨a, rfl, q⟩ := h
    cases e1 : lstOf st k with
    | none => simp [stD, e1] at e
    | some ds =>
      simp only [stD, e1] at e
      obtain ⟨xs, s, r⟩ := x.lst_at q e1
      exact ⟨xs, s, by rw [← r.1]; exact of_decide_eq_true e⟩
  | rng lo c n =>
    have e' : n ≤ i := of_decide_eq_true e
    rcases h with rfl | ⟨rfl, rfl⟩
    · exact e'
    · exact e'
  | enT ds =>
    obtain ⟨a, xs, rfl, s, r⟩ := h
    exact ⟨xs, s, by rw [← r.1]; exact of_decide_eq_true e⟩
  | enL k =>
    obtain ⟨a, rfl, q⟩ := h
    cases e1 : lstOf st k with
    | none => simp [stD, e1] at e
    | some ds =>
      simp only [stD, e1] at e
      obtain ⟨xs, s, r⟩ := x.lst_at q e1
      exact ⟨xs, s, by rw [← r.1]; exact of_decide_eq_true e⟩
  | zpT as bs =>
    obtain ⟨a, b, xs, ys, rfl, s, r, s2, r2⟩ := h
    refine ⟨xs, ys, s, s2, ?_⟩
    have e' : min as.length bs.length ≤ i := of_decide_eq_true e
    rw [← r.1, ← r2.1]
    omega
  | zpL k j =>
    obtain ⟨a, b, rfl, q, q2⟩ := h
    cases e1 : lstOf st k with
    | none => simp [stD, e1] at e
    | some as =>
      cases e2 : lstOf st j with
      | none => simp [stD, e1, e2] at e
      | some bs =>
        simp only [stD, e1, e2] at e
        have e' : min as.length bs.length ≤ i := of_decide_eq_true e
        obtain ⟨xs, s, r⟩ := x.lst_at q e1
        obtain ⟨ys, s2, r2⟩ := x.lst_at q2 e2
        refine ⟨xs, ys, s, s2, ?_⟩
        rw [← r.1, ← r2.1]
        omega
  | rvT ds =>
    obtain ⟨a, xs, rfl, s, r⟩ := h
    have e' : ds.length ≤ i := of_decide_eq_true e
    rw [r.1] at e'
    exact e'
  | rvL k n =>
    obtain ⟨a, rfl, q⟩ := h
    exact (show n ≤ i from of_decide_eq_true e)
end
end Dz
end
section
set_option Elab.async false
set_option linter.all false
set_option maxRecDepth 100000
set_option maxHeartbeats 1000000
namespace Dz
open PySem L2 PyProof.Rows
/-! ### the defs' world, a context -/
structure FF where
  x : Str
  a : Addr
  fd : FuncData
  ps : List Str
structure Wd where
  g : Str → Option D
  fs : List Df
  fns : List FF
  Tb : List Addr
def blts : List Str := ["len", "int", "tuple", "list", "max", "str", "isinstance", "bool", "range", "enumerate", "zip", "reversed", "all", "any", "sum", "sorted", "min"]
abbrev Wd.C (Z : Wd) (n : Nat) : List CS := calls Z.fs Z.g n
def spD (K : PySem.W.Frag) (Z : Wd) (i f : Nat) : Sp := fun vs H Q _ => ∃ m st ds d st', Rp K Z.Tb H m st ∧ P2 (RV K H m) ds vs ∧ callD Z.fs Z.g i f ds st = some (d, st') ∧ Aft K Z.Tb m H d st' Q
/-- what is the same in a def's body and in its blocks -/
structure Wk (Z : Wd) (X : Cx) (n : Nat) : Prop where
  calm : X.calm = true
  xe : X.xe = fun _ _ => False
  nd : X.N.Nodup
  room : Room n X.A
  glb : ∀ x d, Z.g x = some d → ∃ u v, X.mg x = some u ∧ RelV v u ∧ ∀ H m, RV X.K H m d v
  blt : ∀ x ∈ blts, X.mg x = none
  fnG : ∀ (f : Nat) (F : FF), Z.fns[f]? = some F → X.mg F.x = some (.ref F.a) ∧ PySem.W.keepIn X.K (.ref F.a) = true ∧ Binds X.K F.fd F.ps []
  fok : ∀ i, i < n → ∀ (f : Nat) (F : FF), Z.fns[f]? = some F → FnOk X.prog X.w X.K X.mg X.base C8.CX0 (i + 1) F.a F.fd F.ps (spD X.K Z i f)
/-- what the checker knows of a context -/
structure Ck where
  sc : Scope
  N : List Str
  fb : Str → Bool
  /-- generator expressions may stand here -/
  gn : Bool
structure GX (Z : Wd) (X : Cx) (c : Ck) (n : Nat) : Prop extends Wk Z X n where
  scp : X.env.scope = c.sc
  Ns : X.N = c.N
  fb : ∀ x, c.fb x = true → X.fn x = true
  cd : c.gn = true → ∃ (cc P : Addr), GxR.TabB X.base X.mg cc P ∧ X.env.code = .ref cc ∧ P ∈ Z.Tb
/-! ### readings -/
def Sx (K : PySem.W.Frag) (Z : Wd) (σ : L2.St) (H : Hp) (m : List Addr) (ρ : Env) (st : Sto) : Prop := RE K H m ρ σ ∧ Rp K Z.Tb H m st
section
variable {K : PySem.W.Frag} {Z : Wd} {σ : L2.St} {H H' : Hp} {m m' : List Addr} {ρ : Env} {st st' : Sto}
theorem Sx.go (S : Sx K Z σ H m ρ st) (y : Ext m H m' H') (x : Rp K Z.Tb H' m' st') : Sx K Z σ H' m' ρ st' := ⟨S.1.ext S.2 y, x⟩
end
def tE (K : PySem.W.Frag) (Z : Wd) (n : Nat) (e : E) : TE := fun σ H Q => ∃ m ρ st d st', Sx K Z σ H m ρ st ∧ ev e Z.g (Z.C n) ρ st = some (d, st') ∧ Aft K Z.Tb m H d st' Q
def tA (K : PySem.W.Frag) (Z : Wd) (n : Nat) (es : List E) : TA := fun σ H Q => ∃ m ρ st ds st', Sx K Z σ H m ρ st ∧ evs es Z.g (Z.C n) ρ st = some (ds, st') ∧ ∀ vs H' m', Ext m H m' H' → Rp K Z.Tb H' m' st' → P2 (RV K H' m') ds vs → Q vs H'
/-- a test -/
def tTo (K : PySem.W.Frag) (Z : Wd) (f : Env → Sto → Option (Bool × Sto)) : TT := fun σ H Q => ∃ m ρ st b st', Sx K Z σ H m ρ st ∧ f ρ st = some (b, st') ∧ ∀ H' m', Ext m H m' H' → Rp K Z.Tb H' m' st' → Q b H'
/-- a value -/
def tEo (K : PySem.W.Frag) (Z : Wd) (f : Env → Sto → Option (D × Sto)) : TE := fun σ H Q => ∃ m ρ st d st', Sx K Z σ H m ρ st ∧ f ρ st = some (d, st') ∧ Aft K Z.Tb m H d st' Q
abbrev tT (K : PySem.W.Frag) (Z : Wd) (n : Nat) (e : T) : TT := tTo K Z fun ρ st => evT e Z.g (Z.C n) ρ st
section
variable {X : Cx} {x : Expr} {t t' : TE} {u u' : TT}
theorem PE_imp (h : PE X x t) (i : ∀ σ H Q, t' σ H Q → t σ H Q) : PE X x t' := ⟨fun pins s σ H Q I q => h.run pins s σ H Q I (i σ H Q q)⟩
theorem PT_imp (h : PT X x u) (i : ∀ σ H Q, u' σ H Q → u σ H Q) : PT X x u' := ⟨fun pins s σ H Q I q => h.run pins s σ H Q I (i σ H Q q)⟩
theorem PW_imp (h : PW X x u) (i : ∀ σ H Q, u' σ H Q → u σ H Q) : PW X x u' := ⟨fun w pins s σ H Q I q => h.run w pins s σ H Q I (i σ H Q q)⟩
theorem PA_imp {es : List Expr} {t t' : TA} (h : PA X es t) (i : ∀ σ H Q, t' σ H Q → t σ H Q) : PA X es t' := ⟨fun pos pins s σ H Q I q => h.run pos pins s σ H Q I (i σ H Q q)⟩
end
section
variable {K : PySem.W.Frag} {Z : Wd} {n : Nat} {σ : L2.St} {H : Hp} {m : List Addr} {ρ : Env} {st st' : Sto} {d : D} {e : E} {es : List E} {b : Bool}
theorem tE.mk {Q : VK} (S : Sx K Z σ H m ρ st) (h : ev e Z.g (Z.C n) ρ st = some (d, st')) (q : ∀ v H' m', Ext m H m' H' → Sx K Z σ H' m' ρ st' → RV K H' m' d v → Q v H') : tE K Z n e σ H Q :=
  ⟨m, ρ, st, d, st', S, h, fun v H' m' x R r => q v H' m' x (S.go x R) r⟩
theorem tA.mk {Q : List V → Hp → Prop} {ds : List D} (S : Sx K Z σ H m ρ st) (h : evs es Z.g (Z.C n) ρ st = some (ds, st')) (q : ∀ vs H' m', Ext m H m' H' → Sx K Z σ H' m' ρ st' → P2 (RV K H' m') ds vs → Q vs H') : tA K Z n es σ H Q :=
  ⟨m, ρ, st, ds, st', S, h, fun v H' m' x R r => q v H' m' x (S.go x R) r⟩
theorem tTo.mk {f : Env → Sto → Option (Bool × Sto)} {Q : Bool → Hp → Prop} (S : Sx K Z σ H m ρ st) (h : f ρ st = some (b, st')) (q : ∀ H' m', Ext m H m' H' → Sx K Z σ H' m' ρ st' → Q b H') : tTo K Z f σ H Q :=
  ⟨m, ρ, st, b, st', S, h, fun H' m' x R => q H' m' x (S.go x R)⟩
theorem tEo.mk {f : Env → Sto → Option (D × Sto)} {Q : VK} (S : Sx K Z σ H m ρ st) (h : f ρ st = some (d, st')) (q : ∀ v H' m', Ext m H m' H' → Sx K Z σ H' m' ρ st' → RV K H' m' d v → Q v H') : tEo K Z f σ H Q :=
  ⟨m, ρ, st, d, st', S, h, fun v H' m' x R r => q v H' m' x (S.go x R) r⟩
end
/-! ### expressions -/
section
variable {Z : Wd} {X : Cx} {c : Ck} {n : Nat} {a b : Expr} {ea eb : E} {pos : Pos}
def plT : Expr → Bool
  | .UnaryOp .Not _ _ => false
  | .BoolOp .. => false
  | .IfExp .. => false
  | .Compare .. => false
  | _ => true
theorem plT_is {x : Expr} (h : plT x = true) : ∀ env whole, isTrue x env whole = (do let v ← whole; standAt x.pos; holding [v] (truthy v)) := by
  intro env whole
  cases x with
  | UnaryOp op => cases op <;> first | rfl | cases h
  | BoolOp => cases h
  | IfExp => cases h
  | Compare => cases h
  | _ => rfl
theorem s_val {x : Expr} {e : E} (h : PE X x (tE X.K Z n e)) (hx : plT x = true) : PT X x (tT X.K Z n (.val e)) :=
  PT_imp (pt_truth h (plT_is hx _)) fun σ H Q ⟨m, ρ, st, b, st', S, h, q⟩ => by
    obtain ⟨⟨d, st1⟩, e1, h⟩ := Option.bind_eq_some_iff.mp h
    obtain ⟨b1, e2, h⟩ := Option.map_eq_some_iff.mp h
    cases h
    exact tE.mk S e1 fun v H' m' x S1 r => ⟨b, truD_tru S1.2 r e2, q H' m' x S1.2⟩
theorem s_var {i : Nat} {x : Str} (hN : X.N[i]? = some x) (hv : Vis X.env.scope x) (hd : (x == ("__debug__" : Str)) = false) (hcd : (x == ("__classdict__" : Str)) = false) : PE X (.Name x pos) (tE X.K Z n (.var i)) :=
  PE_imp (pe_var hN hv hd hcd) fun σ H Q ⟨m, ρ, st, d, st', S, h, q⟩ => by
    have h : (match ρ[i]? with | some (some d) => some (d, st) | _ => none) = some (d, st') := h
    split at h
    · rename_i e
      cases h
      obtain ⟨v, e1, r⟩ := S.1.at_ i d e
      exact ⟨v, e1, q.here S.2 r⟩
    · cases h
theorem s_con {x : Expr} {v : V} {d : D} {e : E} (h : PE X x (tC v)) (he : ∀ ρ st, ev e Z.g (Z.C n) ρ st = some (d, st)) (r : ∀ H m, RV X.K H m d v) : PE X x (tE X.K Z n e) :=
  PE_imp h fun σ H Q ⟨m, ρ, st, d, st', S, h, q⟩ => by
    rw [he] at h
    cases h
    exact q.here S.2 (r H m)
theorem s_glb {x : Str} {d : D} (G : Wk Z X n) (hg : Gl X x) (hz : Z.g x = some d) (hd : (x == ("__debug__" : Str)) = false) : PE X (.Name x pos) (tE X.K Z n (.glb x)) := by
  obtain ⟨u, v, h1, h2, h3⟩ := G.glb x d hz
  exact s_con (pe_glob hg h1 h2 hd) (d := d) (fun ρ st => by show (Z.g x).map _ = _; rw [hz]; rfl) h3
theorem s_nil : PA X [] (tA X.K Z n []) := PA_imp pa_nil fun σ H Q ⟨m, ρ, st, ds, st', S, h, q⟩ => by
  cases h
  exact q [] H m Ext.refl S.2 P2.nil
theorem s_cons {es : List Expr} {el : List E} (ha : PE X a (tE X.K Z n ea)) (hs : PA X es (tA X.K Z n el)) (hst : starEach (a :: es) X.env = (false, eval a X.env) :: starEach es X.env) : PA X (a :: es) (tA X.K Z n (ea :: el)) :=
  PA_imp (pa_cons ha hs hst) fun σ H Q ⟨m, ρ, st, ds, st', S, h, q⟩ => by
    obtain ⟨⟨d1, st1⟩, e1, h⟩ := Option.bind_eq_some_iff.mp h
    obtain ⟨⟨d2, st2⟩, e2, h⟩ := Option.map_eq_some_iff.mp h
    cases h
    exact tE.mk S e1 fun v H1 m1 x1 S1 r1 => tA.mk S1 e2 fun vs H2 m2 x2 S2 r2 => q _ H2 m2 (x1.trans x2) S2.2 (P2.cons (S1.2.rv x2 r1) r2)
theorem s_tup {es : List Expr} {el : List E} {k : Nat} (hs : PA X es (tA X.K Z n el)) : PE X (.Tuple es k pos) (tE X.K Z n (.tup el)) :=
  PE_imp (pe_tup hs) fun σ H Q ⟨m, ρ, st, d, st', S, h, q⟩ => by
    obtain ⟨⟨ds, st1⟩, e1, h⟩ := Option.bind_eq_some_iff.mp h
    split at h
    · rename_i hz
      cases h
      exact tA.mk S e1 fun vs H1 m1 x1 S1 r1 => ⟨by rw [← r1.1]; exact hz, (q.later x1).tup S1.2 r1⟩
    · cases h
theorem s_lst {es : List Expr} {el : List E} (hs : PA X es (tA X.K Z n el)) : PE X (.List es pos) (tE X.K Z n (.lst el)) :=
  PE_imp (pe_lst hs) fun σ H Q ⟨m, ρ, st, d, st', S, h, q⟩ => by
    obtain ⟨⟨ds, st1⟩, e1, h⟩ := Option.bind_eq_some_iff.mp h
    split at h
    · rename_i hz
      cases h
      exact tA.mk S e1 fun vs H1 m1 x1 S1 r1 => ⟨by rw [← r1.1]; exact hz, (q.later x1).new S1.2 r1⟩
    · cases h
theorem s_bin {o : Bop} (ha : PE X a (tE X.K Z n ea)) (hb : PE X b (tE X.K Z n eb)) : PE X (.BinOp a (bop o) b pos) (tE X.K Z n (.bin o ea eb)) :=
  PE_imp (pe_op (op_bin o) ha hb) fun σ H Q ⟨m, ρ, st, d, st', S, h, q⟩ => by
    obtain ⟨⟨d1, st1⟩, e1, h⟩ := Option.bind_eq_some_iff.mp h
    obtain ⟨⟨d2, st2⟩, e2, h⟩ := Option.bind_eq_some_iff.mp h
    exact tE.mk S e1 fun v H1 m1 x1 S1 r1 => tE.mk S1 e2 fun w H2 m2 x2 S2 r2 => ⟨m2, st2, d1, d2, d, st', S2.2, S1.2.rv x2 r1, r2, h, q.later (x1.trans x2)⟩
theorem s_neg (ha : PE X a (tE X.K Z n ea)) : PE X (.UnaryOp .USub a pos) (tE X.K Z n (.neg ea)) :=
  PE_imp (pe_un un_neg ha) fun σ H Q ⟨m, ρ, st, d, st', S, h, q⟩ => by
    obtain ⟨⟨d1, st1⟩, e1, h⟩ := Option.bind_eq_some_iff.mp h
    split at h
    · rename_i i hi
      cases h
      obtain rfl : d1 = .int i := hi
      exact tE.mk S e1 fun v H1 m1 x1 S1 r1 => by
        cases r1
        exact ⟨i, rfl, (q.later x1).here S1.2 rfl⟩
    · cases h
theorem s_cmp {o : Cop} (G : Wk Z X n) (ha : PE X a (tE X.K Z n ea)) (hb : PE X b (tE X.K Z n eb)) (hm : behindInMarks (cop o) b = false) : PE X (.Compare a [cop o] [b] pos) (tE X.K Z n (.cmp o ea eb)) :=
  PE_imp (pe_cmpR (op_cmp (Tb := Z.Tb) G.room o) ha hb hm) fun σ H Q ⟨m, ρ, st, d, st', S, h, q⟩ => by
    obtain ⟨⟨d1, st1⟩, e1, h⟩ := Option.bind_eq_some_iff.mp h
    obtain ⟨⟨d2, st2⟩, e2, h⟩ := Option.bind_eq_some_iff.mp h
    obtain ⟨k, e3, h⟩ := Option.map_eq_some_iff.mp h
    cases h
    exact tE.mk S e1 fun v H1 m1 x1 S1 r1 => tE.mk S1 e2 fun w H2 m2 x2 S2 r2 => ⟨m2, st2, d1, d2, k, S2.2, S1.2.rv x2 r1, r2, e3, (q.later (x1.trans x2)).here S2.2 rfl⟩
theorem t_cmp {o : Cop} (G : Wk Z X n) (ha : PE X a (tE X.K Z n ea)) (hb : PE X b (tE X.K Z n eb)) (hm : behindInMarks (cop o) b = false) : PT X (.Compare a [cop o] [b] pos) (tT X.K Z n (.cmp o ea eb)) :=
  PT_imp (pt_cmpR (op_cmp (Tb := Z.Tb) G.room o) ha hb hm) fun σ H Q ⟨m, ρ, st, k, st', S, h, q⟩ => by
    obtain ⟨⟨d1, st1⟩, e1, h⟩ := Option.bind_eq_some_iff.mp h
    obtain ⟨⟨d2, st2⟩, e2, h⟩ := Option.bind_eq_some_iff.mp h
    obtain ⟨k, e3, h⟩ := Option.map_eq_some_iff.mp h
    cases h
    exact tE.mk S e1 fun v H1 m1 x1 S1 r1 => tE.mk S1 e2 fun w H2 m2 x2 S2 r2 => ⟨m2, st2, d1, d2, k, S2.2, S1.2.rv x2 r1, r2, e3, k, rfl, q _ _ (x1.trans x2) S2.2⟩
theorem s_chn {o p : Cop} {x : Expr} {ex : E} (G : Wk Z X n) (ha : PE X a (tE X.K Z n ea)) (hb : PE X b (tE X.K Z n eb)) (hc : PE X x (tE X.K Z n ex)) (hm : lastMarks [cop o, cop p] [b, x] = false) :
    PE X (.Compare a [cop o, cop p] [b, x] pos) (tE X.K Z n (.chn o p ea eb ex)) :=
  PE_imp (pe_chain (op_cmp (Tb := Z.Tb) G.room o) (op_cmp (Tb := Z.Tb) G.room p) ha hb hc hm) fun σ H Q ⟨m, ρ, st, d, st', S, h, q⟩ => by
    obtain ⟨⟨d1, st1⟩, e1, h⟩ := Option.bind_eq_some_iff.mp h
    obtain ⟨⟨d2, st2⟩, e2, h⟩ := Option.bind_eq_some_iff.mp h
    obtain ⟨k, e3, h⟩ := Option.bind_eq_some_iff.mp h
    refine tE.mk S e1 fun v H1 m1 x1 S1 r1 => tE.mk S1 e2 fun w H2 m2 x2 S2 r2 => ⟨m2, st2, d1, d2, k, S2.2, S1.2.rv x2 r1, r2, e3, k, rfl, ?_⟩
    split at h
    · rename_i hk
      rw [if_pos hk]
      obtain ⟨⟨d3, st3⟩, e4, h⟩ := Option.bind_eq_some_iff.mp h
      obtain ⟨k2, e5, h⟩ := Option.map_eq_some_iff.mp h
      cases h
      exact tE.mk S2 e4 fun y H3 m3 x3 S3 r3 => ⟨m3, st3, d2, d3, k2, S3.2, S2.2.rv x3 r2, r3, e5, (q.later ((x1.trans x2).trans x3)).here S3.2 rfl⟩
    · rename_i hk
      rw [if_neg hk]
      cases h
      exact (q.later (x1.trans x2)).here S2.2 rfl
theorem t_chn {o p : Cop} {x : Expr} {ex : E} (G : Wk Z X n) (ha : PE X a (tE X.K Z n ea)) (hb : PE X b (tE X.K Z n eb)) (hc : PE X x (tE X.K Z n ex)) (hm : lastMarks [cop o, cop p] [b, x] = false) :
    PT X (.Compare a [cop o, cop p] [b, x] pos) (tT X.K Z n (.chn o p ea eb ex)) :=
  PT_imp (pt_chain (op_cmp (Tb := Z.Tb) G.room o) (op_cmp (Tb := Z.Tb) G.room p) ha hb hc hm) fun σ H Q ⟨m, ρ, st, d, st', S, h, q⟩ => by
    obtain ⟨⟨d1, st1⟩, e1, h⟩ := Option.bind_eq_some_iff.mp h
    obtain ⟨⟨d2, st2⟩, e2, h⟩ := Option.bind_eq_some_iff.mp h
    obtain ⟨k, e3, h⟩ := Option.bind_eq_some_iff.mp h
    refine tE.mk S e1 fun v H1 m1 x1 S1 r1 => tE.mk S1 e2 fun w H2 m2 x2 S2 r2 => ⟨m2, st2, d1, d2, k, S2.2, S1.2.rv x2 r1, r2, e3, k, rfl, ?_⟩
    split at h
    · rename_i hk
      rw [if_pos hk]
      obtain ⟨⟨d3, st3⟩, e4, h⟩ := Option.bind_eq_some_iff.mp h
      obtain ⟨k2, e5, h⟩ := Option.map_eq_some_iff.mp h
      cases h
      exact tE.mk S2 e4 fun y H3 m3 x3 S3 r3 => ⟨m3, st3, d2, d3, _, S3.2, S2.2.rv x3 r2, r3, e5, _, rfl, q _ _ ((x1.trans x2).trans x3) S3.2⟩
    · rename_i hk
      rw [if_neg hk]
      cases h
      exact ⟨_, rfl, q _ _ (x1.trans x2) S2.2⟩
theorem s_not (hv : PE X a (tE X.K Z n ea)) : PE X (.UnaryOp .Not a pos) (tE X.K Z n (.not ea)) :=
  ⟨fun pins s σ H Q I ⟨m, ρ, st, d, st', S, h, q⟩ => by
    obtain ⟨⟨d1, st1⟩, e1, h⟩ := Option.bind_eq_some_iff.mp h
    obtain ⟨k, e2, h⟩ := Option.map_eq_some_iff.mp h
    cases h
    refine UnaryOp_ (thn (hv.run pins s σ H _ I (tE.mk S e1 fun v H1 m1 x1 S1 r1 => show TruV X.K v H1 k ∧ Q (.bl (!k)) H1 from ⟨truD_tru S1.2 r1 e2, (q.later x1).here S1.2 rfl⟩)) fun u s1 ⟨v, H1, I1, r1, t1, q1⟩ => ?_)
    exact not_of (thn (tru_ok pins s1 σ H1 v u _ I1 r1 ⟨k, t1, q1⟩) fun b s2 ⟨H2, I2, q2⟩ => ⟨.bl (!b), H2, I2, rfl, q2⟩)⟩
section
variable {ta tb tc : T}
theorem t_not (ha : PT X a (tT X.K Z n ta)) : PT X (.UnaryOp .Not a pos) (tT X.K Z n (.not ta)) :=
  PT_imp (pt_not ha) fun σ H Q ⟨m, ρ, st, k, st', S, h, q⟩ => by
    obtain ⟨⟨b1, st1⟩, e1, h⟩ := Option.map_eq_some_iff.mp h
    cases h
    exact tTo.mk S e1 fun H1 m1 x1 S1 => q H1 m1 x1 S1.2
/-- and, or as tests -/
abbrev tTA (K : PySem.W.Frag) (Z : Wd) (n : Nat) (es : List T) : TT := tTo K Z fun ρ st => evTA es Z.g (Z.C n) ρ st
abbrev tTO (K : PySem.W.Frag) (Z : Wd) (n : Nat) (es : List T) : TT := tTo K Z fun ρ st => evTO es Z.g (Z.C n) ρ st
theorem w_and1 (ha : PT X a (tT X.K Z n ta)) : PW X (.BoolOp .And [a] pos) (tTA X.K Z n [ta]) :=
  PW_imp (pw_and1 ha) fun σ H Q ⟨m, ρ, st, k, st', S, h, q⟩ => by
    obtain ⟨⟨b1, st1⟩, e1, h⟩ := Option.bind_eq_some_iff.mp h
    cases b1 <;> (cases h; exact tTo.mk S e1 fun H1 m1 x1 S1 => q H1 m1 x1 S1.2)
theorem w_or1 (ha : PT X a (tT X.K Z n ta)) : PW X (.BoolOp .Or [a] pos) (tTO X.K Z n [ta]) :=
  PW_imp (pw_or1 ha) fun σ H Q ⟨m, ρ, st, k, st', S, h, q⟩ => by
    obtain ⟨⟨b1, st1⟩, e1, h⟩ := Option.bind_eq_some_iff.mp h
    cases b1 <;> (cases h; exact tTo.mk S e1 fun H1 m1 x1 S1 => q H1 m1 x1 S1.2)
theorem w_and {rest : List Expr} {tr : List T} (ha : PT X a (tT X.K Z n ta)) (hr : PW X (.BoolOp .And (b :: rest) pos) (tTA X.K Z n tr)) : PW X (.BoolOp .And (a :: b :: rest) pos) (tTA X.K Z n (ta :: tr)) :=
  PW_imp (pw_and ha hr) fun σ H Q ⟨m, ρ, st, k, st', S, h, q⟩ => by
    obtain ⟨⟨b1, st1⟩, e1, h⟩ := Option.bind_eq_some_iff.mp h
    cases b1 with
    | true => exact tTo.mk S e1 fun H1 m1 x1 S1 => by rw [if_pos rfl]; exact tTo.mk S1 h fun H2 m2 x2 S2 => q H2 m2 (x1.trans x2) S2.2
    | false => cases h; exact tTo.mk S e1 fun H1 m1 x1 S1 => by rw [if_neg Bool.false_ne_true]; exact q H1 m1 x1 S1.2
theorem w_or {rest : List Expr} {tr : List T} (ha : PT X a (tT X.K Z n ta)) (hr : PW X (.BoolOp .Or (b :: rest) pos) (tTO X.K Z n tr)) : PW X (.BoolOp .Or (a :: b :: rest) pos) (tTO X.K Z n (ta :: tr)) :=
  PW_imp (pw_or ha hr) fun σ H Q ⟨m, ρ, st, k, st', S, h, q⟩ => by
    obtain ⟨⟨b1, st1⟩, e1, h⟩ := Option.bind_eq_some_iff.mp h
    cases b1 with
    | true => cases h; exact tTo.mk S e1 fun H1 m1 x1 S1 => by rw [if_pos rfl]; exact q H1 m1 x1 S1.2
    | false => exact tTo.mk S e1 fun H1 m1 x1 S1 => by rw [if_neg Bool.false_ne_true]; exact tTo.mk S1 h fun H2 m2 x2 S2 => q H2 m2 (x1.trans x2) S2.2
theorem t_if {x : Expr} (hc : PT X x (tT X.K Z n tc)) (ha : PT X a (tT X.K Z n ta)) (hb : PT X b (tT X.K Z n tb)) : PT X (.IfExp x a b pos) (tT X.K Z n (.ife tc ta tb)) :=
  ⟨fun pins s σ H Q I ⟨m, ρ, st, k, st', S, h, q⟩ => by
    obtain ⟨⟨b1, st1⟩, e1, h⟩ := Option.bind_eq_some_iff.mp h
    show wpAny _ _ (do if ← isTrue x X.env (eval x X.env) then isTrue a X.env (eval a X.env) else isTrue b X.env (eval b X.env)) _ _ _
    refine wpAny_bind (thn (hc.run pins s σ H _ I (tTo.mk (Q := fun c H1 => c = b1 ∧ ∃ m1, Ext m H m1 H1 ∧ Sx X.K Z σ H1 m1 ρ st1) S e1 fun H1 m1 x1 S1 => ⟨rfl, m1, x1, S1⟩)) fun c s1 ⟨H1, I1, hc, m1, x1, S1⟩ => ?_)
    subst hc
    cases c with
    | true => exact ha.run pins s1 σ H1 Q I1 (tTo.mk S1 h fun H2 m2 x2 S2 => q H2 m2 (x1.trans x2) S2.2)
    | false => exact hb.run pins s1 σ H1 Q I1 (tTo.mk S1 h fun H2 m2 x2 S2 => q H2 m2 (x1.trans x2) S2.2)⟩
theorem s_if {x : Expr} (hc : PT X x (tT X.K Z n tc)) (ha : PE X a (tE X.K Z n ea)) (hb : PE X b (tE X.K Z n eb)) : PE X (.IfExp x a b pos) (tE X.K Z n (.ife tc ea eb)) :=
  PE_imp (pe_ifExp hc ha hb) fun σ H Q ⟨m, ρ, st, k, st', S, h, q⟩ => by
    obtain ⟨⟨b1, st1⟩, e1, h⟩ := Option.bind_eq_some_iff.mp h
    cases b1 with
    | true => exact tTo.mk S e1 fun H1 m1 x1 S1 => by rw [if_pos rfl]; exact tE.mk S1 h fun v H2 m2 x2 S2 r2 => q v H2 m2 (x1.trans x2) S2.2 r2
    | false => exact tTo.mk S e1 fun H1 m1 x1 S1 => by rw [if_neg Bool.false_ne_true]; exact tE.mk S1 h fun v H2 m2 x2 S2 r2 => q v H2 m2 (x1.trans x2) S2.2 r2
end
/-- and, or as values -/
abbrev tEA (K : PySem.W.Frag) (Z : Wd) (n : Nat) (es : List E) : TE := tEo K Z fun ρ st => evAnd es Z.g (Z.C n) ρ st
abbrev tEO (K : PySem.W.Frag) (Z : Wd) (n : Nat) (es : List E) : TE := tEo K Z fun ρ st => evOr es Z.g (Z.C n) ρ st
theorem v_one {op : BoolOp} (ha : PE X a (tE X.K Z n ea)) : PE X (.BoolOp op [a] pos) (tEA X.K Z n [ea]) ∧ PE X (.BoolOp op [a] pos) (tEO X.K Z n [ea]) := by
  refine ⟨PE_imp (pe_one ha) fun σ H Q ⟨m, ρ, st, k, st', S, h, q⟩ => ?_, PE_imp (pe_one ha) fun σ H Q ⟨m, ρ, st, k, st', S, h, q⟩ => ?_⟩ <;>
  · obtain ⟨⟨b1, st1⟩, e1, h⟩ := Option.bind_eq_some_iff.mp h
    cases h
    exact tE.mk S e1 fun v H1 m1 x1 S1 r1 => q v H1 m1 x1 S1.2 r1
theorem v_and {rest : List Expr} {er : List E} (hne : er.isEmpty = false) (ha : PE X a (tE X.K Z n ea)) (hr : PE X (.BoolOp .And (b :: rest) pos) (tEA X.K Z n er)) : PE X (.BoolOp .And (a :: b :: rest) pos) (tEA X.K Z n (ea :: er)) :=
  PE_imp (pe_and ha hr) fun σ H Q ⟨m, ρ, st, k, st', S, h, q⟩ => by
    obtain ⟨⟨b1, st1⟩, e1, h⟩ := Option.bind_eq_some_iff.mp h
    simp only [hne, Bool.false_eq_true, if_false] at h
    refine tE.mk S e1 fun v H1 m1 x1 S1 r1 => ?_
    split at h
    · cases r1
      exact ⟨true, rfl, by rw [if_pos rfl]; exact tEo.mk S1 h fun v H2 m2 x2 S2 r2 => q v H2 m2 (x1.trans x2) S2.2 r2⟩
    · cases h
      cases r1
      exact ⟨false, rfl, by rw [if_neg Bool.false_ne_true]; exact q _ H1 m1 x1 S1.2 rfl⟩
    · cases h
theorem v_or {rest : List Expr} {er : List E} (hne : er.isEmpty = false) (ha : PE X a (tE X.K Z n ea)) (hr : PE X (.BoolOp .Or (b :: rest) pos) (tEO X.K Z n er)) : PE X (.BoolOp .Or (a :: b :: rest) pos) (tEO X.K Z n (ea :: er)) :=
  PE_imp (pe_or ha hr) fun σ H Q ⟨m, ρ, st, k, st', S, h, q⟩ => by
    obtain ⟨⟨b1, st1⟩, e1, h⟩ := Option.bind_eq_some_iff.mp h
    simp only [hne, Bool.false_eq_true, if_false] at h
    refine tE.mk S e1 fun v H1 m1 x1 S1 r1 => ?_
    split at h
    · cases h
      cases r1
      exact ⟨true, rfl, by rw [if_pos rfl]; exact q _ H1 m1 x1 S1.2 rfl⟩
    · cases r1
      exact ⟨false, rfl, by rw [if_neg Bool.false_ne_true]; exact tEo.mk S1 h fun v H2 m2 x2 S2 r2 => q v H2 m2 (x1.trans x2) S2.2 r2⟩
    · cases h
end
end Dz
end
section
set_option Elab.async false
set_option linter.all false
set_option maxRecDepth 100000
set_option maxHeartbeats 1000000
namespace Dz
open PySem L2 PyProof.Rows
/-! ### forms of the text -/
def nst : Expr → Bool
  | .Starred .. => false
  | _ => true
def nset : Expr → Bool
  | .Set .. => false
  | _ => true
def nsl : Expr → Bool
  | .Slice .. => false
  | _ => true
def ncl : Expr → Bool
  | .Call .. => false
  | _ => true
theorem star_cons {e : Expr} (h : nst e = true) (es : List Expr) (env : PySem.Env) : starEach (e :: es) env = (false, eval e env) :: starEach es env := by
  cases e <;> first | rfl | cases h
theorem star_plain : ∀ {es : List Expr} (h : es.all nst = true) (pos : Pos) (env : PySem.Env), (backTo pos (starEach es env)).any (·.1) = false
  | [], _, _, _ => rfl
  | e :: es, h, pos, env => by
    rw [List.all_cons, Bool.and_eq_true] at h
    rw [star_cons h.1]
    have ih := star_plain h.2 pos env
    show (false || (backTo pos (starEach es env)).any (·.1)) = false
    rw [ih]; rfl
theorem star_few : ∀ {es : List Expr} (h : es.all nst = true) (pos : Pos) (env : PySem.Env), (backTo pos (starEach es env)).all (fun x => !x.1) = true
  | [], _, _, _ => rfl
  | e :: es, h, pos, env => by
    rw [List.all_cons, Bool.and_eq_true] at h
    rw [star_cons h.1]
    have ih := star_few h.2 pos env
    show (!false && (backTo pos (starEach es env)).all (fun x => !x.1)) = true
    rw [ih]; rfl
theorem nset_behind {b : Expr} (h : nset b = true) (op : CmpOp) : behindInMarks op b = false := by
  cases b <;> first | rfl | cases h
theorem nset_folded {e : Expr} (h : nset e = true) (env : PySem.Env) : ∀ x, foldedSetIterable e env x = pure x := by
  intro x
  cases e <;> first | rfl | cases h
theorem nsl_plain {b : Expr} (h : nsl b = true) : PlainIx b := by
  intro o i
  cases b <;> first | rfl | cases h
theorem ncl_base {o : Expr} (h : ncl o = true) (name : Str) (env : PySem.Env) (w : Sem Value) : attributeBase o name env w = w := by
  cases o <;> first | rfl | cases h
theorem PE_void {X : Cx} {x : Expr} {t : TE} (h : ∀ σ H Q, ¬ t σ H Q) : PE X x t := ⟨fun _ _ σ H Q _ q => (h σ H Q q).elim⟩
section
variable {Z : Wd} {X : Cx} {c : Ck} {n : Nat} {a b : Expr} {ea eb : E} {pos p : Pos} {es : List Expr} {el : List E}
/-- a def of the text -/
theorem s_call {f : Nat} {F : FF} (G : Wk Z X n) (hF : Z.fns[f]? = some F) (hg : Gl X F.x) (hs : PA X es (tA X.K Z n el)) (hst : es.all nst = true) (hl : es.length = el.length) (hd : (F.x == ("__debug__" : Str)) = false) : PE X (.Call (.Name F.x p) es [] pos) (tE X.K Z n (.call f el)) := by
  cases n with
  | zero => exact PE_void fun σ H Q ⟨m, ρ, st, d, st', S, h, q⟩ => by cases h
  | succ k =>
    obtain ⟨h1, h2, h3⟩ := G.fnG f F hF
    have fin : ∀ {σ H Q}, tE X.K Z (k + 1) (.call f el) σ H Q → tA X.K Z (k + 1) el σ H fun vs H1 => spD X.K Z k f (vs ++ []) H1 Q C8.E0 := fun {σ H Q} ⟨m, ρ, st, d, st', S, h, q⟩ => by
      obtain ⟨⟨ds, st1⟩, e1, h⟩ := Option.bind_eq_some_iff.mp h
      exact tA.mk S e1 fun vs H1 m1 x1 S1 r1 => ⟨m1, st1, ds, d, st', S1.2, by rw [List.append_nil]; exact r1, h, q.later x1⟩
    cases es with
    | nil =>
      refine PE_imp (pe_call0 (ds := []) (dvs := []) (E := C8.E0) (G.fok k (Nat.lt_succ_self k) f F hF) G.room hg h1 h2 h3 .nil C8.pass0 hd) fun σ H Q h => ?_
      have z := fin h
      obtain ⟨m, ρ, st, ds, st', S, e, q⟩ := z
      cases el with
      | nil => cases e; exact q [] H m Ext.refl S.2 P2.nil
      | cons a el => cases hl
    | cons e es =>
      rw [List.all_cons, Bool.and_eq_true] at hst
      exact PE_imp (pe_call (ds := []) (dvs := []) (E := C8.E0) (G.fok k (Nat.lt_succ_self k) f F hF) G.room hg h1 h2 h3 .nil C8.pass0 hs hd (star_cons hst.1 es _) (star_plain hst.2 _ _)) fun σ H Q h => fin h
/-- a built-in -/
def bfN : Bf → Str
  | .len => "len"
  | .int => "int"
  | .tuple => "tuple"
  | .list => "list"
  | .max1 => "max"
  | .max2 => "max"
  | .str => "str"
theorem bfN_in (f : Bf) : bfN f ∈ blts := by cases f <;> simp [bfN, blts]
theorem bfN_dbg (f : Bf) : (bfN f == ("__debug__" : Str)) = false := by cases f <;> decide +kernel
theorem bfN_nm (f : Bf) : bfN f ≠ "__name__" := by cases f <;> decide +kernel
theorem bfN_boot (f : Bf) : bootBuiltins (bfN f) = some (bfV f) := by cases f <;> decide +kernel
theorem s_bi {f : Bf} (G : Wk Z X n) (hg : Gl X (bfN f)) (hs : PA X (a :: es) (tA X.K Z n el)) (hst : (a :: es).all nst = true) : PE X (.Call (.Name (bfN f) p) (a :: es) [] pos) (tE X.K Z n (.bi f el)) := by
  have hm := G.blt _ (bfN_in f)
  rw [List.all_cons, Bool.and_eq_true] at hst
  have key : PE X (.Call (.Name (bfN f) p) (a :: es) [] pos) (tCB (rDB X.K Z.Tb (bfD f)) (tA X.K Z n el)) := by
    have hc := bf_ok (Tb := Z.Tb) G.calm f
    have hb := bfN_boot f
    cases f
    · exact pe_callB hc hg hm hb hs (bfN_nm .len) (bfN_dbg .len) (star_cons hst.1 es _) (star_plain hst.2 _ _)
    · exact pe_callTy hc hg hm hb hs (bfN_nm .int) (bfN_dbg .int) (star_cons hst.1 es _) (star_plain hst.2 _ _)
    · exact pe_callTy hc hg hm hb hs (bfN_nm .tuple) (bfN_dbg .tuple) (star_cons hst.1 es _) (star_plain hst.2 _ _)
    · exact pe_callTy hc hg hm hb hs (bfN_nm .list) (bfN_dbg .list) (star_cons hst.1 es _) (star_plain hst.2 _ _)
    · exact pe_callB hc hg hm hb hs (bfN_nm .max1) (bfN_dbg .max1) (star_cons hst.1 es _) (star_plain hst.2 _ _)
    · exact pe_callB hc hg hm hb hs (bfN_nm .max2) (bfN_dbg .max2) (star_cons hst.1 es _) (star_plain hst.2 _ _)
    · exact pe_callTy hc hg hm hb hs (bfN_nm .str) (bfN_dbg .str) (star_cons hst.1 es _) (star_plain hst.2 _ _)
  exact PE_imp key fun σ H Q ⟨m, ρ, st, d, st', S, h, q⟩ => by
    obtain ⟨⟨ds, st1⟩, e1, h⟩ := Option.bind_eq_some_iff.mp h
    exact tA.mk S e1 fun vs H1 m1 x1 S1 r1 => ⟨m1, st1, ds, d, st', S1.2, r1, h, q.later x1⟩
/-- isinstance -/
def tyS : Ty → Str
  | .tuple => "tuple"
  | .int => "int"
  | .bool => "bool"
  | .str => "str"
  | .list => "list"
theorem tyS_in (t : Ty) : tyS t ∈ blts := by cases t <;> simp [tyS, blts]
theorem tyS_dbg (t : Ty) : (tyS t == ("__debug__" : Str)) = false := by cases t <;> decide +kernel
theorem tyS_nm (t : Ty) : tyS t ≠ "__name__" := by cases t <;> decide +kernel
theorem tyS_boot (t : Ty) : bootBuiltins (tyS t) = some (.type (tyN t)) := by cases t <;> decide +kernel
theorem boot_isi : bootBuiltins "isinstance" = some (.builtin "isinstance") := by decide +kernel
theorem s_isi {t : Ty} {p2 : Pos} (G : Wk Z X n) (hg : Gl X "isinstance") (hgt : Gl X (tyS t)) (ha : PE X a (tE X.K Z n ea)) (hst : nst a = true) : PE X (.Call (.Name "isinstance" p) [a, .Name (tyS t) p2] [] pos) (tE X.K Z n (.isi ea t)) := by
  have hty : PE X (.Name (tyS t) p2) (tC (.ty (tyN t))) := pe_bltn hgt (G.blt _ (tyS_in t)) (tyS_boot t) rfl (tyS_nm t) (tyS_dbg t)
  refine PE_imp (pe_callB call_isi hg (G.blt _ (by simp [blts])) boot_isi (pa_cons ha (pa_cons hty pa_nil) (star_cons hst _ _)) (by decide +kernel) (by decide +kernel) (star_cons hst _ _) rfl) fun σ H Q ⟨m, ρ, st, d, st', S, h, q⟩ => ?_
  obtain ⟨⟨d1, st1⟩, e1, h⟩ := Option.bind_eq_some_iff.mp h
  obtain ⟨b, e2, h⟩ := Option.map_eq_some_iff.mp h
  cases h
  refine tE.mk S e1 fun v H1 m1 x1 S1 r1 => ?_
  obtain ⟨u, h1, h2⟩ := isiD_kit S1.2 r1 e2
  exact ⟨v, .ty (tyN t), .type u, .type (tyN t), b, rfl, .ty _, h1, kit_ty h2, (q.later x1).here S1.2 rfl⟩
/-- a list's method -/
def mtN : Mt → Str
  | .append => "append"
  | .extend => "extend"
  | .pop => "pop"
theorem isL_ty {K : PySem.W.Frag} {Tb : List Addr} {H : Hp} {m : List Addr} {st : Sto} (R : Rp K Tb H m st) {d : D} {v : V} (r : RV K H m d v) (e : isL d st = true) : tyV K "list" v H := by
  cases d with
  | ref k =>
    obtain ⟨a, rfl, h⟩ := r
    obtain ⟨ds, z⟩ := Option.isSome_iff_exists.mp (show (lstOf st k).isSome = true from e)
    obtain ⟨a', xs, h', h1, _⟩ := R.lst z
    rw [h] at h'; cases h'
    exact .inl ⟨rfl, xs, SqL.of h1⟩
  | _ => cases e
theorem s_mth {mm : Mt} {apos : Pos} (ha : PE X a (tE X.K Z n ea)) (hs : PA X es (tA X.K Z n el)) (hst : es.all nst = true) (hl : es.length = el.length) (hn : es.length < 30) (hb : ncl a = true) (hline : (apos.endLine == pos.line) = true) :
    PE X (.Call (.Attribute a (mtN mm) apos) es [] pos) (tE X.K Z n (.mth mm ea el)) := by
  have hbase := ncl_base hb (mtN mm) X.env (eval a X.env)
  cases es with
  | nil =>
    have key : PE X (.Call (.Attribute a (mtN mm) apos) [] [] pos) (tBM0 X.K "list" (rDM X.K Z.Tb (mtD mm)) (tE X.K Z n ea)) := by
      have hm : MtR X (mtS mm) (rDM X.K Z.Tb (mtD mm)) := mt_ok mm
      cases mm
      · exact pe_bm0 PySem.F.plainAttrs_list PySem.F.slot_list_append PySem.F.type_list_append hm ha hbase hline
      · exact pe_bm0 PySem.F.plainAttrs_list PySem.F.slot_list_extend PySem.F.type_list_extend hm ha hbase hline
      · exact pe_bm0 PySem.F.plainAttrs_list PySem.F.slot_list_pop PySem.F.type_list_pop hm ha hbase hline
    refine PE_imp key fun σ H Q ⟨m, ρ, st, d, st', S, h, q⟩ => ?_
    cases el with
    | cons _ _ => cases hl
    | nil =>
      obtain ⟨⟨d1, st1⟩, e1, h⟩ := Option.bind_eq_some_iff.mp h
      split at h
      · rename_i hi
        exact tE.mk S e1 fun v H1 m1 x1 S1 r1 => ⟨isL_ty S1.2 r1 hi, m1, st1, d1, [], d, st', S1.2, r1, P2.nil, h, q.later x1⟩
      · cases h
  | cons e es =>
    have hst' := hst
    rw [List.all_cons, Bool.and_eq_true] at hst
    have hfew : ((backTo pos (starEach (e :: es) X.env)).all (fun x => !x.1) && (backToKw pos (keywordEach [] X.env)).all (fun x => x.1.isSome)
      && decide ((e :: es).length + ([] : List Keyword).length + (if ([] : List Keyword).isEmpty then 0 else 1) < 30)) = true := by
      rw [star_few hst']
      show (true && true && decide ((e :: es).length + 0 + 0 < 30)) = true
      simpa using hn
    have key : PE X (.Call (.Attribute a (mtN mm) apos) (e :: es) [] pos) (tBM X.K "list" (rDM X.K Z.Tb (mtD mm)) (tE X.K Z n ea) (tA X.K Z n el)) := by
      have hm : MtR X (mtS mm) (rDM X.K Z.Tb (mtD mm)) := mt_ok mm
      cases mm
      · exact pe_bm PySem.F.plainAttrs_list PySem.F.slot_list_append PySem.F.type_list_append hm ha hs hbase hfew hline (star_cons hst.1 es _) (star_plain hst.2 _ _)
      · exact pe_bm PySem.F.plainAttrs_list PySem.F.slot_list_extend PySem.F.type_list_extend hm ha hs hbase hfew hline (star_cons hst.1 es _) (star_plain hst.2 _ _)
      · exact pe_bm PySem.F.plainAttrs_list PySem.F.slot_list_pop PySem.F.type_list_pop hm ha hs hbase hfew hline (star_cons hst.1 es _) (star_plain hst.2 _ _)
    refine PE_imp key fun σ H Q ⟨m, ρ, st, d, st', S, h, q⟩ => ?_
    obtain ⟨⟨d1, st1⟩, e1, h⟩ := Option.bind_eq_some_iff.mp h
    split at h
    · rename_i hi
      obtain ⟨⟨ds, st2⟩, e2, h⟩ := Option.bind_eq_some_iff.mp h
      exact tE.mk S e1 fun v H1 m1 x1 S1 r1 => ⟨isL_ty S1.2 r1 hi, tA.mk S1 e2 fun vs H2 m2 x2 S2 r2 => ⟨m2, st2, d1, ds, d, st', S2.2, S1.2.rv x2 r1, r2, h, q.later (x1.trans x2)⟩⟩
    · cases h
/-- subscripts, slices -/
theorem s_idx (ha : PE X a (tE X.K Z n ea)) (hb : PE X b (tE X.K Z n eb)) (hp : nsl b = true) : PE X (.Subscript a b pos) (tE X.K Z n (.idx ea eb)) :=
  PE_imp (pe_ix (ix_D (Tb := Z.Tb)) ha hb (nsl_plain hp)) fun σ H Q ⟨m, ρ, st, d, st', S, h, q⟩ => by
    obtain ⟨⟨d1, st1⟩, e1, h⟩ := Option.bind_eq_some_iff.mp h
    obtain ⟨⟨d2, st2⟩, e2, h⟩ := Option.bind_eq_some_iff.mp h
    obtain ⟨k, e3, h⟩ := Option.map_eq_some_iff.mp h
    cases h
    exact tE.mk S e1 fun v H1 m1 x1 S1 r1 => tE.mk S1 e2 fun w H2 m2 x2 S2 r2 => ⟨m2, st2, d1, d2, _, S2.2, S1.2.rv x2 r1, r2, e3, q.later (x1.trans x2)⟩
theorem s_slF {p2 : Pos} (ha : PE X a (tE X.K Z n ea)) (hb : PE X b (tE X.K Z n eb)) : PE X (.Subscript a (.Slice (some b) none none p2) pos) (tE X.K Z n (.slF ea eb)) :=
  PE_imp (pe_slice (sl_D (Tb := Z.Tb)) ha (po_some hb) po_none) fun σ H Q ⟨m, ρ, st, d, st', S, h, q⟩ => by
    obtain ⟨⟨d1, st1⟩, e1, h⟩ := Option.bind_eq_some_iff.mp h
    obtain ⟨⟨d2, st2⟩, e2, h⟩ := Option.bind_eq_some_iff.mp h
    split at h
    · rename_i i hi
      obtain rfl : d2 = .int i := hi
      exact tE.mk S e1 fun v H1 m1 x1 S1 r1 => tE.mk S1 e2 fun w H2 m2 x2 S2 r2 => by
        cases r2
        exact ⟨i, rfl, m2, st2, d1, d, st', S2.2, S1.2.rv x2 r1, h, q.later (x1.trans x2)⟩
    · cases h
theorem s_slT {p2 : Pos} (ha : PE X a (tE X.K Z n ea)) (hb : PE X b (tE X.K Z n eb)) : PE X (.Subscript a (.Slice none (some b) none p2) pos) (tE X.K Z n (.slT ea eb)) :=
  PE_imp (pe_slice (sl_D (Tb := Z.Tb)) ha po_none (po_some hb)) fun σ H Q ⟨m, ρ, st, d, st', S, h, q⟩ => by
    obtain ⟨⟨d1, st1⟩, e1, h⟩ := Option.bind_eq_some_iff.mp h
    obtain ⟨⟨d2, st2⟩, e2, h⟩ := Option.bind_eq_some_iff.mp h
    split at h
    · rename_i i hi
      obtain rfl : d2 = .int i := hi
      exact tE.mk S e1 fun v H1 m1 x1 S1 r1 => tE.mk S1 e2 fun w H2 m2 x2 S2 r2 => by
        cases r2
        exact ⟨i, rfl, m2, st2, d1, d, st', S2.2, S1.2.rv x2 r1, h, q.later (x1.trans x2)⟩
    · cases h
theorem s_slB {x : Expr} {ex : E} {p2 : Pos} (ha : PE X a (tE X.K Z n ea)) (hb : PE X b (tE X.K Z n eb)) (hx : PE X x (tE X.K Z n ex)) : PE X (.Subscript a (.Slice (some b) (some x) none p2) pos) (tE X.K Z n (.slB ea eb ex)) :=
  PE_imp (pe_slice (sl_D (Tb := Z.Tb)) ha (po_some hb) (po_some hx)) fun σ H Q ⟨m, ρ, st, d, st', S, h, q⟩ => by
    obtain ⟨⟨d1, st1⟩, e1, h⟩ := Option.bind_eq_some_iff.mp h
    obtain ⟨⟨d2, st2⟩, e2, h⟩ := Option.bind_eq_some_iff.mp h
    obtain ⟨⟨d3, st3⟩, e3, h⟩ := Option.bind_eq_some_iff.mp h
    split at h
    · rename_i i j hi hj
      obtain rfl : d2 = .int i := hi
      obtain rfl : d3 = .int j := hj
      exact tE.mk S e1 fun v H1 m1 x1 S1 r1 => tE.mk S1 e2 fun w H2 m2 x2 S2 r2 => by
        cases r2
        exact ⟨i, rfl, tE.mk S2 e3 fun y H3 m3 x3 S3 r3 => by
          cases r3
          exact ⟨j, rfl, m3, st3, d1, d, st', S3.2, S1.2.rv (x2.trans x3) r1, h, q.later ((x1.trans x2).trans x3)⟩⟩
    · cases h
theorem s_slR {k : Nat} {p1 p2 p3 : Pos} (ha : PE X a (tE X.K Z n ea)) : PE X (.Subscript a (.Slice none none (some (.UnaryOp .USub (.Constant (.int 1) k p1) p2)) p3) pos) (tE X.K Z n (.slR ea)) :=
  PE_imp (pe_revL ha) fun σ H Q ⟨m, ρ, st, d, st', S, h, q⟩ => by
    obtain ⟨⟨d1, st1⟩, e1, h⟩ := Option.bind_eq_some_iff.mp h
    split at h
    · rename_i kk hk
      obtain rfl : d1 = .ref kk := hk
      obtain ⟨ds, e2, h⟩ := Option.map_eq_some_iff.mp h
      cases h
      refine tE.mk S e1 fun v H1 m1 x1 S1 r1 => ?_
      obtain ⟨a', rfl, hm⟩ := r1
      obtain ⟨a'', xs, h', h1, rr, _⟩ := S1.2.lst e2
      rw [hm] at h'; cases h'
      exact ⟨a', xs, rfl, SqL.of h1, (q.later x1).new S1.2 rr.reverse⟩
    · cases h
end
end Dz
end
section
set_option Elab.async false
set_option linter.all false
set_option maxRecDepth 100000
set_option maxHeartbeats 1000000
namespace Dz
open PySem L2 PyProof.Rows
/-! ### iterators -/
def tI (K : PySem.W.Frag) (Z : Wd) (n : Nat) (ik : Ik) (src : List E) : TI := fun σ H R => ∃ m ρ st ds st1 J k, Sx K Z σ H m ρ st ∧ evs src Z.g (Z.C n) ρ st = some (ds, st1) ∧ itD ik ds st1 = some (J, k) ∧ ∀ T H' m', Ext m H m' H' → Rp K Z.Tb H' m' st1 → RI K H' m' J T → R T H'
theorem PI_imp {X : Cx} {tg x : Expr} {t t' : TI} (h : PI X tg x t) (i : ∀ σ H R, t' σ H R → t σ H R) : PI X tg x t' := ⟨fun pins s σ H R I q => h.run pins s σ H R I (i σ H R q)⟩
section
variable {X : Cx} {tg : Expr}
/-- over a list or a tuple -/
def iOneA (K : PySem.W.Frag) (tl : TE) : TI := fun σ H R => tl σ H fun x H1 => ∃ a xs, x = .ref a ∧ ((SqL K H1 a xs ∧ R (Itl K a) H1) ∨ (SqT K H1 a xs ∧ R (Itt K a) H1))
theorem pi_oneA {l : Expr} {tl : TE} (hl : PE X l tl) : PI X tg l (iOneA X.K tl) := by
  refine ⟨fun pins s σ H R I h => ?_⟩
  refine thn (hl.run pins s σ H _ I h) fun v s1 ⟨x, H1, I1, r1, q1⟩ => ?_
  obtain ⟨a, xs, rfl, q⟩ := q1
  cases r1
  rcases q with ⟨hq, q⟩ | ⟨hq, q⟩
  · obtain ⟨its, rv, p, hz⟩ := I1.list hq
    refine wpAny_pyIter_list p.isList ?_
    refine ⟨s1.heap.objs.size, [s1.heap.objs.size], _, _, H1, rfl, I1.kept (t' := s1.toks) fun b o e => Heap.get?_push_of_some _ e, turn_list a _, ⟨_, Heap.get?_push_size _ rfl, rfl, rfl⟩, fun b hb => ?_, q⟩
    have e : b = s1.heap.objs.size := by simpa using hb
    subst e
    exact I1.fpOk (Nat.le_refl _) (I1.hok.fresh (Nat.le_refl _))
  · obtain ⟨its, rv, p, hz⟩ := I1.tuple hq
    refine wpAny_pyIter_tuple (show s1.heap.IsTuple a its.toArray from p) ?_
    refine ⟨s1.heap.objs.size, [s1.heap.objs.size], _, _, H1, rfl, I1.kept (t' := s1.toks) fun b o e => Heap.get?_push_of_some _ e, turn_tuple a _, ⟨_, Heap.get?_push_size _ rfl, rfl, rfl⟩, fun b hb => ?_, q⟩
    have e : b = s1.heap.objs.size := by simpa using hb
    subst e
    exact I1.fpOk (Nat.le_refl _) (I1.hok.fresh (Nat.le_refl _))
end
/-! what itD tells -/
section
variable {ds : List D} {st : Sto} {J : IT} {k : Nat}
theorem it_rng1 (h : itD .rng1 ds st = some (J, k)) : ∃ j, ds = [.int j] ∧ inR j = true ∧ J = .rng 0 1 j.toNat := by
  match ds, h with
  | [.int j], h =>
    have h : (if inR j then some (IT.rng 0 1 j.toNat, j.toNat) else none) = some (J, k) := h
    split at h
    · rename_i hi; cases h; exact ⟨j, rfl, hi, rfl⟩
    · cases h
  | [], h => cases h
  | .non :: _, h => cases h
  | .bl _ :: _, h => cases h
  | .str _ :: _, h => cases h
  | .tup _ :: _, h => cases h
  | .fz _ :: _, h => cases h
  | .ref _ :: _, h => cases h
  | .int _ :: _ :: _, h => cases h
theorem it_rng2 (h : itD .rng2 ds st = some (J, k)) : ∃ i j, ds = [.int i, .int j] ∧ inR i = true ∧ inR j = true ∧ J = .rng i 1 (j - i).toNat := by
  match ds, h with
  | [.int i, .int j], h =>
    have h : (if inR i && inR j then some (IT.rng i 1 (j - i).toNat, (j - i).toNat) else none) = some (J, k) := h
    split at h
    · rename_i hi; rw [Bool.and_eq_true] at hi; cases h; exact ⟨i, j, rfl, hi.1, hi.2, rfl⟩
    · cases h
  | [], h => cases h
  | .non :: _, h => cases h
  | .bl _ :: _, h => cases h
  | .str _ :: _, h => cases h
  | .tup _ :: _, h => cases h
  | .fz _ :: _, h => cases h
  | .ref _ :: _, h => cases h
  | [.int _], h => cases h
  | .int _ :: .non :: _, h => cases h
  | .int _ :: .bl _ :: _, h => cases h
  | .int _ :: .str _ :: _, h => cases h
  | .int _ :: .tup _ :: _, h => cases h
  | .int _ :: .fz _ :: _, h => cases h
  | .int _ :: .ref _ :: _, h => cases h
  | .int _ :: .int _ :: _ :: _, h => cases h
theorem it_rng3 (h : itD .rng3 ds st = some (J, k)) : ∃ i j c, ds = [.int i, .int j, .int c] ∧ (c ≠ 0 ∧ c.natAbs < 1073741824 ∧ Builtin.Range.small i j c = true ∧ 0 ≤ Builtin.Range.rangeSize i j c) ∧ J = .rng i c (Builtin.Range.rangeSize i j c).toNat := by
  match ds, h with
  | [.int i, .int j, .int c], h =>
    have h : (if c ≠ 0 ∧ c.natAbs < 1073741824 ∧ Builtin.Range.small i j c = true ∧ 0 ≤ Builtin.Range.rangeSize i j c then some (IT.rng i c (Builtin.Range.rangeSize i j c).toNat, (Builtin.Range.rangeSize i j c).toNat) else none) = some (J, k) := h
    split at h
    · rename_i hi; cases h; exact ⟨i, j, c, rfl, hi, rfl⟩
    · cases h
  | [], h => cases h
  | .non :: _, h => cases h
  | .bl _ :: _, h => cases h
  | .str _ :: _, h => cases h
  | .tup _ :: _, h => cases h
  | .fz _ :: _, h => cases h
  | .ref _ :: _, h => cases h
  | [.int _], h => cases h
  | .int _ :: .non :: _, h => cases h
  | .int _ :: .bl _ :: _, h => cases h
  | .int _ :: .str _ :: _, h => cases h
  | .int _ :: .tup _ :: _, h => cases h
  | .int _ :: .fz _ :: _, h => cases h
  | .int _ :: .ref _ :: _, h => cases h
  | [.int _, .int _], h => cases h
  | .int _ :: .int _ :: .non :: _, h => cases h
  | .int _ :: .int _ :: .bl _ :: _, h => cases h
  | .int _ :: .int _ :: .str _ :: _, h => cases h
  | .int _ :: .int _ :: .tup _ :: _, h => cases h
  | .int _ :: .int _ :: .fz _ :: _, h => cases h
  | .int _ :: .int _ :: .ref _ :: _, h => cases h
  | .int _ :: .int _ :: .int _ :: _ :: _, h => cases h
def tupJ : Ik → List D → IT
  | .one, xs => .tup xs
  | .enum, xs => .enT xs
  | _, xs => .rvT xs
def lstJ : Ik → Nat → Nat → IT
  | .one, i, _ => .lst i
  | .enum, i, _ => .enL i
  | _, i, n => .rvL i n
theorem it_seq {ik : Ik} (hk : ik = .one ∨ ik = .enum ∨ ik = .rev) (h : itD ik ds st = some (J, k)) :
    (∃ xs, ds = [.tup xs] ∧ J = tupJ ik xs) ∨ (∃ i xs, ds = [.ref i] ∧ lstOf st i = some xs ∧ J = lstJ ik i xs.length) := by
  rcases hk with rfl | rfl | rfl <;>
  · match ds, h with
    | [.tup xs], h => cases h; exact .inl ⟨xs, rfl, rfl⟩
    | [.ref i], h =>
      obtain ⟨xs, e, h⟩ := Option.map_eq_some_iff.mp h
      cases h
      exact .inr ⟨i, xs, rfl, e, rfl⟩
    | [], h => cases h
    | .non :: _, h => cases h
    | .bl _ :: _, h => cases h
    | .str _ :: _, h => cases h
    | .int _ :: _, h => cases h
    | .fz _ :: _, h => cases h
    | .tup _ :: _ :: _, h => cases h
    | .ref _ :: _ :: _, h => cases h
theorem it_zip (h : itD .zip ds st = some (J, k)) : (∃ xs ys, ds = [.tup xs, .tup ys] ∧ J = .zpT xs ys) ∨ (∃ i j xs ys, ds = [.ref i, .ref j] ∧ lstOf st i = some xs ∧ lstOf st j = some ys ∧ J = .zpL i j) := by
  match ds, h with
  | [.tup xs, .tup ys], h => cases h; exact .inl ⟨xs, ys, rfl, rfl⟩
  | [.ref i, .ref j], h =>
    obtain ⟨xs, e, h⟩ := Option.bind_eq_some_iff.mp h
    obtain ⟨ys, e2, h⟩ := Option.map_eq_some_iff.mp h
    cases h
    exact .inr ⟨i, j, xs, ys, rfl, e, e2, rfl⟩
  | [], h => cases h
  | .non :: _, h => cases h
  | .bl _ :: _, h => cases h
  | .str _ :: _, h => cases h
  | .int _ :: _, h => cases h
  | .fz _ :: _, h => cases h
  | [.tup _], h => cases h
  | .tup _ :: .non :: _, h => cases h
  | .tup _ :: .bl _ :: _, h => cases h
  | .tup _ :: .str _ :: _, h => cases h
  | .tup _ :: .int _ :: _, h => cases h
  | .tup _ :: .fz _ :: _, h => cases h
  | .tup _ :: .ref _ :: _, h => cases h
  | .tup _ :: .tup _ :: _ :: _, h => cases h
  | [.ref _], h => cases h
  | .ref _ :: .non :: _, h => cases h
  | .ref _ :: .bl _ :: _, h => cases h
  | .ref _ :: .str _ :: _, h => cases h
  | .ref _ :: .int _ :: _, h => cases h
  | .ref _ :: .fz _ :: _, h => cases h
  | .ref _ :: .tup _ :: _, h => cases h
  | .ref _ :: .ref _ :: _ :: _, h => cases h
end
section
variable {Z : Wd} {X : Cx} {n : Nat} {a b : Expr} {ea eb : E} {pos p : Pos} {es : List Expr} {el : List E} {tg : Expr}
theorem P2.two {K : PySem.W.Frag} {H : Hp} {m : List Addr} {d1 d2 : D} {vs : List V} (h : P2 (RV K H m) [d1, d2] vs) : ∃ v w, vs = [v, w] ∧ RV K H m d1 v ∧ RV K H m d2 w := by
  obtain ⟨v, _, rfl, r, t⟩ := h.cons_l
  obtain ⟨w, _, rfl, r2, t⟩ := t.cons_l
  obtain rfl := t.nil_l
  exact ⟨v, w, rfl, r, r2⟩
theorem P2.three {K : PySem.W.Frag} {H : Hp} {m : List Addr} {d1 d2 d3 : D} {vs : List V} (h : P2 (RV K H m) [d1, d2, d3] vs) : ∃ v w u, vs = [v, w, u] ∧ RV K H m d1 v ∧ RV K H m d2 w ∧ RV K H m d3 u := by
  obtain ⟨v, _, rfl, r, t⟩ := h.cons_l
  obtain ⟨w, u, rfl, r2, r3⟩ := t.two
  exact ⟨v, w, u, rfl, r, r2, r3⟩
theorem evs_one {ds : List D} {st st1 : Sto} {ρ : Env} (h : evs [ea] Z.g (Z.C n) ρ st = some (ds, st1)) : ∃ d, ds = [d] ∧ ev ea Z.g (Z.C n) ρ st = some (d, st1) := by
  obtain ⟨⟨d, st2⟩, e1, h⟩ := Option.bind_eq_some_iff.mp h
  obtain ⟨⟨ds2, st3⟩, e2, h⟩ := Option.map_eq_some_iff.mp h
  cases e2
  cases h
  exact ⟨d, rfl, e1⟩
theorem i_one (ha : PE X a (tE X.K Z n ea)) : PI X tg a (tI X.K Z n .one [ea]) :=
  PI_imp (pi_oneA ha) fun σ H R ⟨m, ρ, st, ds, st1, J, k, S, h, hj, q⟩ => by
    obtain ⟨d, rfl, e⟩ := evs_one h
    refine tE.mk S e fun v H1 m1 x1 S1 r1 => ?_
    rcases it_seq (.inl rfl) hj with ⟨ds, he, rfl⟩ | ⟨k', ds, he, e2, rfl⟩
    · cases he
      obtain ⟨a', xs, rfl, h1, rr⟩ := r1
      exact ⟨a', xs, rfl, .inr ⟨h1, q _ H1 m1 x1 S1.2 ⟨a', xs, rfl, h1, rr.p2⟩⟩⟩
    · cases he
      obtain ⟨a', rfl, hm⟩ := r1
      obtain ⟨a'', xs, h', h1, rr, _⟩ := S1.2.lst e2
      rw [hm] at h'; cases h'
      exact ⟨a', xs, rfl, .inl ⟨SqL.of h1, q _ H1 m1 x1 S1.2 ⟨a', rfl, hm⟩⟩⟩
theorem inR_iff {i : Int} (h : inR i = true) : -(2 ^ 62) ≤ i ∧ i < 2 ^ 62 := by
  unfold inR at h
  rw [Bool.and_eq_true] at h
  exact ⟨of_decide_eq_true h.1, of_decide_eq_true h.2⟩
theorem i_rng1 (G : Wk Z X n) (hg : Gl X "range") (ha : PA X [a] (tA X.K Z n el)) (hst : nst a = true) : PI X tg (.Call (.Name "range" p) [a] [] pos) (tI X.K Z n .rng1 el) :=
  PI_imp (pi_range1 hg (G.blt _ (by simp [blts])) ha (star_cons hst _ _)) fun σ H R ⟨m, ρ, st, ds, st1, J, k, S, h, hj, q⟩ => by
    refine tA.mk S h fun vs H1 m1 x1 S1 r1 => ?_
    obtain ⟨j, rfl, hi, rfl⟩ := it_rng1 hj
    obtain ⟨v, _, rfl, r, t⟩ := r1.cons_l
    obtain rfl := t.nil_l
    cases r
    have z := inR_iff hi
    exact ⟨j, rfl, z.1, z.2, q _ H1 m1 x1 S1.2 (.inr ⟨rfl, rfl⟩)⟩
theorem i_rng2 (G : Wk Z X n) (hg : Gl X "range") (ha : PA X [a, b] (tA X.K Z n el)) (hst : nst a = true) (hst2 : nst b = true) : PI X tg (.Call (.Name "range" p) [a, b] [] pos) (tI X.K Z n .rng2 el) :=
  PI_imp (pi_range2 hg (G.blt _ (by simp [blts])) ha (by rw [star_cons hst, star_cons hst2]; rfl) (star_cons hst2 _ _)) fun σ H R ⟨m, ρ, st, ds, st1, J, k, S, h, hj, q⟩ => by
    refine tA.mk S h fun vs H1 m1 x1 S1 r1 => ?_
    obtain ⟨i, j, rfl, hi, hi2, rfl⟩ := it_rng2 hj
    obtain ⟨v, w, rfl, r, r2⟩ := r1.two
    cases r
    cases r2
    have z := inR_iff hi
    have z2 := inR_iff hi2
    exact ⟨i, j, rfl, ⟨z.1, z.2, z2.1, z2.2⟩, q _ H1 m1 x1 S1.2 (.inr ⟨rfl, rfl⟩)⟩
theorem i_rng3 {x : Expr} (G : Wk Z X n) (hg : Gl X "range") (ha : PA X [a, b, x] (tA X.K Z n el)) (hst : [a, b, x].all nst = true) : PI X tg (.Call (.Name "range" p) [a, b, x] [] pos) (tI X.K Z n .rng3 el) := by
  have hst' := hst
  rw [List.all_cons, Bool.and_eq_true] at hst
  exact PI_imp (pi_range3 hg (G.blt _ (by simp [blts])) ha (star_cons hst.1 _ _) (star_plain hst.2 _ _)) fun σ H R ⟨m, ρ, st, ds, st1, J, k, S, h, hj, q⟩ => by
    refine tA.mk S h fun vs H1 m1 x1 S1 r1 => ?_
    obtain ⟨i, j, c, rfl, hi, rfl⟩ := it_rng3 hj
    obtain ⟨v, w, u, rfl, r, r2, r3⟩ := r1.three
    cases r
    cases r2
    cases r3
    exact ⟨i, j, c, _, rfl, ⟨hi.1, hi.2.1, hi.2.2.1, (Int.toNat_of_nonneg hi.2.2.2).symm⟩, q _ H1 m1 x1 S1.2 (.inl rfl)⟩
theorem i_enum {elts : List Expr} {kk : Nat} {tpos : Pos} (G : Wk Z X n) (hg : Gl X "enumerate") (ha : PA X [a] (tA X.K Z n el)) (hst : nst a = true) : PI X (.Tuple elts kk tpos) (.Call (.Name "enumerate" p) [a] [] pos) (tI X.K Z n .enum el) :=
  PI_imp (pi_enumA hg (G.blt _ (by simp [blts])) ha (star_cons hst _ _)) fun σ H R ⟨m, ρ, st, ds, st1, J, k, S, h, hj, q⟩ => by
    refine tA.mk S h fun vs H1 m1 x1 S1 r1 => ?_
    rcases it_seq (.inr (.inl rfl)) hj with ⟨ds, rfl, rfl⟩ | ⟨k', ds, rfl, e2, rfl⟩
    · obtain ⟨v, _, rfl, r, t⟩ := r1.cons_l
      obtain rfl := t.nil_l
      obtain ⟨a', xs, rfl, h1, rr⟩ := r
      exact ⟨a', xs, rfl, .inr ⟨h1, q _ H1 m1 x1 S1.2 ⟨a', xs, rfl, h1, rr.p2⟩⟩⟩
    · obtain ⟨v, _, rfl, r, t⟩ := r1.cons_l
      obtain rfl := t.nil_l
      obtain ⟨a', rfl, hm⟩ := r
      obtain ⟨a'', xs, h', h1, rr, _⟩ := S1.2.lst e2
      rw [hm] at h'; cases h'
      exact ⟨a', xs, rfl, .inl ⟨SqL.of h1, q _ H1 m1 x1 S1.2 ⟨a', rfl, hm⟩⟩⟩
theorem i_zip {elts : List Expr} {kk : Nat} {tpos : Pos} (G : Wk Z X n) (hg : Gl X "zip") (ha : PA X [a, b] (tA X.K Z n el)) (hst : nst a = true) (hst2 : nst b = true) : PI X (.Tuple elts kk tpos) (.Call (.Name "zip" p) [a, b] [] pos) (tI X.K Z n .zip el) :=
  PI_imp (RZ.pi_zipA hg (G.blt _ (by simp [blts])) ha (star_cons hst _ _) (star_plain (by rw [List.all_cons, hst2]; rfl) _ _)) fun σ H R ⟨m, ρ, st, ds, st1, J, k, S, h, hj, q⟩ => by
    refine tA.mk S h fun vs H1 m1 x1 S1 r1 => ?_
    rcases it_zip hj with ⟨ds, ds2, rfl, rfl⟩ | ⟨k1, k2, ds, ds2, rfl, e2, e3, rfl⟩
    · obtain ⟨v, w, rfl, r, r2⟩ := r1.two
      obtain ⟨a', xs, rfl, h1, rr⟩ := r
      obtain ⟨b', ys, rfl, h2, rr2⟩ := r2
      exact ⟨a', b', xs, ys, rfl, .inr ⟨h1, h2, q _ H1 m1 x1 S1.2 ⟨a', b', xs, ys, rfl, h1, rr.p2, h2, rr2.p2⟩⟩⟩
    · obtain ⟨v, w, rfl, r, r2⟩ := r1.two
      obtain ⟨a', rfl, hm⟩ := r
      obtain ⟨b', rfl, hm2⟩ := r2
      obtain ⟨a'', xs, h', h1, rr, _⟩ := S1.2.lst e2
      rw [hm] at h'; cases h'
      obtain ⟨b'', ys, h', h2, rr2, _⟩ := S1.2.lst e3
      rw [hm2] at h'; cases h'
      exact ⟨a', b', xs, ys, rfl, .inl ⟨SqL.of h1, SqL.of h2, q _ H1 m1 x1 S1.2 ⟨a', b', rfl, hm, hm2⟩⟩⟩
theorem i_rev (G : Wk Z X n) (hg : Gl X "reversed") (ha : PE X a (tE X.K Z n ea)) (hst : nst a = true) : PI X tg (.Call (.Name "reversed" p) [a] [] pos) (tI X.K Z n .rev [ea]) :=
  PI_imp (RT.pi_revA hg (G.blt _ (by simp [blts])) ha (star_cons hst _ _)) fun σ H R ⟨m, ρ, st, ds, st1, J, k, S, h, hj, q⟩ => by
    obtain ⟨d, rfl, e⟩ := evs_one h
    refine tE.mk S e fun v H1 m1 x1 S1 r1 => ?_
    rcases it_seq (.inr (.inr rfl)) hj with ⟨ds, he, rfl⟩ | ⟨k', ds, he, e2, rfl⟩
    · cases he
      obtain ⟨a', xs, rfl, h1, rr⟩ := r1
      exact ⟨a', xs, rfl, .inr ⟨h1, q _ H1 m1 x1 S1.2 ⟨a', xs, rfl, h1, rr.p2⟩⟩⟩
    · cases he
      obtain ⟨a', rfl, hm⟩ := r1
      obtain ⟨a'', xs, h', h1, rr, _⟩ := S1.2.lst e2
      rw [hm] at h'; cases h'
      exact ⟨a', xs, rfl, .inl ⟨SqL.of h1, q _ H1 m1 x1 S1.2 ⟨a', by rw [rr.1], hm⟩⟩⟩
end
end Dz
end
section
set_option Elab.async false
set_option linter.all false
set_option maxRecDepth 100000
set_option maxHeartbeats 1000000
namespace Dz
open PySem L2 PyProof.Rows
/-! ### targets -/
mutual
def tgI : Tg → List Nat
  | .nm i => [i]
  | .tp ts => tgIs ts
def tgIs : List Tg → List Nat
  | [] => []
  | t :: ts => tgI t ++ tgIs ts
end
theorem wipe_get (σ : L2.St) (j : Nat) : ∀ vs : List Nat, (L2.wipe σ vs)[j]? = if j ∈ vs then σ[j]?.map (fun _ => none) else σ[j]?
  | [] => by simp [L2.wipe]
  | v :: vs => by
    unfold L2.wipe
    rw [List.getElem?_set, wipe_get σ j vs, L2.wipe_length]
    by_cases h : v = j
    · subst h
      simp
      by_cases h2 : v < σ.length
      · simp [h2]
      · simp [h2]
    · rw [if_neg h]
      by_cases h2 : j ∈ vs
      · simp [h2]
      · rw [if_neg h2, if_neg (by rw [List.mem_cons, not_or]; exact ⟨fun e => h e.symm, h2⟩)]
theorem wipe_set {σ : L2.St} {i : Nat} {x : Option V} {vs : List Nat} (h : i ∈ vs) : L2.wipe (σ.set i x) vs = L2.wipe σ vs := by
  apply List.ext_getElem?
  intro j
  rw [wipe_get, wipe_get, List.getElem?_set]
  by_cases hj : i = j
  · subst hj
    simp [h]
    by_cases h2 : i < σ.length
    · simp [h2]
    · simp [h2]
  · rw [if_neg hj]
theorem wipe_twice (σ : L2.St) (vs : List Nat) : L2.wipe (L2.wipe σ vs) vs = L2.wipe σ vs := by
  apply List.ext_getElem?
  intro j
  rw [wipe_get, wipe_get]
  by_cases h : j ∈ vs
  · simp only [h, if_true]; cases σ[j]? <;> rfl
  · simp [h]
def gT (K : PySem.W.Frag) (Z : Wd) (tg : Tg) : TG := fun v σ H Q => ∃ m ρ st d ρ', Sx K Z σ H m ρ st ∧ RV K H m d v ∧ asgD tg d st ρ = some ρ' ∧ ∀ σ', RE K H m ρ' σ' → (∀ vs, (∀ i ∈ tgI tg, i ∈ vs) → L2.wipe σ' vs = L2.wipe σ vs) → Q σ' H
def gTs (K : PySem.W.Frag) (Z : Wd) (tgs : List Tg) : TGs := fun vs σ H Q => ∃ m ρ st ds ρ', Sx K Z σ H m ρ st ∧ P2 (RV K H m) ds vs ∧ asgDs tgs ds st ρ = some ρ' ∧ ∀ σ', RE K H m ρ' σ' → (∀ vs, (∀ i ∈ tgIs tgs, i ∈ vs) → L2.wipe σ' vs = L2.wipe σ vs) → Q σ' H
theorem PG_imp {X : Cx} {x : Expr} {t t' : TG} (h : PG X x t) (i : ∀ v σ H Q, t' v σ H Q → t v σ H Q) : PG X x t' := ⟨fun pins s σ H v u Q I r q => h.run pins s σ H v u Q I r (i v σ H Q q)⟩
theorem PGs_imp {X : Cx} {x : List Expr} {t t' : TGs} (h : PGs X x t) (i : ∀ v σ H Q, t' v σ H Q → t v σ H Q) : PGs X x t' := ⟨fun pins s σ H v u Q I r q => h.run pins s σ H v u Q I r (i v σ H Q q)⟩
theorem asg_cons {e : Expr} (h : nst e = true) (es : List Expr) (env : PySem.Env) : assignEach (e :: es) env = (false, assign e env) :: assignEach es env := by
  cases e <;> first | rfl | cases h
theorem asg_len : ∀ {es : List Expr} (h : es.all nst = true) (env : PySem.Env), (assignEach es env).length = es.length ∧ (assignEach es env).findIdx? (·.1) = none
  | [], _, _ => ⟨rfl, rfl⟩
  | e :: es, h, env => by
    rw [List.all_cons, Bool.and_eq_true] at h
    rw [asg_cons h.1]
    have ih := asg_len h.2 env
    refine ⟨by simp [ih.1], ?_⟩
    rw [List.findIdx?_cons, ih.2]
    rfl
section
variable {Z : Wd} {X : Cx} {n : Nat} {pos p : Pos}
theorem g_nm {i : Nat} {x : Str} (hN : X.N.Nodup) (hi : X.N[i]? = some x) (hx : Loc X.env.scope x) (hf : X.fn x = true ∨ X.env.scope.names.lookup x = some .local) : PG X (.Name x pos) (gT X.K Z (.nm i)) :=
  PG_imp (pg_name hN hi hx hf) fun v σ H Q ⟨m, ρ, st, d, ρ', S, r, e, q⟩ => by
    have e : (if i < ρ.length then some (ρ.set i (some d)) else none) = some ρ' := e
    split at e
    · cases e
      exact q _ (S.1.set r i) fun vs h => wipe_set (h i (by simp [tgI]))
    · cases e
theorem g_nil : PGs X [] (gTs X.K Z []) := PGs_imp pgs_nil fun v σ H Q ⟨m, ρ, st, ds, ρ', S, r, e, q⟩ => by
  cases ds with
  | nil => cases e; exact ⟨r.nil_l, q _ S.1 fun vs h => rfl⟩
  | cons => cases e
theorem g_cons {e : Expr} {es : List Expr} {t : Tg} {ts : List Tg} (h1 : PG X e (gT X.K Z t)) (h2 : PGs X es (gTs X.K Z ts)) (hst : nst e = true) : PGs X (e :: es) (gTs X.K Z (t :: ts)) :=
  PGs_imp (pgs_cons h1 h2 (by rw [asg_cons hst]; rfl)) fun v σ H Q ⟨m, ρ, st, ds, ρ', S, r, e, q⟩ => by
    cases ds with
    | nil => cases e
    | cons d ds =>
      obtain ⟨ρ1, e1, e2⟩ := Option.bind_eq_some_iff.mp e
      obtain ⟨v1, vs, rfl, r1, rr⟩ := r.cons_l
      refine ⟨v1, vs, rfl, m, ρ, st, d, ρ1, S, r1, e1, fun σ1 E1 w1 => ⟨m, ρ1, st, ds, ρ', ⟨E1, S.2⟩, rr, e2, fun σ2 E2 w2 => q σ2 E2 fun vs hv => ?_⟩⟩
      rw [w2 vs fun i hi => hv i (by simp [tgIs, hi]), w1 vs fun i hi => hv i (by simp [tgIs, hi])]
theorem asgDs_len : ∀ {ts : List Tg} {ds : List D} {st : Sto} {ρ ρ' : Env}, asgDs ts ds st ρ = some ρ' → ts.length = ds.length
  | [], [], _, _, _, _ => rfl
  | t :: ts, d :: ds, st, ρ, ρ', e => by
    obtain ⟨ρ1, e1, e2⟩ := Option.bind_eq_some_iff.mp e
    rw [List.length_cons, List.length_cons, asgDs_len e2]
  | [], d :: ds, _, _, _, e => by cases e
  | t :: ts, [], _, _, _, e => by cases e
theorem g_tp {es : List Expr} {k : Nat} {ts : List Tg} (hc : X.calm = true) (h : PGs X es (gTs X.K Z ts)) (hst : es.all nst = true) (hl : es.length = ts.length) : PG X (.Tuple es k pos) (gT X.K Z (.tp ts)) :=
  PG_imp (pg_tupA (n := es.length) hc h (asg_len hst _).1 (asg_len hst _).2) fun v σ H Q ⟨m, ρ, st, d, ρ', S, r, e, q⟩ => by
    cases d with
    | tup ds =>
      have e : asgDs ts ds st ρ = some ρ' := e
      obtain ⟨a, xs, rfl, h1, rr⟩ := r
      exact ⟨a, xs, rfl, .inl h1, by rw [← rr.p2.1, hl, asgDs_len e], m, ρ, st, ds, ρ', S, rr.p2, e, fun σ' E' w => q σ' E' w⟩
    | ref kk =>
      obtain ⟨ds, e1, e⟩ := Option.bind_eq_some_iff.mp e
      obtain ⟨a, rfl, hm⟩ := r
      obtain ⟨a', xs, h', h1, rr, _⟩ := S.2.lst e1
      rw [hm] at h'; cases h'
      exact ⟨a, xs, rfl, .inr (SqL.of h1), by rw [← rr.1, hl, asgDs_len e], m, ρ, st, ds, ρ', S, rr, e, fun σ' E' w => q σ' E' w⟩
    | _ => cases e
end
/-! ### a list that is no object of the store yet -/
section
variable {K : PySem.W.Frag} {Tb : List Addr} {H H' : Hp} {m m' : List Addr} {st st' : Sto} {A : Addr} {xs ys : List V}
theorem sqT_off (hD : H A = some (.lst xs)) (a : Addr) (zs : List V) (h : SqT K H a zs) : SqT K (upd H A (.lst ys)) a zs := by
  rcases h with (h | ⟨o, h⟩) | h
  · exact .inl (.inl (by rw [upd_ne (fun z => by subst z; rw [hD] at h; cases h)]; exact h))
  · exact .inl (.inr ⟨o, by rw [upd_ne (fun z => by subst z; rw [hD] at h; cases h)]; exact h⟩)
  · exact .inr h
theorem sqF_off (hD : H A = some (.lst xs)) (a : Addr) (zs : List V) (h : SqF K H a zs) : SqF K (upd H A (.lst ys)) a zs := by
  rcases h with ⟨o, h⟩ | h
  · exact .inl ⟨o, by rw [upd_ne (fun z => by subst z; rw [hD] at h; cases h)]; exact h⟩
  · exact .inr h
theorem rv_off (hD : H A = some (.lst xs)) {d : D} {v : V} (r : RV K H m d v) : RV K (upd H A (.lst ys)) m d v := RV.ext (sqT_off hD) (sqF_off hD) (fun _ _ e => e) d r
theorem RI.off (hD : H A = some (.lst xs)) {J : IT} {T : It} (h : RI K H m J T) : RI K (upd H A (.lst ys)) m J T := by
  cases J with
  | tup ds => obtain ⟨a, zs, e, s, r⟩ := h; exact ⟨a, zs, e, sqT_off hD a zs s, r.mono fun _ _ r => rv_off hD r⟩
  | lst k => exact h
  | rng => exact h
  | enT ds => obtain ⟨a, zs, e, s, r⟩ := h; exact ⟨a, zs, e, sqT_off hD a zs s, r.mono fun _ _ r => rv_off hD r⟩
  | enL k => exact h
  | zpT as bs => obtain ⟨a, b, zs, ws, e, s, r, s2, r2⟩ := h; exact ⟨a, b, zs, ws, e, sqT_off hD a zs s, r.mono fun _ _ r => rv_off hD r, sqT_off hD b ws s2, r2.mono fun _ _ r => rv_off hD r⟩
  | zpL k j => exact h
  | rvT ds => obtain ⟨a, zs, e, s, r⟩ := h; exact ⟨a, zs, e, sqT_off hD a zs s, r.mono fun _ _ r => rv_off hD r⟩
  | rvL k n => exact h
theorem Rp.off (R : Rp K Tb H m st) (hD : H A = some (.lst xs)) (hm : A ∉ m) : Rp K Tb (upd H A (.lst ys)) m st :=
  ⟨R.len, R.nd, fun k a o e1 e2 => by
    have z := R.obj k a o e1 e2
    have ne : a ≠ A := fun z => hm (z ▸ List.mem_of_getElem? e1)
    cases o with
    | lst ds =>
      obtain ⟨zs, q1, q2⟩ := z
      exact ⟨zs, by rw [upd_ne ne]; exact q1, q2.mono fun _ _ r => rv_off hD r⟩
    | dic _ => exact z.elim
    | ins _ _ => exact z.elim, fun P hP => tab_upd (fun ps z => by rw [hD] at z; cases z) (R.tab P hP)⟩
theorem Ext.off (x : Ext m H m' H') (hD : H A = none) : Ext m H m' (upd H' A (.lst ys)) :=
  ⟨x.new, fun b u e h1 h2 => by rw [upd_ne (ne_of_none e hD)]; exact x.keep b u e h1 h2, fun b e => upd_some (x.stay b e)⟩
theorem Ext.notin (x : Ext m H m' H') (hD : H A ≠ none) (hm : A ∉ m) : A ∉ m' := fun h => by
  obtain ⟨n, rfl, hn⟩ := x.new
  rcases List.mem_append.mp h with h | h
  · exact hm h
  · exact hD (hn A h)
/-- the list becomes an object of the store -/
theorem Rp.adopt (R : Rp K Tb H m st) (hD : H A = some (.lst xs)) (hm : A ∉ m) {ds : List D} (r : P2 (RV K H m) ds xs) : Rp K Tb H (m ++ [A]) (st ++ [.lst ds]) := by
  have up : ∀ {d v}, RV K H m d v → RV K H (m ++ [A]) d v := fun {d v} r => RV.ext (fun _ _ h => h) (fun _ _ h => h) (fun k a e => by
    obtain ⟨hi, _⟩ := List.getElem?_eq_some_iff.mp e
    rw [List.getElem?_append_left hi]; exact e) d r
  refine ⟨by simp [R.len], ?_, fun k a o e1 e2 => ?_, R.tab⟩
  · rw [List.nodup_append]
    refine ⟨R.nd, by simp, fun a ha b hb => ?_⟩
    simp at hb
    subst hb
    exact fun e => hm (e ▸ ha)
  · by_cases hk : k < m.length
    · rw [List.getElem?_append_left hk] at e1
      rw [List.getElem?_append_left (by rw [← R.len]; exact hk)] at e2
      have z := R.obj k a o e1 e2
      cases o with
      | lst ds =>
        obtain ⟨zs, q1, q2⟩ := z
        exact ⟨zs, q1, q2.mono fun _ _ r => up r⟩
      | dic _ => exact z.elim
      | ins _ _ => exact z.elim
    · rw [List.getElem?_append_right (by omega)] at e1
      rw [List.getElem?_append_right (by rw [← R.len]; omega), ← R.len] at e2
      cases hz : k - m.length with
      | zero =>
        rw [hz] at e1 e2
        cases e1
        cases e2
        exact ⟨xs, hD, r.mono fun _ _ r => up r⟩
      | succ j => rw [hz] at e1; simp at e1
theorem Ext.adopt (x : Ext m H m' H') (hD : H A = none) : Ext m H (m' ++ [A]) H' := by
  obtain ⟨n, rfl, hn⟩ := x.new
  refine ⟨⟨n ++ [A], by simp, fun b hb => ?_⟩, x.keep, x.stay⟩
  rcases List.mem_append.mp hb with h | h
  · exact hn b h
  · simp at h; subst h; exact hD
theorem Ext.none_of (x : Ext m H m' H') (h : H' A = none) : H A = none := by
  cases q : H A with
  | none => rfl
  | some u => exact absurd h (x.stay A (by rw [q]; simp))
end
/-! ### comprehensions -/
section
variable {Z : Wd} {X : Cx} {n : Nat} {K : PySem.W.Frag}
/-- a turn's body -/
def bodyC (Z : Wd) (n : Nat) (ρ : Env) (tg : Tg) (cnd : List T) (elt : E) (own : List Nat) : D → Sto → Option (Option D × Sto) := fun x s =>
  (asgD tg x s (wipeD ρ own)).bind fun ρ1 => (evTA cnd Z.g (Z.C n) ρ1 s).bind fun c => if c.1 then (ev elt Z.g (Z.C n) ρ1 c.2).map fun y => (some y.1, y.2) else some (none, c.2)
theorem lc_read {ik : Ik} {src : List E} {tg : Tg} {cnd : List T} {elt : E} {own : List Nat} (htg : ∀ i ∈ tgI tg, i ∈ own) {σ : L2.St} {H : Hp} {Q : VK} (h : tE K Z n (.lc ik src tg cnd elt own) σ H Q) :
    tLc (tI K Z n ik src) (gT K Z tg) (tTA K Z n cnd) (tE K Z n elt) own σ H Q := by
  obtain ⟨m, ρ, st, d, st', S, h, q⟩ := h
  obtain ⟨⟨ds, st1⟩, e1, h⟩ := Option.bind_eq_some_iff.mp h
  obtain ⟨⟨J, k⟩, e2, h⟩ := Option.bind_eq_some_iff.mp h
  obtain ⟨⟨acc, st2⟩, e3, h⟩ := Option.map_eq_some_iff.mp h
  cases h
  refine ⟨m, ρ, st, ds, st1, J, k, S, e1, e2, fun T H1 m1 x1 R1 rJ A hA => ?_⟩
  have S1 : Sx K Z σ H1 m1 ρ st1 := S.go x1 R1
  have e3 : loopC J (bodyC Z n ρ tg cnd elt own) k 0 [] st1 = some (acc, st2) := e3
  refine ⟨fun i μ H' => ∃ m' s' ac xs, Ext m1 H1 m' H' ∧ Rp K Z.Tb H' m' s' ∧ A ∉ m' ∧ H' A = some (.lst xs) ∧ P2 (RV K H' m') ac xs ∧ loopC J (bodyC Z n ρ tg cnd elt own) μ i ac s' = some (acc, st2),
    ⟨k, m1, st1, [], [], ext_laid hA, R1.laid hA, R1.fresh hA, upd_same, P2.nil, e3⟩, ?_⟩
  rintro i μ H' ⟨m', s', ac, xs, x2, R2, hm, hl, rac, e⟩
  have rJ' := rJ.ext R1 x2
  cases μ with
  | zero =>
    have e : (if stD J i s' then some (ac, s') else none) = some (acc, st2) := e
    split at e
    · rename_i hs
      cases e
      refine .inl ⟨rJ'.stop R2 hs, q _ H' (m' ++ [A]) ((x1.trans x2).adopt (x1.none_of hA)) (R2.adopt hl hm rac) ⟨A, rfl, by rw [← R2.len]; simp⟩⟩
    · cases e
  | succ r =>
    obtain ⟨x, ex, e⟩ := Option.bind_eq_some_iff.mp e
    obtain ⟨⟨o, s3⟩, eb, e⟩ := Option.bind_eq_some_iff.mp e
    obtain ⟨ρ1, ea, eb⟩ := Option.bind_eq_some_iff.mp eb
    obtain ⟨⟨c, s4⟩, ec, eb⟩ := Option.bind_eq_some_iff.mp eb
    refine .inr ⟨rJ'.go R2 ex, _, fun H'' w => ⟨r, Nat.lt_succ_self r, w⟩, fun v H3 y => ?_⟩
    obtain ⟨x3, R3, rv⟩ := rJ'.yld R2 ex y
    have S3 : Sx K Z (L2.wipe σ own) H3 m' (wipeD ρ own) s' := ⟨(S1.1.ext R1 (x2.trans x3)).wipe own, R3⟩
    refine ⟨m', _, s', x, ρ1, S3, rv, ea, fun σ2 E2 w2 => ⟨by rw [w2 own htg, wipe_twice], ?_⟩⟩
    have hl3 : H3 A = some (.lst xs) := x3.keep A _ hl hm trivial
    refine tTo.mk ⟨E2, R3⟩ ec fun H4 m4 x4 S4 => ?_
    have hl4 : H4 A = some (.lst xs) := x4.keep A _ hl3 hm trivial
    have hm4 : A ∉ m4 := x4.notin (by rw [hl3]; simp) hm
    cases c with
    | true =>
      rw [if_pos rfl]
      obtain ⟨⟨y1, s5⟩, ey, eb⟩ := Option.map_eq_some_iff.mp (show (ev elt Z.g (Z.C n) ρ1 s4).map _ = some (o, s3) from eb)
      cases eb
      have e : (if ac.length < sizeLine then loopC J (bodyC Z n ρ tg cnd elt own) r (i + 1) (ac ++ [y1]) s5 else none) = some (acc, st2) := e
      split at e
      · rename_i hz
        refine tE.mk S4 ey fun w H5 m5 x5 S5 rw5 => ?_
        have hl5 : H5 A = some (.lst xs) := x5.keep A _ hl4 hm4 trivial
        have hm5 : A ∉ m5 := x5.notin (by rw [hl4]; simp) hm4
        have rac5 := S4.2.rvs x5 (S3.2.rvs x4 (R2.rvs x3 rac))
        refine ⟨xs, hl5, by rw [← rac.1]; exact hz, m5, s5, ac ++ [y1], xs ++ [w], ((((x2.trans x3).trans x4).trans x5)).off hA, S5.2.off hl5 hm5, hm5, upd_same, ?_, e⟩
        exact (rac5.append (P2.one rw5)).mono fun _ _ r => rv_off hl5 r
      · cases e
    | false =>
      rw [if_neg Bool.false_ne_true]
      cases eb
      exact ⟨m4, _, ac, xs, (x2.trans x3).trans x4, S4.2, hm4, hl4, S3.2.rvs x4 (R2.rvs x3 rac), e⟩
theorem lc2_read {ik ik1 : Ik} {src src1 : List E} {tg tg1 : Tg} {cnd cnd1 : List T} {elt : E} {own own1 : List Nat} (htg : ∀ i ∈ tgI tg, i ∈ own) (htg1 : ∀ i ∈ tgI tg1, i ∈ own1) {σ : L2.St} {H : Hp} {Q : VK} (h : tE K Z n (.lc2 ik src tg cnd ik1 src1 tg1 cnd1 elt own own1) σ H Q) :
    tLc2 (tI K Z n ik src) (gT K Z tg) (tTA K Z n cnd) (tI K Z n ik1 src1) (gT K Z tg1) (tTA K Z n cnd1) (tE K Z n elt) own own1 σ H Q := by
  obtain ⟨m, ρ, st, d, st', S, h, q⟩ := h
  obtain ⟨⟨ds, st1⟩, e1, h⟩ := Option.bind_eq_some_iff.mp h
  obtain ⟨⟨J, k⟩, e2, h⟩ := Option.bind_eq_some_iff.mp h
  obtain ⟨⟨acc, st2⟩, e3, h⟩ := Option.map_eq_some_iff.mp h
  cases h
  refine ⟨m, ρ, st, ds, st1, J, k, S, e1, e2, fun T H1 m1 x1 R1 rJ A hA => ?_⟩
  have S1 : Sx K Z σ H1 m1 ρ st1 := S.go x1 R1
  generalize hB : (fun (x : D) (acc : List D) (s : Sto) => (asgD tg x s (wipeD ρ own)).bind fun ρ1 => (evTA cnd Z.g (Z.C n) ρ1 s).bind fun c => if c.1 then
          (evs src1 Z.g (Z.C n) ρ1 c.2).bind fun r1 => (itD ik1 r1.1 r1.2).bind fun J1 =>
            loopC J1.1 (bodyC Z n ρ1 tg1 cnd1 elt own1) J1.2 0 acc r1.2
        else some (acc, c.2)) = B
  have e3 : loopC2 J B k 0 [] st1 = some (acc, st2) := by rw [← hB]; exact e3
  refine ⟨fun i μ H' => ∃ m' s' ac xs, Ext m1 H1 m' H' ∧ Rp K Z.Tb H' m' s' ∧ A ∉ m' ∧ H' A = some (.lst xs) ∧ P2 (RV K H' m') ac xs ∧ loopC2 J B μ i ac s' = some (acc, st2),
    ⟨k, m1, st1, [], [], ext_laid hA, R1.laid hA, R1.fresh hA, upd_same, P2.nil, e3⟩, ?_⟩
  rintro i μ H' ⟨m', s', ac, xs, x2, R2, hm, hl, rac, e⟩
  have rJ' := rJ.ext R1 x2
  cases μ with
  | zero =>
    have e : (if stD J i s' then some (ac, s') else none) = some (acc, st2) := e
    split at e
    · rename_i hs
      cases e
      refine .inl ⟨rJ'.stop R2 hs, q _ H' (m' ++ [A]) ((x1.trans x2).adopt (x1.none_of hA)) (R2.adopt hl hm rac) ⟨A, rfl, by rw [← R2.len]; simp⟩⟩
    · cases e
  | succ r =>
    obtain ⟨x, ex, e⟩ := Option.bind_eq_some_iff.mp e
    obtain ⟨⟨ac', s3⟩, eb, e⟩ := Option.bind_eq_some_iff.mp e
    rw [← hB] at eb
    obtain ⟨ρ1, ea, eb⟩ := Option.bind_eq_some_iff.mp eb
    obtain ⟨⟨c, s4⟩, ec, eb⟩ := Option.bind_eq_some_iff.mp eb
    refine .inr ⟨rJ'.go R2 ex, _, fun H'' w => ⟨r, Nat.lt_succ_self r, w⟩, fun v H3 y => ?_⟩
    obtain ⟨x3, R3, rv⟩ := rJ'.yld R2 ex y
    have S3 : Sx K Z (L2.wipe σ own) H3 m' (wipeD ρ own) s' := ⟨(S1.1.ext R1 (x2.trans x3)).wipe own, R3⟩
    refine ⟨m', _, s', x, ρ1, S3, rv, ea, fun σ2 E2 w2 => ⟨by rw [w2 own htg, wipe_twice], ?_⟩⟩
    have hl3 : H3 A = some (.lst xs) := x3.keep A _ hl hm trivial
    refine tTo.mk ⟨E2, R3⟩ ec fun H4 m4 x4 S4 => ?_
    have hl4 : H4 A = some (.lst xs) := x4.keep A _ hl3 hm trivial
    have hm4 : A ∉ m4 := x4.notin (by rw [hl3]; simp) hm
    cases c with
    | true =>
      rw [if_pos rfl]
      obtain ⟨⟨ds1, s5⟩, e5, eb⟩ := Option.bind_eq_some_iff.mp (show (evs src1 Z.g (Z.C n) ρ1 s4).bind _ = some (ac', s3) from eb)
      obtain ⟨⟨J1, k1⟩, e6, eb⟩ := Option.bind_eq_some_iff.mp eb
      refine ⟨m4, ρ1, s4, ds1, s5, J1, k1, S4, e5, e6, fun T1 H5 m5 x5 R5 rJ1 => ?_⟩
      have S5 : Sx K Z σ2 H5 m5 ρ1 s5 := S4.go x5 R5
      have hl5 : H5 A = some (.lst xs) := x5.keep A _ hl4 hm4 trivial
      have hm5 : A ∉ m5 := x5.notin (by rw [hl4]; simp) hm4
      have rac5 := S4.2.rvs x5 (S3.2.rvs x4 (R2.rvs x3 rac))
      refine ⟨fun j μ H' => ∃ m' s' ac xs, Ext m1 H1 m' H' ∧ RE K H' m' ρ1 σ2 ∧ RI K H' m' J1 T1 ∧ Rp K Z.Tb H' m' s' ∧ A ∉ m' ∧ H' A = some (.lst xs) ∧ P2 (RV K H' m') ac xs ∧ loopC J1 (bodyC Z n ρ1 tg1 cnd1 elt own1) μ j ac s' = some (ac', s3),
        ⟨k1, m5, s5, ac, xs, ((x2.trans x3).trans x4).trans x5, S5.1, rJ1, S5.2, hm5, hl5, rac5, eb⟩, ?_⟩
      rintro j ν H6 ⟨m6, s6, ac6, xs6, x6, E6, rJ6, R6, hm6, hl6, rac6, e7⟩
      cases ν with
      | zero =>
        have e7 : (if stD J1 j s6 then some (ac6, s6) else none) = some (ac', s3) := e7
        split at e7
        · rename_i hs
          cases e7
          exact .inl ⟨rJ6.stop R6 hs, m6, _, _, xs6, x6, R6, hm6, hl6, rac6, e⟩
        · cases e7
      | succ r1 =>
        obtain ⟨z, ez, e7⟩ := Option.bind_eq_some_iff.mp e7
        obtain ⟨⟨o, s7⟩, eb, e7⟩ := Option.bind_eq_some_iff.mp e7
        obtain ⟨ρ2, ea2, eb⟩ := Option.bind_eq_some_iff.mp eb
        obtain ⟨⟨c2, s8⟩, ec2, eb⟩ := Option.bind_eq_some_iff.mp eb
        refine .inr ⟨rJ6.go R6 ez, _, fun H'' w => ⟨r1, Nat.lt_succ_self r1, w⟩, fun v7 H7 y7 => ?_⟩
        obtain ⟨x7, R7, rv7⟩ := rJ6.yld R6 ez y7
        have S7 : Sx K Z (L2.wipe σ2 own1) H7 m6 (wipeD ρ1 own1) s6 := ⟨(E6.ext R6 x7).wipe own1, R7⟩
        refine ⟨m6, _, s6, z, ρ2, S7, rv7, ea2, fun σ3 E3 w3 => ⟨by rw [w3 own1 htg1, wipe_twice], ?_⟩⟩
        have hl7 : H7 A = some (.lst xs6) := x7.keep A _ hl6 hm6 trivial
        refine tTo.mk ⟨E3, R7⟩ ec2 fun H8 m8 x8 S8 => ?_
        have hl8 : H8 A = some (.lst xs6) := x8.keep A _ hl7 hm6 trivial
        have hm8 : A ∉ m8 := x8.notin (by rw [hl7]; simp) hm6
        cases c2 with
        | true =>
          rw [if_pos rfl]
          obtain ⟨⟨y1, s9⟩, ey, eb⟩ := Option.map_eq_some_iff.mp (show (ev elt Z.g (Z.C n) ρ2 s8).map _ = some (o, s7) from eb)
          cases eb
          have e7 : (if ac6.length < sizeLine then loopC J1 (bodyC Z n ρ1 tg1 cnd1 elt own1) r1 (j + 1) (ac6 ++ [y1]) s9 else none) = some (ac', s3) := e7
          split at e7
          · rename_i hz
            refine tE.mk S8 ey fun w H9 m9 x9 S9 rw9 => ?_
            have hl9 : H9 A = some (.lst xs6) := x9.keep A _ hl8 hm8 trivial
            have hm9 : A ∉ m9 := x9.notin (by rw [hl8]; simp) hm8
            have rac9 := S8.2.rvs x9 (S7.2.rvs x8 (R6.rvs x7 rac6))
            have E9 := E6.ext R6 ((x7.trans x8).trans x9)
            have J9 := rJ6.ext R6 ((x7.trans x8).trans x9)
            refine ⟨xs6, hl9, by rw [← rac6.1]; exact hz, m9, s9, ac6 ++ [y1], xs6 ++ [w], (((x6.trans x7).trans x8).trans x9).off hA, ?_, ?_, S9.2.off hl9 hm9, hm9, upd_same, ?_, e7⟩
            · exact ⟨E9.len, fun i d e => by obtain ⟨v, e1, r⟩ := E9.at_ i d e; exact ⟨v, e1, rv_off hl9 r⟩⟩
            · exact RI.off hl9 J9
            · exact (rac9.append (P2.one rw9)).mono fun _ _ r => rv_off hl9 r
          · cases e7
        | false =>
          rw [if_neg Bool.false_ne_true]
          cases eb
          exact ⟨m8, _, ac6, xs6, (x6.trans x7).trans x8, E6.ext R6 (x7.trans x8), rJ6.ext R6 (x7.trans x8), S8.2, hm8, hl8, S7.2.rvs x8 (R6.rvs x7 rac6), e7⟩
    | false =>
      rw [if_neg Bool.false_ne_true]
      cases eb
      exact ⟨m4, _, _, xs, (x2.trans x3).trans x4, S4.2, hm4, hl4, S3.2.rvs x4 (R2.rvs x3 rac), e⟩
end
end Dz
end
section
set_option Elab.async false
set_option linter.all false
set_option maxRecDepth 100000
set_option maxHeartbeats 1000000
namespace Dz
open PySem L2 PyProof.Rows
/-! ### statements -/
def Fin (K : PySem.W.Frag) (Z : Wd) (D : Ends) (m : List Addr) (H : Hp) (ρ : Env) (st : Sto) : Fl → Prop
  | .nx => ∀ σ' H' m', Ext m H m' H' → Sx K Z σ' H' m' ρ st → D.nx σ' H'
  | .bk => ∀ σ' H' m', Ext m H m' H' → Sx K Z σ' H' m' ρ st → D.bk σ' H'
  | .ct => ∀ σ' H' m', Ext m H m' H' → Sx K Z σ' H' m' ρ st → D.ct σ' H'
  | .rt d => ∀ v H' m', Ext m H m' H' → Rp K Z.Tb H' m' st → RV K H' m' d v → D.rt v H'
def tSo (K : PySem.W.Frag) (Z : Wd) (f : Env → Sto → Option (Fl × Env × Sto)) : TS := fun D σ H => ∃ m ρ st fl ρ' st', Sx K Z σ H m ρ st ∧ f ρ st = some (fl, ρ', st') ∧ Fin K Z D m H ρ' st' fl
abbrev tS (K : PySem.W.Frag) (Z : Wd) (n : Nat) (s : S) : TS := tSo K Z fun ρ st => ex s Z.g (Z.C n) ρ st
abbrev tSs (K : PySem.W.Frag) (Z : Wd) (n : Nat) (s : List S) : TS := tSo K Z fun ρ st => exs s Z.g (Z.C n) ρ st
theorem PS_imp {X : Cx} {x : Stmt} {t t' : TS} (h : PS X x t) (i : ∀ D σ H, t' D σ H → t D σ H) : PS X x t' := ⟨fun pins s σ H D I q => h.run pins s σ H D I (i D σ H q)⟩
theorem PSs_imp {X : Cx} {x : List Stmt} {t t' : TS} (h : PSs X x t) (i : ∀ D σ H, t' D σ H → t D σ H) : PSs X x t' := ⟨fun pins s σ H D I q => h.run pins s σ H D I (i D σ H q)⟩
section
variable {K : PySem.W.Frag} {Z : Wd} {D : Ends} {m m' : List Addr} {H H' : Hp} {ρ : Env} {st : Sto} {fl : Fl}
theorem Fin.later (h : Fin K Z D m H ρ st fl) (x : Ext m H m' H') : Fin K Z D m' H' ρ st fl := by
  cases fl with
  | nx => exact fun σ' H2 m2 y S => h σ' H2 m2 (x.trans y) S
  | bk => exact fun σ' H2 m2 y S => h σ' H2 m2 (x.trans y) S
  | ct => exact fun σ' H2 m2 y S => h σ' H2 m2 (x.trans y) S
  | rt d => exact fun v H2 m2 y R r => h v H2 m2 (x.trans y) R r
end
section
variable {Z : Wd} {X : Cx} {n : Nat} {a b : Expr} {ea eb : E} {pos p : Pos} {es : List Expr} {el : List E} {tg : Expr}
theorem ss_nil : PSs X [] (tSs X.K Z n []) := PSs_imp pss_nil fun D σ H ⟨m, ρ, st, fl, ρ', st', S, h, q⟩ => by
  cases h
  exact q σ H m Ext.refl S
theorem ss_cons {x : Stmt} {xs : List Stmt} {s : S} {ss : List S} (h1 : PS X x (tS X.K Z n s)) (h2 : PSs X xs (tSs X.K Z n ss)) : PSs X (x :: xs) (tSs X.K Z n (s :: ss)) :=
  PSs_imp (pss_cons h1 h2) fun D σ H ⟨m, ρ, st, fl, ρ', st', S, h, q⟩ => by
    obtain ⟨⟨f1, ρ1, st1⟩, e1, h⟩ := Option.bind_eq_some_iff.mp h
    refine ⟨m, ρ, st, f1, ρ1, st1, S, e1, ?_⟩
    cases f1 with
    | nx => exact fun σ' H' m' x S' => ⟨m', ρ1, st1, fl, ρ', st', S', h, q.later x⟩
    | bk => cases h; exact q
    | ct => cases h; exact q
    | rt d => cases h; exact q
theorem st_pass : PS X (.Pass pos) (tS X.K Z n .pass) := PS_imp ps_pass fun D σ H ⟨m, ρ, st, fl, ρ', st', S, h, q⟩ => by cases h; exact q σ H m Ext.refl S
theorem st_brk : PS X (.Break pos) (tS X.K Z n .brk) := PS_imp ps_break fun D σ H ⟨m, ρ, st, fl, ρ', st', S, h, q⟩ => by cases h; exact q σ H m Ext.refl S
theorem st_cnt : PS X (.Continue pos) (tS X.K Z n .cnt) := PS_imp ps_continue fun D σ H ⟨m, ρ, st, fl, ρ', st', S, h, q⟩ => by cases h; exact q σ H m Ext.refl S
theorem st_doc {x : Str} {j : Nat} {p2 : Pos} : PS X (.Expr (.Constant (.str x) j pos) p2) (tS X.K Z n .pass) := PS_imp ps_doc fun D σ H ⟨m, ρ, st, fl, ρ', st', S, h, q⟩ => by cases h; exact q σ H m Ext.refl S
theorem st_retN : PS X (.Return none pos) (tS X.K Z n .retN) := PS_imp ps_retN fun D σ H ⟨m, ρ, st, fl, ρ', st', S, h, q⟩ => by cases h; exact q .non H m Ext.refl S.2 rfl
theorem st_ret (ha : PE X a (tE X.K Z n ea)) : PS X (.Return (some a) pos) (tS X.K Z n (.ret ea)) := PS_imp (ps_ret ha) fun D σ H ⟨m, ρ, st, fl, ρ', st', S, h, q⟩ => by
  obtain ⟨⟨d, st1⟩, e1, h⟩ := Option.map_eq_some_iff.mp h
  cases h
  exact tE.mk S e1 fun v H1 m1 x1 S1 r1 => q v H1 m1 x1 S1.2 r1
def ncomp : Expr → Bool
  | .ListComp .. => false
  | .SetComp .. => false
  | .DictComp .. => false
  | _ => true
theorem ncomp_sw {e : Expr} (h : ncomp e = true) (t : Option Expr) (l : Nat) (env : PySem.Env) : swapsWith e t l env = pure false := by
  cases e <;> first | rfl | cases h
theorem st_expr (ha : PE X a (tE X.K Z n ea)) (hc : ncomp a = true) : PS X (.Expr a pos) (tS X.K Z n (.expr ea)) := PS_imp (ps_expr ha (ncomp_sw hc _ _ _)) fun D σ H ⟨m, ρ, st, fl, ρ', st', S, h, q⟩ => by
  obtain ⟨⟨d, st1⟩, e1, h⟩ := Option.map_eq_some_iff.mp h
  cases h
  exact tE.mk S e1 fun v H1 m1 x1 S1 r1 => q σ H1 m1 x1 S1
def ntup : Expr → Bool
  | .Tuple .. => false
  | _ => true
def nlis : Expr → Bool
  | .List .. => false
  | _ => true
theorem ntup_sw {t e : Expr} (h : ntup e = true ∨ (ntup t = true ∧ nlis t = true)) (env : PySem.Env) : swappedStores [t] e env = pure none := by
  rcases h with h | ⟨h, h2⟩
  · cases e <;> first | (cases h; done) | (cases t <;> rfl)
  · cases t <;> first | (cases h; done) | (cases h2; done) | rfl
theorem asg_read {tgm : Tg} {K : PySem.W.Frag} {D : Ends} {σ : L2.St} {H : Hp} (h : tS K Z n (.asg tgm ea) D σ H) : tAsg (tE K Z n ea) (gT K Z tgm) D σ H := by
  obtain ⟨m, ρ, st, fl, ρ', st', S, h, q⟩ := h
  obtain ⟨⟨d, st1⟩, e1, h⟩ := Option.bind_eq_some_iff.mp h
  obtain ⟨ρ1, e2, h⟩ := Option.map_eq_some_iff.mp h
  cases h
  exact tE.mk S e1 fun v H1 m1 x1 S1 r1 => ⟨m1, ρ, _, d, _, S1, r1, e2, fun σ' E' _ => q σ' H1 m1 x1 ⟨E', S1.2⟩⟩
theorem st_asg {tgm : Tg} (ha : PE X a (tE X.K Z n ea)) (hg : PG X tg (gT X.K Z tgm)) (hc : ncomp a = true) (hst : nst tg = true) (hw : ntup a = true ∨ (ntup tg = true ∧ nlis tg = true)) :
    PS X (.Assign [tg] a pos) (tS X.K Z n (.asg tgm ea)) :=
  PS_imp (ps_asg ha hg (ncomp_sw hc _ _ _) (ntup_sw hw _) (by rw [asg_cons hst]; rfl)) fun D σ H h => asg_read h
/-- name = [..] -/
theorem nm_read {i : Nat} {K : PySem.W.Frag} {D : Ends} {σ : L2.St} {H : Hp} (h : tS K Z n (.asg (.nm i) ea) D σ H) : tAsg (tE K Z n ea) (gName i) D σ H := by
  obtain ⟨m, ρ, st, fl, ρ', st', S, h, q⟩ := h
  obtain ⟨⟨d, st1⟩, e1, h⟩ := Option.bind_eq_some_iff.mp h
  obtain ⟨ρ1, e2, h⟩ := Option.map_eq_some_iff.mp h
  cases h
  have e2 : (if i < ρ.length then some (ρ.set i (some d)) else none) = some ρ' := e2
  split at e2
  · cases e2
    exact tE.mk S e1 fun v H1 m1 x1 S1 r1 => q _ H1 m1 x1 ⟨S1.1.set r1 i, S1.2⟩
  · cases e2
theorem lset_read {i : Nat} {ik : Ik} {src : List E} {tgm : Tg} {cnd : List T} {elt : E} {own : List Nat} {K : PySem.W.Frag} (htg : ∀ i ∈ tgI tgm, i ∈ own) {D : Ends} {σ : L2.St} {H : Hp} (h : tS K Z n (.asg (.nm i) (.lc ik src tgm cnd elt own)) D σ H) :
    tAsg (tLc (tI K Z n ik src) (gT K Z tgm) (tTA K Z n cnd) (tE K Z n elt) own) (gName i) D σ H := lc_read htg (nm_read h)
theorem lset2_read {i : Nat} {ik ik1 : Ik} {src src1 : List E} {tgm tg1 : Tg} {cnd cnd1 : List T} {elt : E} {own own1 : List Nat} {K : PySem.W.Frag} (htg : ∀ i ∈ tgI tgm, i ∈ own) (htg1 : ∀ i ∈ tgI tg1, i ∈ own1) {D : Ends} {σ : L2.St} {H : Hp} (h : tS K Z n (.asg (.nm i) (.lc2 ik src tgm cnd ik1 src1 tg1 cnd1 elt own own1)) D σ H) :
    tAsg (tLc2 (tI K Z n ik src) (gT K Z tgm) (tTA K Z n cnd) (tI K Z n ik1 src1) (gT K Z tg1) (tTA K Z n cnd1) (tE K Z n elt) own own1) (gName i) D σ H := lc2_read htg htg1 (nm_read h)
/-- a, b = x, y -/
theorem st_par {i j : Nat} {x y : Str} {px py pt : Pos} {kt k2 pt2} (G : Wk Z X n) (hi : X.N[i]? = some x) (hj : X.N[j]? = some y) (hij : i ≠ j)
    (hx : X.env.scope.names.lookup x = some .local) (hy : X.env.scope.names.lookup y = some .local) (ha : PA X [a, b] (tA X.K Z n [ea, eb]))
    (hw : swappedStores [.Tuple [.Name x px, .Name y py] kt pt] (.Tuple [a, b] k2 pt2) X.env = pure (some [x, y])) :
    PS X (.Assign [.Tuple [.Name x px, .Name y py] kt pt] (.Tuple [a, b] k2 pt2) pos) (tS X.K Z n (.asg (.tp [.nm i, .nm j]) (.tup [ea, eb]))) :=
  PS_imp (ps_par G.calm G.nd hi hj hij hx hy ha hw) fun D σ H ⟨m, ρ, st, fl, ρ', st', S, h, q⟩ => by
    obtain ⟨⟨d, st1⟩, e1, h⟩ := Option.bind_eq_some_iff.mp h
    obtain ⟨ρ1, e2, h⟩ := Option.map_eq_some_iff.mp h
    cases h
    obtain ⟨⟨ds, st2⟩, e3, e1⟩ := Option.bind_eq_some_iff.mp (show (evs [ea, eb] Z.g (Z.C n) ρ st).bind _ = some (d, st1) from e1)
    split at e1
    · cases e1
      have e2 : asgDs [.nm i, .nm j] ds _ ρ = some _ := e2
      have hl := asgDs_len e2
      refine tA.mk S e3 fun vs H1 m1 x1 S1 r1 => ?_
      match ds, hl with
      | [d1, d2], _ =>
        obtain ⟨v, w, rfl, r, r2⟩ := r1.two
        refine ⟨v, w, rfl, q _ H1 m1 x1 ⟨?_, S1.2⟩⟩
        obtain ⟨ρ1, f1, e2⟩ := Option.bind_eq_some_iff.mp e2
        obtain ⟨ρ2, f2, e2⟩ := Option.bind_eq_some_iff.mp e2
        cases e2
        have f1 : (if i < ρ.length then some (ρ.set i (some d1)) else none) = some _ := f1
        have f2 : (if j < _ then some (List.set _ j (some d2)) else none) = some _ := f2
        split at f1
        · cases f1
          split at f2
          · cases f2
            exact (S1.1.set r i).set r2 j
          · cases f2
        · cases f1
    · cases e1
theorem st_par3 {i j l : Nat} {x y z : Str} {u : Expr} {eu : E} {px py pz pt : Pos} {kt k2 pt2} (G : Wk Z X n) (hi : X.N[i]? = some x) (hj : X.N[j]? = some y) (hl : X.N[l]? = some z) (hij : i ≠ j) (hil : i ≠ l) (hjl : j ≠ l)
    (hx : X.env.scope.names.lookup x = some .local) (hy : X.env.scope.names.lookup y = some .local) (hz : X.env.scope.names.lookup z = some .local) (ha : PA X [a, b, u] (tA X.K Z n [ea, eb, eu]))
    (hw : swappedStores [.Tuple [.Name x px, .Name y py, .Name z pz] kt pt] (.Tuple [a, b, u] k2 pt2) X.env = pure (some [x, y, z])) :
    PS X (.Assign [.Tuple [.Name x px, .Name y py, .Name z pz] kt pt] (.Tuple [a, b, u] k2 pt2) pos) (tS X.K Z n (.asg (.tp [.nm i, .nm j, .nm l]) (.tup [ea, eb, eu]))) :=
  PS_imp (ps_par3 G.calm G.nd hi hj hl hij hil hjl hx hy hz ha hw) fun D σ H ⟨m, ρ, st, fl, ρ', st', S, h, q⟩ => by
    obtain ⟨⟨d, st1⟩, e1, h⟩ := Option.bind_eq_some_iff.mp h
    obtain ⟨ρ1, e2, h⟩ := Option.map_eq_some_iff.mp h
    cases h
    obtain ⟨⟨ds, st2⟩, e3, e1⟩ := Option.bind_eq_some_iff.mp (show (evs [ea, eb, eu] Z.g (Z.C n) ρ st).bind _ = some (d, st1) from e1)
    split at e1
    · cases e1
      have e2 : asgDs [.nm i, .nm j, .nm l] ds _ ρ = some _ := e2
      have hl := asgDs_len e2
      refine tA.mk S e3 fun vs H1 m1 x1 S1 r1 => ?_
      match ds, hl with
      | [d1, d2, d3], _ =>
        obtain ⟨v, w, w2, rfl, r, r2, r3⟩ := r1.three
        refine ⟨v, w, w2, rfl, q _ H1 m1 x1 ⟨?_, S1.2⟩⟩
        obtain ⟨ρ1, f1, e2⟩ := Option.bind_eq_some_iff.mp e2
        obtain ⟨ρ2, f2, e2⟩ := Option.bind_eq_some_iff.mp e2
        obtain ⟨ρ3, f3, e2⟩ := Option.bind_eq_some_iff.mp e2
        cases e2
        have f1 : (if i < ρ.length then some (ρ.set i (some d1)) else none) = some _ := f1
        have f2 : (if j < _ then some (List.set _ j (some d2)) else none) = some _ := f2
        have f3 : (if l < _ then some (List.set _ l (some d3)) else none) = some _ := f3
        split at f1
        · cases f1
          split at f2
          · cases f2
            split at f3
            · cases f3
              exact ((S1.1.set r i).set r2 j).set r3 l
            · cases f3
          · cases f2
        · cases f1
    · cases e1
/-- o[i] = v -/
theorem nsl_asg {i : Expr} (h : nsl i = true) (o : Expr) (env : PySem.Env) : ∀ v, assign (.Subscript o i pos) env v = (do
      let ov ← holding [v] (eval o env)
      let iv ← holding [v, ov] (eval i env)
      standAt pos
      holding [v, ov, iv] (setItem ov iv v)
      release [v, ov, iv] []) := by
  intro v
  cases i <;> first | rfl | cases h
theorem st_asub {o i : Expr} {eo ei : E} {ps : Pos} (ho : PE X o (tE X.K Z n eo)) (hi : PE X i (tE X.K Z n ei)) (ha : PE X a (tE X.K Z n ea)) (hc : ncomp a = true) (hs : nsl i = true) :
    PS X (.Assign [.Subscript o i ps] a pos) (tS X.K Z n (.asub eo ei ea)) :=
  PS_imp (ps_asg ha (pg_sub ho hi (set_D (Tb := Z.Tb)) (nsl_asg hs _ _)) (ncomp_sw hc (some (.Subscript o i ps)) pos.line X.env) (ntup_sw (.inr ⟨rfl, rfl⟩) _) rfl) fun D σ H ⟨m, ρ, st, fl, ρ', st', S, h, q⟩ => by
    obtain ⟨⟨d1, st1⟩, e1, h⟩ := Option.bind_eq_some_iff.mp h
    obtain ⟨⟨d2, st2⟩, e2, h⟩ := Option.bind_eq_some_iff.mp h
    obtain ⟨⟨d3, st3⟩, e3, h⟩ := Option.bind_eq_some_iff.mp h
    obtain ⟨st4, e4, h⟩ := Option.map_eq_some_iff.mp h
    cases h
    exact tE.mk S e1 fun v H1 m1 x1 S1 r1 => tE.mk S1 e2 fun w H2 m2 x2 S2 r2 => tE.mk S2 e3 fun y H3 m3 x3 S3 r3 =>
      ⟨m3, st3, d2, d3, d1, st', S3.2, S2.2.rv x3 r2, r3, S1.2.rv (x2.trans x3) r1, e4, fun H4 m4 x4 R4 => q σ H4 m4 (((x1.trans x2).trans x3).trans x4) (S3.go x4 R4)⟩
/-- x += e, x -= e -/
theorem st_aug {i : Nat} {x : Str} {o : Bop} {px : Pos} (hN : X.N.Nodup) (hi : X.N[i]? = some x) (hx : Loc X.env.scope x) (ha : PE X a (tE X.K Z n ea)) (hf : X.fn x = true ∨ X.env.scope.names.lookup x = some .local) :
    PS X (.AugAssign (.Name x px) (bop o) a pos) (tS X.K Z n (.aug i o ea)) := by
  have key : ∀ (f : Int → Int → Int), PIp X (bop o) (ipI f) → (∀ (ρ : Env) (st : Sto) fl ρ' st', ex (.aug i o ea) Z.g (Z.C n) ρ st = some (fl, ρ', st') → ∃ x y, ρ[i]? = some (some (.int x)) ∧ ev ea Z.g (Z.C n) ρ st = some (.int y, st') ∧ fl = .nx ∧ ρ' = ρ.set i (some (.int (f x y)))) →
      PS X (.AugAssign (.Name x px) (bop o) a pos) (tS X.K Z n (.aug i o ea)) := fun f hf2 hi2 =>
    PS_imp (ps_aug hN hi hx ha hf2 hf) fun D σ H ⟨m, ρ, st, fl, ρ', st', S, h, q⟩ => by
      obtain ⟨x, y, h1, h2, rfl, rfl⟩ := hi2 ρ st fl ρ' st' h
      obtain ⟨v, e1, r⟩ := S.1.at_ i _ h1
      cases r
      exact ⟨_, e1, tE.mk S h2 fun w H1 m1 x1 S1 r1 => by
        cases r1
        exact ⟨x, y, rfl, rfl, q _ H1 m1 x1 ⟨S1.1.set (d := .int (f x y)) rfl i, S1.2⟩⟩⟩
  have inv : ∀ (ρ : Env) (st : Sto) fl ρ' st', ex (.aug i o ea) Z.g (Z.C n) ρ st = some (fl, ρ', st') → ∃ x y, ρ[i]? = some (some (.int x)) ∧ ev ea Z.g (Z.C n) ρ st = some (.int y, st') ∧ fl = .nx ∧ ((o = .add ∧ ρ' = ρ.set i (some (.int (x + y)))) ∨ (o = .sub ∧ ρ' = ρ.set i (some (.int (x - y))))) := fun ρ st fl ρ' st' h => by
    unfold ex at h
    split at h
    · rename_i x0 hx0
      obtain ⟨⟨d, st1⟩, e1, h⟩ := Option.bind_eq_some_iff.mp h
      cases x0 with
      | int a0 =>
        cases d with
        | int b0 =>
          cases o with
          | add => cases h; exact ⟨_, _, hx0, e1, rfl, .inl ⟨rfl, rfl⟩⟩
          | sub => cases h; exact ⟨_, _, hx0, e1, rfl, .inr ⟨rfl, rfl⟩⟩
          | _ => cases h
        | _ => cases h
      | _ => cases h
    · cases h
  cases o with
  | add =>
    exact key _ ip_add fun ρ st fl ρ' st' h => by
      obtain ⟨x, y, h1, h2, h3, h4⟩ := inv ρ st fl ρ' st' h
      rcases h4 with ⟨_, h4⟩ | ⟨h4, _⟩
      · exact ⟨x, y, h1, h2, h3, h4⟩
      · cases h4
  | sub =>
    exact key _ ip_sub fun ρ st fl ρ' st' h => by
      obtain ⟨x, y, h1, h2, h3, h4⟩ := inv ρ st fl ρ' st' h
      rcases h4 with ⟨h4, _⟩ | ⟨_, h4⟩
      · cases h4
      · exact ⟨x, y, h1, h2, h3, h4⟩
  | _ =>
    exact ⟨fun _ _ _ _ _ _ ⟨m, ρ, st, fl, ρ', st', S, h, q⟩ => by
      obtain ⟨x, y, h1, h2, h3, h4⟩ := inv ρ st fl ρ' st' h
      rcases h4 with ⟨h4, _⟩ | ⟨h4, _⟩ <;> cases h4⟩
theorem st_if {c : Expr} {tc : T} {xs ys : List Stmt} {ss rs : List S} (hc : PT X c (tT X.K Z n tc)) (h1 : PSs X xs (tSs X.K Z n ss)) (h2 : PSs X ys (tSs X.K Z n rs)) : PS X (.If c xs ys pos) (tS X.K Z n (.ife tc ss rs)) :=
  PS_imp (ps_if hc h1 h2) fun D σ H ⟨m, ρ, st, fl, ρ', st', S, h, q⟩ => by
    obtain ⟨⟨b, st1⟩, e1, h⟩ := Option.bind_eq_some_iff.mp h
    refine tTo.mk S e1 fun H1 m1 x1 S1 => ?_
    cases b with
    | true => rw [if_pos rfl]; exact ⟨m1, ρ, st1, fl, ρ', st', S1, h, q.later x1⟩
    | false => rw [if_neg Bool.false_ne_true]; exact ⟨m1, ρ, st1, fl, ρ', st', S1, h, q.later x1⟩
theorem passes (G : Wk Z X n) : PassesOwn (model X.prog X.w) X.A X.env X.xe := by rw [G.xe]; exact PassesOwn.never
theorem st_whl {c : Expr} {tc : T} {xs : List Stmt} {ss : List S} (G : Wk Z X n) (hc : PT X c (tT X.K Z n tc)) (h1 : PSs X xs (tSs X.K Z n ss)) : PS X (.While c xs [] pos) (tS X.K Z n (.whl tc ss)) :=
  PS_imp (ps_while (passes G) hc h1) fun D σ H ⟨m, ρ, st, fl, ρ', st', S, h, q⟩ => by
    have h : loopW (fun ρ s => evT tc Z.g (Z.C n) ρ s) (fun ρ s => exs ss Z.g (Z.C n) ρ s) KW ρ st = some (fl, ρ', st') := h
    generalize KW = kw at h
    refine ⟨fun μ σ1 H1 => ∃ m1 ρ1 st1, Ext m H m1 H1 ∧ Sx X.K Z σ1 H1 m1 ρ1 st1 ∧ loopW (fun ρ s => evT tc Z.g (Z.C n) ρ s) (fun ρ s => exs ss Z.g (Z.C n) ρ s) μ ρ1 st1 = some (fl, ρ', st'), ⟨kw, m, ρ, st, Ext.refl, S, h⟩, ?_⟩
    rintro μ σ1 H1 ⟨m1, ρ1, st1, x1, S1, e⟩
    cases μ with
    | zero => cases e
    | succ r =>
      obtain ⟨⟨b, st2⟩, e1, e⟩ := Option.bind_eq_some_iff.mp e
      refine tTo.mk S1 e1 fun H2 m2 x2 S2 => ?_
      cases b with
      | true =>
        rw [if_pos rfl]
        obtain ⟨⟨f1, ρ2, st3⟩, e2, e⟩ := Option.bind_eq_some_iff.mp (show (exs ss Z.g (Z.C n) ρ1 st2).bind _ = some (fl, ρ', st') from e)
        refine ⟨_, fun σ' H' w => ⟨r, Nat.lt_succ_self r, w⟩, m2, ρ1, st2, f1, ρ2, st3, S2, e2, ?_⟩
        cases f1 with
        | nx => exact fun σ3 H3 m3 x3 S3 => ⟨m3, ρ2, st3, (x1.trans x2).trans x3, S3, e⟩
        | ct => exact fun σ3 H3 m3 x3 S3 => ⟨m3, ρ2, st3, (x1.trans x2).trans x3, S3, e⟩
        | bk => cases e; exact fun σ3 H3 m3 x3 S3 => q σ3 H3 m3 ((x1.trans x2).trans x3) S3
        | rt d => cases e; exact fun v H3 m3 x3 R3 r3 => q v H3 m3 ((x1.trans x2).trans x3) R3 r3
      | false =>
        rw [if_neg Bool.false_ne_true]
        cases e
        exact q σ1 H2 m2 (x1.trans x2) S2
theorem st_for {iter : Expr} {ik : Ik} {src : List E} {tgm : Tg} {xs : List Stmt} {ss : List S} (G : Wk Z X n) (hi : PI X tg iter (tI X.K Z n ik src)) (hg : PG X tg (gT X.K Z tgm)) (h1 : PSs X xs (tSs X.K Z n ss)) (hs : nset iter = true) :
    PS X (.For tg iter xs [] pos) (tS X.K Z n (.for_ ik src tgm ss)) :=
  PS_imp (ps_for (passes G) G.calm hi hg h1 (nset_folded hs _)) fun Dd σ H ⟨m, ρ, st, fl, ρ', st', S, h, q⟩ => by
    obtain ⟨⟨ds, st1⟩, e1, h⟩ := Option.bind_eq_some_iff.mp h
    obtain ⟨⟨J, k⟩, e2, h⟩ := Option.bind_eq_some_iff.mp h
    refine ⟨m, ρ, st, ds, st1, J, k, S, e1, e2, fun T H1 m1 x1 R1 rJ => ?_⟩
    generalize hB : (fun (x : D) (ρ : Env) (s : Sto) => (asgD tgm x s ρ).bind fun ρ1 => exs ss Z.g (Z.C n) ρ1 s) = B
    have h : loopF J B k 0 ρ st1 = some (fl, ρ', st') := by rw [← hB]; exact h
    refine ⟨fun i μ σ2 H2 => ∃ m2 ρ2 st2, Ext m1 H1 m2 H2 ∧ Sx X.K Z σ2 H2 m2 ρ2 st2 ∧ loopF J B μ i ρ2 st2 = some (fl, ρ', st'), ⟨k, m1, ρ, st1, Ext.refl, S.go x1 R1, h⟩, ?_⟩
    rintro i μ σ2 H2 ⟨m2, ρ2, st2, x2, S2, e⟩
    have rJ' := rJ.ext R1 x2
    cases μ with
    | zero =>
      have e : (if stD J i st2 then some (Fl.nx, ρ2, st2) else none) = some (fl, ρ', st') := e
      split at e
      · rename_i hs
        cases e
        exact .inl ⟨rJ'.stop S2.2 hs, q σ2 H2 m2 (x1.trans x2) S2⟩
      · cases e
    | succ r =>
      obtain ⟨x, ex, e⟩ := Option.bind_eq_some_iff.mp e
      obtain ⟨⟨f1, ρ3, st3⟩, eb, e⟩ := Option.bind_eq_some_iff.mp e
      rw [← hB] at eb
      obtain ⟨ρ1, ea, eb⟩ := Option.bind_eq_some_iff.mp eb
      refine .inr ⟨rJ'.go S2.2 ex, _, fun σ' H' w => ⟨r, Nat.lt_succ_self r, w⟩, fun v H3 y => ?_⟩
      obtain ⟨x3, R3, rv⟩ := rJ'.yld S2.2 ex y
      refine ⟨m2, ρ2, st2, x, ρ1, S2.go x3 R3, rv, ea, fun σ3 E3 _ => ⟨m2, ρ1, st2, f1, ρ3, st3, ⟨E3, R3⟩, eb, ?_⟩⟩
      cases f1 with
      | nx => exact fun σ4 H4 m4 x4 S4 => ⟨m4, ρ3, st3, (x2.trans x3).trans x4, S4, e⟩
      | ct => exact fun σ4 H4 m4 x4 S4 => ⟨m4, ρ3, st3, (x2.trans x3).trans x4, S4, e⟩
      | bk => cases e; exact fun σ4 H4 m4 x4 S4 => q σ4 H4 m4 (((x1.trans x2).trans x3).trans x4) S4
      | rt d => cases e; exact fun v4 H4 m4 x4 R4 r4 => q v4 H4 m4 (((x1.trans x2).trans x3).trans x4) R4 r4
end
end Dz
end
section
set_option Elab.async false
set_option linter.all false
set_option maxRecDepth 100000
set_option maxHeartbeats 1000000
namespace Dz
open PySem PySem.Spec L2 PyProof.Rows GenW
/-! ### what a generator hands out -/
inductive Tr (J : IT) (body : D → Sto → Option (Option D × Sto)) : Nat → Nat → Sto → List (D × Sto) → Option Sto → Prop
  | stop {r i : Nat} {st : Sto} : Tr J body r i st [] none
  | fin {i : Nat} {st : Sto} (h : stD J i st = true) : Tr J body 0 i st [] (some st)
  | skip {r i : Nat} {st st1 : Sto} {x : D} {tr : List (D × Sto)} {e : Option Sto} (hx : nxD J i st = some x) (hb : body x st = some (none, st1)) (ht : Tr J body r (i + 1) st1 tr e) : Tr J body (r + 1) i st tr e
  | yld {r i : Nat} {st st1 : Sto} {x y : D} {tr : List (D × Sto)} {e : Option Sto} (hx : nxD J i st = some x) (hb : body x st = some (some y, st1)) (ht : Tr J body r (i + 1) st1 tr e) : Tr J body (r + 1) i st ((y, st1) :: tr) e
def CF (c : Cn) : D → List (D × Sto) → Option Sto → D → Sto → Prop
  | acc, [], some st, d, st' => conE c acc = some d ∧ st' = st
  | _, [], none, _, _ => False
  | acc, (y, s1) :: tr, e, d, st' => ∃ z, conD c acc y s1 = some z ∧ ((z.1 = true ∧ tr = [] ∧ e = none ∧ d = z.2 ∧ st' = s1) ∨ (z.1 = false ∧ CF c z.2 tr e d st'))
theorem loopG_tr {c : Cn} {J : IT} {body : D → Sto → Option (Option D × Sto)} {d : D} {st' : Sto} : ∀ (r i : Nat) (acc : D) (st : Sto), loopG c J body r i acc st = some (d, st') → ∃ tr e, Tr J body r i st tr e ∧ CF c acc tr e d st'
  | 0, i, acc, st, h => by
    have h : (if stD J i st then (conE c acc).map fun d => (d, st) else none) = some (d, st') := h
    split at h
    · rename_i hs
      obtain ⟨d', e1, h⟩ := Option.map_eq_some_iff.mp h
      cases h
      exact ⟨[], some st', .fin hs, e1, rfl⟩
    · cases h
  | r + 1, i, acc, st, h => by
    obtain ⟨x, ex, h⟩ := Option.bind_eq_some_iff.mp h
    obtain ⟨⟨o, st1⟩, eb, h⟩ := Option.bind_eq_some_iff.mp h
    cases o with
    | none =>
      obtain ⟨tr, e, h1, h2⟩ := loopG_tr r (i + 1) acc st1 h
      exact ⟨tr, e, .skip ex eb h1, h2⟩
    | some y =>
      obtain ⟨z, ez, h⟩ := Option.bind_eq_some_iff.mp h
      cases hz : z.1 with
      | true =>
        simp only [hz, if_true] at h
        cases h
        exact ⟨[(y, st')], none, .yld ex eb .stop, z, ez, .inl ⟨hz, rfl, rfl, rfl, rfl⟩⟩
      | false =>
        simp only [hz, Bool.false_eq_true, if_false] at h
        obtain ⟨tr, e, h1, h2⟩ := loopG_tr r (i + 1) z.2 st1 h
        exact ⟨(y, st1) :: tr, e, .yld ex eb h1, z, ez, .inr ⟨hz, h2⟩⟩
/-! ### the generator's context -/
def genX (X : Cx) (A : Around) (s : Shared) (H : Hp) (cenv : PySem.Env) (fp : List Addr) (pn : List (Addr × Obj)) : Cx :=
  { X with A := A, s_0 := s, H_0 := H, env := cenv, outer := X.stack, stack := cenv :: X.stack, ex := fp, fn := fun _ => false, calm := true, pn := pn, xe := fun _ _ => False }
theorem inv_gen {X : Cx} {pins : List (Addr × Obj)} {σ : L2.St} {H : Hp} {s : Shared} {scope : Scope} {own : List (Str × Nat)} {fp : List Addr} {pn : List (Addr × Obj)} {A : Around} {code : Value} {cenv : PySem.Env} {h5 : Heap} {g5 : Array GenState} {d5 : Drawn} {t5 : Nat} {mm : Str → Option Value}
    (I : Inv X pins σ H s) (ok : BlkOk X.N X.env.scope scope own) (hN : X.N.Nodup) (hcell : ∀ y ∈ scope.names, y.2 ≠ .cell) (hfp : ∀ b ∈ fp, FpOk X pins H b ∧ b < s.heap.objs.size)
    (hcenv : cenv = genEnv scope (cloFrom X.env.cells scope.names []) s.heap.objs.size code builtinsNs X.env) (hA : A.handled = none) (hAf : A.frames = some (cenv :: X.stack))
    (kp : ∀ b o, s.heap.get? b = some o → h5.get? b = some o) (hns : h5.Ns s.heap.objs.size mm) (hg : AllBare g5) (hpn : ∀ p ∈ pn, h5.get? p.1 = some p.2 ∧ s.heap.objs.size < p.1 ∧ ∀ v, p.2.data ≠ .cell v) :
    Inv (genX X A s H cenv fp pn) [] (L2.wipe σ (own.map (·.2))) H { s with heap := h5, gens := g5, drawn := d5, toks := t5 } := by
  subst hcenv
  have hfree : ∀ y ∈ scope.names, y.2 = .free → ∃ c, X.env.cells.lookup y.1 = some c := fun y hy e => by
    rcases ok.free y hy e with k | k
    · exact I.ok.has _ (.inl k)
    · exact I.ok.has _ (.inr k)
  have cm : ∀ {y c}, (cloFrom X.env.cells scope.names []).lookup y = some c → X.env.cells.lookup y = some c := fun {y c} e => by
    rcases cloFrom_mem (PySem.mem_of_lookup e) with hm | ⟨h1, h2⟩
    · cases hm
    · obtain ⟨c1, hc⟩ := hfree _ h1 rfl
      have hc : X.env.cells.lookup y = some c1 := hc
      have e2 : c = c1 := by
        rw [h2, hc] <;> rfl
      rw [e2]
      exact hc
  have look : ∀ {y}, scope.names.lookup y = some .free → ∃ c, (cloFrom X.env.cells scope.names []).lookup y = some c := fun {y} hl =>
    mem_lookup (cloFrom_has (cells := X.env.cells) (acc := []) (PySem.mem_of_lookup hl))
  refine ⟨⟨I.ok.mod, ok.kind, I.ok.glob, rfl, Nat.le_refl _, fun y z c e1 e2 => I.ok.inj y z c (cm e1) (cm e2), fun y hy => ?_, fun y c z _ => ?_, fun _ => hA, hAf, .inr ⟨rfl, rfl⟩, fun b hb => ⟨Nat.ne_of_lt (hfp b hb).2, fun y c e z => (hfp b hb).1.2.2.2.2.1 y c (cm e) z⟩,
      I.bs, Nat.le_trans I.ok.bsz I.sz, fun b o e hb => ?_, fun b hb z => ?_, I.stack, I.stkFree⟩,
    rfl, hg, Un.kept kp, ⟨_, hns, fun i y av e1 e2 e3 => ?_⟩, fun y c e => ?_, I.hok.fresh (Nat.le_refl _), fun y c e => I.freeC y c (cm e), fun p hp => ?_, I.hok.kept kp, by rw [L2.wipe_length]; exact I.len⟩
  · have hy : scope.names.lookup y = some .cell ∨ scope.names.lookup y = some .free := hy
    rcases hy with hy | hy
    · exact absurd rfl (hcell _ (PySem.mem_of_lookup hy))
    · exact look hy
  · have z : false = true := z
    cases z
  · rcases (hfp b hb).1.2.2.2.1 with z | z
    · exact I.ok.noex b o e z
    · exact absurd (Nat.lt_of_lt_of_le (Heap.lt_size e) (Nat.le_trans I.ok.bsz z)) (Nat.lt_irrefl _)
  · rcases List.mem_cons.mp (I.stkSub b z) with z | z
    · exact (hfp b hb).1.2.1 z
    · exact (hfp b hb).1.2.2.1 z
  · obtain ⟨e2, hne⟩ := wipe_some e2
    have no : ∀ k', scope.names.lookup y = some k' → ¬ (k' = .local ∨ k' = .cell) := fun k' e hh => by
      rcases ok.own _ (PySem.mem_of_lookup e) hh with e' | e'
      · obtain ⟨p, hp, hpy⟩ := List.mem_map.mp e'
        have e3 := ok.ix p hp
        have : p.1 = y := hpy
        rw [this] at e3
        exact hne (List.mem_map.mpr ⟨p, hp, nodup_ix hN e3 e1⟩)
      · exact e' (List.mem_of_getElem? e1)
    have e3 : Vis scope y := e3
    rcases e3 with e3 | e3 | e3
    · exact absurd (.inl rfl) (no _ e3)
    · exact absurd (.inr rfl) (no _ e3)
    · obtain ⟨m, hn, hl⟩ := I.loc
      have hvis : Vis X.env.scope y := (ok.free _ (PySem.mem_of_lookup e3) rfl).elim (fun k => .inr (.inl k)) (fun k => .inr (.inr k))
      obtain ⟨w, r, q⟩ := hl i y av e1 e2 hvis
      obtain ⟨c, h2⟩ := look e3
      refine ⟨w, r, .inr ⟨.inr e3, c, h2, ?_⟩⟩
      have c1 := cm h2
      rcases q with ⟨k, _⟩ | ⟨_, c', e', z⟩
      · have k : X.env.scope.names.lookup y = some .local := k
        rcases ok.free _ (PySem.mem_of_lookup e3) rfl with k' | k' <;> rw [show X.env.scope.names.lookup y = _ from k'] at k <;> cases k
      · rw [c1] at e'; cases e'
        exact z.keeps kp
  · obtain ⟨w', z⟩ := I.cell y c (cm e)
    exact ⟨w', z.keeps kp⟩
  · have hp : p ∈ pn := (List.mem_append.mp hp).elim (fun z => z) (fun z => by cases z)
    obtain ⟨h1, h2, h3⟩ := hpn p hp
    exact ⟨h1, I.hok.fresh (Nat.le_of_lt h2), Nat.ne_of_gt h2, fun z => by
      rcases List.mem_cons.mp (I.stkSub p.1 z) with z | z
      · have := I.lt; rw [← z] at this; exact absurd (Nat.lt_trans h2 this) (Nat.lt_irrefl _)
      · exact I.nofs (Nat.le_of_lt h2) z, h3⟩
/-! ### while the generator sleeps -/
structure SleptS (SS : List Addr) (s s' : Shared) : Prop where
  os : s'.os = s.os
  bare : AllBare s'.gens
  keep : ∀ b o, b ∉ SS → s.heap.get? b = some o → s'.heap.get? b = some o
  own : ∀ b ∈ SS, ∃ o, s'.heap.get? b = some o ∧ ∀ v, o.data ≠ .cell v
/-- an address that is ours alone -/
def Ours (X : Cx) (b : Addr) : Prop := b ≠ X.env.locals ∧ b ∉ X.fs ∧ (b ∈ X.ex ∨ X.s_0.heap.objs.size ≤ b) ∧ (∀ x c, X.env.cells.lookup x = some c → c ≠ b) ∧ ∀ p ∈ X.pn, p.1 ≠ b
theorem Inv.slept {X : Cx} {σ : L2.St} {H : Hp} {s s' : Shared} {SS : List Addr} (I : Inv X [] σ H s) (hS : ∀ b ∈ SS, H b = none ∧ Ours X b) (z : SleptS SS s s') : Inv X [] σ H s' := by
  obtain ⟨z1, z2, z3, z4⟩ := z
  obtain ⟨hh, g, d, t, o⟩ := s'
  have ho : o = s.os := z1
  subst ho
  have nt : ∀ b u, H b = some u → b ∉ SS := fun b u q hb => by rw [(hS b hb).1] at q; cases q
  refine I.step (g' := g) (t' := t) (d' := d) (ch := SS) (fun b hb => ?_)
    (fun b ob _ _ hc q _ => z3 b ob hc q) (fun b ob _ _ hc q _ => ⟨ob.slots, z3 b ob hc q⟩) (fun _ _ _ _ n => n) (fun b ob hc q => ⟨ob, z3 b ob hc q⟩)
    (fun _ _ q => q) (fun _ _ _ q => q) (fun b ps q => ⟨#[], by rw [q]; simp⟩) (fun m hm => ?_) (fun b u q => ?_) z2
  · obtain ⟨_, h1, h2, h3, h4, h5⟩ := hS b hb
    exact ⟨h3, h1, h4, fun p hp => h5 p (by simpa using hp)⟩
  · obtain ⟨ob, es, ep, ho, r⟩ := hm
    exact ⟨ob, es, ep, z3 _ ob (fun hb => (hS _ hb).2.1 rfl) ho, r⟩
  · refine (I.hok b u q).stay (fun c v hc y => z3 c v ?_ y) (fun _ y => y) fun _ _ y => y
    rcases hc with y | y
    · rw [y]; exact nt b u q
    · exact nt c _ y
end Dz
end
section
set_option Elab.async false
set_option linter.all false
set_option maxRecDepth 100000
set_option maxHeartbeats 1000000
namespace Dz
open PySem PySem.Spec L2 PyProof.Rows GenW
section
variable {Z : Wd} {X : Cx} {n : Nat}
/-- the fixed data of a generator that runs in X -/
structure GD (Z : Wd) (X : Cx) (n : Nat) where
  A : Around
  tgx : Expr
  itx : Expr
  ifs : List Expr
  eltx : Expr
  scope : Scope
  pos : Pos
  it : Addr
  fp : List Addr
  tn : Nat → Heap → Prop
  T : It
  J : IT
  tg : Tg
  cnd : List Dz.T
  elt : E
  own : List Nat
  ρ : Env
  σ : L2.St
  H3 : Hp
  m3 : List Addr
  st3 : Sto
  SS : List Addr
  Car : Nat → Shared → Hp → List Addr → Prop
  Put : Value → Shared → Shared → Prop
  tr : List (D × Sto)
  e : Option Sto
abbrev GD.ge (g : GD Z X n) : Expr := .GeneratorExp g.eltx [⟨g.tgx, g.itx, g.ifs, 0⟩] g.scope g.pos
abbrev GD.lc (g : GD Z X n) : Code := .compLoop g.ge 0 (.ref g.it) .none X.env
abbrev GD.sc (g : GD Z X n) : Code := .compStart g.ge 0 (.ref g.it) .none X.env
abbrev GD.body (g : GD Z X n) := bodyC Z n g.ρ g.tg g.cnd g.elt g.own
structure GD.Ok0 (g : GD Z X n) : Prop where
  G : Wk Z X n
  hh : g.A.handled = none
  hA : X.A = g.A.over g.lc []
  co : X.env.scope.isCoroutine = false
  pg : PG X g.tgx (gT X.K Z g.tg)
  pt : PTs X g.ifs (tTA X.K Z n g.cnd)
  pe : PE X g.eltx (tE X.K Z n g.elt)
  T : Turn X.prog X.w X.K g.tgx g.T g.fp g.it g.tn
  rJ : RI X.K g.H3 g.m3 g.J g.T
  R3 : Rp X.K Z.Tb g.H3 g.m3 g.st3
  E3 : RE X.K g.H3 g.m3 (wipeD g.ρ g.own) (L2.wipe g.σ g.own)
  htg : ∀ i ∈ tgI g.tg, i ∈ g.own
  stat : ∀ b ∈ g.fp, Ours X b
structure GD.Ok (g : GD Z X n) : Prop extends GD.Ok0 g where
  ss : ∀ b ∈ g.SS, Ours X b ∧ b ∉ g.fp
  car : ∀ (j : Nat) (s s' : Shared) (H H' : Hp) (m m' : List Addr) (st : Sto), g.Car j s H m → Rp X.K Z.Tb H m st → Ext m H m' H' → (∀ b ∈ g.SS, s'.heap.get? b = s.heap.get? b) → g.Car j s' H' m'
  put : ∀ (j : Nat) (s s' : Shared) (H : Hp) (m : List Addr) (st : Sto) (d : D) (x : V) (v : Value), g.Car j s H m → g.tr[j]? = some (d, st) → Rp X.K Z.Tb H m st → RV X.K H m d x → RelV x v → SleptS g.SS s s' → g.Put v s s' → g.Car (j + 1) s' H m
  puth : ∀ (v : Value) (s s' s'' : Shared), s''.heap = s'.heap → g.Put v s s' → g.Put v s s''
structure GD.At (g : GD Z X n) (i j : Nat) (s : Shared) (H : Hp) (m : List Addr) (st : Sto) : Prop where
  inv : Inv X [] (L2.wipe g.σ g.own) H s
  rp : Rp X.K Z.Tb H m st
  ext : Ext g.m3 g.H3 m H
  tn : g.tn i s.heap
  fp : ∀ b ∈ g.fp, H b = none
  ss : ∀ b ∈ g.SS, H b = none ∧ ∃ o, s.heap.get? b = some o ∧ ∀ v, o.data ≠ .cell v
  car : g.Car j s H m
abbrev Same (SS : List Addr) (s s' : Shared) : Prop := ∀ b ∈ SS, s'.heap.get? b = s.heap.get? b
def GD.P (g : GD Z X n) : Nat → Shared → Shared → Prop := fun k s₀ s => k = 0 ∧ ∃ stE H m, g.e = some stE ∧ Inv X [] (L2.wipe g.σ g.own) H s ∧ Rp X.K Z.Tb H m stE ∧ Ext g.m3 g.H3 m H ∧ (∀ b ∈ g.SS, H b = none ∧ ∃ o, s.heap.get? b = some o) ∧ g.Car g.tr.length s H m ∧ Same g.SS s₀ s
abbrev GD.R (g : GD Z X n) : GenEnd := fun k s₀ r s => r = .ok .next ∧ g.P k s₀ s
def GD.Y (g : GD Z X n) : Protocol := fun k s₀ v s kap => ∃ d st H m x i, g.tr[g.tr.length - 1 - k]? = some (d, st) ∧ g.At i (g.tr.length - 1 - k) s H m st ∧ RV X.K H m d x ∧ RelV x v ∧ Same g.SS s₀ s ∧
  (¬ (k = 0 ∧ g.e = none) → ∀ s', SleptS g.SS s s' → g.Put v s s' → kap (.send .none) s')
theorem GD.At.pinS {g : GD Z X n} (O : g.Ok) {i j : Nat} {s : Shared} {H : Hp} {m : List Addr} {st : Sto} (a : g.At i j s H m st) : Inv X (pinsAt g.SS s.heap) (L2.wipe g.σ g.own) H s ∧ ∀ b ∈ g.fp, FpOk X (pinsAt g.SS s.heap) H b := by
  have I := a.inv.pinned (fp := g.SS) (fun b hb => ?_) (fun b hb => (a.ss b hb).2)
  · refine ⟨I, fun b hb => ?_⟩
    obtain ⟨h1, h2, h3, h4, h5⟩ := O.stat b hb
    refine ⟨a.fp b hb, h1, h2, h3, h4, fun p hp => ?_⟩
    rcases List.mem_append.mp hp with z | z
    · exact h5 p z
    · intro e
      exact (O.ss p.1 (of_pinsAt z).1).2 (e ▸ hb)
  · obtain ⟨h1, h2, h3, h4, h5⟩ := (O.ss b hb).1
    exact ⟨(a.ss b hb).1, h1, h2, h3, h4, fun p hp => h5 p (by simpa using hp)⟩
theorem same_of {SS : List Addr} {σ : L2.St} {H' : Hp} {s s' : Shared} {extra : List (Addr × Obj)} (ho : ∀ b ∈ SS, ∃ o, s.heap.get? b = some o) (I : Inv X (pinsAt SS s.heap ++ extra) σ H' s') : Same SS s s' ∧ ∀ b ∈ SS, H' b = none := by
  refine ⟨fun b hb => ?_, fun b hb => ?_⟩ <;> obtain ⟨o, e⟩ := ho b hb
  · rw [e]
    exact (I.pin (b, o) (List.mem_append_right _ (List.mem_append_left _ (mem_pinsAt hb e)))).1
  · exact (I.pin (b, o) (List.mem_append_right _ (List.mem_append_left _ (mem_pinsAt hb e)))).2.1
theorem hE (G : Wk Z X n) {α : Type} {t : Sem α} {Q : α → Shared → Prop} {s : Shared} (h : wpAny (model X.prog X.w) X.A t Q X.xe s) : wpAny (model X.prog X.w) X.A t Q (fun _ _ => False) s := by rw [← G.xe]; exact h
theorem seg_loop {g : GD Z X n} (O : g.Ok) : ∀ {r i : Nat} {st : Sto} {tr : List (D × Sto)} {e : Option Sto}, Tr g.J g.body r i st tr e → ¬ (tr = [] ∧ e = none) → e = g.e → ∀ (j : Nat), tr = g.tr.drop j → j ≤ g.tr.length →
    ∀ (s₀ s : Shared) (H : Hp) (m : List Addr), g.At i j s H m st → Same g.SS s₀ s → Seg (model X.prog X.w) g.A g.R g.Y tr.length s₀ g.lc ((model X.prog X.w).den g.lc) [] s := by
  intro r i st tr e t
  induction t with
  | stop => intro hn; exact absurd ⟨rfl, rfl⟩ hn
  | @fin i st hs =>
    intro _ he j hj hjl s₀ s H m a hsame
    show Seg _ g.A _ _ _ s₀ _ ((compTurn g.ge 0 (.ref g.it) .none X.env).onRaise (leaving X.env)) [] s
    rw [compTurn_gen, Sem.onRaise_eq_wrap]
    refine seg_bind_wrap (wpAny_standAt ?_)
    refine seg_bind_wrap ?_
    rw [← O.hA]
    obtain ⟨I1, f1⟩ := a.pinS O
    have stop := (O.rJ.ext O.R3 a.ext).stop a.rp hs
    refine thnF (O.T.done X rfl rfl rfl O.G.calm i _ s _ H (fun _ _ => False) I1 f1 a.tn stop) fun q s6 ⟨hq, I6⟩ => ?_
    subst hq
    obtain ⟨q1, q2⟩ := same_of (extra := []) (fun b hb => let ⟨o, e, _⟩ := (a.ss b hb).2; ⟨o, e⟩) (by rw [List.append_nil]; exact I6)
    have hl : j = g.tr.length := by
      have := congrArg List.length hj
      simp at this
      omega
    refine seg_end (.ok .next) ⟨rfl, rfl, st, H, m, he.symm, I6.pins_of (fun p hp => by cases hp), a.rp, a.ext, fun b hb => ⟨q2 b hb, by rw [q1 b hb]; obtain ⟨o, e, _⟩ := (a.ss b hb).2; exact ⟨o, e⟩⟩, ?_, fun b hb => (q1 b hb).trans (hsame b hb)⟩
    rw [← hl]
    exact O.car j s s6 H H m m st a.car a.rp Ext.refl q1
  | @skip r i st st1 x tr e hx hb ht ih =>
    intro hn he j hj hjl s₀ s H m a hsame
    show Seg _ g.A _ _ _ s₀ _ ((compTurn g.ge 0 (.ref g.it) .none X.env).onRaise (leaving X.env)) [] s
    rw [compTurn_gen, Sem.onRaise_eq_wrap]
    refine seg_bind_wrap (wpAny_standAt ?_)
    refine seg_bind_wrap ?_
    rw [← O.hA]
    obtain ⟨I1, f1⟩ := a.pinS O
    have rJ := O.rJ.ext O.R3 a.ext
    refine thnF (O.T.item X rfl rfl rfl O.G.calm i _ s _ H (fun _ _ => False) I1 f1 a.tn (rJ.go a.rp hx)) fun q s1 ⟨u, hq, h1⟩ => ?_
    subst hq
    refine seg_bind_wrap ?_
    rw [← O.hA]
    refine thnF h1 fun _ s2 ⟨xv, H2, I2, r2, y2, tn2, n2⟩ => ?_
    obtain ⟨x2, R2, rv2⟩ := rJ.yld a.rp hx y2
    have f2 : ∀ b ∈ g.fp, FpOk X (pinsAt g.SS s.heap) H2 b := fun b hb => ⟨n2 b hb, (f1 b hb).2⟩
    have I2' := I2.pinned f2 (O.T.obj _ _ tn2)
    obtain ⟨ρ1, ea, eb⟩ := Option.bind_eq_some_iff.mp hb
    obtain ⟨⟨c, st2⟩, ec, eb⟩ := Option.bind_eq_some_iff.mp eb
    have S2 : Sx X.K Z (L2.wipe g.σ g.own) H2 m (wipeD g.ρ g.own) st := ⟨O.E3.ext O.R3 (a.ext.trans x2), R2⟩
    refine seg_bind_wrap ?_
    rw [← O.hA]
    have gt : gT X.K Z g.tg xv (L2.wipe g.σ g.own) H2 (fun σ' H' => H' = H2 ∧ RE X.K H2 m ρ1 σ' ∧ L2.wipe σ' g.own = L2.wipe g.σ g.own) :=
      ⟨m, _, st, x, ρ1, S2, rv2, ea, fun σ' E' w => ⟨rfl, E', by rw [w g.own O.htg, wipe_twice]⟩⟩
    refine thnF (hE O.G (O.pg.run _ s2 _ H2 xv u _ I2' r2 gt)) fun _ s3 ⟨σ3, H3, I3, eH, E3, w3⟩ => ?_
    subst eH
    refine seg_bind_wrap ?_
    rw [← O.hA]
    refine thnF (hE O.G (O.pt.run _ s3 σ3 H3 (fun b H4 => b = c ∧ ∃ m4, Ext m H3 m4 H4 ∧ Sx X.K Z σ3 H4 m4 ρ1 st2) I3 (tTo.mk ⟨E3, R2⟩ ec fun H4 m4 x4 S4 => ⟨rfl, m4, x4, S4⟩))) fun ok s4 ⟨H4, I4, hok, m4, x4, S4⟩ => ?_
    subst hok
    -- what stays true to the turn's end
    have back : ∀ {s' : Shared} {H' : Hp} {m' : List Addr} {st' : Sto}, Inv X (pinsAt g.SS s.heap ++ pinsAt g.fp s2.heap) σ3 H' s' → Ext m4 H4 m' H' → Rp X.K Z.Tb H' m' st' → g.At (i + 1) j s' H' m' st' ∧ Same g.SS s s' := fun {s' H' m' st'} I' x' R' => by
      obtain ⟨q1, q2⟩ := same_of (fun b hb => let ⟨o, e, _⟩ := (a.ss b hb).2; ⟨o, e⟩) I'
      have pin' : ∀ b ∈ g.fp, ∀ o, s2.heap.get? b = some o → s'.heap.get? b = some o ∧ H' b = none := fun b hb o e =>
        let z := I'.pin (b, o) (List.mem_append_right _ (List.mem_append_right _ (mem_pinsAt hb e)))
        ⟨z.1, z.2.1⟩
      have hl : (L2.wipe g.σ g.own).length = σ3.length := by rw [← w3, L2.wipe_length]
      have I0 : Inv X [] σ3 H' s' := I'.pins_of (fun p hp => by cases hp)
      refine ⟨⟨I0.weak hl (fun k v e => ?_), R', ((a.ext.trans x2).trans x4).trans x', O.T.keep _ _ _ tn2 fun b hb o e => (pin' b hb o e).1, fun b hb => ?_, fun b hb => ⟨q2 b hb, ?_⟩, O.car j s s' H H' m m' st a.car a.rp ((x2.trans x4).trans x') q1⟩, q1⟩
      · rw [← w3] at e
        exact (wipe_some e).1
      · obtain ⟨o, e, _⟩ := O.T.obj _ _ tn2 b hb
        exact (pin' b hb o e).2
      · rw [q1 b hb]
        exact (a.ss b hb).2
    cases ok with
    | true =>
      obtain ⟨_, _, eb⟩ := Option.map_eq_some_iff.mp (show (ev g.elt Z.g (Z.C n) ρ1 st2).map _ = some (none, st1) from eb)
      cases eb
    | false =>
      cases eb
      simp only [Bool.false_eq_true, if_false]
      obtain ⟨a', q⟩ := back I4 Ext.refl S4.2
      exact seg_again rfl (ih hn he j hj hjl s₀ s4 H4 m4 a' fun b hb => (q b hb).trans (hsame b hb))
  | @yld r i st st1 x y tr e hx hb ht ih =>
    intro hn he j hj hjl s₀ s H m a hsame
    show Seg _ g.A _ _ _ s₀ _ ((compTurn g.ge 0 (.ref g.it) .none X.env).onRaise (leaving X.env)) [] s
    rw [compTurn_gen, Sem.onRaise_eq_wrap]
    refine seg_bind_wrap (wpAny_standAt ?_)
    refine seg_bind_wrap ?_
    rw [← O.hA]
    obtain ⟨I1, f1⟩ := a.pinS O
    have rJ := O.rJ.ext O.R3 a.ext
    refine thnF (O.T.item X rfl rfl rfl O.G.calm i _ s _ H (fun _ _ => False) I1 f1 a.tn (rJ.go a.rp hx)) fun q s1 ⟨u, hq, h1⟩ => ?_
    subst hq
    refine seg_bind_wrap ?_
    rw [← O.hA]
    refine thnF h1 fun _ s2 ⟨xv, H2, I2, r2, y2, tn2, n2⟩ => ?_
    obtain ⟨x2, R2, rv2⟩ := rJ.yld a.rp hx y2
    have f2 : ∀ b ∈ g.fp, FpOk X (pinsAt g.SS s.heap) H2 b := fun b hb => ⟨n2 b hb, (f1 b hb).2⟩
    have I2' := I2.pinned f2 (O.T.obj _ _ tn2)
    obtain ⟨ρ1, ea, eb⟩ := Option.bind_eq_some_iff.mp hb
    obtain ⟨⟨c, st2⟩, ec, eb⟩ := Option.bind_eq_some_iff.mp eb
    have S2 : Sx X.K Z (L2.wipe g.σ g.own) H2 m (wipeD g.ρ g.own) st := ⟨O.E3.ext O.R3 (a.ext.trans x2), R2⟩
    refine seg_bind_wrap ?_
    rw [← O.hA]
    have gt : gT X.K Z g.tg xv (L2.wipe g.σ g.own) H2 (fun σ' H' => H' = H2 ∧ RE X.K H2 m ρ1 σ' ∧ L2.wipe σ' g.own = L2.wipe g.σ g.own) :=
      ⟨m, _, st, x, ρ1, S2, rv2, ea, fun σ' E' w => ⟨rfl, E', by rw [w g.own O.htg, wipe_twice]⟩⟩
    refine thnF (hE O.G (O.pg.run _ s2 _ H2 xv u _ I2' r2 gt)) fun _ s3 ⟨σ3, H3, I3, eH, E3, w3⟩ => ?_
    subst eH
    refine seg_bind_wrap ?_
    rw [← O.hA]
    refine thnF (hE O.G (O.pt.run _ s3 σ3 H3 (fun b H4 => b = c ∧ ∃ m4, Ext m H3 m4 H4 ∧ Sx X.K Z σ3 H4 m4 ρ1 st2) I3 (tTo.mk ⟨E3, R2⟩ ec fun H4 m4 x4 S4 => ⟨rfl, m4, x4, S4⟩))) fun ok s4 ⟨H4, I4, hok, m4, x4, S4⟩ => ?_
    subst hok
    -- what stays true to the turn's end
    have back : ∀ {s' : Shared} {H' : Hp} {m' : List Addr} {st' : Sto}, Inv X (pinsAt g.SS s.heap ++ pinsAt g.fp s2.heap) σ3 H' s' → Ext m4 H4 m' H' → Rp X.K Z.Tb H' m' st' → g.At (i + 1) j s' H' m' st' ∧ Same g.SS s s' := fun {s' H' m' st'} I' x' R' => by
      obtain ⟨q1, q2⟩ := same_of (fun b hb => let ⟨o, e, _⟩ := (a.ss b hb).2; ⟨o, e⟩) I'
      have pin' : ∀ b ∈ g.fp, ∀ o, s2.heap.get? b = some o → s'.heap.get? b = some o ∧ H' b = none := fun b hb o e =>
        let z := I'.pin (b, o) (List.mem_append_right _ (List.mem_append_right _ (mem_pinsAt hb e)))
        ⟨z.1, z.2.1⟩
      have hl : (L2.wipe g.σ g.own).length = σ3.length := by rw [← w3, L2.wipe_length]
      have I0 : Inv X [] σ3 H' s' := I'.pins_of (fun p hp => by cases hp)
      refine ⟨⟨I0.weak hl (fun k v e => ?_), R', ((a.ext.trans x2).trans x4).trans x', O.T.keep _ _ _ tn2 fun b hb o e => (pin' b hb o e).1, fun b hb => ?_, fun b hb => ⟨q2 b hb, ?_⟩, O.car j s s' H H' m m' st a.car a.rp ((x2.trans x4).trans x') q1⟩, q1⟩
      · rw [← w3] at e
        exact (wipe_some e).1
      · obtain ⟨o, e, _⟩ := O.T.obj _ _ tn2 b hb
        exact (pin' b hb o e).2
      · rw [q1 b hb]
        exact (a.ss b hb).2
    cases ok with
    | false => cases eb
    | true =>
      obtain ⟨⟨y', st3⟩, ey, eb⟩ := Option.map_eq_some_iff.mp (show (ev g.elt Z.g (Z.C n) ρ1 st2).map _ = some (some y, st1) from eb)
      cases eb
      simp only [if_true]
      have hy : ∀ v, yieldOut X.env v = yieldValue v := fun v => by simp only [yieldOut, O.co, Bool.false_eq_true, if_false]
      simp only [hy]
      rw [Sem.bind_eq_wrap', Sem.bind_eq_wrap', Sem.wrap_wrap, Sem.wrap_wrap]
      refine seg_wrap ?_
      rw [← O.hA]
      refine thnF (hE O.G (O.pe.run _ s4 σ3 H4 (fun v H5 => ∃ m5, Ext m4 H4 m5 H5 ∧ Sx X.K Z σ3 H5 m5 ρ1 st3 ∧ RV X.K H5 m5 y' v) I4 (tE.mk S4 ey fun v H5 m5 x5 S5 r5 => ⟨m5, x5, S5, r5⟩))) fun w s5 ⟨v5, H5, I5, r5, m5, x5, S5, rv5⟩ => ?_
      obtain ⟨a', q⟩ := back I5 x5 S5.2
      have hjlt : j < g.tr.length := by
        rcases Nat.lt_or_ge j g.tr.length with z | z
        · exact z
        · rw [List.drop_of_length_le z] at hj; cases hj
      have hd : g.tr[j]? = some (y', st3) ∧ tr = g.tr.drop (j + 1) := by
        rw [List.drop_eq_getElem_cons hjlt] at hj
        injection hj with h1 h2
        exact ⟨by rw [List.getElem?_eq_getElem hjlt, h1], h2⟩
      have hlen : tr.length + (j + 1) = g.tr.length := by
        rw [hd.2, List.length_drop]; omega
      have hidx : g.tr.length - 1 - tr.length = j := by omega
      refine seg_at (seg_yield rfl rfl rfl ⟨y', st3, H5, m5, v5, i + 1, by rw [hidx]; exact hd.1, by rw [hidx]; exact a', rv5, r5, fun b hb => (q b hb).trans (hsame b hb), fun hne s' sl pt => ?_⟩)
      have a2 : g.At (i + 1) (j + 1) s' H5 m5 st3 := by
        refine ⟨Inv.slept a'.inv (fun b hb => ⟨(a'.ss b hb).1, (O.ss b hb).1⟩) sl, a'.rp, a'.ext, O.T.keep _ _ _ a'.tn fun b hb o e => sl.keep b o (fun hs => (O.ss b hs).2 hb) e, a'.fp, fun b hb => ⟨(a'.ss b hb).1, sl.own b hb⟩, O.put j s5 s' H5 m5 st3 y' v5 w a'.car hd.1 a'.rp rv5 r5 sl pt⟩
      refine seg_again rfl (ih (fun z => hne ⟨by rw [z.1]; rfl, by rw [← he]; exact z.2⟩) he (j + 1) hd.2 hjlt s' s' H5 m5 a2 fun b hb => rfl)
end
end Dz
end
section
set_option Elab.async false
set_option linter.all false
set_option maxRecDepth 100000
set_option maxHeartbeats 1000000
namespace Dz
open PySem PySem.Spec L2 PyProof.Rows GenW
section
variable {Z : Wd} {X : Cx} {n : Nat}
theorem seg_start {g : GD Z X n} (O : g.Ok) {r : Nat} {st : Sto} (t : Tr g.J g.body r 0 st g.tr g.e) (hn : ¬ (g.tr = [] ∧ g.e = none)) {s : Shared} {H : Hp} {m : List Addr} (a : g.At 0 0 s H m st) :
    Seg (model X.prog X.w) g.A g.R g.Y g.tr.length s g.sc ((model X.prog X.w).den g.sc) [] s := by
  have loop := seg_loop O t hn rfl 0 (by simp) (Nat.zero_le _) s s H m a fun b _ => rfl
  show Seg _ g.A _ _ _ s _ ((compStart g.ge 0 (.ref g.it) .none X.env).onRaise (leaving X.env)) [] s
  unfold compStart
  rw [Sem.onRaise_eq_wrap]
  show Seg _ g.A _ _ _ s _ ((ask >>= _).wrap _ _ _ _) [] s
  refine seg_bind_wrap (wpAny_askSetting ?_)
  split
  · exact seg_again rfl loop
  · first
      | exact seg_bind_wrap (wpAny_rule (seg_bind_wrap (wpAny_standAt (seg_bind_wrap (O.T.self _ 0 _ _ _ a.tn (seg_again rfl loop))))))
      | (refine seg_bind_wrap (wpAny_rule ?_); show Seg _ g.A _ _ _ s _ ((standAt g.itx.pos >>= _).wrap _ _ _ _) [] s; exact seg_bind_wrap (wpAny_standAt (seg_bind_wrap (O.T.self _ 0 _ _ _ a.tn (seg_again rfl loop)))))
/-- the generator's object at a, its state at gi -/
structure GObj (X : Cx) (a : Addr) (gi : Nat) : Prop where
  ex : ∃ go : Obj, (a, go) ∈ X.pn ∧ ∀ h : Heap, h.get? a = some go → h.IsGen a gi
structure GD.Rdy (g : GD Z X n) (a : Addr) (gi k : Nat) (s : Shared) : Prop where
  gen : s.heap.IsGen a gi
  lim : s.heap.NoLimit
  go : ∃ gs, s.gens[gi]? = some gs ∧ gs.Goes (model X.prog X.w) g.A g.R g.Y k (.send .none) (s.setGen gi .running)
/-- how it ends -/
structure GD.Done (g : GD Z X n) (s : Shared) (H : Hp) (m : List Addr) (st : Sto) : Prop where
  inv : Inv X [] (L2.wipe g.σ g.own) H s
  rp : Rp X.K Z.Tb H m st
  ext : Ext g.m3 g.H3 m H
theorem slept_gen {SS : List Addr} {s : Shared} {gi : Nat} {x : GenState} {h' : Heap} (hb : AllBare s.gens) (hx : x.bare = true) (hk : ∀ b o, s.heap.get? b = some o → h'.get? b = some o) (ho : ∀ b ∈ SS, ∃ o, s.heap.get? b = some o ∧ ∀ v, o.data ≠ .cell v) : SleptS SS s { s.setGen gi x with heap := h' } :=
  ⟨rfl, allBare_setGen hb hx, fun b o _ e => hk b o e, fun b hb => let ⟨o, e, d⟩ := ho b hb; ⟨o, hk b o e, d⟩⟩
theorem slept_heap {SS : List Addr} {s s' s'' : Shared} (x : SleptS SS s s') (h1 : s''.os = s'.os) (h2 : AllBare s''.gens) (h3 : s''.heap = s'.heap) : SleptS SS s s'' :=
  ⟨h1.trans x.os, h2, fun b o hb e => by rw [h3]; exact x.keep b o hb e, fun b hb => by rw [h3]; exact x.own b hb⟩
theorem gen_next {g : GD Z X n} (O : g.Ok) {A1 : Around} {a : Addr} {gi k j : Nat} (B : GObj X a gi) (hA : g.A = A1.in1) (hroom : A1.depth < recursionLimit) (pute : ∀ i j s H m st v, g.At i j s H m st → ∃ s', SleptS g.SS s s' ∧ g.Put v s s') {s : Shared} {Q : Option Value → Shared → Prop} {E : Value → Shared → Prop}
    (rdy : g.Rdy a gi k s) (hj : k + j = g.tr.length) (hke : k = 0 → g.e ≠ none)
    (hY : ∀ v s1 gs' d st H m x i, k ≠ 0 → g.tr[j]? = some (d, st) → g.At i j s1 H m st → RV X.K H m d x → RelV x v → Same g.SS s s1 → SleptS g.SS s1 (s1.setGen gi gs') → (s1.setGen gi gs').gens[gi]? = some gs' →
      (¬ (k = 1 ∧ g.e = none) → ∀ s3, SleptS g.SS s1 s3 → g.Put v s1 s3 → s3.gens[gi]? = some gs' → g.Rdy a gi (k - 1) s3) → Q (some v) (s1.setGen gi gs'))
    (hP : ∀ s' st H m, k = 0 → g.e = some st → g.Done s' H m st → (∀ b ∈ g.SS, H b = none) → g.Car g.tr.length s' H m → Same g.SS s s' → Q none s') : wpAny (model X.prog X.w) A1 (pyNext (.ref a)) Q E s := by
  obtain ⟨hg, hl, gs, hgs, hgo⟩ := rdy
  have hgl : gi < s.gens.size := (Array.getElem?_eq_some_iff.mp hgs).1
  obtain ⟨go, hpn, hgen⟩ := B.ex
  have hh : A1.handled = none := by have := O.hh; rw [hA] at this; exact this
  rw [hA] at hgo
  refine wpAny_gsz (n := gi + 1) hgl (wpAny_pyNext_genexpQ (P := g.P) hh hl hroom hg hgs hgo (fun v s1 gs' hbare hv => ?_) (fun s1 hp h' hk => ?_))
  · intro hsz
    obtain ⟨d, st, H, m, x, i, h1, h2, h3, h4, h5, h6⟩ := hv
    have hsz1 : gi < s1.gens.size := by
      have q : (s1.setGen gi gs').gens.size = s1.gens.size := setGen_size _ _ _
      have hsz' : gi + 1 ≤ (s1.setGen gi gs').gens.size := hsz
      omega
    cases k with
    | zero =>
      obtain ⟨s', z1, z2⟩ := pute _ _ _ _ _ _ v h2
      exact (h6 (fun z => hke rfl z.2) s' z1 z2).elim
    | succ k =>
      have hidx : g.tr.length - 1 - (k + 1 - 1) = j := by omega
      rw [hidx] at h1 h2
      have hsame : Same g.SS s s1 := fun b hb => h5 b hb
      refine hY v s1 gs' d st H m x i (by omega) h1 h2 h3 h4 hsame (slept_gen (h' := s1.heap) h2.inv.bare hbare (fun b o e => e) fun b hb => (h2.ss b hb).2) (setGen_at hsz1) fun hne s3 sl pt hg3 => ?_
      have I3 := Inv.slept h2.inv (fun b hb => ⟨(h2.ss b hb).1, (O.ss b hb).1⟩) sl
      have eg : s3.heap.get? a = some go := sl.keep a go (fun hb => (O.ss a hb).1.2.2.2.2 _ hpn rfl) (h2.inv.pin _ (List.mem_append_left _ hpn)).1
      refine ⟨hgen _ eg, I3.nolimit, gs', hg3, ?_⟩
      have := h6 (fun z => hne ⟨by omega, z.2⟩) (s3.setGen gi .running) (slept_heap sl rfl (allBare_setGen sl.bare rfl) rfl) (O.puth v s1 s3 _ rfl pt)
      rw [hA]
      exact this
  · intro _
    obtain ⟨hk0, st, H, m, h1, h2, h3, h4, h5, h6, h7⟩ := hp
    have sl : SleptS [] s1 { s1.setGen gi .finished with heap := h' } := slept_gen h2.bare rfl hk fun b hb => by cases hb
    have I' := Inv.slept h2 (fun b hb => by cases hb) sl
    have hsame : Same g.SS s s1 := fun b hb => h7 b hb
    have hh5 : ∀ b ∈ g.SS, h'.get? b = s1.heap.get? b := fun b hb => by
      obtain ⟨_, o, e⟩ := h5 b hb
      rw [e, hk b o e]
    exact hP _ st H m hk0 h1 ⟨I', h3, h4⟩ (fun b hb => (h5 b hb).1) (O.car _ s1 _ H H m m st h6 h3 Ext.refl fun b hb => hh5 b hb) fun b hb => (hh5 b hb).trans (hsame b hb)
end
end Dz
end
section
set_option Elab.async false
set_option linter.all false
set_option maxRecDepth 100000
set_option maxHeartbeats 1000000
namespace Dz
open PySem PySem.Spec L2 PyProof.Rows GenW
section
variable {Z : Wd} {X : Cx} {n : Nat}
abbrev in5 (A : Around) : Around := A.in1.in1.in1.in1.in1
theorem rdy_start {g : GD Z X n} (O : g.Ok) {a : Addr} {gi r : Nat} {st : Sto} (B : GObj X a gi) (t : Tr g.J g.body r 0 st g.tr g.e) (hn : ¬ (g.tr = [] ∧ g.e = none)) {s : Shared} {H : Hp} {m : List Addr} (at0 : g.At 0 0 s H m st)
    (hgs : s.gens[gi]? = some (.fresh g.sc)) : g.Rdy a gi g.tr.length s := by
  obtain ⟨go, hpn, hgen⟩ := B.ex
  have sl : SleptS [] s (s.setGen gi .running) := slept_gen (h' := s.heap) at0.inv.bare rfl (fun b o e => e) fun b hb => by cases hb
  have at1 : g.At 0 0 (s.setGen gi .running) H m st := ⟨Inv.slept at0.inv (fun b hb => by cases hb) sl, at0.rp, at0.ext, at0.tn, at0.fp, at0.ss, O.car _ s _ H H m m st at0.car at0.rp Ext.refl fun b _ => rfl⟩
  exact ⟨hgen _ (at0.inv.pin _ (List.mem_append_left _ hpn)).1, at0.inv.nolimit, _, hgs, rfl, seg_start O t hn at1⟩
theorem pute_triv {g : GD Z X n} (hput : ∀ v s s', g.Put v s s') : ∀ i j s H m st v, g.At i j s H m st → ∃ s', SleptS g.SS s s' ∧ g.Put v s s' := fun i j s H m st v a =>
  ⟨s, ⟨rfl, a.inv.bare, fun b o _ e => e, fun b hb => (a.ss b hb).2⟩, hput v s s⟩
theorem drop_cons {α : Type} {l t : List α} {x : α} {j : Nat} (h : x :: t = l.drop j) : l[j]? = some x ∧ t = l.drop (j + 1) ∧ j < l.length := by
  have hj : j < l.length := by
    rcases Nat.lt_or_ge j l.length with z | z
    · exact z
    · rw [List.drop_of_length_le z] at h; cases h
  rw [List.drop_eq_getElem_cons hj] at h
  injection h with h1 h2
  exact ⟨by rw [List.getElem?_eq_getElem hj, h1], h2, hj⟩
theorem drop_len {α : Type} {l t : List α} {j : Nat} (h : t = l.drop j) (hj : j ≤ l.length) : t.length + j = l.length := by
  rw [h, List.length_drop]; omega
theorem CF.ne {c : Cn} {acc d : D} {tr : List (D × Sto)} {e : Option Sto} {st' : Sto} (h : CF c acc tr e d st') : tr.length = 0 → e ≠ none := fun hl he => by
  cases tr with
  | nil => subst he; exact h
  | cons => cases hl
theorem all_loop {g : GD Z X n} (O : g.Ok) (hput : ∀ v s s', g.Put v s s') {A : Around} {a : Addr} {gi : Nat} (B : GObj X a gi) (hA : g.A = in5 A) (hroom : A.in1.in1.in1.in1.depth < recursionLimit) {R : Result → Shared → Prop} {d : D} {st' : Sto}
    (fin : ∀ s' H m b, d = .bl b → g.Done s' H m st' → R (.ok (.ret (.bool b))) s') : ∀ (tr : List (D × Sto)) (j : Nat), tr = g.tr.drop j → j ≤ g.tr.length → CF .all (.bl true) tr g.e d st' → ∀ s, g.Rdy a gi tr.length s →
    codeAny (model X.prog X.w) A (.builtin "all.loop" ⟨[.ref a], []⟩) R s := by
  intro tr
  induction tr with
  | nil =>
    intro j hj hjl cf s rdy
    refine codeAny_builtin F.entry_all_loop ?_
    rw [Around.under_plainId F.plain_all_loop _]
    show wpAny _ A.in1 (pyNext (.ref a) >>= _) _ _ s
    refine wpAny_bind (wpAny_of_in1 (wpAny_of_in1 (wpAny_of_in1 (gen_next O B hA hroom (pute_triv hput) rdy (drop_len hj hjl) cf.ne (fun v s1 gs' d st H m x i hk => (hk rfl).elim) fun s' st H m _ he dn _ _ _ => ?_))))
    refine wpAny_bind (wpAny_rule (wpAny_pure ?_))
    rw [he] at cf
    obtain ⟨c1, rfl⟩ := cf
    cases c1
    exact fin s' H m true rfl dn
  | cons y tr ih =>
    intro j hj hjl cf s rdy
    obtain ⟨h1, h2, h3⟩ := drop_cons hj
    obtain ⟨y, sy⟩ := y
    refine codeAny_builtin F.entry_all_loop ?_
    rw [Around.under_plainId F.plain_all_loop _]
    show wpAny _ A.in1 (pyNext (.ref a) >>= _) _ _ s
    refine wpAny_bind (wpAny_of_in1 (wpAny_of_in1 (wpAny_of_in1 (gen_next O B hA hroom (pute_triv hput) rdy (drop_len hj hjl) cf.ne (fun v s1 gs' d' st H m x i hk ht at1 rv rr hs sl hg3 again => ?_) fun s' st H m hk => ?_))))
    · rw [h1] at ht
      cases ht
      obtain ⟨z, ez, cf⟩ := cf
      cases y with
      | bl b =>
        cases ez
        cases rv
        obtain rfl : v = Value.bool b := rr
        refine wpAny_bind (wpAny_holding (wpAny_truthy_bool ?_))
        refine wpAny_bind (wpAny_letGo ?_)
        cases b with
        | true =>
          simp only [if_true]
          rcases cf with ⟨z, _⟩ | ⟨_, cf⟩
          · cases z
          · refine wpAny_pure ⟨plainId_quiet F.plain_all_loop _, ih (j + 1) h2 h3 cf _ ?_⟩
            have := again (fun z => cf.ne (by have := z.1; simp at this; simp [this]) z.2) _ sl (hput _ _ _) hg3
            simpa using this
        | false =>
          simp only [Bool.false_eq_true, if_false]
          rcases cf with ⟨_, _, _, rfl, rfl⟩ | ⟨z, _⟩
          · refine wpAny_bind (wpAny_rule (wpAny_pure ?_))
            exact fin _ H m false rfl ⟨Inv.slept at1.inv (fun b hb => ⟨(at1.ss b hb).1, (O.ss b hb).1⟩) sl, at1.rp, at1.ext⟩
          · cases z
      | _ => cases ez
    · simp at hk
theorem any_loop {g : GD Z X n} (O : g.Ok) (hput : ∀ v s s', g.Put v s s') {A : Around} {a : Addr} {gi : Nat} (B : GObj X a gi) (hA : g.A = in5 A) (hroom : A.in1.in1.in1.in1.depth < recursionLimit) {R : Result → Shared → Prop} {d : D} {st' : Sto}
    (fin : ∀ s' H m b, d = .bl b → g.Done s' H m st' → R (.ok (.ret (.bool b))) s') : ∀ (tr : List (D × Sto)) (j : Nat), tr = g.tr.drop j → j ≤ g.tr.length → CF .any (.bl false) tr g.e d st' → ∀ s, g.Rdy a gi tr.length s →
    codeAny (model X.prog X.w) A (.builtin "any.loop" ⟨[.ref a], []⟩) R s := by
  intro tr
  induction tr with
  | nil =>
    intro j hj hjl cf s rdy
    refine codeAny_builtin F.entry_any_loop ?_
    rw [Around.under_plainId F.plain_any_loop _]
    show wpAny _ A.in1 (pyNext (.ref a) >>= _) _ _ s
    refine wpAny_bind (wpAny_of_in1 (wpAny_of_in1 (wpAny_of_in1 (gen_next O B hA hroom (pute_triv hput) rdy (drop_len hj hjl) cf.ne (fun v s1 gs' d st H m x i hk => (hk rfl).elim) fun s' st H m _ he dn _ _ _ => ?_))))
    refine wpAny_bind (wpAny_rule (wpAny_pure ?_))
    rw [he] at cf
    obtain ⟨c1, rfl⟩ := cf
    cases c1
    exact fin s' H m false rfl dn
  | cons y tr ih =>
    intro j hj hjl cf s rdy
    obtain ⟨h1, h2, h3⟩ := drop_cons hj
    obtain ⟨y, sy⟩ := y
    refine codeAny_builtin F.entry_any_loop ?_
    rw [Around.under_plainId F.plain_any_loop _]
    show wpAny _ A.in1 (pyNext (.ref a) >>= _) _ _ s
    refine wpAny_bind (wpAny_of_in1 (wpAny_of_in1 (wpAny_of_in1 (gen_next O B hA hroom (pute_triv hput) rdy (drop_len hj hjl) cf.ne (fun v s1 gs' d' st H m x i hk ht at1 rv rr hs sl hg3 again => ?_) fun s' st H m hk => ?_))))
    · rw [h1] at ht
      cases ht
      obtain ⟨z, ez, cf⟩ := cf
      cases y with
      | bl b =>
        cases ez
        cases rv
        obtain rfl : v = Value.bool b := rr
        refine wpAny_bind (wpAny_holding (wpAny_truthy_bool ?_))
        refine wpAny_bind (wpAny_letGo ?_)
        cases b with
        | false =>
          simp only [Bool.false_eq_true, if_false]
          rcases cf with ⟨z, _⟩ | ⟨_, cf⟩
          · cases z
          · refine wpAny_pure ⟨plainId_quiet F.plain_any_loop _, ih (j + 1) h2 h3 cf _ ?_⟩
            have := again (fun z => cf.ne (by have := z.1; simp at this; simp [this]) z.2) _ sl (hput _ _ _) hg3
            simpa using this
        | true =>
          simp only [if_true]
          rcases cf with ⟨_, _, _, rfl, rfl⟩ | ⟨z, _⟩
          · refine wpAny_bind (wpAny_rule (wpAny_pure ?_))
            exact fin _ H m true rfl ⟨Inv.slept at1.inv (fun b hb => ⟨(at1.ss b hb).1, (O.ss b hb).1⟩) sl, at1.rp, at1.ext⟩
          · cases z
      | _ => cases ez
    · simp at hk
/-- sum: the list at S holds what is summed so far -/
abbrev lstS (xs : Array Value) (c : Nat) : Obj := { cls := .type "list", dict := none, data := .seq xs c, slots := #[] }
theorem lstS_nocell (xs : Array Value) (c : Nat) : ∀ v, (lstS xs c).data ≠ .cell v := fun v z => by cases z
theorem slept_upd {SS : List Addr} {s s' : Shared} {S : Addr} {ys zs : Array Value} {c : Nat} {f : Obj → Obj} {tk : Nat} (h : SleptS [S] s s') (e : s'.heap.get? S = some (lstS ys c)) {c' : Nat} (e' : (s'.heap.update S f).get? S = some (lstS zs c')) : SleptS [S] s { s' with heap := s'.heap.update S f, toks := tk } :=
  ⟨h.os, h.bare, fun b o hb x => (Heap.get?_update_other _ _ (fun z => hb (by rw [← z]; exact List.mem_singleton.mpr rfl))).trans (h.keep b o hb x), fun b hb => by
    rw [List.mem_singleton.mp hb]
    exact ⟨_, e', lstS_nocell _ _⟩⟩
theorem inL_iff {i : Int} (h : inL i = true) : -(2 ^ 63) ≤ i ∧ i < 2 ^ 63 := by
  unfold inL at h
  rw [Bool.and_eq_true] at h
  exact ⟨of_decide_eq_true h.1, of_decide_eq_true h.2⟩
theorem sum_loop {g : GD Z X n} (O : g.Ok) (hput : ∀ v s s', g.Put v s s') {A : Around} {a S : Addr} {gi : Nat} (hSS : g.SS = [S]) (B : GObj X a gi) (hA : g.A = in5 A) (hroom : A.in1.in1.in1.in1.depth < recursionLimit) {R : Result → Shared → Prop} {d : D} {st' : Sto}
    (fin : ∀ s' H m i t, d = .int i → g.Done s' H m st' → R (.ok (.ret (.int i t))) s') : ∀ (tr : List (D × Sto)) (j : Nat) (i : Int), tr = g.tr.drop j → j ≤ g.tr.length → CF .sum (.int i) tr g.e d st' → ∀ s t c, s.heap.get? S = some (lstS #[.int i t] c) → g.Rdy a gi tr.length s →
    codeAny (model X.prog X.w) A (.builtin "sum.loop" ⟨[.ref a, .ref S, rawInt 0, rawInt 0], []⟩) R s := by
  intro tr
  induction tr with
  | nil =>
    intro j i hj hjl cf s t c hS rdy
    refine codeAny_builtin F.entry_sum_loop ?_
    rw [Around.under_plainId F.plain_sum_loop _]
    show wpAny _ A.in1 (seqItems? (.ref S) >>= _) _ _ s
    refine wpAny_bind (wpAny_seqItems hS rfl ?_)
    show wpAny _ A.in1 (tryCatch (pyNext (.ref a)) _ >>= _) _ _ s
    refine wpAny_bind (wpAny_tryCatch (wpAny_of_in1 (wpAny_of_in1 (wpAny_of_in1 (gen_next O B hA hroom (pute_triv hput) rdy (drop_len hj hjl) cf.ne (fun v s1 gs' d st H m x i hk => (hk rfl).elim) fun s' st H m _ he dn _ _ _ => ?_)))))
    rw [he] at cf
    obtain ⟨c1, rfl⟩ := cf
    cases c1
    exact wpAny_pure (fin s' H m i t rfl dn)
  | cons y tr ih =>
    intro j i hj hjl cf s t c hS rdy
    obtain ⟨h1, h2, h3⟩ := drop_cons hj
    obtain ⟨y, sy⟩ := y
    refine codeAny_builtin F.entry_sum_loop ?_
    rw [Around.under_plainId F.plain_sum_loop _]
    show wpAny _ A.in1 (seqItems? (.ref S) >>= _) _ _ s
    refine wpAny_bind (wpAny_seqItems hS rfl ?_)
    show wpAny _ A.in1 (tryCatch (pyNext (.ref a)) _ >>= _) _ _ s
    refine wpAny_bind (wpAny_tryCatch (wpAny_of_in1 (wpAny_of_in1 (wpAny_of_in1 (gen_next O B hA hroom (pute_triv hput) rdy (drop_len hj hjl) cf.ne (fun v s1 gs' d' st H m x i' hk ht at1 rv rr hs sl hg3 again => ?_) fun s' st H m hk => ?_)))))
    · rw [h1] at ht
      cases ht
      obtain ⟨z, ez, cf⟩ := cf
      cases y with
      | int k =>
        have ez : (if inL i && inL k && inL (i + k) then some (false, D.int (i + k)) else none) = some z := ez
        split at ez
        · rename_i hc
          cases ez
          rw [Bool.and_eq_true, Bool.and_eq_true] at hc
          obtain ⟨⟨c1, c2⟩, c3⟩ := hc
          have c2 := inL_iff c2
          have c3 := inL_iff c3
          cases rv
          obtain ⟨tv, rfl⟩ := rr
          have hS1 : (s1.setGen gi gs').heap.get? S = some (lstS #[.int i t] c) := (hs S (by rw [hSS]; exact List.mem_singleton.mpr rfl)).trans hS
          have hc : ((decide (-(2 ^ 63) ≤ k) && decide (k < 2 ^ 63)) && (decide (-(2 ^ 63) ≤ i + k) && decide (i + k < 2 ^ 63))) = true := by
            simp only [Bool.and_eq_true, decide_eq_true_eq]
            exact ⟨c2, c3⟩
          show wpAny _ A.in1 (if (_ : Bool) = true then (mkInt (i + k) >>= _) else _) _ _ _
          split
          · refine wpAny_bind (wpAny_mkInt ?_)
            show wpAny _ A.in1 (updateSeq S (fun _ => #[.int (i + k) (s1.setGen gi gs').toks]) >>= _) _ _ _
            refine wpAny_bind ?_
            rcases cf with ⟨z, _⟩ | ⟨_, cf⟩
            · cases z
            · rw [hSS] at sl
              have e' := Heap.get?_update_self (Obj.mapSeq (fun _ => #[Value.int (i + k) (s1.setGen gi gs').toks])) hS1 rfl
              have sl' := slept_upd (SS := g.SS) (tk := (s1.setGen gi gs').toks + 1) sl hS1 e'
              rw [← hSS] at sl'
              have sl'' := sl'
              refine wpAny_updateSeq hS1 rfl (wpAny_pure ⟨plainId_quiet F.plain_sum_loop _, ih (j + 1) (i + k) h2 h3 cf _ _ _ e' ?_⟩)
              have := again (fun z => cf.ne (by have := z.1; simp at this; simp [this]) z.2) _ sl'' (hput _ _ _) hg3
              simpa using this
          · rename_i hneg
            exact absurd hc hneg
        · cases ez
      | _ => cases ez
    · simp at hk
/-- max: the list at S holds the greatest so far, twice -/
theorem max_name : (toString "max" ++ toString ".loop" : String) = "max.loop" := by decide
theorem max_loop {g : GD Z X n} (O : g.Ok) (hput : ∀ v s s', g.Put v s s') {A : Around} {a S : Addr} {gi : Nat} (hSS : g.SS = [S]) (B : GObj X a gi) (hA : g.A = in5 A) (hroom : A.in1.in1.in1.in1.depth < recursionLimit) {R : Result → Shared → Prop} {d : D} {st' : Sto}
    (fin : ∀ s' H m i t, d = .int i → g.Done s' H m st' → R (.ok (.ret (.int i t))) s') : ∀ (tr : List (D × Sto)) (j : Nat) (i : Int), tr = g.tr.drop j → j ≤ g.tr.length → CF .max (.int i) tr g.e d st' → ∀ s t c, s.heap.get? S = some (lstS #[.int i t, .int i t] c) → g.Rdy a gi tr.length s →
    codeAny (model X.prog X.w) A (.builtin "max.loop" ⟨[.ref a, .none, .ref S], []⟩) R s := by
  have hname := max_name
  intro tr
  induction tr with
  | nil =>
    intro j i hj hjl cf s t c hS rdy
    refine codeAny_builtin F.entry_max_loop ?_
    rw [Around.under_plainId F.plain_max_loop _]
    show wpAny _ A.in1 (seqItems? (.ref S) >>= _) _ _ s
    refine wpAny_bind (wpAny_seqItems hS rfl ?_)
    show wpAny _ A.in1 (tryCatch (pyNext (.ref a)) _ >>= _) _ _ s
    refine wpAny_bind (wpAny_tryCatch (wpAny_of_in1 (wpAny_of_in1 (wpAny_of_in1 (gen_next O B hA hroom (pute_triv hput) rdy (drop_len hj hjl) cf.ne (fun v s1 gs' d st H m x i hk => (hk rfl).elim) fun s' st H m _ he dn hSn _ hs => ?_)))))
    rw [he] at cf
    obtain ⟨c1, rfl⟩ := cf
    cases c1
    have hS1 : s'.heap.get? S = some (lstS #[.int i t, .int i t] c) := (hs S (by rw [hSS]; exact List.mem_singleton.mpr rfl)).trans hS
    show wpAny _ A.in1 (updateSeq S (fun _ => #[]) >>= _) _ _ _
    refine wpAny_bind ?_
    have e' := Heap.get?_update_self (Obj.mapSeq (fun _ => (#[] : Array Value))) hS1 rfl
    refine wpAny_updateSeq hS1 rfl (wpAny_bind (wpAny_letGo (wpAny_pure ?_)))
    have sl' : SleptS [S] s' { s' with heap := s'.heap.update S (Obj.mapSeq (fun _ => (#[] : Array Value))) } := slept_upd (SS := g.SS) (tk := s'.toks) ⟨rfl, dn.inv.bare, fun b o _ e => e, fun b hb => by rw [List.mem_singleton.mp hb]; exact ⟨_, hS1, lstS_nocell _ _⟩⟩ hS1 e'
    exact fin _ H m i t rfl ⟨Inv.slept dn.inv (fun b hb => ⟨hSn b (by rw [hSS]; exact hb), (O.ss b (by rw [hSS]; exact hb)).1⟩) sl', dn.rp, dn.ext⟩
  | cons y tr ih =>
    intro j i hj hjl cf s t c hS rdy
    obtain ⟨h1, h2, h3⟩ := drop_cons hj
    obtain ⟨y, sy⟩ := y
    refine codeAny_builtin F.entry_max_loop ?_
    rw [Around.under_plainId F.plain_max_loop _]
    show wpAny _ A.in1 (seqItems? (.ref S) >>= _) _ _ s
    refine wpAny_bind (wpAny_seqItems hS rfl ?_)
    show wpAny _ A.in1 (tryCatch (pyNext (.ref a)) _ >>= _) _ _ s
    refine wpAny_bind (wpAny_tryCatch (wpAny_of_in1 (wpAny_of_in1 (wpAny_of_in1 (gen_next O B hA hroom (pute_triv hput) rdy (drop_len hj hjl) cf.ne (fun v s1 gs' d' st H m x i' hk ht at1 rv rr hs sl hg3 again => ?_) fun s' st H m hk => ?_)))))
    · rw [h1] at ht
      cases ht
      obtain ⟨z, ez, cf⟩ := cf
      cases y with
      | int k =>
        cases ez
        rcases cf with ⟨z, _⟩ | ⟨_, cf⟩
        · cases z
        cases rv
        obtain ⟨tv, rfl⟩ := rr
        have hS1 : (s1.setGen gi gs').heap.get? S = some (lstS #[.int i t, .int i t] c) := (hs S (by rw [hSS]; exact List.mem_singleton.mpr rfl)).trans hS
        show wpAny _ A.in1 (tryCatch (holding [.int k tv, .int k tv] (richCompare .Gt (.int k tv) (.int i t) >>= _)) _ >>= _) _ _ _
        obtain ⟨bt, hcmp, h01⟩ : ∃ bt, CmpOf X.prog X.w A.in1 .Gt (fun p v => ∃ t, v = .int (if p = 0 then k else i) t) bt ∧ bt 0 1 = decide (i < k) := ⟨_, CmpOf.ints_gt _ fun p v h => h, by simp⟩
        refine wpAny_bind (wpAny_tryCatch (wpAny_holding (wpAny_bind (hcmp 0 1 (.int k tv) (.int i t) _ _ _ ⟨tv, rfl⟩ ⟨t, rfl⟩ ?_))))
        refine wpAny_bind (wpAny_holding (wpAny_truthy_bool ?_))
        refine wpAny_bind (wpAny_letGo (wpAny_pure ?_))
        cases hb : bt 0 1 with
        | true =>
          have hlt : i < k := by rw [hb] at h01; exact of_decide_eq_true h01.symm
          simp only [hlt, if_true] at cf ⊢
          refine wpAny_bind ?_
          rw [hSS] at sl
          have e' := Heap.get?_update_self (Obj.mapSeq (fun _ => #[Value.int k tv, Value.int k tv])) hS1 rfl
          have sl' := slept_upd (SS := g.SS) (tk := (s1.setGen gi gs').toks) sl hS1 e'
          rw [← hSS] at sl'
          refine wpAny_updateSeq hS1 rfl (wpAny_bind (wpAny_letGo ?_))
          rw [hname]
          refine wpAny_pure ⟨plainId_quiet F.plain_max_loop _, ih (j + 1) k h2 h3 cf _ _ _ e' ?_⟩
          have := again (fun z => cf.ne (by have := z.1; simp at this; simp [this]) z.2) _ sl' (hput _ _ _) hg3
          simpa using this
        | false =>
          have hlt : ¬ i < k := by rw [hb] at h01; exact of_decide_eq_false h01.symm
          simp only [hlt, Bool.false_eq_true, if_false] at cf ⊢
          refine wpAny_bind (wpAny_letGo ?_)
          rw [hname]
          refine wpAny_pure ⟨plainId_quiet F.plain_max_loop _, ih (j + 1) i h2 h3 cf _ _ _ hS1 ?_⟩
          have := again (fun z => cf.ne (by have := z.1; simp at this; simp [this]) z.2) _ sl (hput _ _ _) hg3
          simpa using this
      | _ => cases ez
    · simp at hk
theorem max_first {g : GD Z X n} (O : g.Ok) (hput : ∀ v s s', g.Put v s s') {A : Around} {a S : Addr} {gi : Nat} (hSS : g.SS = [S]) (B : GObj X a gi) (hA : g.A = in5 A) (hroom : A.in1.in1.in1.in1.depth < recursionLimit) {R : Result → Shared → Prop} {d : D} {st' : Sto}
    (fin : ∀ s' H m i t, d = .int i → g.Done s' H m st' → R (.ok (.ret (.int i t))) s') (cf : CF .max .non g.tr g.e d st') {s : Shared} {c : Nat} (hS : s.heap.get? S = some (lstS #[] c)) (rdy : g.Rdy a gi g.tr.length s) :
    codeAny (model X.prog X.w) A (.builtin "max.loop" ⟨[.ref a, .none, .ref S], []⟩) R s := by
  have hname := max_name
  cases htr : g.tr with
  | nil =>
    rw [htr] at cf
    cases he : g.e with
    | none => rw [he] at cf; exact cf.elim
    | some st => rw [he] at cf; obtain ⟨c1, _⟩ := cf; cases c1
  | cons y tr =>
    obtain ⟨y, sy⟩ := y
    have cf' := cf
    rw [htr] at cf'
    refine codeAny_builtin F.entry_max_loop ?_
    rw [Around.under_plainId F.plain_max_loop _]
    show wpAny _ A.in1 (seqItems? (.ref S) >>= _) _ _ s
    refine wpAny_bind (wpAny_seqItems hS rfl ?_)
    show wpAny _ A.in1 (tryCatch (pyNext (.ref a)) _ >>= _) _ _ s
    refine wpAny_bind (wpAny_tryCatch (wpAny_of_in1 (wpAny_of_in1 (wpAny_of_in1 (gen_next (j := 0) O B hA hroom (pute_triv hput) rdy rfl cf.ne (fun v s1 gs' d' st H m x i' hk ht at1 rv rr hs sl hg3 again => ?_) fun s' st H m hk => ?_)))))
    · rw [htr] at ht
      cases ht
      obtain ⟨z, ez, cf'⟩ := cf'
      cases y with
      | int k =>
        cases ez
        rcases cf' with ⟨z, _⟩ | ⟨_, cf'⟩
        · cases z
        cases rv
        obtain ⟨tv, rfl⟩ := rr
        have hS1 : (s1.setGen gi gs').heap.get? S = some (lstS #[] c) := (hs S (by rw [hSS]; exact List.mem_singleton.mpr rfl)).trans hS
        show wpAny _ A.in1 (updateSeq S (fun _ => #[.int k tv, .int k tv]) >>= _) _ _ _
        refine wpAny_bind ?_
        rw [hSS] at sl
        have e' := Heap.get?_update_self (Obj.mapSeq (fun _ => #[Value.int k tv, Value.int k tv])) hS1 rfl
        have sl' := slept_upd (SS := g.SS) (tk := (s1.setGen gi gs').toks) sl hS1 e'
        rw [← hSS] at sl'
        have sl'' := sl'
        refine wpAny_updateSeq hS1 rfl ?_
        rw [hname]
        have hj : tr = g.tr.drop 1 := by rw [htr]; rfl
        refine wpAny_pure ⟨plainId_quiet F.plain_max_loop _, max_loop O hput hSS B hA hroom fin tr 1 k hj (by rw [htr]; simp) cf' _ _ _ e' ?_⟩
        have := again (fun z => cf'.ne (by have := z.1; rw [htr] at this; simp at this; simp [this]) z.2) _ sl'' (hput _ _ _) hg3
        rw [htr] at this
        simpa using this
      | _ => cases ez
    · rw [htr] at hk; simp at hk
end
end Dz
end
section
set_option Elab.async false
set_option linter.all false
set_option maxRecDepth 100000
set_option maxHeartbeats 1000000
namespace Dz
open PySem PySem.Spec L2 PyProof.Rows GenW
section
variable {Z : Wd} {X : Cx} {n : Nat}
theorem cf_tuple : ∀ {tr : List (D × Sto)} {ds : List D} {e : Option Sto} {d : D} {st' : Sto}, CF .tuple (.tup ds) tr e d st' → e = some st' ∧ d = .tup (ds ++ tr.map (·.1)) ∧ (ds.length + tr.length ≤ sizeLine ∨ tr = [])
  | [], ds, some st, d, st', h => by
    obtain ⟨h1, rfl⟩ := h
    cases h1
    exact ⟨rfl, by simp, .inr rfl⟩
  | [], ds, none, d, st', h => h.elim
  | (y, sy) :: tr, ds, e, d, st', h => by
    obtain ⟨z, ez, h⟩ := h
    have ez : (if ds.length < sizeLine then some (false, D.tup (ds ++ [y])) else none) = some z := ez
    split at ez
    · rename_i hl
      cases ez
      rcases h with ⟨z, _⟩ | ⟨_, h⟩
      · cases z
      · obtain ⟨h1, h2, h3⟩ := cf_tuple h
        refine ⟨h1, by rw [h2]; simp, .inl ?_⟩
        rcases h3 with h3 | h3
        · simp at h3 ⊢; omega
        · subst h3; simp; omega
    · cases ez
/-- what stands in the list that is filled -/
def CarT (K : PySem.W.Frag) (S : Addr) (ds : List D) : Nat → Shared → Hp → List Addr → Prop := fun j s H m => ∃ (acc : Array Value) (c : Nat) (vs : List V), s.heap.get? S = some (lstS acc c) ∧ Vals vs acc.toList ∧ P2 (RV K H m) (ds.take j) vs
def PutT (S : Addr) : Value → Shared → Shared → Prop := fun v s s' => ∀ (acc : Array Value) (c : Nat), s.heap.get? S = some (lstS acc c) → ∃ c', s'.heap.get? S = some (lstS (acc.push v) c')
theorem ext_loop {g : GD Z X n} (O : g.Ok) {A : Around} {a S : Addr} {gi : Nat} (hSS : g.SS = [S]) (hcar : g.Car = CarT X.K S (g.tr.map (·.1))) (hput : g.Put = PutT S) (B : GObj X a gi) (hA : g.A = in5 A) (hroom : A.in1.in1.in1.in1.depth < recursionLimit)
    {R : Result → Shared → Prop} {res : Value} {st' : Sto} (he : g.e = some st') (hsz : g.tr.length ≤ sizeLine ∨ g.tr = [])
    (fin : ∀ s' H m acc c vs, g.Done s' H m st' → s'.heap.get? S = some (lstS acc c) → H S = none → Vals vs acc.toList → P2 (RV X.K H m) (g.tr.map (·.1)) vs → R (.ok (.ret res)) s') : ∀ (tr : List (D × Sto)) (j : Nat), tr = g.tr.drop j → j ≤ g.tr.length → ∀ s, g.Rdy a gi tr.length s →
    codeAny (model X.prog X.w) A (.builtin "list.extend.loop" ⟨[.ref S, .ref a, res], []⟩) R s := by
  have hSm : S ∈ g.SS := by rw [hSS]; exact List.mem_singleton.mpr rfl
  have hne : ∀ {k : Nat}, k = 0 → g.e ≠ none := fun _ z => by rw [he] at z; cases z
  have pute : ∀ i j s H m st v, g.At i j s H m st → ∃ s', SleptS g.SS s s' ∧ g.Put v s s' := fun i j s H m st v a => by
    have hc := a.car
    rw [hcar] at hc
    obtain ⟨acc, c, vs, hS, _⟩ := hc
    have e' := Heap.get?_update_self (Obj.mapSeq (·.push v)) hS rfl
    refine ⟨{ s with heap := s.heap.update S (Obj.mapSeq (·.push v)) }, ?_, ?_⟩
    · rw [hSS]
      exact slept_upd (SS := g.SS) (tk := s.toks) ⟨rfl, a.inv.bare, fun b o _ e => e, fun b hb => by rw [List.mem_singleton.mp hb]; exact ⟨_, hS, lstS_nocell _ _⟩⟩ hS e'
    · rw [hput]
      intro acc' c' h'
      rw [hS] at h'
      cases h'
      exact ⟨_, e'⟩
  intro tr
  induction tr with
  | nil =>
    intro j hj hjl s rdy
    refine codeAny_builtin F.entry_extend_loop ?_
    rw [Around.under_plainId F.plain_extend_loop _]
    show wpAny _ A.in1 (pyNext (.ref a) >>= _) _ _ s
    refine wpAny_bind (wpAny_of_in1 (wpAny_of_in1 (wpAny_of_in1 (gen_next O B hA hroom pute rdy (drop_len hj hjl) hne (fun v s1 gs' d st H m x i hk => (hk rfl).elim) fun s' st H m _ he2 dn hn hc _ => ?_))))
    rw [he] at he2
    cases he2
    rw [hcar] at hc
    obtain ⟨acc, c, vs, hS, hv, hp⟩ := hc
    rw [List.take_of_length_le (by simp)] at hp
    exact wpAny_pure (fin s' H m acc c vs dn hS (hn S hSm) hv hp)
  | cons y tr ih =>
    intro j hj hjl s rdy
    obtain ⟨h1, h2, h3⟩ := drop_cons hj
    obtain ⟨y, sy⟩ := y
    refine codeAny_builtin F.entry_extend_loop ?_
    rw [Around.under_plainId F.plain_extend_loop _]
    show wpAny _ A.in1 (pyNext (.ref a) >>= _) _ _ s
    refine wpAny_bind (wpAny_of_in1 (wpAny_of_in1 (wpAny_of_in1 (gen_next O B hA hroom pute rdy (drop_len hj hjl) hne (fun v s1 gs' d' st H m x i' hk ht at1 rv rr hs sl hg3 again => ?_) fun s' st H m hk => ?_))))
    · have hc := at1.car
      rw [hcar] at hc
      obtain ⟨acc, c, vs, hS, hv, hp⟩ := hc
      have hS1 : (s1.setGen gi gs').heap.get? S = some (lstS acc c) := hS
      have hasz : acc.size = j := by
        have q1 := hv.length
        have q2 := hp.1
        simp at q1 q2
        omega
      have hlt : acc.size < sizeLine := by
        rcases hsz with z | z
        · omega
        · rw [z] at h3; simp at h3
      show wpAny _ A.in1 (updateSeq S (·.push v) >>= _) _ _ _
      refine wpAny_bind ?_
      rw [hSS] at sl
      have e' := Heap.get?_update_self (Obj.mapSeq (·.push v)) hS1 rfl
      have sl' := slept_upd (SS := g.SS) (tk := (s1.setGen gi gs').toks) sl hS1 e'
      rw [← hSS] at sl'
      refine wpAny_updateSeq hS1 rfl (wpAny_pure ⟨plainId_quiet F.plain_extend_loop _, ih (j + 1) h2 h3 _ ?_⟩) (by omega) (by show (acc.push v).size ≤ sizeLine + 1; rw [Array.size_push]; omega)
      have := again (fun z => hne (k := 0) rfl z.2) _ sl' (by
        rw [hput]
        intro acc' c' h'
        rw [hS] at h'
        cases h'
        exact ⟨_, e'⟩) hg3
      simpa using this
    · simp at hk
end
end Dz
end
section
set_option Elab.async false
set_option linter.all false
set_option maxRecDepth 100000
set_option maxHeartbeats 1000000
namespace Dz
open PySem PySem.Spec L2 PyProof.Rows GenW
/-! ### the code's table grows -/
section
variable {K : PySem.W.Frag} {Tb : List Addr} {H : Hp} {m : List Addr} {st : Sto} {P : Addr} {ps ps' : Array Value}
theorem sqT_tbl (hP : H P = some (.tbl ps)) (a : Addr) (zs : List V) (h : SqT K H a zs) : SqT K (upd H P (.tbl ps')) a zs := by
  rcases h with (h | ⟨o, h⟩) | h
  · exact .inl (.inl (by rw [upd_ne (fun z => by subst z; rw [hP] at h; cases h)]; exact h))
  · exact .inl (.inr ⟨o, by rw [upd_ne (fun z => by subst z; rw [hP] at h; cases h)]; exact h⟩)
  · exact .inr h
theorem Ext.tbl (hP : H P = some (.tbl ps)) : Ext m H m (upd H P (.tbl ps')) :=
  ⟨⟨[], by simp, fun b hb => by cases hb⟩, fun b u e _ hu => by rw [upd_ne (fun z => by subst z; rw [hP] at e; cases e; exact hu)]; exact e, fun b e => upd_some e⟩
theorem Rp.tbl (R : Rp K Tb H m st) (hP : H P = some (.tbl ps)) (ht : TriplesOk ps'.toList) : Rp K Tb (upd H P (.tbl ps')) m st :=
  ⟨R.len, R.nd, fun k a o e1 e2 => (R.obj k a o e1 e2).carry R (Ext.tbl hP) (upd_ne fun z => by
    subst z
    obtain ⟨xs, e⟩ := R.some_of (List.mem_of_getElem? e1)
    rw [hP] at e; cases e), fun Q hQ => by
    obtain ⟨qs, e, t⟩ := R.tab Q hQ
    by_cases h : Q = P
    · subst h; exact ⟨ps', upd_same, ht⟩
    · exact ⟨qs, by rw [upd_ne h]; exact e, t⟩⟩
end
/-! ### a generator expression is made -/
section
variable {Z : Wd} {X : Cx} {n : Nat}
/-- room for the generator's frame -/
structure RoomG (n : Nat) (A : Around) : Prop where
  hd : A.handled = none
  dp : A.depth + 3 * n + 6 < recursionLimit
  un : A.units + 16 * n + 208 < cLine
theorem RoomG.of {A : Around} (r : Room (n + 1) A) : RoomG n A := ⟨r.hd, by have := r.dp; omega, by have := r.un; omega⟩
theorem RoomG.in2 {A : Around} (r : Room (n + 1) A) : RoomG n A.in1.in1 := ⟨r.hd, by have := r.dp; show A.depth + 3 * n + 6 < _; omega, by have := r.un; show A.units + 1 + 1 + 16 * n + 208 < _; omega⟩
theorem RoomG.over {A : Around} (r : RoomG n A) {elt : Expr} {gs : List Comprehension} {scope : Scope} {pos : Pos} {it : Value} {env : PySem.Env} : Room n ((in5 A).over (.compLoop (.GeneratorExp elt gs scope pos) 0 it .none env) []) := by
  have h1 := r.dp
  have h2 := r.un
  refine ⟨r.hd, ?_, ?_⟩
  · show A.depth + 0 + (1 + 0 + 0 + 0) + 3 * n + 5 < _
    omega
  · show A.units + 1 + 1 + 1 + 1 + 1 + 0 + 3 * 1 + 16 * n + 200 < _
    omega
/-- all that is known of a generator that has just been made -/
structure Made (Z : Wd) (X : Cx) (n : Nat) (A : Around) (pins : List (Addr × Obj)) (σ : L2.St) (H : Hp) (m : List Addr) (J : IT) (body : D → Sto → Option (Option D × Sto)) (st1 : Sto) (a : Addr) (s5 : Shared) : Prop where
  ex : ∃ (A1 : Around) (s3 : Shared) (H3 : Hp) (cenv : PySem.Env) (fp : List Addr) (pn : List (Addr × Obj)) (gi : Nat) (g : GD Z (genX X A1 s3 H3 cenv fp pn) n),
    GObj (genX X A1 s3 H3 cenv fp pn) a gi ∧ g.Ok0 ∧ g.A = in5 A ∧ g.J = J ∧ g.body = body ∧ g.st3 = st1 ∧ Ext m H g.m3 g.H3 ∧ Inv (genX X A1 s3 H3 cenv fp pn) [] (L2.wipe g.σ g.own) g.H3 s5 ∧ g.tn 0 s5.heap ∧ (∀ b ∈ g.fp, g.H3 b = none) ∧
    s5.gens[gi]? = some (.fresh g.sc) ∧ ∀ σ' H' s', Inv (genX X A1 s3 H3 cenv fp pn) [] σ' H' s' → Inv X pins σ H' s'
theorem gen_make {pins : List (Addr × Obj)} {σ : L2.St} {H : Hp} {s : Shared} {m : List Addr} {ρ : Env} {st st1 : Sto} {ik : Ik} {src : List E} {tg : Tg} {cnd : List Dz.T} {elt : E} {ds : List D} {J : IT} {k : Nat} {eltx tgx itx : Expr} {ifs : List Expr} {scope : Scope} {own : List (Str × Nat)} {pos : Pos} {c P : Addr} {A : Around} {Q : Value → Shared → Prop}
    (G : Wk Z X (n + 1)) (I : Inv X pins σ H s) (rA : RoomG n A) (hAf : A.frames = X.A.frames) (hi : PI X tgx itx (tI X.K Z (n + 1) ik src)) (ok : BlkOk X.N X.env.scope scope own) (hcell : ∀ y ∈ scope.names, y.2 ≠ .cell) (h0 : scope.names.lookup (".0" : Str) = some NameKind.local) (hco : scope.isCoroutine = false)
    (TB : GxR.TabB X.base X.mg c P) (hcode : X.env.code = .ref c) (hPt : P ∈ Z.Tb) (hs : ∀ v, genFold itx X.env v = pure v) (htg : ∀ i ∈ tgI tg, i ∈ own.map (·.2))
    (hpg : ∀ (A1 : Around) (s3 : Shared) (H3 : Hp) (cenv : PySem.Env) (fp : List Addr) (pn : List (Addr × Obj)), cenv.scope = scope → Wk Z (genX X A1 s3 H3 cenv fp pn) n → PG (genX X A1 s3 H3 cenv fp pn) tgx (gT X.K Z tg) ∧ PTs (genX X A1 s3 H3 cenv fp pn) ifs (tTA X.K Z n cnd) ∧ PE (genX X A1 s3 H3 cenv fp pn) eltx (tE X.K Z n elt))
    (S : Sx X.K Z σ H m ρ st) (e1 : evs src Z.g (Z.C (n + 1)) ρ st = some (ds, st1)) (e2 : itD ik ds st1 = some (J, k))
    (hQ : ∀ a s5, Made Z X n A pins σ H m J (bodyC Z n ρ tg cnd elt (own.map (·.2))) st1 a s5 → Q (.ref a) s5) :
    wpAny (model X.prog X.w) X.A (eval (.GeneratorExp eltx [⟨tgx, itx, ifs, 0⟩] scope pos) X.env) Q X.xe s := by
  have hfree : ∀ y ∈ scope.names, y.2 = .free → ∃ c, X.env.cells.lookup y.1 = some c := fun y hy e => by
    rcases ok.free y hy e with k | k
    · exact I.ok.has _ (.inl k)
    · exact I.ok.has _ (.inr k)
  refine wpAny_GeneratorExp_make hco (closure_ok hfree) hcell h0 ok.kind G.room.depth ?_ hs
  refine thn (hi.run pins s σ H (fun T H1 => ∃ m1, Ext m H m1 H1 ∧ Rp X.K Z.Tb H1 m1 st1 ∧ RI X.K H1 m1 J T) I ⟨m, ρ, st, ds, st1, J, k, S, e1, e2, fun T H1 m1 x1 R1 rJ => ⟨m1, x1, R1, rJ⟩⟩) fun xv s1 h1 => thn h1 fun itv s2 h2 => ?_
  obtain ⟨it, fp, tn, T, H1, rfl, I2, Tn, st2, f2, m1, x1, R1, rJ⟩ := h2
  obtain ⟨ps, hP, ht⟩ := R1.tab P hPt
  have hPs : s2.heap.get? P = some { cls := .none, data := .fields ps } := I2.hok P _ hP
  have cd : PySem.W.CodeHd s2.heap c P := TB.code.keeps fun b u e => I2.bk b u e
  have cont : ∀ (code : Value) (h3 : Heap) (tk : Nat) (more : Array Value), Heap.ExtBut P s2.heap h3 → h3.get? P = some { cls := .none, data := .fields (ps ++ more) } → TriplesOk (ps ++ more).toList →
      wpAny (model X.prog X.w) X.A (builtinsFor X.env.globals X.env.builtins) (fun bi s₄ =>
        ∀ h', h'.Ns s₄.heap.objs.size (fun y => if y = ".0" then some (.ref it) else none) → Heap.SameBut s₄.heap.objs.size (s₄.heap.push { cls := .type "frame", data := .dict #[] }) h' →
          Q (.ref h'.objs.size) { s₄ with
            gens := s₄.gens.push (.fresh (.compStart (.GeneratorExp eltx [⟨tgx, itx, ifs, 0⟩] scope pos) 0 (.ref it) .none (genEnv scope (cloFrom X.env.cells scope.names []) s₄.heap.objs.size code bi X.env))),
            toks := s₄.toks + 1 + 1 + 1,
            heap := h'.push { cls := .type "generator", data := .fields #[.int s₄.gens.size 0, .str "<genexpr>" (s₄.toks + 1), .str (X.env.qual ++ "<genexpr>") (s₄.toks + 1 + 1)] } }) X.xe { s2 with heap := h3, toks := tk } := by
    intro code h3 tk more hx hP3 ht3
    obtain ⟨bm, ob, b1, b2, b3, b4, b5, b6, b7, b8⟩ := TB.bm
    have keep3 : ∀ b u, b ≠ P → s2.heap.get? b = some u → h3.get? b = some u := fun b u hb e => hx b u hb e
    refine wpAny_builtinsFor (m := X.mg) (by rw [I2.ok.glob]; exact (I2.mod.glob.keeps I2.bk).extBut hx TB.gP) b1 b2 (keep3 _ _ b4 (I2.bk _ _ b5)) b6 b7 b8 ?_
    have I3 : Inv X pins σ (upd H1 P (.tbl (ps ++ more))) { s2 with heap := h3, toks := tk } := GxR.inv_tab (g' := s2.gens) (d' := s2.drawn) I2 hP keep3 hP3 I2.bare
    have R3 := R1.tbl (ps' := ps ++ more) hP ht3
    have x3 : Ext m1 H1 m1 (upd H1 P (.tbl (ps ++ more))) := Ext.tbl hP
    have nP : ∀ b, H1 b = none → b ≠ P := fun b e z => by rw [z, hP] at e; cases e
    have f3 : ∀ b ∈ fp, FpOk X pins (upd H1 P (.tbl (ps ++ more))) b := fun b hb => ⟨by rw [upd_ne (nP b (f2 b hb).1)]; exact (f2 b hb).1, (f2 b hb).2⟩
    have st3 : tn 0 h3 := Tn.keep _ _ _ st2 fun b hb o e => keep3 b o (nP b (f2 b hb).1) e
    generalize hH3 : upd H1 P (.tbl (ps ++ more)) = H3 at I3 R3 x3 f3
    generalize hs3 : ({ s2 with heap := h3, toks := tk } : Shared) = s3 at I3
    have eh3 : s3.heap = h3 := by rw [← hs3]
    have f3' : ∀ b ∈ fp, FpOk X pins H3 b ∧ b < s3.heap.objs.size := fun b hb => ⟨f3 b hb, by
      obtain ⟨o, e, _⟩ := Tn.obj _ _ st3 b hb
      rw [eh3]; exact Heap.lt_size e⟩
    intro h' hn' hs'
    have hsz : h'.objs.size = s3.heap.objs.size + 1 := by rw [hs'.1, Heap.size_push]
    have keep' : ∀ b o, s3.heap.get? b = some o → h'.get? b = some o := fun b o e => hs'.extBut b o (Nat.ne_of_lt (Heap.lt_size e)) (Heap.get?_push_of_some _ e)
    generalize hgo : ({ cls := .type "generator", data := .fields #[.int s3.gens.size 0, .str "<genexpr>" (s3.toks + 1), .str (X.env.qual ++ "<genexpr>") (s3.toks + 1 + 1)] } : Obj) = go
    have hgod : go.data = .fields #[.int s3.gens.size 0, .str "<genexpr>" (s3.toks + 1), .str (X.env.qual ++ "<genexpr>") (s3.toks + 1 + 1)] := by rw [← hgo]
    have hgoc : go.cls = .type "generator" := by rw [← hgo]
    have hgos : go.slots = #[] := by rw [← hgo]
    have hgof : (h'.push go).get? h'.objs.size = some go := by rw [← hgo]; exact Heap.get?_push_size _ rfl
    have kp5 : ∀ b o, s3.heap.get? b = some o → (h'.push go).get? b = some o := fun b o e => Heap.get?_push_of_some _ (keep' b o e)
    generalize hce : genEnv scope (cloFrom X.env.cells scope.names []) s3.heap.objs.size code builtinsNs X.env = cenv
    have hcs : cenv.scope = scope := by rw [← hce]; rfl
    have hA1 : ((in5 A).over (.compLoop (.GeneratorExp eltx [⟨tgx, itx, ifs, 0⟩] scope pos) 0 (.ref it) .none cenv) []).frames = some (cenv :: X.stack) := by
      show (A.frames).map ((cenv :: []) ++ ·) = _
      rw [hAf, I3.ok.frames]; rfl
    have hpn : ∀ p ∈ [(h'.objs.size, go)], (h'.push go).get? p.1 = some p.2 ∧ s3.heap.objs.size < p.1 ∧ ∀ v, p.2.data ≠ .cell v := fun p hp => by
      rw [List.mem_singleton.mp hp]
      exact ⟨hgof, by show _ < h'.objs.size; rw [hsz]; exact Nat.lt_succ_self _, fun v z => by rw [hgod] at z; cases z⟩
    have I5 := inv_gen (A := (in5 A).over (.compLoop (.GeneratorExp eltx [⟨tgx, itx, ifs, 0⟩] scope pos) 0 (.ref it) .none cenv) []) (pn := [(h'.objs.size, go)]) (code := code) (cenv := cenv) (d5 := s3.drawn) (t5 := s3.toks + 1 + 1 + 1) I3 ok G.nd hcell f3' hce.symm rA.hd hA1 kp5 (hn'.push _)
      (AllBare.push (g := .fresh (.compStart (.GeneratorExp eltx [⟨tgx, itx, ifs, 0⟩] scope pos) 0 (.ref it) .none cenv)) I3.bare rfl) hpn
    have W : Wk Z (genX X ((in5 A).over (.compLoop (.GeneratorExp eltx [⟨tgx, itx, ifs, 0⟩] scope pos) 0 (.ref it) .none cenv) []) s3 H3 cenv fp [(h'.objs.size, go)]) n :=
      ⟨rfl, rfl, G.nd, rA.over, G.glb, G.blt, G.fnG, fun i hi => G.fok i (Nat.lt_succ_of_lt hi)⟩
    obtain ⟨pg, pt, pe⟩ := hpg _ s3 H3 cenv fp [(h'.objs.size, go)] hcs W
    refine hQ _ _ ⟨_, s3, H3, cenv, fp, [(h'.objs.size, go)], s3.gens.size,
      { A := in5 A, tgx := tgx, itx := itx, ifs := ifs, eltx := eltx, scope := scope, pos := pos, it := it, fp := fp, tn := tn, T := T, J := J, tg := tg, cnd := cnd, elt := elt, own := own.map (·.2), ρ := ρ, σ := σ, H3 := H3, m3 := m1, st3 := st1, SS := [], Car := fun _ _ _ _ => True, Put := fun _ _ _ => True, tr := [], e := none },
      ⟨go, List.mem_singleton.mpr rfl, fun h e => ⟨go, _, _, e, hgoc, hgod, hgos⟩⟩,
      ⟨W, rA.hd, rfl, by show cenv.scope.isCoroutine = false; rw [hcs]; exact hco, pg, pt, pe, Tn, rJ.ext R1 x3, R3, ((S.1.ext S.2 x1).ext R1 x3).wipe _, htg, fun b hb => ?_⟩, rfl, rfl, rfl, rfl, x1.trans x3, I5, ?_, fun b hb => (f3 b hb).1, ?_, fun σ' H' s' I' => ?_⟩
    · refine ⟨(I5.ok.exf b hb).1, I5.ok.exfs b hb, .inl hb, (I5.ok.exf b hb).2, fun p hp => ?_⟩
      have hp : p = (h'.objs.size, go) := List.mem_singleton.mp hp
      rw [hp]
      have := (f3' b hb).2
      show h'.objs.size ≠ b
      rw [hsz]
      exact Nat.ne_of_gt (Nat.lt_succ_of_lt this)
    · exact Tn.keep _ _ _ st3 fun b hb o e => kp5 b o (by rw [eh3]; exact e)
    · exact Array.getElem?_push_size ..
    · exact I3.call' (ch := fp) I'.os I'.base I'.hok I'.bare fun b hb => ⟨(f3 b hb).2.2.2.1, (f3 b hb).2.1, (f3 b hb).2.2.2.2.1, (f3 b hb).2.2.2.2.2⟩
  refine ⟨I2.nolimit, ?_⟩
  cases hf : codeAmong pos ps.toList with
  | none =>
    refine wpAny_genexprCodeX hcode (cd.code hPs ht) (cd.tab hPs) hf fun c' h' tk hx hge hlt hco' _ htab' _ => ?_
    obtain ⟨o1, vs, f1, tf, fl, tg, inF, tx, tt, op, _, _, _, _, _, _, _, _, _, htr, _⟩ := hco'
    exact cont _ h' tk _ hx htab'.2 htr
  | some cv =>
    refine wpAny_genexprCode_hit hcode (cd.code hPs ht) hf ?_
    exact cont cv s2.heap s2.toks #[] (Heap.ExtBut.refl _ _) (by simpa using hPs) (by simpa using ht)
end
end Dz
end
section
set_option Elab.async false
set_option linter.all false
set_option maxRecDepth 100000
set_option maxHeartbeats 1000000
namespace Dz
open PySem PySem.Spec L2 PyProof.Rows GenW
section
variable {Z : Wd} {X : Cx} {n : Nat}
abbrev GD.upd (g : GD Z X n) (SS : List Addr) (Car : Nat → Shared → Hp → List Addr → Prop) (Put : Value → Shared → Shared → Prop) (tr : List (D × Sto)) (e : Option Sto) : GD Z X n := { g with SS := SS, Car := Car, Put := Put, tr := tr, e := e }
theorem gen_run {A : Around} {pins : List (Addr × Obj)} {σ : L2.St} {H : Hp} {m : List Addr} {J : IT} {body : D → Sto → Option (Option D × Sto)} {st1 : Sto} {a : Addr} {s5 s' : Shared} (M : Made Z X n A pins σ H m J body st1 a s5)
    {k : Nat} {tr : List (D × Sto)} {e : Option Sto} (t : Tr J body k 0 st1 tr e) (hne : ¬ (tr = [] ∧ e = none)) (SS : List Addr) (Car : Nat → Shared → Hp → List Addr → Prop) (Put : Value → Shared → Shared → Prop)
    (car : ∀ (j : Nat) (s s' : Shared) (H H' : Hp) (m m' : List Addr) (st : Sto), Car j s H m → Rp X.K Z.Tb H m st → Ext m H m' H' → (∀ b ∈ SS, s'.heap.get? b = s.heap.get? b) → Car j s' H' m')
    (put : ∀ (j : Nat) (s s' : Shared) (H : Hp) (m : List Addr) (st : Sto) (d : D) (x : V) (v : Value), Car j s H m → tr[j]? = some (d, st) → Rp X.K Z.Tb H m st → RV X.K H m d x → RelV x v → SleptS SS s s' → Put v s s' → Car (j + 1) s' H m)
    (puth : ∀ (v : Value) (s s' s'' : Shared), s''.heap = s'.heap → Put v s s' → Put v s s'') (kept : SleptS [] s5 s') (hg5 : s'.gens = s5.gens) (hSS : ∀ b ∈ SS, s5.heap.objs.size ≤ b ∧ ∃ o, s'.heap.get? b = some o ∧ ∀ v, o.data ≠ .cell v) (car0 : ∀ H m, Car 0 s' H m) :
    ∃ (A1 : Around) (s3 : Shared) (H3 : Hp) (cenv : PySem.Env) (fp : List Addr) (pn : List (Addr × Obj)) (gi : Nat) (g : GD Z (genX X A1 s3 H3 cenv fp pn) n), g.Ok ∧ GObj (genX X A1 s3 H3 cenv fp pn) a gi ∧ g.A = in5 A ∧ g.SS = SS ∧ g.Car = Car ∧ g.Put = Put ∧ g.tr = tr ∧ g.e = e ∧ g.Rdy a gi tr.length s' ∧
      ∀ s' H' m' st', g.Done s' H' m' st' → Inv X pins σ H' s' ∧ Ext m H m' H' ∧ Rp X.K Z.Tb H' m' st' := by
  obtain ⟨A1, s3, H3, cenv, fp, pn, gi, g, B, O, hA, hJ, hbody, hst, hext, I5, htn, hfp, hgs, back⟩ := M.ex
  have lt5 : ∀ b ∈ g.fp, b < s5.heap.objs.size := fun b hb => let ⟨o, e, _⟩ := O.T.obj _ _ htn b hb; Heap.lt_size e
  have new : ∀ b ∈ SS, g.H3 b = none ∧ Ours (genX X A1 s3 H3 cenv fp pn) b ∧ b ∉ g.fp := fun b hb => by
    obtain ⟨h1, _⟩ := hSS b hb
    obtain ⟨f0, f1, f2, f3, f4, f5⟩ := I5.fpOk h1 (I5.hok.fresh h1)
    exact ⟨f0, ⟨f1, f2, f3, f4, fun p hp => f5 p (List.mem_append_left _ hp)⟩, fun hm => absurd (Nat.lt_of_lt_of_le (lt5 b hm) h1) (Nat.lt_irrefl _)⟩
  have O' : (g.upd SS Car Put tr e).Ok := ⟨⟨O.G, O.hh, O.hA, O.co, O.pg, O.pt, O.pe, O.T, O.rJ, O.R3, O.E3, O.htg, O.stat⟩, fun b hb => (new b hb).2, car, put, puth⟩
  have a0 : (g.upd SS Car Put tr e).At 0 0 s' g.H3 g.m3 g.st3 := ⟨Inv.slept I5 (fun b hb => by cases hb) kept, O.R3, Ext.refl, O.T.keep _ _ _ htn fun b hb o eo => kept.keep b o (by simp) eo, hfp, fun b hb => ⟨(new b hb).1, (hSS b hb).2⟩, car0 _ _⟩
  refine ⟨A1, s3, H3, cenv, fp, pn, gi, g.upd SS Car Put tr e, O', B, hA, rfl, rfl, rfl, rfl, rfl, ?_, fun s' H' m' st' dn => ⟨back _ _ _ dn.inv, hext.trans dn.ext, dn.rp⟩⟩
  have t' : Tr (g.upd SS Car Put tr e).J (g.upd SS Car Put tr e).body k 0 g.st3 tr e := by
    show Tr g.J g.body k 0 g.st3 tr e
    rw [hJ, hbody, hst]; exact t
  exact rdy_start O' B t' hne a0 (by rw [hg5]; exact hgs)
/-- a generator expression as an argument -/
structure GArg (Z : Wd) (X : Cx) (n : Nat) (ik : Ik) (src : List E) (tg : Tg) (cnd : List Dz.T) (elt : E) (own : List Nat) (eltx tgx itx : Expr) (ifs : List Expr) (scope : Scope) : Prop where
  G : Wk Z X (n + 1)
  hi : PI X tgx itx (tI X.K Z (n + 1) ik src)
  cd : ∃ (c P : Addr), GxR.TabB X.base X.mg c P ∧ X.env.code = .ref c ∧ P ∈ Z.Tb
  ok : ∃ own' : List (Str × Nat), own'.map (·.2) = own ∧ BlkOk X.N X.env.scope scope own'
  cell : ∀ y ∈ scope.names, y.2 ≠ .cell
  dot : scope.names.lookup (".0" : Str) = some NameKind.local
  co : scope.isCoroutine = false
  fold : ∀ v, genFold itx X.env v = pure v
  htg : ∀ i ∈ tgI tg, i ∈ own
  body : ∀ (A1 : Around) (s3 : Shared) (H3 : Hp) (cenv : PySem.Env) (fp : List Addr) (pn : List (Addr × Obj)), cenv.scope = scope → Wk Z (genX X A1 s3 H3 cenv fp pn) n → PG (genX X A1 s3 H3 cenv fp pn) tgx (gT X.K Z tg) ∧ PTs (genX X A1 s3 H3 cenv fp pn) ifs (tTA X.K Z n cnd) ∧ PE (genX X A1 s3 H3 cenv fp pn) eltx (tE X.K Z n elt)
variable {ik : Ik} {src : List E} {tg : Tg} {cnd : List Dz.T} {elt : E} {own : List Nat} {eltx tgx itx : Expr} {ifs : List Expr} {scope : Scope} {gpos p pos : Pos}
theorem GArg.make (Ga : GArg Z X n ik src tg cnd elt own eltx tgx itx ifs scope) {c : Cn} {pins : List (Addr × Obj)} {σ : L2.St} {H : Hp} {s : Shared} {Q : VK} (I : Inv X pins σ H s) {A : Around} (rA : RoomG n A) (hAf : A.frames = X.A.frames) (h : tE X.K Z (n + 1) (.gen c ik src tg cnd elt own) σ H Q) :
    ∃ m st1 J body k tr e d st', Tr J body k 0 st1 tr e ∧ CF c (con0 c) tr e d st' ∧ Aft X.K Z.Tb m H d st' Q ∧
      ∀ Q2 : Value → Shared → Prop, (∀ a s5, Made Z X n A pins σ H m J body st1 a s5 → Q2 (.ref a) s5) → wpAny (model X.prog X.w) X.A (eval (.GeneratorExp eltx [⟨tgx, itx, ifs, 0⟩] scope gpos) X.env) Q2 X.xe s := by
  obtain ⟨m, ρ, st, d, st', S, h, q⟩ := h
  obtain ⟨⟨ds, st1⟩, e1, h⟩ := Option.bind_eq_some_iff.mp h
  obtain ⟨⟨J, k⟩, e2, h⟩ := Option.bind_eq_some_iff.mp h
  have h : loopG c J (bodyC Z n ρ tg cnd elt own) k 0 (con0 c) st1 = some (d, st') := h
  obtain ⟨tr, e, t, cf⟩ := loopG_tr k 0 _ st1 h
  obtain ⟨cc, P, TB, hcode, hPt⟩ := Ga.cd
  obtain ⟨own', ho, ok⟩ := Ga.ok
  subst ho
  exact ⟨m, st1, J, _, k, tr, e, d, st', t, cf, q, fun Q2 hQ => gen_make Ga.G I rA hAf Ga.hi ok Ga.cell Ga.dot Ga.co TB hcode hPt Ga.fold Ga.htg Ga.body S e1 e2 hQ⟩
theorem CF.ne' {c : Cn} {acc d : D} {tr : List (D × Sto)} {e : Option Sto} {st' : Sto} (h : CF c acc tr e d st') : ¬ (tr = [] ∧ e = none) := fun z => h.ne (by rw [z.1]; rfl) z.2
theorem kept_refl {s : Shared} (h : AllBare s.gens) : SleptS [] s s := ⟨rfl, h, fun b o _ e => e, fun b hb => by cases hb⟩
theorem Made.bare {A : Around} {pins : List (Addr × Obj)} {σ : L2.St} {H : Hp} {m : List Addr} {J : IT} {body : D → Sto → Option (Option D × Sto)} {st1 : Sto} {a : Addr} {s5 : Shared} (M : Made Z X n A pins σ H m J body st1 a s5) : AllBare s5.gens ∧ ∃ gi, s5.heap.IsGen a gi := by
  obtain ⟨A1, s3, H3, cenv, fp, pn, gi, g, B, O, hA, hJ, hbody, hst, hext, I5, htn, hfp, hgs, back⟩ := M.ex
  obtain ⟨go, hpn, hgen⟩ := B.ex
  exact ⟨I5.bare, gi, hgen _ (I5.pin _ (List.mem_append_left _ hpn)).1⟩
theorem room_in4 {A : Around} (r : Room (n + 1) A) : A.in1.in1.in1.in1.depth < recursionLimit := r.depth
theorem s_all (Ga : GArg Z X n ik src tg cnd elt own eltx tgx itx ifs scope) (hg : Gl X "all") : PE X (.Call (.Name "all" p) [.GeneratorExp eltx [⟨tgx, itx, ifs, 0⟩] scope gpos] [] pos) (tE X.K Z (n + 1) (.gen .all ik src tg cnd elt own)) := by
  refine ⟨fun pins s σ H Q I h => ?_⟩
  have G := Ga.G
  obtain ⟨m, st1, J, body, k, tr, e, d, st', t, cf, q, mk⟩ := Ga.make (gpos := gpos) I (RoomG.of G.room) rfl h
  refine wpAny_Call_Name_kw (ld_blt I hg (G.blt _ (by simp [blts])) boot_all ?_)
  refine PyProof.Rows.callWith_builtin1 ?_ (star_cons rfl [] _) rfl
  rw [star_cons rfl]
  show wpAny _ _ (spliced ((false, eval (.GeneratorExp eltx [⟨tgx, itx, ifs, 0⟩] scope gpos) X.env) :: backTo pos (starEach [] X.env))) _ _ s
  refine Calls.spliced_cons (mk _ fun a s5 M => ?_)
  refine Calls.spliced_nil ?_
  obtain ⟨hb, gi', hgen⟩ := M.bare
  refine call_function_tree F.kind_all F.plain_all F.entry_all (F.args_all1 _) ?_
  unfold Builtin.«all»
  refine wpAny_bind (m := oneArg "all" _) (wpAny_pure ?_)
  refine wpAny_bind (wpAny_pyIter_gen hgen ?_)
  obtain ⟨A1, s3, H3, cenv, fp, pn, gi, g, O, B, hA, hSS, hC, hP, htr, he, rdy, back⟩ := gen_run M t cf.ne' [] (fun _ _ _ _ => True) (fun _ _ _ => True) (fun _ _ _ _ _ _ _ _ _ _ _ _ => trivial) (fun _ _ _ _ _ _ _ _ _ _ _ _ _ _ _ _ => trivial) (fun _ _ _ _ _ _ => trivial) (kept_refl hb) rfl (fun b hb => by cases hb) (fun _ _ => trivial)
  refine wpAny_pure ⟨plainId_quiet F.plain_all_loop _, all_loop (d := d) (st' := st') O (fun _ _ _ => by rw [hP]; trivial) B hA (room_in4 G.room) (fun s' H' m' b hd dn => ?_) tr 0 (by rw [htr]; rfl) (Nat.zero_le _) (by rw [he]; exact cf) _ rdy⟩
  obtain ⟨I', x', R'⟩ := back s' H' m' st' dn
  exact ⟨.bl b, H', I', rfl, q _ H' m' x' R' (by rw [hd]; rfl)⟩
theorem s_any (Ga : GArg Z X n ik src tg cnd elt own eltx tgx itx ifs scope) (hg : Gl X "any") : PE X (.Call (.Name "any" p) [.GeneratorExp eltx [⟨tgx, itx, ifs, 0⟩] scope gpos] [] pos) (tE X.K Z (n + 1) (.gen .any ik src tg cnd elt own)) := by
  refine ⟨fun pins s σ H Q I h => ?_⟩
  have G := Ga.G
  obtain ⟨m, st1, J, body, k, tr, e, d, st', t, cf, q, mk⟩ := Ga.make (gpos := gpos) I (RoomG.of G.room) rfl h
  refine wpAny_Call_Name_kw (ld_blt I hg (G.blt _ (by simp [blts])) boot_any ?_)
  refine PyProof.Rows.callWith_builtin1 ?_ (star_cons rfl [] _) rfl
  rw [star_cons rfl]
  show wpAny _ _ (spliced ((false, eval (.GeneratorExp eltx [⟨tgx, itx, ifs, 0⟩] scope gpos) X.env) :: backTo pos (starEach [] X.env))) _ _ s
  refine Calls.spliced_cons (mk _ fun a s5 M => ?_)
  refine Calls.spliced_nil ?_
  obtain ⟨hb, gi', hgen⟩ := M.bare
  refine call_function_tree F.kind_any F.plain_any F.entry_any (F.args_any1 _) ?_
  unfold Builtin.«any»
  refine wpAny_bind (m := oneArg "any" _) (wpAny_pure ?_)
  refine wpAny_bind (wpAny_pyIter_gen hgen ?_)
  obtain ⟨A1, s3, H3, cenv, fp, pn, gi, g, O, B, hA, hSS, hC, hP, htr, he, rdy, back⟩ := gen_run M t cf.ne' [] (fun _ _ _ _ => True) (fun _ _ _ => True) (fun _ _ _ _ _ _ _ _ _ _ _ _ => trivial) (fun _ _ _ _ _ _ _ _ _ _ _ _ _ _ _ _ => trivial) (fun _ _ _ _ _ _ => trivial) (kept_refl hb) rfl (fun b hb => by cases hb) (fun _ _ => trivial)
  refine wpAny_pure ⟨plainId_quiet F.plain_any_loop _, any_loop (d := d) (st' := st') O (fun _ _ _ => by rw [hP]; trivial) B hA (room_in4 G.room) (fun s' H' m' b hd dn => ?_) tr 0 (by rw [htr]; rfl) (Nat.zero_le _) (by rw [he]; exact cf) _ rdy⟩
  obtain ⟨I', x', R'⟩ := back s' H' m' st' dn
  exact ⟨.bl b, H', I', rfl, q _ H' m' x' R' (by rw [hd]; rfl)⟩
theorem kept_push {s : Shared} (h : AllBare s.gens) (o : Obj) (tk : Nat) : SleptS [] s { s with heap := s.heap.push o, toks := tk } := ⟨rfl, h, fun b o _ e => Heap.get?_push_of_some _ e, fun b hb => by cases hb⟩
theorem s_sum (Ga : GArg Z X n ik src tg cnd elt own eltx tgx itx ifs scope) (hg : Gl X "sum") : PE X (.Call (.Name "sum" p) [.GeneratorExp eltx [⟨tgx, itx, ifs, 0⟩] scope gpos] [] pos) (tE X.K Z (n + 1) (.gen .sum ik src tg cnd elt own)) := by
  refine ⟨fun pins s σ H Q I h => ?_⟩
  have G := Ga.G
  obtain ⟨m, st1, J, body, k, tr, e, d, st', t, cf, q, mk⟩ := Ga.make (gpos := gpos) I (RoomG.of G.room) rfl h
  refine wpAny_Call_Name_kw (ld_blt I hg (G.blt _ (by simp [blts])) boot_sum ?_)
  refine PyProof.Rows.callWith_builtin1 ?_ (star_cons rfl [] _) rfl
  rw [star_cons rfl]
  show wpAny _ _ (spliced ((false, eval (.GeneratorExp eltx [⟨tgx, itx, ifs, 0⟩] scope gpos) X.env) :: backTo pos (starEach [] X.env))) _ _ s
  refine Calls.spliced_cons (mk _ fun a s5 M => ?_)
  refine Calls.spliced_nil ?_
  obtain ⟨hb, gi', hgen⟩ := M.bare
  refine call_function_tree F.kind_sum F.plain_sum F.entry_sum (F.args_sum1 _) ?_
  unfold Builtin.«sum»
  simp only [List.length_cons, List.length_nil]
  rw [if_neg (by decide)]
  refine wpAny_bind (wpAny_of_eq (show Builtin.Builtins.bindParams "sum" ["start"] 0 { } = pure [none] from rfl) ?_)
  refine wpAny_bind (wpAny_pyIter_gen hgen ?_)
  refine wpAny_bind (wpAny_mkInt ?_)
  refine wpAny_bind (wpAny_pure ?_)
  simp only [List.forIn_cons, List.forIn_nil]
  refine wpAny_bind (wpAny_bind (wpAny_bind (wpAny_isInstance (T := "int") (b := false) (typeIs_int _ _ _) PySem.sub_int_str ?_)))
  simp only [Bool.false_eq_true, if_false]
  refine wpAny_pure (wpAny_bind (wpAny_bind (wpAny_isInstance (T := "int") (b := false) (typeIs_int _ _ _) PySem.sub_int_bytes ?_)))
  simp only [Bool.false_eq_true, if_false]
  refine wpAny_pure (wpAny_bind (wpAny_bind (wpAny_isInstance (T := "int") (b := false) (typeIs_int _ _ _) PySem.sub_int_bytearray ?_)))
  simp only [Bool.false_eq_true, if_false]
  refine wpAny_pure (wpAny_pure ?_)
  refine wpAny_bind (wpAny_newObj_type ?_)
  obtain ⟨A1, s3, H3, cenv, fp, pn, gi, g, O, B, hA, hSS, hC, hP, htr, he, rdy, back⟩ := gen_run M t cf.ne' [s5.heap.objs.size] (fun _ _ _ _ => True) (fun _ _ _ => True) (fun _ _ _ _ _ _ _ _ _ _ _ _ => trivial) (fun _ _ _ _ _ _ _ _ _ _ _ _ _ _ _ _ => trivial) (fun _ _ _ _ _ _ => trivial) (kept_push hb (lstS #[.int 0 s5.toks] 0) (s5.toks + 1)) rfl
    (fun b hb => by rw [List.mem_singleton.mp hb]; exact ⟨Nat.le_refl _, _, Heap.get?_push_size (o := lstS #[.int 0 s5.toks] 0) _ rfl, lstS_nocell _ _⟩) (fun _ _ => trivial)
  refine wpAny_pure ⟨plainId_quiet F.plain_sum_loop _, sum_loop (d := d) (st' := st') (S := s5.heap.objs.size) O (fun _ _ _ => by rw [hP]; trivial) hSS B hA (room_in4 G.room) (fun s' H' m' i ti hd dn => ?_) tr 0 0 (by rw [htr]; rfl) (Nat.zero_le _) (by rw [he]; exact cf) _ _ _ (Heap.get?_push_size _ rfl) rdy⟩
  obtain ⟨I', x', R'⟩ := back s' H' m' st' dn
  exact ⟨.int i, H', I', ⟨ti, rfl⟩, q _ H' m' x' R' (by rw [hd]; rfl)⟩
theorem s_max (Ga : GArg Z X n ik src tg cnd elt own eltx tgx itx ifs scope) (hg : Gl X "max") : PE X (.Call (.Name "max" p) [.GeneratorExp eltx [⟨tgx, itx, ifs, 0⟩] scope gpos] [] pos) (tE X.K Z (n + 1) (.gen .max ik src tg cnd elt own)) := by
  refine ⟨fun pins s σ H Q I h => ?_⟩
  have G := Ga.G
  obtain ⟨m, st1, J, body, k, tr, e, d, st', t, cf, q, mk⟩ := Ga.make (gpos := gpos) I (RoomG.of G.room) rfl h
  refine wpAny_Call_Name_kw (ld_blt I hg (G.blt _ (by simp [blts])) boot_max ?_)
  refine PyProof.Rows.callWith_builtin1 ?_ (star_cons rfl [] _) rfl
  rw [star_cons rfl]
  show wpAny _ _ (spliced ((false, eval (.GeneratorExp eltx [⟨tgx, itx, ifs, 0⟩] scope gpos) X.env) :: backTo pos (starEach [] X.env))) _ _ s
  refine Calls.spliced_cons (mk _ fun a s5 M => ?_)
  refine Calls.spliced_nil ?_
  obtain ⟨hb, gi', hgen⟩ := M.bare
  have hname := max_name
  refine call_function_tree F.kind_max F.plain_max F.entry_max (F.args_max1 _) ?_
  show wpAny _ X.A.in1 (Builtin.Builtins.bindParams "max" ["key", "default"] 0 ⟨[], []⟩ >>= _) _ _ s5
  refine wpAny_bind (wpAny_of_eq (show Builtin.Builtins.bindParams "max" ["key", "default"] 0 ⟨[], []⟩ = pure [none, none] from rfl) ?_)
  refine wpAny_bind (wpAny_pure ?_)
  refine wpAny_bind (wpAny_pyIter_gen hgen ?_)
  refine wpAny_bind (wpAny_newObj_type ?_)
  rw [hname]
  obtain ⟨A1, s3, H3, cenv, fp, pn, gi, g, O, B, hA, hSS, hC, hP, htr, he, rdy, back⟩ := gen_run M t cf.ne' [s5.heap.objs.size] (fun _ _ _ _ => True) (fun _ _ _ => True) (fun _ _ _ _ _ _ _ _ _ _ _ _ => trivial) (fun _ _ _ _ _ _ _ _ _ _ _ _ _ _ _ _ => trivial) (fun _ _ _ _ _ _ => trivial) (kept_push hb (lstS #[] 0) s5.toks) rfl
    (fun b hb => by rw [List.mem_singleton.mp hb]; exact ⟨Nat.le_refl _, _, Heap.get?_push_size (o := lstS #[] 0) _ rfl, lstS_nocell _ _⟩) (fun _ _ => trivial)
  refine wpAny_pure ⟨plainId_quiet F.plain_max_loop _, max_first (d := d) (st' := st') (S := s5.heap.objs.size) O (fun _ _ _ => by rw [hP]; trivial) hSS B hA (room_in4 G.room) (fun s' H' m' i ti hd dn => ?_) (by rw [he, htr]; exact cf) (Heap.get?_push_size _ rfl) (by rw [htr]; exact rdy)⟩
  obtain ⟨I', x', R'⟩ := back s' H' m' st' dn
  exact ⟨.int i, H', I', ⟨ti, rfl⟩, q _ H' m' x' R' (by rw [hd]; rfl)⟩
end
end Dz
end
section
set_option Elab.async false
set_option linter.all false
set_option maxRecDepth 100000
set_option maxHeartbeats 1000000
namespace Dz
open PySem PySem.Spec L2 PyProof.Rows GenW
open AutoSeq1 (wpAny_loadPart')
section
variable {prog : Program} {w : World} {A : Around} {E : Value → Shared → Prop} {s : Shared}
theorem collect_at {a : Addr} {gi : Nat} {Q : List Value → Shared → Prop} (hg : s.heap.IsGen a gi)
    (h : ∀ (h' : Heap) (c : Nat), (∀ b o, s.heap.get? b = some o → h'.get? b = some o) → h'.get? s.heap.objs.size = some (lstS #[] c) →
      codeAny (model prog w) A (.builtin "list.extend.loop" ⟨[.ref s.heap.objs.size, .ref a, .ref s.heap.objs.size], []⟩) (fun r s'' => match r with | .ok (.ret v) => v = .ref s.heap.objs.size ∧ ∃ acc c, s''.heap.get? s.heap.objs.size = some (lstS acc c) ∧ Q acc.toList s'' | _ => False) { s with heap := h' }) :
    wpAny (model prog w) A (collect (.ref a)) Q E s := by
  have hlt : a < s.heap.objs.size := by obtain ⟨o, _, _, ho, _⟩ := hg; exact Heap.lt_size ho
  have hSI : s.heap.objs.size ≠ a := Nat.ne_of_gt hlt
  unfold collect
  refine wpAny_bind (wpAny_runValue (codeAny_builtin F.entry_proto_collect ?_))
  rw [Around.under_plainId F.plain_proto_collect _]
  show wpAny _ A.in1 (newList [] >>= fun l => again (.builtin "list.__iadd__" ⟨[l, .ref a], []⟩)) _ _ s
  refine wpAny_bind (wpAny_newObj_type ?_)
  refine wpAny_pure ⟨plainId_quiet F.plain_list_iadd _, codeAny_builtin F.entry_list_iadd ?_⟩
  rw [Around.under_plainId F.plain_list_iadd _]
  have g1 : (s.heap.push { cls := .type "list", data := .seq ([] : List Value).toArray }).IsGen a gi := hg.push _
  show wpAny _ A.in1 (Builtin.List.listExtendWith (.ref s.heap.objs.size) (.ref a) (.ref s.heap.objs.size)) _ _ _
  unfold Builtin.List.listExtendWith
  refine wpAny_bind (wpAny_typeOf (Heap.IsGen.typeIs (s := { s with heap := s.heap.push { cls := .type "list", data := .seq ([] : List Value).toArray } }) g1) ?_)
  have h1 : Builtin.List.listSameRef (.ref s.heap.objs.size) (.ref a) = false := by simp [Builtin.List.listSameRef, hSI]
  have h2 : (Value.type "generator" == Value.type "list") = false := by decide
  have h3 : (Value.type "generator" == Value.type "tuple") = false := by decide
  simp only [h1, h2, h3, Bool.or_false, Bool.false_eq_true, if_false]
  refine wpAny_bind (wpAny_pyIter_gen (s := { s with heap := s.heap.push { cls := .type "list", data := .seq ([] : List Value).toArray } }) g1 ?_)
  refine wpAny_bind (wpAny_holding ?_)
  unfold Builtin.List.listLengthHint
  refine wpAny_bind (wpAny_specialOf (Heap.IsGen.typeIs (s := { s with heap := s.heap.push { cls := .type "list", data := .seq ([] : List Value).toArray } }) g1) F.gen_no_len ?_)
  show wpAny _ A.in1 (specialOf (Value.ref a) (Str.ofString "__length_hint__") >>= _) _ _ _
  refine wpAny_bind (wpAny_specialOf (Heap.IsGen.typeIs (s := { s with heap := s.heap.push { cls := .type "list", data := .seq ([] : List Value).toArray } }) g1) F.gen_no_hint ?_)
  refine wpAny_pure ?_
  show wpAny _ A.in1 (rule "list.extend.makes-room" >>= fun _ => Builtin.List.listTouch (.ref s.heap.objs.size) >>= fun _ =>
    again (.builtin "list.extend.loop" ⟨[.ref s.heap.objs.size, .ref a, .ref s.heap.objs.size], []⟩)) _ _ _
  refine wpAny_bind (wpAny_rule ?_)
  have hS₁ : (s.heap.push { cls := .type "list", data := .seq ([] : List Value).toArray }).get? s.heap.objs.size = some { cls := .type "list", data := .seq ([] : List Value).toArray } := Heap.get?_push_size _ rfl
  refine wpAny_bind ?_
  show wpAny _ A.in1 (updateSeq s.heap.objs.size (·.push .none) >>= fun _ => updateSeq s.heap.objs.size (·.pop)) _ _ _
  refine wpAny_bind (wpAny_updateSeq hS₁ rfl ?_)
  have hS₂ := Heap.get?_update_self (Obj.mapSeq (·.push Value.none)) hS₁ rfl
  refine wpAny_updateSeq hS₂ rfl ?_
  have hS₃ := Heap.get?_update_self (Obj.mapSeq (·.pop)) hS₂ rfl
  have oth : ∀ b o, s.heap.get? b = some o →
      (((s.heap.push { cls := .type "list", data := .seq ([] : List Value).toArray }).update s.heap.objs.size (Obj.mapSeq (·.push Value.none))).update s.heap.objs.size (Obj.mapSeq (·.pop))).get? b = some o :=
    fun b o e => (Heap.get?_update_other _ _ (Nat.ne_of_gt (Heap.lt_size e))).trans ((Heap.get?_update_other _ _ (Nat.ne_of_gt (Heap.lt_size e))).trans (Heap.get?_push_of_some _ e))
  refine wpAny_pure ⟨plainId_quiet F.plain_extend_loop _, codeAny_mono (h _ _ oth hS₃) fun r s'' hr => ?_⟩
  cases r with
  | error e => exact hr.elim
  | ok fl =>
    cases fl with
    | ret v =>
      obtain ⟨rfl, acc, c, hS, hq⟩ := hr
      show wpAny _ A (load s.heap.objs.size >>= _) _ _ s''
      refine wpAny_bind (wpAny_load hS ?_)
      exact wpAny_pure hq
    | _ => exact hr.elim
theorem code_tuple_at {a : Addr} {gi : Nat} {Q₁ : Value → Shared → Prop} (hg : s.heap.IsGen a gi)
    (h : ∀ (Q : List Value → Shared → Prop) (E : Value → Shared → Prop), (∀ acc s', acc.length ≤ sizeLine → Q₁ (.ref s'.heap.objs.size) { s' with heap := s'.heap.push { cls := .type "tuple", data := .seq acc.toArray } } → Q acc s') → wpAny (model prog w) A.in1 (collect (.ref a)) Q E s) :
    codeAny (model prog w) A (.call (.builtin "tuple.__new__") ⟨[.type "tuple", .ref a], []⟩) (wants Q₁ E) s := by
  refine codeAny_of_tree ?_
  show wpAny _ A.in1 (do checkBuiltinCall "tuple.__new__" ⟨[.type "tuple", .ref a], []⟩; again (.builtin "tuple.__new__" ⟨[.type "tuple", .ref a], []⟩)) _ _ s
  refine wpAny_bind (wpAny_of_eq (F.newCall_tuple_1 _) (wpAny_pure ⟨plainId_quiet F.plain_tuple_new _, codeAny_builtin F.entry_tuple_new ?_⟩))
  rw [Around.under_plainId F.plain_tuple_new _]
  have hsub := sub_tuple_self
  have hinit := init_tuple_lookup
  have hmh := madeHere_tuple
  have hTI : s.TypeIs (.ref a) "generator" := Heap.IsGen.typeIs hg
  wp_walk using wpAny_typeOf hTI, h
  intro acc s' hz hq
  show wpAny _ _ (Builtin.Tuple.tupleExact acc.toArray >>= fun v => ret v) _ _ _
  unfold Builtin.Tuple.tupleExact
  refine wpAny_bind (wpAny_newObj_type ?_ (by show acc.toArray.size ≤ sizeLine; rw [List.size_toArray]; exact hz))
  exact wpAny_pure hq
end
section
variable {Z : Wd} {X : Cx} {n : Nat} {ik : Ik} {src : List E} {tg : Tg} {cnd : List Dz.T} {elt : E} {own : List Nat} {eltx tgx itx : Expr} {ifs : List Expr} {scope : Scope} {gpos p pos : Pos}
theorem s_tuple (Ga : GArg Z X n ik src tg cnd elt own eltx tgx itx ifs scope) (hg : Gl X "tuple") : PE X (.Call (.Name "tuple" p) [.GeneratorExp eltx [⟨tgx, itx, ifs, 0⟩] scope gpos] [] pos) (tE X.K Z (n + 1) (.gen .tuple ik src tg cnd elt own)) := by
  refine ⟨fun pins s σ H Q I h => ?_⟩
  have G := Ga.G
  obtain ⟨m, st1, J, body, k, tr, e, d, st', t, cf, q, mk⟩ := Ga.make (gpos := gpos) (A := X.A.in1.in1) I (RoomG.in2 G.room) rfl h
  refine wpAny_Call_Name_kw (ld_blt I hg (G.blt _ (by simp [blts])) PyProof.Rows.boot_tuple ?_)
  refine PyProof.Rows.callWith_type1 ?_ (star_cons rfl [] _) rfl
  rw [star_cons rfl]
  show wpAny _ _ (spliced ((false, eval (.GeneratorExp eltx [⟨tgx, itx, ifs, 0⟩] scope gpos) X.env) :: backTo pos (starEach [] X.env))) _ _ s
  refine Calls.spliced_cons (mk _ fun a s5 M => ?_)
  refine Calls.spliced_nil ?_
  obtain ⟨hb, gi', hgen⟩ := M.bare
  obtain ⟨he1, rfl, hsz⟩ := cf_tuple cf
  refine callType_codes (Q₁ := fun obj s₁ => s₁.TypeIs obj "tuple" ∧ EP X pins σ Q obj s₁) F.called_tuple (F.typeCall_tuple_1 _) F.entry_object_init (code_tuple_at hgen fun Q2 E2 hQ2 => ?_) fun obj s₁ h₁ => ?_
  · refine collect_at hgen fun h' c hk hS => ?_
    obtain ⟨A1, s3, H3, cenv, fp, pn, gi, g, O, B, hA, hSS, hC, hP, htr, he, rdy, back⟩ := gen_run (s' := { s5 with heap := h' }) M t cf.ne' [s5.heap.objs.size] (CarT X.K s5.heap.objs.size (tr.map (·.1))) (PutT s5.heap.objs.size)
      (fun j s s' H H' m m' st ⟨acc, c, vs, c1, c2, c3⟩ R x hs => ⟨acc, c, vs, (hs _ (List.mem_singleton.mpr rfl)).trans c1, c2, R.rvs x c3⟩)
      (fun j s s' H m st d x v ⟨acc, c, vs, c1, c2, c3⟩ ht R rv rr sl pt => by
        obtain ⟨c', e'⟩ := pt acc c c1
        refine ⟨acc.push v, c', vs ++ [x], e', by rw [Array.toList_push]; exact c2.append (.cons rr .nil), ?_⟩
        have : (tr.map (·.1)).take (j + 1) = (tr.map (·.1)).take j ++ [d] := by
          rw [List.take_succ, List.getElem?_map, ht]; rfl
        rw [this]
        exact c3.append (P2.one rv))
      (fun v s s' s'' hh pt acc c e => by
        obtain ⟨c', e'⟩ := pt acc c e
        exact ⟨c', by rw [hh]; exact e'⟩)
      ⟨rfl, hb, fun b o _ e => hk b o e, fun b hb => by cases hb⟩ rfl (fun b hb => by rw [List.mem_singleton.mp hb]; exact ⟨Nat.le_refl _, _, hS, lstS_nocell _ _⟩)
      (fun H m => ⟨#[], c, [], hS, .nil, P2.nil⟩)
    refine ext_loop (A := X.A.in1.in1) (S := s5.heap.objs.size) (st' := st') O hSS (by rw [hC, htr]; rfl) hP B hA (show X.A.in1.in1.in1.in1.in1.in1.depth < recursionLimit from G.room.depth) (by rw [he]; exact he1) (by
      rw [htr]
      rcases hsz with z | z
      · left; simpa using z
      · exact .inr z) (fun s' H' m' acc c vs dn hS' hSn hv hp => ?_) tr 0 (by rw [htr]; rfl) (Nat.zero_le _) _ rdy
    obtain ⟨I', x', R'⟩ := back s' H' m' st' dn
    rw [htr] at hp
    have hl := hv.length
    have hl2 := hp.1
    have hle : vs.length ≤ sizeLine := by
      rw [← hl2]
      rcases hsz with z | z
      · simpa using z
      · rw [z]; exact Nat.zero_le _
    refine ⟨rfl, acc, c, hS', hQ2 acc.toList s' (by rw [← hl]; exact hle) ⟨⟨_, Heap.get?_push_size _ rfl, rfl⟩, ?_⟩⟩
    have I'' : Inv X pins σ (upd H' s'.heap.objs.size (.tup vs)) { s' with heap := s'.heap.push { cls := .type "tuple", data := .seq acc.toList.toArray } } :=
      I'.laid (t' := s'.toks) (fun b o e => Heap.get?_push_of_some _ e) (Nat.le_refl _) ⟨hle, acc.toList, hv, _, Heap.get?_push_size _ rfl, rfl, _, rfl⟩
    refine ⟨.ref s'.heap.objs.size, _, I'', rfl, ?_⟩
    have q' : Aft X.K Z.Tb m H (.tup (tr.map (·.1))) st' Q := by simpa using q
    exact (q'.later x').tup R' hp s'.heap.objs.size (I'.hok.fresh (Nat.le_refl _))
  · exact ⟨h₁.1, F.args_object_init_2 obj _, object_init_meets F.called_tuple.init.lookup F.called_tuple.made (by decide) X.prog X.w X.A.in1 _ s₁ ⟨h₁.1, rfl, h₁.2⟩⟩
end
end Dz
end
section
set_option Elab.async false
set_option linter.all false
set_option maxRecDepth 100000
set_option maxHeartbeats 2000000
namespace Dz
open PySem L2 PyProof.Rows
/-! ### the checker: the text is that of the small language's expression -/
def glB (c : Ck) (x : Str) : Bool := decide (c.sc.names.lookup x = some .globalImplicit)
def visB (c : Ck) (x : Str) : Bool := match c.sc.names.lookup x with
  | some .local => true
  | some .cell => true
  | some .free => true
  | _ => false
def locB (c : Ck) (x : Str) : Bool := match c.sc.names.lookup x with
  | some .local => true
  | some .cell => c.fb x
  | _ => false
def nmB (x : Str) : Bool := !(x == ("__debug__" : Str)) && !(x == ("__classdict__" : Str))
mutual
def okTg (c : Ck) : Tg → Expr → Bool
  | .nm i, x => match x with
    | .Name y _ => decide (c.N[i]? = some y) && locB c y
    | _ => false
  | .tp ts, x => match x with
    | .Tuple es _ _ => okTgs c ts es
    | _ => false
def okTgs (c : Ck) : List Tg → List Expr → Bool
  | [], es => es.isEmpty
  | t :: ts, es => match es with
    | e :: es => nst e && okTg c t e && okTgs c ts es
    | [] => false
end
def blkCk (c : Ck) (scope : Scope) : Ck := ⟨relS scope c.sc, c.N, fun x => scope.names.lookup x == some .cell, c.gn⟩
def genCk (c : Ck) (scope : Scope) : Ck := ⟨scope, c.N, fun _ => false, false⟩
def ownP (c : Ck) (own : List Nat) : List (Str × Nat) := own.map fun i => (c.N.getD i "", i)
def isTupE : Expr → Bool
  | .Tuple .. => true
  | _ => false
/-- a call's arguments -/
def callA (c : Ck) (nm : Str) : Expr → Option (List Expr)
  | .Call (.Name f _) xs [] _ => if f = nm ∧ glB c f = true then some xs else none
  | _ => none
theorem callA_is {c : Ck} {nm : Str} {it : Expr} {xs : List Expr} (h : callA c nm it = some xs) : ∃ p q, it = .Call (.Name nm p) xs [] q ∧ glB c nm = true := by
  unfold callA at h
  split at h
  · split at h
    · rename_i hf
      cases h
      obtain ⟨rfl, hf⟩ := hf
      exact ⟨_, _, rfl, hf⟩
    · cases h
  · cases h
/-- what is walked: its arguments -/
def itA (c : Ck) (ik : Ik) (tg it : Expr) : Option (List Expr) := match ik with
  | .one => some [it]
  | .rng1 => (callA c "range" it).bind fun xs => if xs.length = 1 then some xs else none
  | .rng2 => (callA c "range" it).bind fun xs => if xs.length = 2 then some xs else none
  | .rng3 => (callA c "range" it).bind fun xs => if xs.length = 3 then some xs else none
  | .enum => (callA c "enumerate" it).bind fun xs => if xs.length = 1 ∧ isTupE tg = true then some xs else none
  | .zip => (callA c "zip" it).bind fun xs => if xs.length = 2 ∧ isTupE tg = true then some xs else none
  | .rev => (callA c "reversed" it).bind fun xs => if xs.length = 1 then some xs else none
def cnN : Cn → Str
  | .tuple => "tuple"
  | .all => "all"
  | .any => "any"
  | .sum => "sum"
  | .max => "max"
mutual
def okE (fn : List Str) (c : Ck) : E → Expr → Bool
  | .var i, x => match x with
    | .Name y _ => decide (c.N[i]? = some y) && visB c y && nmB y
    | _ => false
  | .non, x => match x with | .Constant .none _ _ => true | _ => false
  | .bl b, x => match x with | .Constant (.bool b') _ _ => decide (b = b') | _ => false
  | .int i, x => match x with | .Constant (.int i') _ _ => decide (i = i') | _ => false
  | .str s, x => match x with | .Constant (.str s') _ _ => decide (s = s') | _ => false
  | .glb y, x => match x with | .Name y' _ => decide (y = y') && glB c y && nmB y | _ => false
  | .tup es, x => match x with | .Tuple xs _ _ => okEs fn c es xs | _ => false
  | .lst es, x => match x with | .List xs _ => okEs fn c es xs | _ => false
  | .bin o a b, x => match x with | .BinOp l op r _ => decide (bop o = op) && okE fn c a l && okE fn c b r | _ => false
  | .neg a, x => match x with | .UnaryOp .USub l _ => okE fn c a l | _ => false
  | .cmp o a b, x => match x with | .Compare l [op] [r] _ => decide (cop o = op) && nset r && okE fn c a l && okE fn c b r | _ => false
  | .chn o p a b d, x => match x with | .Compare l [op, op2] [r, r2] _ => decide (cop o = op) && decide (cop p = op2) && nset r2 && okE fn c a l && okE fn c b r && okE fn c d r2 | _ => false
  | .and es, x => match x with | .BoolOp .And xs _ => !es.isEmpty && okEs fn c es xs | _ => false
  | .or es, x => match x with | .BoolOp .Or xs _ => !es.isEmpty && okEs fn c es xs | _ => false
  | .not a, x => match x with | .UnaryOp .Not l _ => okE fn c a l | _ => false
  | .ife t a b, x => match x with | .IfExp l m r _ => okT fn c t l && okE fn c a m && okE fn c b r | _ => false
  | .call f es, x => match x with | .Call (.Name y _) xs [] _ => decide (fn[f]? = some y) && glB c y && nmB y && okEs fn c es xs | _ => false
  | .bi f es, x => match x with | .Call (.Name y _) xs [] _ => decide (y = bfN f) && glB c y && !xs.isEmpty && okEs fn c es xs | _ => false
  | .isi a t, x => match x with | .Call (.Name y _) [l, .Name z _] [] _ => decide (y = "isinstance") && glB c y && decide (z = tyS t) && glB c z && nst l && okE fn c a l | _ => false
  | .mth m o es, x => match x with | .Call (.Attribute l y ap) xs [] pos => decide (y = mtN m) && ncl l && (ap.endLine == pos.line) && decide (xs.length < 30) && okE fn c o l && okEs fn c es xs | _ => false
  | .idx a i, x => match x with | .Subscript l r _ => nsl r && okE fn c a l && okE fn c i r | _ => false
  | .slF a lo, x => match x with | .Subscript l (.Slice (some r) none none _) _ => okE fn c a l && okE fn c lo r | _ => false
  | .slT a hi, x => match x with | .Subscript l (.Slice none (some r) none _) _ => okE fn c a l && okE fn c hi r | _ => false
  | .slB a lo hi, x => match x with | .Subscript l (.Slice (some r) (some r2) none _) _ => okE fn c a l && okE fn c lo r && okE fn c hi r2 | _ => false
  | .slR a, x => match x with | .Subscript l (.Slice none none (some (.UnaryOp .USub (.Constant (.int i) _ _) _)) _) _ => decide (i = 1) && okE fn c a l | _ => false
  | .lc ik src tg cnd elt own, x => match x with
    | .ListComp xelt [⟨xtg, xit, xifs, as⟩] scope _ => decide (as = 0) && nset xit && blkC c.N c.sc scope (ownP c own) && (tgI tg).all (fun i => decide (i ∈ own)) && (match itA c ik xtg xit with | some xs => okEs fn c src xs | none => false) && okTg (blkCk c scope) tg xtg && decide (cnd.length ≤ 1) && okTs fn (blkCk c scope) cnd xifs && okE fn (blkCk c scope) elt xelt
    | _ => false
  | .lc2 ik src tg cnd ik1 src1 tg1 cnd1 elt own own1, x => match x with
    | .ListComp xelt [⟨xtg, xit, xifs, as⟩, ⟨xtg1, xit1, xifs1, as1⟩] scope _ => decide (as = 0) && decide (as1 = 0) && nset xit && nset xit1 && blkC c.N c.sc scope (ownP c own) && (tgI tg).all (fun i => decide (i ∈ own)) && (tgI tg1).all (fun i => decide (i ∈ own1)) && own1.all (fun i => decide (i ∈ own)) &&
        (match itA c ik xtg xit with | some xs => okEs fn c src xs | none => false) && (match itA (blkCk c scope) ik1 xtg1 xit1 with | some xs => okEs fn (blkCk c scope) src1 xs | none => false) && okTg (blkCk c scope) tg xtg && okTg (blkCk c scope) tg1 xtg1 &&
        decide (cnd.length ≤ 1) && decide (cnd1.length ≤ 1) && okTs fn (blkCk c scope) cnd xifs && okTs fn (blkCk c scope) cnd1 xifs1 && okE fn (blkCk c scope) elt xelt
    | _ => false
  | .gen cn ik src tg cnd elt own, x => match x with
    | .Call (.Name y _) [.GeneratorExp xelt [⟨xtg, xit, xifs, as⟩] scope _] [] _ => decide (y = cnN cn) && glB c y && c.gn && decide (as = 0) && nset xit && nlis xit && blkC c.N c.sc scope (ownP c own) && scope.names.all (fun y => decide (y.2 ≠ .cell)) && decide (scope.names.lookup (".0" : Str) = some NameKind.local) && !scope.isCoroutine &&
        (tgI tg).all (fun i => decide (i ∈ own)) && (match itA c ik xtg xit with | some xs => okEs fn c src xs | none => false) && okTg (genCk c scope) tg xtg && decide (cnd.length ≤ 1) && okTs fn (genCk c scope) cnd xifs && okE fn (genCk c scope) elt xelt
    | _ => false
def okEs (fn : List Str) (c : Ck) : List E → List Expr → Bool
  | [], xs => xs.isEmpty
  | e :: es, xs => match xs with
    | x :: xs => nst x && okE fn c e x && okEs fn c es xs
    | [] => false
def okT (fn : List Str) (c : Ck) : T → Expr → Bool
  | .val e, x => plT x && okE fn c e x
  | .not t, x => match x with | .UnaryOp .Not l _ => okT fn c t l | _ => false
  | .and ts, x => match x with | .BoolOp .And xs _ => !ts.isEmpty && okTs fn c ts xs | _ => false
  | .or ts, x => match x with | .BoolOp .Or xs _ => !ts.isEmpty && okTs fn c ts xs | _ => false
  | .cmp o a b, x => match x with | .Compare l [op] [r] _ => decide (cop o = op) && nset r && okE fn c a l && okE fn c b r | _ => false
  | .chn o p a b d, x => match x with | .Compare l [op, op2] [r, r2] _ => decide (cop o = op) && decide (cop p = op2) && nset r2 && okE fn c a l && okE fn c b r && okE fn c d r2 | _ => false
  | .ife t a b, x => match x with | .IfExp l m r _ => okT fn c t l && okT fn c a m && okT fn c b r | _ => false
def okTs (fn : List Str) (c : Ck) : List T → List Expr → Bool
  | [], xs => xs.isEmpty
  | t :: ts, xs => match xs with
    | x :: xs => okT fn c t x && okTs fn c ts xs
    | [] => false
end
/-! ### what the checker's parts tell -/
section
variable {Z : Wd} {X : Cx} {c : Ck} {n : Nat}
theorem GX.gl (g : GX Z X c n) {x : Str} (h : glB c x = true) : Gl X x := by
  show X.env.scope.names.lookup x = _
  rw [g.scp]; exact of_decide_eq_true h
theorem GX.vis (g : GX Z X c n) {x : Str} (h : visB c x = true) : Vis X.env.scope x := by
  unfold Vis
  rw [g.scp]
  unfold visB at h
  split at h <;> first | cases h | skip
  · rename_i e; exact .inl e
  · rename_i e; exact .inr (.inl e)
  · rename_i e; exact .inr (.inr e)
theorem GX.loc (g : GX Z X c n) {x : Str} (h : locB c x = true) : L2.Loc X.env.scope x ∧ (X.fn x = true ∨ X.env.scope.names.lookup x = some .local) := by
  unfold L2.Loc
  rw [g.scp]
  unfold locB at h
  split at h
  · rename_i e; exact ⟨.inl e, .inr e⟩
  · rename_i e; exact ⟨.inr e, .inl (g.fb x h)⟩
  · cases h
theorem nmB_iff {x : Str} (h : nmB x = true) : (x == ("__debug__" : Str)) = false ∧ (x == ("__classdict__" : Str)) = false := by
  unfold nmB at h
  simp only [Bool.and_eq_true, Bool.not_eq_true'] at h
  exact h
theorem GX.ix (g : GX Z X c n) {i : Nat} {x : Str} (h : decide (c.N[i]? = some x) = true) : X.N[i]? = some x := by rw [g.Ns]; exact of_decide_eq_true h
theorem no {α : Prop} {b : Bool} (h : b = true) (e : b = false := by rfl) : α := by rw [e] at h; cases h
mutual
theorem sTg : ∀ (t : Tg) {x : Expr}, GX Z X c n → okTg c t x = true → PG X x (gT X.K Z t)
  | .nm i, x, g, h => by
    cases x with
    | Name y p =>
      have h : (decide (c.N[i]? = some y) && locB c y) = true := h
      rw [Bool.and_eq_true] at h
      obtain ⟨h1, h2⟩ := g.loc h.2
      exact g_nm g.nd (g.ix h.1) h1 h2
    | _ => exact no h
  | .tp ts, x, g, h => by
    cases x with
    | Tuple es k p =>
      have h : okTgs c ts es = true := h
      obtain ⟨h1, h2, h3⟩ := sTgs ts g h
      exact g_tp g.calm h1 h2 h3
    | _ => exact no h
theorem sTgs : ∀ (ts : List Tg) {es : List Expr}, GX Z X c n → okTgs c ts es = true → PGs X es (gTs X.K Z ts) ∧ es.all nst = true ∧ es.length = ts.length
  | [], es, g, h => by
    cases es with
    | nil => exact ⟨g_nil, rfl, rfl⟩
    | cons e es => exact no h
  | t :: ts, es, g, h => by
    cases es with
    | nil => exact no h
    | cons e es =>
      have h : (nst e && okTg c t e && okTgs c ts es) = true := h
      rw [Bool.and_eq_true, Bool.and_eq_true] at h
      obtain ⟨h1, h2, h3⟩ := sTgs ts g h.2
      exact ⟨g_cons (sTg t g h.1.2) h1 h.1.1, by rw [List.all_cons, h.1.1, h2]; rfl, by rw [List.length_cons, List.length_cons, h3]⟩
end
theorem GX.blk (g : GX Z X c n) {scope : Scope} (s : Shared) (H : Hp) (C : Addr) (cl : List (Str × Addr)) (fp : List Addr) : GX Z (X.blk s H scope (compEnvC scope cl C X.env) fp) (blkCk c scope) n :=
  { calm := g.calm, xe := rfl, nd := g.nd, room := g.room, glb := g.glb, blt := g.blt, fnG := g.fnG, fok := g.fok,
    scp := by
      show relS scope X.env.scope = relS scope c.sc
      rw [g.scp]
    Ns := g.Ns, fb := fun x h => h, cd := g.cd }
theorem GX.gen (g : GX Z X c n) {scope : Scope} {A1 : Around} {s3 : Shared} {H3 : Hp} {cenv : PySem.Env} {fp : List Addr} {pn : List (Addr × Obj)} {k : Nat} (hs : cenv.scope = scope) (W : Wk Z (genX X A1 s3 H3 cenv fp pn) k) : GX Z (genX X A1 s3 H3 cenv fp pn) (genCk c scope) k :=
  { W with scp := hs, Ns := g.Ns, fb := fun x h => Bool.noConfusion (show false = true from h), cd := fun h => Bool.noConfusion (show false = true from h) }
/-- the iterable -/
theorem s_it (g : GX Z X c n) {ik : Ik} {src : List E} {tg it : Expr} {xs : List Expr} (h : itA c ik tg it = some xs) (hs : PA X xs (tA X.K Z n src)) (h1 : ∀ (e : E) (x : Expr), src = [e] → xs = [x] → PE X x (tE X.K Z n e)) (hl : xs.length = src.length) (hst : xs.all nst = true) :
    PI X tg it (tI X.K Z n ik src) := by
  have one : ∀ {x : Expr}, xs = [x] → ∃ e, src = [e] := fun {x} e => by
    rw [e] at hl
    match src, hl with
    | [e], _ => exact ⟨e, rfl⟩
  cases ik with
  | one =>
    cases h
    obtain ⟨e, rfl⟩ := one rfl
    exact i_one (h1 e it rfl rfl)
  | rng1 =>
    obtain ⟨ys, h1', h⟩ := Option.bind_eq_some_iff.mp (show (callA c "range" it).bind (fun xs => if xs.length = 1 then some xs else none) = some xs from h)
    split at h
    · rename_i hn
      cases h
      obtain ⟨p, q, rfl, hf⟩ := callA_is h1'
      match xs, hn with
      | [a], _ =>
        rw [List.all_cons, Bool.and_eq_true] at hst
        exact i_rng1 g.toWk (g.gl hf) hs hst.1
    · cases h
  | rng2 =>
    obtain ⟨ys, h1', h⟩ := Option.bind_eq_some_iff.mp (show (callA c "range" it).bind (fun xs => if xs.length = 2 then some xs else none) = some xs from h)
    split at h
    · rename_i hn
      cases h
      obtain ⟨p, q, rfl, hf⟩ := callA_is h1'
      match xs, hn with
      | [a, b], _ =>
        rw [List.all_cons, Bool.and_eq_true, List.all_cons, Bool.and_eq_true] at hst
        exact i_rng2 g.toWk (g.gl hf) hs hst.1 hst.2.1
    · cases h
  | rng3 =>
    obtain ⟨ys, h1', h⟩ := Option.bind_eq_some_iff.mp (show (callA c "range" it).bind (fun xs => if xs.length = 3 then some xs else none) = some xs from h)
    split at h
    · rename_i hn
      cases h
      obtain ⟨p, q, rfl, hf⟩ := callA_is h1'
      match xs, hn with
      | [a, b, d], _ =>
        exact i_rng3 g.toWk (g.gl hf) hs hst
    · cases h
  | enum =>
    obtain ⟨ys, h1', h⟩ := Option.bind_eq_some_iff.mp (show (callA c "enumerate" it).bind (fun xs => if xs.length = 1 ∧ isTupE tg = true then some xs else none) = some xs from h)
    split at h
    · rename_i hn
      cases h
      obtain ⟨p, q, rfl, hf⟩ := callA_is h1'
      obtain ⟨hn, ht⟩ := hn
      match xs, hn with
      | [a], _ =>
        rw [List.all_cons, Bool.and_eq_true] at hst
        cases tg with
        | Tuple elts kk tp => exact i_enum g.toWk (g.gl hf) hs hst.1
        | _ => exact no ht
    · cases h
  | zip =>
    obtain ⟨ys, h1', h⟩ := Option.bind_eq_some_iff.mp (show (callA c "zip" it).bind (fun xs => if xs.length = 2 ∧ isTupE tg = true then some xs else none) = some xs from h)
    split at h
    · rename_i hn
      cases h
      obtain ⟨p, q, rfl, hf⟩ := callA_is h1'
      obtain ⟨hn, ht⟩ := hn
      match xs, hn with
      | [a, b], _ =>
        rw [List.all_cons, Bool.and_eq_true, List.all_cons, Bool.and_eq_true] at hst
        cases tg with
        | Tuple elts kk tp => exact i_zip g.toWk (g.gl hf) hs hst.1 hst.2.1
        | _ => exact no ht
    · cases h
  | rev =>
    obtain ⟨ys, h1', h⟩ := Option.bind_eq_some_iff.mp (show (callA c "reversed" it).bind (fun xs => if xs.length = 1 then some xs else none) = some xs from h)
    split at h
    · rename_i hn
      cases h
      obtain ⟨p, q, rfl, hf⟩ := callA_is h1'
      match xs, hn with
      | [a], _ =>
        obtain ⟨e, rfl⟩ := one rfl
        rw [List.all_cons, Bool.and_eq_true] at hst
        exact i_rev g.toWk (g.gl hf) (h1 e a rfl rfl) hst.1
    · cases h
theorem ownP_map (own : List Nat) : (ownP c own).map (·.2) = own := by
  unfold ownP
  rw [List.map_map]
  have : ((fun x : Str × Nat => x.2) ∘ fun i => (c.N.getD i "", i)) = id := rfl
  rw [this, List.map_id]
theorem all_mem {l own : List Nat} (h : l.all (fun i => decide (i ∈ own)) = true) : ∀ i ∈ l, i ∈ own := fun i hi => of_decide_eq_true (List.all_eq_true.mp h i hi)
end
end Dz
end
section
set_option Elab.async false
set_option linter.all false
set_option maxRecDepth 100000
set_option maxHeartbeats 4000000
namespace Dz
open PySem L2 PyProof.Rows
theorem a2 {a b : Bool} (h : (a && b) = true) : a = true ∧ b = true := (Bool.and_eq_true _ _) ▸ h
theorem a3 {a b c : Bool} (h : (a && b && c) = true) : a = true ∧ b = true ∧ c = true := ⟨(a2 (a2 h).1).1, (a2 (a2 h).1).2, (a2 h).2⟩
theorem a4 {a b c d : Bool} (h : (a && b && c && d) = true) : a = true ∧ b = true ∧ c = true ∧ d = true := ⟨(a3 (a2 h).1).1, (a3 (a2 h).1).2.1, (a3 (a2 h).1).2.2, (a2 h).2⟩
theorem a5 {a b c d e : Bool} (h : (a && b && c && d && e) = true) : a = true ∧ b = true ∧ c = true ∧ d = true ∧ e = true := ⟨(a4 (a2 h).1).1, (a4 (a2 h).1).2.1, (a4 (a2 h).1).2.2.1, (a4 (a2 h).1).2.2.2, (a2 h).2⟩
theorem a6 {a b c d e f : Bool} (h : (a && b && c && d && e && f) = true) : a = true ∧ b = true ∧ c = true ∧ d = true ∧ e = true ∧ f = true := ⟨(a5 (a2 h).1).1, (a5 (a2 h).1).2.1, (a5 (a2 h).1).2.2.1, (a5 (a2 h).1).2.2.2.1, (a5 (a2 h).1).2.2.2.2, (a2 h).2⟩
theorem dt {p : Prop} [Decidable p] (h : decide p = true) : p := of_decide_eq_true h
theorem PTs_imp {X : Cx} {xs : List Expr} {t t' : TT} (h : PTs X xs t) (i : ∀ σ H Q, t' σ H Q → t σ H Q) : PTs X xs t' := ⟨fun pins s σ H Q I q => h.run pins s σ H Q I (i σ H Q q)⟩
theorem ts_nil {Z : Wd} {X : Cx} {n : Nat} : PTs X [] (tTA X.K Z n []) := PTs_imp pts_nil fun σ H Q ⟨m, ρ, st, k, st', S, h, q⟩ => by cases h; exact q H m Ext.refl S.2
theorem ts_one {Z : Wd} {X : Cx} {n : Nat} {x : Expr} {t : T} (h : PT X x (tT X.K Z n t)) : PTs X [x] (tTA X.K Z n [t]) := PTs_imp (pts_one h) fun σ H Q ⟨m, ρ, st, k, st', S, h, q⟩ => by
  obtain ⟨⟨b1, st1⟩, e1, h⟩ := Option.bind_eq_some_iff.mp h
  cases b1 <;> (cases h; exact tTo.mk S e1 fun H1 m1 x1 S1 => q H1 m1 x1 S1.2)
/-- a list comprehension's parts -/
structure LcP (Z : Wd) (X : Cx) (n : Nat) (ik : Ik) (src : List E) (tg : Tg) (cnd : List T) (elt : E) (own : List Nat) (xelt xtg xit : Expr) (xifs : List Expr) (scope : Scope) : Prop where
  hi : PI X xtg xit (tI X.K Z n ik src)
  ok : ∃ own', own'.map (·.2) = own ∧ BlkOk X.N X.env.scope scope own'
  hg : ∀ (s : Shared) (H : Hp) (C : Addr) (cl : List (Str × Addr)) (fp : List Addr), PG (X.blk s H scope (compEnvC scope cl C X.env) fp) xtg (gT X.K Z tg)
  ht : ∀ (s : Shared) (H : Hp) (C : Addr) (cl : List (Str × Addr)) (fp : List Addr), PTs (X.blk s H scope (compEnvC scope cl C X.env) fp) xifs (tTA X.K Z n cnd)
  he : ∀ (s : Shared) (H : Hp) (C : Addr) (cl : List (Str × Addr)) (fp : List Addr), PE (X.blk s H scope (compEnvC scope cl C X.env) fp) xelt (tE X.K Z n elt)
  htg : ∀ i ∈ tgI tg, i ∈ own
  hs : ∀ x, foldedSetIterable xit X.env x = pure x
/-- of two clauses -/
structure Lc2P (Z : Wd) (X : Cx) (n : Nat) (ik : Ik) (src : List E) (tg : Tg) (cnd : List T) (ik1 : Ik) (src1 : List E) (tg1 : Tg) (cnd1 : List T) (elt : E) (own own1 : List Nat) (xelt xtg xit : Expr) (xifs : List Expr) (xtg1 xit1 : Expr) (xifs1 : List Expr) (scope : Scope) : Prop extends LcP Z X n ik src tg cnd elt own xelt xtg xit xifs scope where
  hi1 : ∀ (s : Shared) (H : Hp) (C : Addr) (cl : List (Str × Addr)) (fp : List Addr), PI (X.blk s H scope (compEnvC scope cl C X.env) fp) xtg1 xit1 (tI X.K Z n ik1 src1)
  hg1 : ∀ (s : Shared) (H : Hp) (C : Addr) (cl : List (Str × Addr)) (fp : List Addr), PG (X.blk s H scope (compEnvC scope cl C X.env) fp) xtg1 (gT X.K Z tg1)
  ht1 : ∀ (s : Shared) (H : Hp) (C : Addr) (cl : List (Str × Addr)) (fp : List Addr), PTs (X.blk s H scope (compEnvC scope cl C X.env) fp) xifs1 (tTA X.K Z n cnd1)
  htg1 : ∀ i ∈ tgI tg1, i ∈ own1
  hv : ∀ i ∈ own1, i ∈ own
  hs1 : ∀ env x, foldedSetIterable xit1 env x = pure x
section
variable {Z : Wd} {fn : List Str}
theorem LcP.pe {X : Cx} {c : Ck} {n : Nat} {ik src tg cnd elt own xelt xtg xit xifs scope} {pos : Pos} (g : GX Z X c n) (p : LcP Z X n ik src tg cnd elt own xelt xtg xit xifs scope) : PE X (.ListComp xelt [⟨xtg, xit, xifs, 0⟩] scope pos) (tE X.K Z n (.lc ik src tg cnd elt own)) := by
  obtain ⟨own', ho, ok⟩ := p.ok
  subst ho
  exact PE_imp (pe_lc g.calm g.nd p.hi ok p.hg p.ht p.he p.hs) fun σ H Q h => lc_read p.htg h
theorem Lc2P.pe {X : Cx} {c : Ck} {n : Nat} {ik src tg cnd ik1 src1 tg1 cnd1 elt own own1 xelt xtg xit xifs xtg1 xit1 xifs1 scope} {pos : Pos} (g : GX Z X c n) (p : Lc2P Z X n ik src tg cnd ik1 src1 tg1 cnd1 elt own own1 xelt xtg xit xifs xtg1 xit1 xifs1 scope) :
    PE X (.ListComp xelt [⟨xtg, xit, xifs, 0⟩, ⟨xtg1, xit1, xifs1, 0⟩] scope pos) (tE X.K Z n (.lc2 ik src tg cnd ik1 src1 tg1 cnd1 elt own own1)) := by
  obtain ⟨own', ho, ok⟩ := p.ok
  have hv := p.hv
  have htg := p.htg
  subst ho
  exact PE_imp (pe_lc2 g.calm g.nd p.hi ok hv p.hg p.ht p.hi1 p.hg1 p.ht1 p.he p.hs p.hs1) fun σ H Q h => lc2_read htg p.htg1 h
theorem fold_of {it : Expr} (h1 : nset it = true) (h2 : nlis it = true) (env : PySem.Env) (v : Value) : genFold it env v = pure v := by
  cases it <;> first | exact nset_folded h1 env v | cases h2
theorem fn_at (hfn : Z.fns.map (·.x) = fn) {f : Nat} {y : Str} (h : fn[f]? = some y) : ∃ F, Z.fns[f]? = some F ∧ F.x = y := by
  rw [← hfn, List.getElem?_map] at h
  cases q : Z.fns[f]? with
  | none => rw [q] at h; cases h
  | some F => rw [q] at h; cases h; exact ⟨F, rfl, rfl⟩
theorem sEs_cons {X : Cx} {c : Ck} {n : Nat} {e : E} {es : List E} {x : Expr} {xs : List Expr} (hst : nst x = true) (he : PE X x (tE X.K Z n e))
    (h1 : PA X xs (tA X.K Z n es)) (h2 : xs.all nst = true) (h3 : xs.length = es.length) (h5 : es ≠ [] → ∀ pos, PE X (.BoolOp .And xs pos) (tEA X.K Z n es) ∧ PE X (.BoolOp .Or xs pos) (tEO X.K Z n es)) :
    PA X (x :: xs) (tA X.K Z n (e :: es)) ∧ (x :: xs).all nst = true ∧ (x :: xs).length = (e :: es).length ∧ (∀ e' x', e :: es = [e'] → x :: xs = [x'] → PE X x' (tE X.K Z n e')) ∧ (e :: es ≠ [] → ∀ pos, PE X (.BoolOp .And (x :: xs) pos) (tEA X.K Z n (e :: es)) ∧ PE X (.BoolOp .Or (x :: xs) pos) (tEO X.K Z n (e :: es))) := by
  refine ⟨s_cons he h1 (star_cons hst _ _), by rw [List.all_cons, hst, h2]; rfl, by rw [List.length_cons, List.length_cons, h3], fun e' x' a b => ?_, fun _ pos => ?_⟩
  · cases a
    cases b
    exact he
  · match xs, es, h3, h5 with
    | [], [], _, _ => exact ⟨(v_one he).1, (v_one he).2⟩
    | y :: ys, e2 :: es, _, h5 =>
      have q := h5 (by simp) pos
      exact ⟨v_and rfl he q.1, v_or rfl he q.2⟩
theorem sTs_cons {X : Cx} {n : Nat} {t : T} {ts : List T} {x : Expr} {xs : List Expr} (he : PT X x (tT X.K Z n t)) (h3 : xs.length = ts.length)
    (h5 : ts ≠ [] → ∀ pos, PW X (.BoolOp .And xs pos) (tTA X.K Z n ts) ∧ PW X (.BoolOp .Or xs pos) (tTO X.K Z n ts)) :
    (x :: xs).length = (t :: ts).length ∧ (t :: ts ≠ [] → ∀ pos, PW X (.BoolOp .And (x :: xs) pos) (tTA X.K Z n (t :: ts)) ∧ PW X (.BoolOp .Or (x :: xs) pos) (tTO X.K Z n (t :: ts))) ∧ ((t :: ts).length ≤ 1 → PTs X (x :: xs) (tTA X.K Z n (t :: ts))) := by
  refine ⟨by rw [List.length_cons, List.length_cons, h3], fun _ pos => ?_, fun hl => ?_⟩
  · match xs, ts, h3, h5 with
    | [], [], _, _ => exact ⟨w_and1 he, w_or1 he⟩
    | y :: ys, t2 :: ts, _, h5 =>
      have q := h5 (by simp) pos
      exact ⟨w_and he q.1, w_or he q.2⟩
  · match xs, ts, h3, hl with
    | [], [], _, _ => exact ts_one he
    | _, _ :: _, _, hl => simp at hl
mutual
theorem sE (hfn : Z.fns.map (·.x) = fn) : ∀ (e : E) {X : Cx} {c : Ck} {n : Nat} {x : Expr}, GX Z X c n → okE fn c e x = true → PE X x (tE X.K Z n e)
  | .var i, X, c, n, x, g, h => by
    unfold okE at h
    split at h
    · obtain ⟨h1, h2, h3⟩ := a3 h
      exact s_var (g.ix h1) (g.vis h2) (nmB_iff h3).1 (nmB_iff h3).2
    · cases h
  | .non, X, c, n, x, g, h => by
    unfold okE at h
    split at h
    · exact s_con (d := .non) pe_non (fun ρ st => rfl) fun H m => rfl
    · cases h
  | .bl b, X, c, n, x, g, h => by
    unfold okE at h
    split at h
    · obtain rfl := dt h
      exact s_con (d := .bl b) pe_bl (fun ρ st => rfl) fun H m => rfl
    · cases h
  | .int i, X, c, n, x, g, h => by
    unfold okE at h
    split at h
    · obtain rfl := dt h
      exact s_con (d := .int i) pe_int (fun ρ st => rfl) fun H m => rfl
    · cases h
  | .str z, X, c, n, x, g, h => by
    unfold okE at h
    split at h
    · obtain rfl := dt h
      exact s_con (d := .str z) pe_str (fun ρ st => rfl) fun H m => rfl
    · cases h
  | .glb y, X, c, n, x, g, h => by
    unfold okE at h
    split at h
    · obtain ⟨h1, h2, h3⟩ := a3 h
      obtain rfl := dt h1
      cases hz : Z.g y with
      | none =>
        refine PE_void fun σ H Q ⟨m, ρ, st, d, st', S, h, q⟩ => ?_
        have h : (Z.g y).map (fun d => (d, st)) = some (d, st') := h
        rw [hz] at h; cases h
      | some d => exact s_glb g.toWk (g.gl h2) hz (nmB_iff h3).1
    · cases h
  | .tup es, X, c, n, x, g, h => by
    unfold okE at h
    split at h
    · exact s_tup (sEs hfn es g h).1
    · cases h
  | .lst es, X, c, n, x, g, h => by
    unfold okE at h
    split at h
    · exact s_lst (sEs hfn es g h).1
    · cases h
  | .bin o a b, X, c, n, x, g, h => by
    unfold okE at h
    split at h
    · obtain ⟨h1, h2, h3⟩ := a3 h
      obtain rfl := dt h1
      exact s_bin (sE hfn a g h2) (sE hfn b g h3)
    · cases h
  | .neg a, X, c, n, x, g, h => by
    unfold okE at h
    split at h
    · exact s_neg (sE hfn a g h)
    · cases h
  | .cmp o a b, X, c, n, x, g, h => by
    unfold okE at h
    split at h
    · obtain ⟨h1, h2, h3, h4⟩ := a4 h
      obtain rfl := dt h1
      exact s_cmp g.toWk (sE hfn a g h3) (sE hfn b g h4) (nset_behind h2 _)
    · cases h
  | .chn o p a b d, X, c, n, x, g, h => by
    unfold okE at h
    split at h
    · obtain ⟨h1, h2, h3, h4, h5, h6⟩ := a6 h
      obtain rfl := dt h1
      obtain rfl := dt h2
      exact s_chn g.toWk (sE hfn a g h4) (sE hfn b g h5) (sE hfn d g h6) (nset_behind h3 _)
    · cases h
  | .and es, X, c, n, x, g, h => by
    unfold okE at h
    split at h
    · obtain ⟨h1, h2⟩ := a2 h
      exact ((sEs hfn es g h2).2.2.2.2 (fun z => by subst z; cases h1) _).1
    · cases h
  | .or es, X, c, n, x, g, h => by
    unfold okE at h
    split at h
    · obtain ⟨h1, h2⟩ := a2 h
      exact ((sEs hfn es g h2).2.2.2.2 (fun z => by subst z; cases h1) _).2
    · cases h
  | .not a, X, c, n, x, g, h => by
    unfold okE at h
    split at h
    · exact s_not (sE hfn a g h)
    · cases h
  | .ife t a b, X, c, n, x, g, h => by
    unfold okE at h
    split at h
    · obtain ⟨h1, h2, h3⟩ := a3 h
      exact s_if (sT hfn t g h1) (sE hfn a g h2) (sE hfn b g h3)
    · cases h
  | .call f es, X, c, n, x, g, h => by
    unfold okE at h
    split at h
    · obtain ⟨h1, h2, h3, h4⟩ := a4 h
      obtain ⟨F, hF, rfl⟩ := fn_at hfn (dt h1)
      obtain ⟨k1, k2, k3, _⟩ := sEs hfn es g h4
      exact s_call g.toWk hF (g.gl h2) k1 k2 k3 (nmB_iff h3).1
    · cases h
  | .bi f es, X, c, n, x, g, h => by
    unfold okE at h
    split at h
    · rename_i y p xs pos
      obtain ⟨h1, h2, h3, h4⟩ := a4 h
      obtain rfl := dt h1
      obtain ⟨k1, k2, k3, _⟩ := sEs hfn es g h4
      cases xs with
      | nil => cases h3
      | cons a xs => exact s_bi g.toWk (g.gl h2) k1 k2
    · cases h
  | .isi a t, X, c, n, x, g, h => by
    unfold okE at h
    split at h
    · obtain ⟨h1, h2, h3, h4, h5, h6⟩ := a6 h
      obtain rfl := dt h1
      obtain rfl := dt h3
      exact s_isi g.toWk (g.gl h2) (g.gl h4) (sE hfn a g h6) h5
    · cases h
  | .mth m o es, X, c, n, x, g, h => by
    unfold okE at h
    split at h
    · obtain ⟨h1, h2, h3, h4, h5, h6⟩ := a6 h
      obtain rfl := dt h1
      obtain ⟨k1, k2, k3, _⟩ := sEs hfn es g h6
      exact s_mth (sE hfn o g h5) k1 k2 k3 (dt h4) h2 h3
    · cases h
  | .idx a i, X, c, n, x, g, h => by
    unfold okE at h
    split at h
    · obtain ⟨h1, h2, h3⟩ := a3 h
      exact s_idx (sE hfn a g h2) (sE hfn i g h3) h1
    · cases h
  | .slF a lo, X, c, n, x, g, h => by
    unfold okE at h
    split at h
    · obtain ⟨h1, h2⟩ := a2 h
      exact s_slF (sE hfn a g h1) (sE hfn lo g h2)
    · cases h
  | .slT a hi, X, c, n, x, g, h => by
    unfold okE at h
    split at h
    · obtain ⟨h1, h2⟩ := a2 h
      exact s_slT (sE hfn a g h1) (sE hfn hi g h2)
    · cases h
  | .slB a lo hi, X, c, n, x, g, h => by
    unfold okE at h
    split at h
    · obtain ⟨h1, h2, h3⟩ := a3 h
      exact s_slB (sE hfn a g h1) (sE hfn lo g h2) (sE hfn hi g h3)
    · cases h
  | .slR a, X, c, n, x, g, h => by
    unfold okE at h
    split at h
    · obtain ⟨h1, h2⟩ := a2 h
      obtain rfl := dt h1
      exact s_slR (sE hfn a g h2)
    · cases h
  | .lc ik src tg cnd elt own, X, c, n, x, g, h => by
    unfold okE at h
    split at h
    · obtain ⟨h, z9⟩ := a2 h
      obtain ⟨h, z8⟩ := a2 h
      obtain ⟨h, z7⟩ := a2 h
      obtain ⟨h, z6⟩ := a2 h
      obtain ⟨h, z5⟩ := a2 h
      obtain ⟨z1, z2, z3, z4⟩ := a4 h
      obtain rfl := dt z1
      split at z5
      · rename_i xs hxs
        obtain ⟨k1, k2, k3, k4, _⟩ := sEs hfn src g z5
        refine LcP.pe g ⟨s_it g hxs k1 k4 k3 k2, ⟨ownP c own, ownP_map own, by rw [g.Ns, g.scp]; exact blkOk_by z3⟩, fun s H C cl fp => sTg tg (g.blk s H C cl fp) z6, fun s H C cl fp => (sTs hfn cnd (g.blk s H C cl fp) z8).2.2 (dt z7), fun s H C cl fp => sE hfn elt (g.blk s H C cl fp) z9, all_mem z4, nset_folded z2 _⟩
      · cases z5
    · cases h
  | .lc2 ik src tg cnd ik1 src1 tg1 cnd1 elt own own1, X, c, n, x, g, h => by
    unfold okE at h
    split at h
    · obtain ⟨h, y9⟩ := a2 h
      obtain ⟨h, y8⟩ := a2 h
      obtain ⟨h, y7⟩ := a2 h
      obtain ⟨h, y6⟩ := a2 h
      obtain ⟨h, y5⟩ := a2 h
      obtain ⟨h, y4⟩ := a2 h
      obtain ⟨h, y3⟩ := a2 h
      obtain ⟨h, y2⟩ := a2 h
      obtain ⟨h, y1⟩ := a2 h
      obtain ⟨h, z8⟩ := a2 h
      obtain ⟨h, z7⟩ := a2 h
      obtain ⟨z1, z2, z3, z4, z5, z6⟩ := a6 h
      obtain rfl := dt z1
      obtain rfl := dt z2
      split at y1
      · rename_i xs hxs
        split at y2
        · rename_i xs1 hxs1
          obtain ⟨k1, k2, k3, k4, _⟩ := sEs hfn src g y1
          refine Lc2P.pe g ⟨⟨s_it g hxs k1 k4 k3 k2, ⟨ownP c own, ownP_map own, by rw [g.Ns, g.scp]; exact blkOk_by z5⟩, fun s H C cl fp => sTg tg (g.blk s H C cl fp) y3, fun s H C cl fp => (sTs hfn cnd (g.blk s H C cl fp) y7).2.2 (dt y5), fun s H C cl fp => sE hfn elt (g.blk s H C cl fp) y9, all_mem z6, nset_folded z3 _⟩,
            fun s H C cl fp => ?_, fun s H C cl fp => sTg tg1 (g.blk s H C cl fp) y4, fun s H C cl fp => (sTs hfn cnd1 (g.blk s H C cl fp) y8).2.2 (dt y6), all_mem z7, all_mem z8, fun env => nset_folded z4 env⟩
          obtain ⟨q1, q2, q3, q4, _⟩ := sEs hfn src1 (g.blk (scope := _) s H C cl fp) y2
          exact s_it (g.blk s H C cl fp) hxs1 q1 q4 q3 q2
        · cases y2
      · cases y1
    · cases h
  | .gen cn ik src tg cnd elt own, X, c, n, x, g, h => by
    unfold okE at h
    split at h
    · obtain ⟨h, y9⟩ := a2 h
      obtain ⟨h, y8⟩ := a2 h
      obtain ⟨h, y7⟩ := a2 h
      obtain ⟨h, y6⟩ := a2 h
      obtain ⟨h, y5⟩ := a2 h
      obtain ⟨h, y4⟩ := a2 h
      obtain ⟨h, y3⟩ := a2 h
      obtain ⟨h, y2⟩ := a2 h
      obtain ⟨h, y1⟩ := a2 h
      obtain ⟨h, z7⟩ := a2 h
      obtain ⟨z1, z2, z3, z4, z5, z6⟩ := a6 h
      obtain rfl := dt z1
      obtain rfl := dt z4
      split at y5
      · rename_i xs hxs
        cases n with
        | zero => exact PE_void fun σ H Q ⟨m, ρ, st, d, st', S, h, q⟩ => by cases h
        | succ k =>
          obtain ⟨k1, k2, k3, k4, _⟩ := sEs hfn src g y5
          obtain ⟨cc, P, t1, t2, t3⟩ := g.cd z3
          have Ga : GArg Z X k ik src tg cnd elt own _ _ _ _ _ := ⟨g.toWk, s_it g hxs k1 k4 k3 k2, ⟨cc, P, t1, t2, t3⟩, ⟨ownP c own, ownP_map own, by rw [g.Ns, g.scp]; exact blkOk_by z7⟩, fun y hy => dt (List.all_eq_true.mp y1 y hy), dt y2, by simpa using y3, fold_of z5 z6 _, all_mem y4,
            fun A1 s3 H3 cenv fp pn hs W => ⟨sTg tg (g.gen hs W) y6, (sTs hfn cnd (g.gen hs W) y8).2.2 (dt y7), sE hfn elt (g.gen hs W) y9⟩⟩
          cases cn with
          | tuple => exact s_tuple Ga (g.gl z2)
          | all => exact s_all Ga (g.gl z2)
          | any => exact s_any Ga (g.gl z2)
          | sum => exact s_sum Ga (g.gl z2)
          | max => exact s_max Ga (g.gl z2)
      · cases y5
    · cases h
theorem sEs (hfn : Z.fns.map (·.x) = fn) : ∀ (es : List E) {X : Cx} {c : Ck} {n : Nat} {xs : List Expr}, GX Z X c n → okEs fn c es xs = true → PA X xs (tA X.K Z n es) ∧ xs.all nst = true ∧ xs.length = es.length ∧ (∀ e x, es = [e] → xs = [x] → PE X x (tE X.K Z n e)) ∧
    (es ≠ [] → ∀ pos, PE X (.BoolOp .And xs pos) (tEA X.K Z n es) ∧ PE X (.BoolOp .Or xs pos) (tEO X.K Z n es))
  | [], X, c, n, xs, g, h => by
    cases xs with
    | nil => exact ⟨s_nil, rfl, rfl, fun e x a => (by cases a), fun z => absurd rfl z⟩
    | cons => exact no h
  | e :: es, X, c, n, xs, g, h => by
    unfold okEs at h
    split at h
    · obtain ⟨h1, h2, h3⟩ := a3 h
      obtain ⟨k1, k2, k3, _, k5⟩ := sEs hfn es g h3
      exact sEs_cons (c := c) h1 (sE hfn e g h2) k1 k2 k3 k5
    · cases h
theorem sT (hfn : Z.fns.map (·.x) = fn) : ∀ (t : T) {X : Cx} {c : Ck} {n : Nat} {x : Expr}, GX Z X c n → okT fn c t x = true → PT X x (tT X.K Z n t)
  | .val e, X, c, n, x, g, h => by
    unfold okT at h
    obtain ⟨h1, h2⟩ := a2 h
    exact s_val (sE hfn e g h2) h1
  | .not t, X, c, n, x, g, h => by
    unfold okT at h
    split at h
    · exact t_not (sT hfn t g h)
    · cases h
  | .and ts, X, c, n, x, g, h => by
    unfold okT at h
    split at h
    · obtain ⟨h1, h2⟩ := a2 h
      exact ((sTs hfn ts g h2).2.1 (fun z => by subst z; cases h1) _).1.pt
    · cases h
  | .or ts, X, c, n, x, g, h => by
    unfold okT at h
    split at h
    · obtain ⟨h1, h2⟩ := a2 h
      exact ((sTs hfn ts g h2).2.1 (fun z => by subst z; cases h1) _).2.pt
    · cases h
  | .cmp o a b, X, c, n, x, g, h => by
    unfold okT at h
    split at h
    · obtain ⟨h1, h2, h3, h4⟩ := a4 h
      obtain rfl := dt h1
      exact t_cmp g.toWk (sE hfn a g h3) (sE hfn b g h4) (nset_behind h2 _)
    · cases h
  | .chn o p a b d, X, c, n, x, g, h => by
    unfold okT at h
    split at h
    · obtain ⟨h1, h2, h3, h4, h5, h6⟩ := a6 h
      obtain rfl := dt h1
      obtain rfl := dt h2
      exact t_chn g.toWk (sE hfn a g h4) (sE hfn b g h5) (sE hfn d g h6) (nset_behind h3 _)
    · cases h
  | .ife t a b, X, c, n, x, g, h => by
    unfold okT at h
    split at h
    · obtain ⟨h1, h2, h3⟩ := a3 h
      exact t_if (sT hfn t g h1) (sT hfn a g h2) (sT hfn b g h3)
    · cases h
theorem sTs (hfn : Z.fns.map (·.x) = fn) : ∀ (ts : List T) {X : Cx} {c : Ck} {n : Nat} {xs : List Expr}, GX Z X c n → okTs fn c ts xs = true → xs.length = ts.length ∧
    (ts ≠ [] → ∀ pos, PW X (.BoolOp .And xs pos) (tTA X.K Z n ts) ∧ PW X (.BoolOp .Or xs pos) (tTO X.K Z n ts)) ∧ (ts.length ≤ 1 → PTs X xs (tTA X.K Z n ts))
  | [], X, c, n, xs, g, h => by
    cases xs with
    | nil => exact ⟨rfl, fun z => absurd rfl z, fun _ => ts_nil⟩
    | cons => exact no h
  | t :: ts, X, c, n, xs, g, h => by
    unfold okTs at h
    split at h
    · obtain ⟨h1, h2⟩ := a2 h
      obtain ⟨k1, k2, _⟩ := sTs hfn ts g h2
      exact sTs_cons (sT hfn t g h1) k1 k2
    · cases h
end
end
end Dz
end
section
set_option Elab.async false
set_option linter.all false
set_option maxRecDepth 100000
set_option maxHeartbeats 4000000
namespace Dz
open PySem L2 PyProof.Rows
/-! ### the checker of statements -/
def setB (fn : List Str) (c : Ck) (tg : Tg) (e : E) (t x : Expr) : Bool := match tg with
  | .nm i => (match t with
    | .Name y py => (match x with
      | .ListComp _ _ scope pos => decide (c.N[i]? = some y) && decide (c.sc.names.lookup y = some .local) && decide (c.sc.kind = .function) && (py.line == pos.line) && !(scope.names.any fun (n, k) => n == y && (k == .local || k == .cell)) && okE fn c e x
      | _ => false)
    | _ => false)
  | _ => false
def swB (xs : List Expr) : Bool := !(xs.all (foldedForSure 8)) && !(xs.all (constantsAlone 8))
def parB (fn : List Str) (c : Ck) (tg : Tg) (e : E) (t x : Expr) : Bool := match tg with
  | .tp [.nm i, .nm j] => (match e with
    | .tup es => (match t with
      | .Tuple [.Name y1 p1, .Name y2 p2] _ _ => (match x with
        | .Tuple [x1, x2] _ _ => decide (c.N[i]? = some y1) && decide (c.N[j]? = some y2) && decide (i ≠ j) && decide (c.sc.names.lookup y1 = some .local) && decide (c.sc.names.lookup y2 = some .local) && decide (c.sc.kind = .function) && (p1.line == p2.line) && decide (y1 ≠ y2) && swB [x1, x2] && decide (es.length = 2) && okEs fn c es [x1, x2]
        | _ => false)
      | _ => false)
    | _ => false)
  | _ => false
def asgB (fn : List Str) (c : Ck) (tg : Tg) (e : E) (t x : Expr) : Bool :=
  (ncomp x && nst t && (ntup x || (ntup t && nlis t)) && okTg c tg t && okE fn c e x) || (setB fn c tg e t x || parB fn c tg e t x)
mutual
def okS (fn : List Str) (c : Ck) : S → Stmt → Bool
  | .expr e, x => match x with | .Expr y _ => ncomp y && okE fn c e y | _ => false
  | .asg tg e, x => match x with | .Assign [t] y _ => asgB fn c tg e t y | _ => false
  | .asub o i e, x => match x with | .Assign [.Subscript xo xi _] y _ => ncomp y && nsl xi && okE fn c o xo && okE fn c i xi && okE fn c e y | _ => false
  | .aug i o e, x => match x with | .AugAssign (.Name y _) op z _ => decide (c.N[i]? = some y) && locB c y && decide (bop o = op) && okE fn c e z | _ => false
  | .ret e, x => match x with | .Return (some y) _ => okE fn c e y | _ => false
  | .retN, x => match x with | .Return none _ => true | _ => false
  | .pass, x => match x with | .Pass _ => true | .Expr (.Constant (.str _) _ _) _ => true | _ => false
  | .brk, x => match x with | .Break _ => true | _ => false
  | .cnt, x => match x with | .Continue _ => true | _ => false
  | .ife t a b, x => match x with | .If y xs ys _ => okT fn c t y && okSs fn c a xs && okSs fn c b ys | _ => false
  | .whl t b, x => match x with | .While y xs [] _ => okT fn c t y && okSs fn c b xs | _ => false
  | .for_ ik src tg b, x => match x with | .For t it xs [] _ => nset it && (match itA c ik t it with | some zs => okEs fn c src zs | none => false) && okTg c tg t && okSs fn c b xs | _ => false
def okSs (fn : List Str) (c : Ck) : List S → List Stmt → Bool
  | [], xs => xs.isEmpty
  | s :: ss, xs => match xs with
    | x :: xs => okS fn c s x && okSs fn c ss xs
    | [] => false
end
section
variable {Z : Wd} {fn : List Str} {X : Cx} {c : Ck} {n : Nat}
theorem lcP_of (hfn : Z.fns.map (·.x) = fn) {ik : Ik} {src : List E} {tg : Tg} {cnd : List T} {elt : E} {own : List Nat} {x : Expr} (g : GX Z X c n) (h : okE fn c (.lc ik src tg cnd elt own) x = true) :
    ∃ xelt xtg xit xifs scope pos, x = .ListComp xelt [⟨xtg, xit, xifs, 0⟩] scope pos ∧ LcP Z X n ik src tg cnd elt own xelt xtg xit xifs scope := by
  unfold okE at h
  split at h
  · obtain ⟨h, z9⟩ := a2 h
    obtain ⟨h, z8⟩ := a2 h
    obtain ⟨h, z7⟩ := a2 h
    obtain ⟨h, z6⟩ := a2 h
    obtain ⟨h, z5⟩ := a2 h
    obtain ⟨z1, z2, z3, z4⟩ := a4 h
    obtain rfl := dt z1
    split at z5
    · rename_i xs hxs
      obtain ⟨k1, k2, k3, k4, _⟩ := sEs hfn src g z5
      exact ⟨_, _, _, _, _, _, rfl, s_it g hxs k1 k4 k3 k2, ⟨ownP c own, ownP_map own, by rw [g.Ns, g.scp]; exact blkOk_by z3⟩, fun s H C cl fp => sTg tg (g.blk s H C cl fp) z6, fun s H C cl fp => (sTs hfn cnd (g.blk s H C cl fp) z8).2.2 (dt z7), fun s H C cl fp => sE hfn elt (g.blk s H C cl fp) z9, all_mem z4, nset_folded z2 _⟩
    · cases z5
  · cases h
theorem lc2P_of (hfn : Z.fns.map (·.x) = fn) {ik ik1 : Ik} {src src1 : List E} {tg tg1 : Tg} {cnd cnd1 : List T} {elt : E} {own own1 : List Nat} {x : Expr} (g : GX Z X c n) (h : okE fn c (.lc2 ik src tg cnd ik1 src1 tg1 cnd1 elt own own1) x = true) :
    ∃ xelt xtg xit xifs xtg1 xit1 xifs1 scope pos, x = .ListComp xelt [⟨xtg, xit, xifs, 0⟩, ⟨xtg1, xit1, xifs1, 0⟩] scope pos ∧ Lc2P Z X n ik src tg cnd ik1 src1 tg1 cnd1 elt own own1 xelt xtg xit xifs xtg1 xit1 xifs1 scope := by
  unfold okE at h
  split at h
  · obtain ⟨h, y9⟩ := a2 h
    obtain ⟨h, y8⟩ := a2 h
    obtain ⟨h, y7⟩ := a2 h
    obtain ⟨h, y6⟩ := a2 h
    obtain ⟨h, y5⟩ := a2 h
    obtain ⟨h, y4⟩ := a2 h
    obtain ⟨h, y3⟩ := a2 h
    obtain ⟨h, y2⟩ := a2 h
    obtain ⟨h, y1⟩ := a2 h
    obtain ⟨h, z8⟩ := a2 h
    obtain ⟨h, z7⟩ := a2 h
    obtain ⟨z1, z2, z3, z4, z5, z6⟩ := a6 h
    obtain rfl := dt z1
    obtain rfl := dt z2
    split at y1
    · rename_i xs hxs
      split at y2
      · rename_i xs1 hxs1
        obtain ⟨k1, k2, k3, k4, _⟩ := sEs hfn src g y1
        refine ⟨_, _, _, _, _, _, _, _, _, rfl, ⟨s_it g hxs k1 k4 k3 k2, ⟨ownP c own, ownP_map own, by rw [g.Ns, g.scp]; exact blkOk_by z5⟩, fun s H C cl fp => sTg tg (g.blk s H C cl fp) y3, fun s H C cl fp => (sTs hfn cnd (g.blk s H C cl fp) y7).2.2 (dt y5), fun s H C cl fp => sE hfn elt (g.blk s H C cl fp) y9, all_mem z6, nset_folded z3 _⟩,
          fun s H C cl fp => ?_, fun s H C cl fp => sTg tg1 (g.blk s H C cl fp) y4, fun s H C cl fp => (sTs hfn cnd1 (g.blk s H C cl fp) y8).2.2 (dt y6), all_mem z7, all_mem z8, fun env => nset_folded z4 env⟩
        obtain ⟨q1, q2, q3, q4, _⟩ := sEs hfn src1 (g.blk (scope := _) s H C cl fp) y2
        exact s_it (g.blk s H C cl fp) hxs1 q1 q4 q3 q2
      · cases y2
    · cases y1
  · cases h
theorem s_setB (hfn : Z.fns.map (·.x) = fn) {tg : Tg} {e : E} {t x : Expr} {pos : Pos} (g : GX Z X c n) (h : setB fn c tg e t x = true) : PS X (.Assign [t] x pos) (tS X.K Z n (.asg tg e)) := by
  unfold setB at h
  split at h
  · split at h
    · split at h
      · obtain ⟨h1, h2, h3, h4, h5, h6⟩ := a6 h
        have hk : X.env.scope.kind = .function := by rw [g.scp]; exact dt h3
        have hl := dt h2
        rw [← g.scp] at hl
        have h5 := h5
        simp only [Bool.not_eq_true'] at h5
        cases e with
        | lc ik src tgm cnd elt own =>
          obtain ⟨xelt, xtg, xit, xifs, scope, p, ex, P⟩ := lcP_of hfn g h6
          cases ex
          obtain ⟨own', ho, ok⟩ := P.ok
          have htg := P.htg
          subst ho
          exact PS_imp (ps_setLc g.calm g.nd (g.ix h1) hl (sw_true hk hl h4 h5) P.hi ok P.hg P.ht P.he P.hs) fun D σ H q => lset_read htg q
        | lc2 ik src tgm cnd ik1 src1 tg1 cnd1 elt own own1 =>
          obtain ⟨xelt, xtg, xit, xifs, xtg1, xit1, xifs1, scope, p, ex, P⟩ := lc2P_of hfn g h6
          cases ex
          obtain ⟨own', ho, ok⟩ := P.ok
          have htg := P.htg
          have hv := P.hv
          subst ho
          exact PS_imp (ps_setLc2 g.calm g.nd (g.ix h1) hl (sw_true hk hl h4 h5) P.hi ok hv P.hg P.ht P.hi1 P.hg1 P.ht1 P.he P.hs P.hs1) fun D σ H q => lset2_read htg P.htg1 q
        | _ => exact no h6
      · cases h
    · cases h
  · cases h
theorem blockKind_fn {env : PySem.Env} (hk : env.scope.kind = .function) : env.blockKind = .function := by unfold Env.blockKind; rw [hk]; rfl
theorem swap2 {env : PySem.Env} {y1 y2 : Str} {p1 p2 pt pt2 : Pos} {kt k2 : Nat} {x1 x2 : Expr} (hk : env.scope.kind = .function) (h1 : env.scope.names.lookup y1 = some .local) (h2 : env.scope.names.lookup y2 = some .local) (hp : (p1.line == p2.line) = true) (hy : y1 ≠ y2) (hs : swB [x1, x2] = true) (n1 : nst x1 = true) (n2 : nst x2 = true) :
    swappedStores [.Tuple [.Name y1 p1, .Name y2 p2] kt pt] (.Tuple [x1, x2] k2 pt2) env = pure (some [y1, y2]) := by
  have hb := blockKind_fn hk
  have e1 : env.kindOf y1 = some .local := h1
  have e2 : env.kindOf y2 = some .local := h2
  obtain ⟨s1, s2⟩ := a2 hs
  simp only [Bool.not_eq_true'] at s1 s2
  have hst : ∀ f : Expr → Bool, f x1 = false → f x2 = false → [x1, x2].any f = false := fun f a b => by simp [a, b]
  have hl : (p2.line == p1.line) = true := by rw [beq_iff_eq] at hp ⊢; exact hp.symm
  have hd : ([y1, y2] : List Str).eraseDups.length = 2 := by
    have : (y2 == y1) = false := by simpa using fun e : y2 = y1 => hy e.symm
    simp [List.eraseDups_cons, this]
  have hl1 : (p1.line == p1.line) = true := by simp
  have hloc : (some NameKind.local == some NameKind.local) = true := by decide
  unfold swappedStores
  simp only [hb, s1, s2, e1, e2, hl, hl1, hloc, Expr.pos, List.head?_cons, Option.map_some, Option.getD_some, List.filterMap_cons, List.filterMap_nil, List.length_cons, List.length_nil, Bool.and_self, if_true]
  rw [if_neg (by decide)]
  rw [if_neg (by rw [hst _ (by cases x1 <;> first | rfl | (cases n1; done)) (by cases x2 <;> first | rfl | (cases n2; done))]; decide)]
  rw [if_neg (by rw [hd]; decide)]
  simp
end
end Dz
end
section
set_option Elab.async false
set_option linter.all false
set_option maxRecDepth 100000
set_option maxHeartbeats 4000000
namespace Dz
open PySem L2 PyProof.Rows
section
variable {Z : Wd} {fn : List Str}
theorem s_parB (hfn : Z.fns.map (·.x) = fn) {X : Cx} {c : Ck} {n : Nat} {tg : Tg} {e : E} {t x : Expr} {pos : Pos} (g : GX Z X c n) (h : parB fn c tg e t x = true) : PS X (.Assign [t] x pos) (tS X.K Z n (.asg tg e)) := by
  unfold parB at h
  split at h
  · split at h
    · rename_i es
      split at h
      · split at h
        · obtain ⟨h, z9⟩ := a2 h
          obtain ⟨h, z8⟩ := a2 h
          obtain ⟨h, z7⟩ := a2 h
          obtain ⟨h, z6⟩ := a2 h
          obtain ⟨h, z5⟩ := a2 h
          obtain ⟨z0, z1, z2, z3, z4, zk⟩ := a6 h
          have l1 := dt z3
          have l2 := dt z4
          have hk : X.env.scope.kind = .function := by rw [g.scp]; exact dt zk
          rw [← g.scp] at l1 l2
          obtain ⟨k1, k2, k3, _⟩ := sEs hfn es g z9
          rw [List.all_cons, Bool.and_eq_true, List.all_cons, Bool.and_eq_true] at k2
          match es, dt z8 with
          | [e1, e2], _ => exact st_par g.toWk (g.ix z0) (g.ix z1) (dt z2) l1 l2 k1 (swap2 hk l1 l2 z5 (dt z6) z7 k2.1 k2.2.1)
        · cases h
      · cases h
    · cases h
  · cases h
theorem s_asgB (hfn : Z.fns.map (·.x) = fn) {X : Cx} {c : Ck} {n : Nat} {tg : Tg} {e : E} {t x : Expr} {pos : Pos} (g : GX Z X c n) (h : asgB fn c tg e t x = true) : PS X (.Assign [t] x pos) (tS X.K Z n (.asg tg e)) := by
  unfold asgB at h
  rw [Bool.or_eq_true, Bool.or_eq_true] at h
  rcases h with h | h | h
  · obtain ⟨h1, h2, h3, h4, h5⟩ := a5 h
    refine st_asg (sE hfn e g h5) (sTg tg g h4) h1 h2 ?_
    rw [Bool.or_eq_true] at h3
    rcases h3 with h3 | h3
    · exact .inl h3
    · exact .inr (a2 h3)
  · exact s_setB hfn g h
  · exact s_parB hfn g h
mutual
theorem sS (hfn : Z.fns.map (·.x) = fn) : ∀ (s : S) {X : Cx} {c : Ck} {n : Nat} {x : Stmt}, GX Z X c n → okS fn c s x = true → PS X x (tS X.K Z n s)
  | .expr e, X, c, n, x, g, h => by
    unfold okS at h
    split at h
    · obtain ⟨h1, h2⟩ := a2 h
      exact st_expr (sE hfn e g h2) h1
    · cases h
  | .asg tg e, X, c, n, x, g, h => by
    unfold okS at h
    split at h
    · exact s_asgB hfn g h
    · cases h
  | .asub o i e, X, c, n, x, g, h => by
    unfold okS at h
    split at h
    · obtain ⟨h1, h2, h3, h4, h5⟩ := a5 h
      exact st_asub (sE hfn o g h3) (sE hfn i g h4) (sE hfn e g h5) h1 h2
    · cases h
  | .aug i o e, X, c, n, x, g, h => by
    unfold okS at h
    split at h
    · obtain ⟨h1, h2, h3, h4⟩ := a4 h
      obtain rfl := dt h3
      obtain ⟨k1, k2⟩ := g.loc h2
      exact st_aug g.nd (g.ix h1) k1 (sE hfn e g h4) k2
    · cases h
  | .ret e, X, c, n, x, g, h => by
    unfold okS at h
    split at h
    · exact st_ret (sE hfn e g h)
    · cases h
  | .retN, X, c, n, x, g, h => by
    unfold okS at h
    split at h
    · exact st_retN
    · cases h
  | .pass, X, c, n, x, g, h => by
    unfold okS at h
    split at h
    · exact st_pass
    · exact st_doc
    · cases h
  | .brk, X, c, n, x, g, h => by
    unfold okS at h
    split at h
    · exact st_brk
    · cases h
  | .cnt, X, c, n, x, g, h => by
    unfold okS at h
    split at h
    · exact st_cnt
    · cases h
  | .ife t a b, X, c, n, x, g, h => by
    unfold okS at h
    split at h
    · obtain ⟨h1, h2, h3⟩ := a3 h
      exact st_if (sT hfn t g h1) (sSs hfn a g h2) (sSs hfn b g h3)
    · cases h
  | .whl t b, X, c, n, x, g, h => by
    unfold okS at h
    split at h
    · obtain ⟨h1, h2⟩ := a2 h
      exact st_whl g.toWk (sT hfn t g h1) (sSs hfn b g h2)
    · cases h
  | .for_ ik src tg b, X, c, n, x, g, h => by
    unfold okS at h
    split at h
    · obtain ⟨h1, h2, h3, h4⟩ := a4 h
      split at h2
      · rename_i zs hzs
        obtain ⟨k1, k2, k3, k4, _⟩ := sEs hfn src g h2
        exact st_for g.toWk (s_it g hzs k1 k4 k3 k2) (sTg tg g h3) (sSs hfn b g h4) h1
      · cases h2
    · cases h
theorem sSs (hfn : Z.fns.map (·.x) = fn) : ∀ (ss : List S) {X : Cx} {c : Ck} {n : Nat} {xs : List Stmt}, GX Z X c n → okSs fn c ss xs = true → PSs X xs (tSs X.K Z n ss)
  | [], X, c, n, xs, g, h => by
    cases xs with
    | nil => exact ss_nil
    | cons => exact no h
  | s :: ss, X, c, n, xs, g, h => by
    unfold okSs at h
    split at h
    · obtain ⟨h1, h2⟩ := a2 h
      exact ss_cons (sS hfn s g h1) (sSs hfn ss g h2)
    · cases h
end
/-! ### the defs -/
/-- what is known of one def -/
structure FnFact (Z : Wd) (fn : List Str) (K : PySem.W.Frag) (mg : Str → Option Value) (base : Heap) (F : FF) (d : Df) : Prop where
  ex : ∃ (qual : Str) (params : Arguments) (body : List Stmt) (scope : Scope) (N : List Str) (gn : Bool), FunD K F.x qual params body scope [] [] F.a F.fd ∧ FnScope N F.ps scope ∧ okSs fn ⟨scope, N, fun _ => true, gn⟩ d.body body = true ∧ d.ar = F.ps.length ∧ d.sl = N.length ∧
    (gn = true → ∃ (cc P : Addr), GxR.TabB base mg cc P ∧ F.fd.code = .ref cc ∧ P ∈ Z.Tb)
/-- what is known of all of them -/
structure WdOk (Z : Wd) (fn : List Str) (K : PySem.W.Frag) (mg : Str → Option Value) (base : Heap) : Prop where
  hfn : Z.fns.map (·.x) = fn
  len : Z.fs.length = Z.fns.length
  glb : ∀ x d, Z.g x = some d → ∃ u v, mg x = some u ∧ RelV v u ∧ ∀ H m, RV K H m d v
  blt : ∀ x ∈ blts, mg x = none
  fnG : ∀ (f : Nat) (F : FF), Z.fns[f]? = some F → mg F.x = some (.ref F.a) ∧ PySem.W.keepIn K (.ref F.a) = true ∧ Binds K F.fd F.ps []
  fact : ∀ (f : Nat) (F : FF) (d : Df), Z.fns[f]? = some F → Z.fs[f]? = some d → FnFact Z fn K mg base F d
theorem re_start {K : PySem.W.Frag} {H : Hp} {m : List Addr} {ds : List D} {vs : List V} {N : List Str} (r : P2 (RV K H m) ds vs) : RE K H m (ds.map some ++ List.replicate (N.length - ds.length) none) (L2.start N vs) := by
  unfold L2.start
  refine ⟨by simp [r.1], fun i d e => ?_⟩
  by_cases hi : i < ds.length
  · rw [List.getElem?_append_left (by simpa using hi), List.getElem?_map] at e
    cases q : ds[i]? with
    | none => rw [q] at e; cases e
    | some d' =>
      rw [q] at e
      cases e
      obtain ⟨v, hv, rv⟩ := r.get q
      refine ⟨v, ?_, rv⟩
      rw [List.getElem?_append_left (by rw [List.length_map, ← r.1]; exact hi), List.getElem?_map, hv]; rfl
  · rw [List.getElem?_append_right (by simpa using hi), List.getElem?_replicate] at e
    split at e <;> cases e
theorem fns_ok {P : Program} {w : World} {K : PySem.W.Frag} {mg : Str → Option Value} {base : Heap} (W : WdOk Z fn K mg base) : ∀ (i f : Nat) (F : FF), Z.fns[f]? = some F → FnOk P w K mg base C8.CX0 (i + 1) F.a F.fd F.ps (spD K Z i f) := by
  intro i
  induction i using Nat.strongRecOn with
  | ind i ih =>
    intro f F hF
    have hfl : f < Z.fs.length := by rw [W.len]; exact (List.getElem?_eq_some_iff.mp hF).1
    have hd : Z.fs[f]? = some Z.fs[f] := List.getElem?_eq_getElem hfl
    generalize Z.fs[f] = d at hd
    obtain ⟨qual, params, body, scope, N, gn, FD, Sc, ok, har, hsl, tab⟩ := (W.fact f F d hF hd).ex
    obtain ⟨oc, od, dV, kV, doc, pm, an, cdv, ct, osl, efd, lk, hcd, _, _⟩ := FD.ex
    obtain ⟨Fx, Fa, Ffd, Fps⟩ := F
    simp only at efd lk FD Sc har tab
    subst efd
    refine fn_of lk hcd Sc (fun vs H Q E hsp => ?_) fun A outer s H vs Q E hr hsp => ?_
    · obtain ⟨m, st, ds, d', st', R, p2, e, q⟩ := hsp
      have e : (Z.fs[f]?).bind (fun d => if ds.length = d.ar then (exs d.body Z.g (Z.C i) (ds.map some ++ List.replicate (d.sl - ds.length) none) st).bind fun q => match q with
        | (.nx, _, st') => some (.non, st')
        | (.rt v, _, st') => some (v, st')
        | _ => none
      else none) = some (d', st') := e
      rw [hd] at e
      have e : (if ds.length = d.ar then (exs d.body Z.g (Z.C i) (ds.map some ++ List.replicate (d.sl - ds.length) none) st).bind (fun q => match q with
        | (.nx, _, st') => some (D.non, st')
        | (.rt v, _, st') => some (v, st')
        | _ => none)
      else none) = some (d', st') := e
      split at e
      · rename_i hl
        rw [← p2.1, hl, har]
      · cases e
    · obtain ⟨m, st, ds, d', st', R, p2, e, q⟩ := hsp
      have e : (Z.fs[f]?).bind (fun d => if ds.length = d.ar then (exs d.body Z.g (Z.C i) (ds.map some ++ List.replicate (d.sl - ds.length) none) st).bind fun q => match q with
        | (.nx, _, st') => some (.non, st')
        | (.rt v, _, st') => some (v, st')
        | _ => none
      else none) = some (d', st') := e
      rw [hd] at e
      have e : (if ds.length = d.ar then (exs d.body Z.g (Z.C i) (ds.map some ++ List.replicate (d.sl - ds.length) none) st).bind (fun q => match q with
        | (.nx, _, st') => some (D.non, st')
        | (.rt v, _, st') => some (v, st')
        | _ => none)
      else none) = some (d', st') := e
      have g : GX Z (cxOf C8.CX0 P w K mg base N qual scope Fa cdv A outer s H E).nox ⟨scope, N, fun _ => true, gn⟩ i :=
        { calm := rfl, xe := rfl, nd := Sc.nd, room := hr, glb := W.glb, blt := W.blt, fnG := W.fnG, fok := fun j hj f F hF => ih j hj f F hF, scp := rfl, Ns := rfl, fb := fun _ _ => rfl, cd := fun hg => by
            obtain ⟨cc, Pt, t1, t2, t3⟩ := tab hg
            exact ⟨cc, Pt, t1, t2, t3⟩ }
      refine ⟨_, (sSs W.hfn d.body g ok).nox, ?_⟩
      split at e
      · obtain ⟨⟨fl, ρ', st2⟩, e1, e⟩ := Option.bind_eq_some_iff.mp e
        refine ⟨m, _, st, fl, ρ', st2, ⟨by rw [hsl] at *; exact re_start p2, R⟩, e1, ?_⟩
        cases fl with
        | nx => cases e; exact fun σ' H' m' x S' => q .non H' m' x S'.2 rfl
        | rt v => cases e; exact fun v' H' m' x R' r => q v' H' m' x R' r
        | bk => cases e
        | ct => cases e
      · cases e
end
end Dz
end
section
set_option Elab.async false
set_option linter.all false
set_option maxRecDepth 100000
set_option maxHeartbeats 4000000
namespace Dz
open PySem PySem.Spec L2 PyProof.Rows He
/-! ### a list that is only read may be frozen -/
theorem freeze {P : Program} {w : World} {K : PySem.W.Frag} {mg : Str → Option Value} {base : Heap} {k : Nat} {f : Addr} {fd : FuncData} {x : Str} {sp : Sp} (F : FnOk P w K mg base C8.CX0 k f fd [x] sp) :
    FnOk P w K mg base C8.CX0 k f fd [x] (fun vs H Q E => ∃ (a : Addr) (xs : List V), vs = [.ref a] ∧ SqL K H a xs ∧ (∀ v H1 H2, Q v H1 → Q v H2) ∧ ∀ H', (∀ b, b ≠ a → H' b = H b) → SqF K H' a xs → sp vs H' Q E) := by
  refine ⟨fun vs H Q E ⟨a, xs, e, _⟩ => by rw [e]; rfl, fun A outer s H args us vs Q E hr e0 hb r ⟨a, xs, ev, hS, hQ, hsp⟩ => ?_⟩
  rcases hS with (hS | ⟨o, hS⟩) | hS
  · obtain ⟨hz, its, n, rv, ho⟩ := e0.hok a _ hS
    generalize hob : ({ cls := .type "list", data := .seq its.toArray n } : Obj) = ob at ho
    have ne : ∀ b, H b = none → b ≠ a := fun b e z => by rw [z, hS] at e; cases e
    have ntab : ∀ b u, b ≠ a → H b = some u → upd H a (.frz ob (.lst xs)) b = some u := fun b u hb e => by rw [upd_ne hb]; exact e
    have okA : ∀ (H' : Hp) (h : Heap), h.get? a = some ob → ObjOk P w H' h a (.lst xs) := fun H' h e => ⟨hz, its, n, rv, by rw [e, hob]⟩
    have hok1 : HOk P w (upd H a (.frz ob (.lst xs))) s.heap := fun b u e => by
      by_cases hb : b = a
      · subst hb
        rw [upd_same] at e
        cases e
        exact ⟨ho, okA _ _ ho⟩
      · rw [upd_ne hb] at e
        refine (e0.hok b u e).stay (fun _ _ _ q => q) (fun d q => ?_) fun d zs q => ?_
        · rw [upd_ne (fun z => by rw [z, hS] at q; cases q)]; exact q
        · rw [upd_ne (fun z => by rw [z, hS] at q; cases q)]; exact q
    have e1 : Env0 P w K mg base A outer s (upd H a (.frz ob (.lst xs))) := ⟨e0.frames, e0.mod, fun b o e => ⟨(e0.bs b o e).1, by rw [upd_ne (ne b (e0.bs b o e).2)]; exact (e0.bs b o e).2⟩, e0.bsz, e0.funs, fun b hb => by rw [upd_ne (ne b (e0.frf b hb))]; exact e0.frf b hb, hok1, e0.bare⟩
    refine codeAny_mono (F.run A outer s (upd H a (.frz ob (.lst xs))) args us vs Q E hr e1 hb r (hsp _ (fun b hb => upd_ne hb) (.inl ⟨ob, upd_same⟩))) fun r s' h => ?_
    cases r with
    | error e => exact h
    | ok fl =>
      cases fl with
      | next => exact h
      | brk => exact h
      | cont => exact h
      | ret u =>
        obtain ⟨v, H', os, bare, un, hok', r', q⟩ := h
        have hfz : H' a = some (.frz ob (.lst xs)) := un.frzs a ob _ upd_same
        obtain ⟨hga, _⟩ := hok' a _ hfz
        have nb : ∀ b, H b = none → upd H a (.frz ob (.lst xs)) b = none := fun b e => by rw [upd_ne (ne b e)]; exact e
        refine ⟨v, upd H' a (.lst xs), os, bare, ⟨fun b o e n h1 h2 => un.keep b o e (nb b n) h1 h2, fun b o e n h1 h2 => un.slot b o e (nb b n) h1 h2, fun b o e n h1 => by rw [upd_ne (ne b n)]; exact un.free b o e (nb b n) h1, un.there, fun b zs e => ?_, fun b o u e => ?_, fun b ps e => ?_⟩, fun b u e => ?_, r', hQ v _ _ q⟩
        · have hb : b ≠ a := fun z => by rw [z, hS] at e; cases e
          rw [upd_ne hb]; exact un.tups b zs (ntab b _ hb e)
        · have hb : b ≠ a := fun z => by rw [z, hS] at e; cases e
          rw [upd_ne hb]; exact un.frzs b o u (ntab b _ hb e)
        · have hb : b ≠ a := fun z => by rw [z, hS] at e; cases e
          obtain ⟨more, z⟩ := un.tbls b ps (ntab b _ hb e)
          exact ⟨more, by rw [upd_ne hb]; exact z⟩
        · by_cases hb : b = a
          · subst hb
            rw [upd_same] at e
            cases e
            exact okA _ _ hga
          · rw [upd_ne hb] at e
            refine (hok' b u e).stay (fun _ _ _ q => q) (fun d q => ?_) fun d zs q => ?_
            · rw [upd_ne (fun z => by rw [z, hfz] at q; cases q)]; exact q
            · rw [upd_ne (fun z => by rw [z, hfz] at q; cases q)]; exact q
  · exact F.run A outer s H args us vs Q E hr e0 hb r (hsp H (fun _ _ => rfl) (.inl ⟨o, hS⟩))
  · exact F.run A outer s H args us vs Q E hr e0 hb r (hsp H (fun _ _ => rfl) (.inr hS))
/-! ### the defs of a text -/
structure DD where
  i : Nat
  x : Str
  ps : List Str
  N : List Str
  gn : Bool
  df : Df
abbrev DD.st (P : Program) (d : DD) : Stmt := P.main.body.getD d.i (.Pass ⟨0, 0, 0, 0⟩)
def DD.defD (P : Program) (d : DD) : DefD := ⟨(d.x, none), d.x, d.x, defArgs (d.st P), defBody (d.st P), defScope (d.st P), [], []⟩
def fdOf (K : PySem.W.Frag) (x : Str) : FuncData := match K.lookup (fAd K (x, none)) with
  | some ⟨_, _, .func fd, _⟩ => fd
  | _ => default
def fnScB (N ps : List Str) (sc : Scope) : Bool := decide (sc.kind = .function) && !sc.isCoroutine && !sc.isGenerator && decide N.Nodup && decide (N.take ps.length = ps) && ps.all (fun x => decide (sc.names.lookup x = some .local) || decide (sc.names.lookup x = some .cell)) && sc.names.all fun y => decide (y.2 ≠ .free)
theorem fnScB_ok {N ps : List Str} {sc : Scope} (h : fnScB N ps sc = true) : FnScope N ps sc := by
  unfold fnScB at h
  obtain ⟨h, h7⟩ := a2 h
  obtain ⟨h1, h2, h3, h4, h5, h6⟩ := a6 h
  refine ⟨dt h1, by simpa using h2, by simpa using h3, dt h4, dt h5, fun x hx => ?_, fun y hy => dt (List.all_eq_true.mp h7 y hy)⟩
  have q := List.all_eq_true.mp h6 x hx
  rw [Bool.or_eq_true] at q
  rcases q with q | q
  · exact .inl (dt q)
  · exact .inr (dt q)
/-- what is checked of a def -/
def DD.ok (P : Program) (fn : List Str) (d : DD) : Bool := fnScB d.N d.ps (defScope (d.st P)) && okSs fn ⟨defScope (d.st P), d.N, fun _ => true, d.gn⟩ d.df.body (defBody (d.st P)) && decide (d.df.ar = d.ps.length) && decide (d.df.sl = d.N.length)
/-- its parameters are bound -/
def DD.Bd (P : Program) (d : DD) : Prop := ∀ (kV doc pm : Value) (an : Option Addr) (cdv ct : Value) (us : List Value), us.length = d.ps.length → bindArgs (PySem.W.fnOf d.x d.x (defArgs (d.st P)) (defBody (d.st P)) (defScope (d.st P)) .none kV doc pm an cdv ct) ⟨us, []⟩ = pure (d.ps.zip us)
def wdOf (g : Str → Option D) (L : List DD) (tf : List Defn) (K : PySem.W.Frag) : Wd := ⟨g, L.map (·.df), L.map fun d => ⟨d.x, fAd K (d.x, none), fdOf K d.x, d.ps⟩, tf.map fun p => (cT K p).2⟩
section
variable {P : Program} {w : World} {K : PySem.W.Frag} {mg : Str → Option Value} {h : Heap} {g : Str → Option D} {L : List DD} {fa : List Fa} {ts : List Tab} {tf : List Defn} {ex : PySem.W.Frag → Bool}
theorem saysD (c : SaysX fa (L.map (DD.defD P)) ts tf ex w h K) : SaysD fa (L.map (DD.defD P)) K := congrArg (fun z : AlT => z.1) c.t
theorem funD_at (c : SaysX fa (L.map (DD.defD P)) ts tf ex w h K) {d : DD} (hd : d ∈ L) : FunD K d.x d.x (defArgs (d.st P)) (defBody (d.st P)) (defScope (d.st P)) [] [] (fAd K (d.x, none)) (fdOf K d.x) := by
  obtain ⟨fd, F⟩ := (saysD c).defs (d := d.defD P) (List.mem_map.mpr ⟨d, hd, rfl⟩)
  have F : FunD K d.x d.x (defArgs (d.st P)) (defBody (d.st P)) (defScope (d.st P)) [] [] (fAd K (d.x, none)) fd := F
  obtain ⟨oc, od, dV, kV, doc, pm, an, cdv, ct, osl, efd, lk, _⟩ := F.ex
  have e : fdOf K d.x = fd := by
    unfold fdOf
    rw [lk]
  rw [e]; exact F
theorem wdOf_ok {base : Heap} (X : K.In h) (G : h.Ns mainGlobals mg) (c : SaysX fa (L.map (DD.defD P)) ts tf ex w h K) (hglo : ∀ d ∈ L, Fa.glo d.x ∈ fa) (hfree : ∀ x ∈ blts, Fa.free x ∈ fa) (hok : ∀ d ∈ L, d.ok P (L.map (·.x)) = true) (hbd : ∀ d ∈ L, d.Bd P) (hgn : ∀ d ∈ L, d.gn = true → (d.x, none) ∈ tf)
    (hg : ∀ x d, g x = some d → ∃ u v, mg x = some u ∧ RelV v u ∧ ∀ H m, RV K H m d v) (TB : ∀ p ∈ tf.map (cT K), LamX.TabB base mg p.1 p.2) : WdOk (wdOf g L tf K) (L.map (·.x)) K mg base := by
  have at_ : ∀ (f : Nat) (F : FF), (wdOf g L tf K).fns[f]? = some F → ∃ d, L[f]? = some d ∧ d ∈ L ∧ F = ⟨d.x, fAd K (d.x, none), fdOf K d.x, d.ps⟩ := fun f F hF => by
    have hF : (L.map fun d => (⟨d.x, fAd K (d.x, none), fdOf K d.x, d.ps⟩ : FF))[f]? = some F := hF
    rw [List.getElem?_map] at hF
    cases q : L[f]? with
    | none => rw [q] at hF; cases hF
    | some d => rw [q] at hF; cases hF; exact ⟨d, rfl, List.mem_of_getElem? q, rfl⟩
  refine ⟨by show (L.map _).map _ = _; rw [List.map_map]; rfl, by show (L.map _).length = (L.map _).length; rw [List.length_map, List.length_map], hg, fun x hx => free_ok X G ((saysD c).facts (hfree x hx)), fun f F hF => ?_, fun f F d hF hd => ?_⟩
  · obtain ⟨d, _, hd, rfl⟩ := at_ f F hF
    have FD := funD_at c hd
    exact ⟨glo_ok X G ((saysD c).facts (hglo d hd)), FD.kp, FD.bindsN (hbd d hd)⟩
  · obtain ⟨dd, hdd, hm, rfl⟩ := at_ f F hF
    have hd : (L.map (·.df))[f]? = some d := hd
    rw [List.getElem?_map, hdd] at hd
    cases hd
    obtain ⟨k1, k2, k3, k4⟩ := a4 (hok dd hm)
    refine ⟨dd.x, _, _, _, dd.N, dd.gn, funD_at c hm, fnScB_ok k1, k2, dt k3, dt k4, fun hgt => ?_⟩
    have ht := hgn dd hm hgt
    have FD := funD_at c hm
    obtain ⟨oc, od, dV, kV, doc, pm, an, cdv, ct, osl, efd, lk, hcd, _⟩ := FD.ex
    obtain ⟨cc, rfl⟩ := codeIn_ref hcd
    have ec : (fdOf K dd.x).code = .ref cc := by rw [efd]
    have e : codeOf K (dd.x, none) = cc := codeOf_eq lk ec
    obtain ⟨t1, t2, t3⟩ := TB (cT K (dd.x, none)) (List.mem_map.mpr ⟨_, ht, rfl⟩)
    refine ⟨cc, (cT K (dd.x, none)).2, ⟨?_, t2, t3⟩, ec, List.mem_map.mpr ⟨_, ht, rfl⟩⟩
    have : (cT K (dd.x, none)).1 = cc := e
    rw [← this]; exact t1
/-- THE LAW'S END -/
theorem law_end {l : PySem.W.OpenLaw} {k n f : Nat} {x : Str} {fA : Addr} (X : K.In h) (G : h.Ns mainGlobals mg) (c : SaysX fa (L.map (DD.defD l.prog)) ts tf ex w h K) (hglo : ∀ d ∈ L, Fa.glo d.x ∈ fa) (hfree : ∀ x ∈ blts, Fa.free x ∈ fa) (hok : ∀ d ∈ L, d.ok l.prog (L.map (·.x)) = true) (hbd : ∀ d ∈ L, d.Bd l.prog)
    (hgn : ∀ d ∈ L, d.gn = true → (d.x, none) ∈ tf) (hg : ∀ x d, g x = some d → ∃ u v, mg x = some u ∧ RelV v u ∧ ∀ H m, RV K H m d v) {d : DD} (hd : L[f]? = some d) (hps : d.ps = [x]) (hfA : mg d.x = some (.ref fA))
    (law : ∀ ns : List Int, ns.length ≤ n → (∀ z ∈ ns, Builtin.Int.intBits z ≤ 1048576) → ∃ st', callD (L.map (·.df)) g k f [.fz (ns.map .int)] [] = some (.bl true, st')) : LamX.LawAtS l w K C8.CX0 (k + 1) n x mg fA h := by
  have hm : d ∈ L := List.mem_of_getElem? hd
  have FD := funD_at c hm
  have efA : fA = fAd K (d.x, none) := by
    have e := glo_ok X G ((saysD c).facts (hglo d hm))
    rw [hfA] at e
    cases e; rfl
  subst efA
  have hd2 : (wdOf g L tf K).fns[f]? = some ⟨d.x, fAd K (d.x, none), fdOf K d.x, d.ps⟩ := by
    show (L.map _)[f]? = _
    rw [List.getElem?_map, hd]; rfl
  have bnd := FunD.bindsA FD (hbd d hm)
  refine ⟨fdOf K d.x, tf.map (cT K), fun vs H Q E => ∃ (a : Addr) (xs : List V), vs = [.ref a] ∧ SqL K H a xs ∧ (∀ v H1 H2, Q v H1 → Q v H2) ∧ ∀ H', (∀ b, b ≠ a → H' b = H b) → SqF K H' a xs → spD K (wdOf g L tf K) k f vs H' Q E, fun p hp => ?_, fun p hp => ?_, fun p hp => ?_, fun s u => ?_, fun H a ns hl hbits hT hS => ?_, fun base KX GX TB => ?_⟩
  · obtain ⟨q, hq, rfl⟩ := List.mem_map.mp hp
    exact c.empty q hq
  · obtain ⟨q, hq, rfl⟩ := List.mem_map.mp hp
    exact c.out q hq
  · obtain ⟨q, hq, rfl⟩ := List.mem_map.mp hp
    exact PySem.W.codeHd_of_K X (c.hd q hq)
  · have z := bnd s [u] (by rw [hps]; rfl)
    rw [hps] at z
    exact z
  · obtain ⟨st', e⟩ := law ns hl hbits
    refine ⟨a, ns.map V.int, rfl, hS, fun v H1 H2 q => q, fun H' he hF => ⟨[], [], [.fz (ns.map .int)], .bl true, st', ⟨rfl, List.nodup_nil, fun k a o e1 => by simp at e1, fun p hp => ?_⟩, P2.one ⟨a, ns.map V.int, rfl, hF, P2.rvs ?_⟩, e, fun v H2 m2 _ _ r => r⟩⟩
    · have hp : p ∈ tf.map fun p => (cT K p).2 := hp
      obtain ⟨q, hq, rfl⟩ := List.mem_map.mp hp
      have ht := hT (cT K q) (List.mem_map.mpr ⟨q, hq, rfl⟩)
      refine ⟨#[], ?_, trivial⟩
      by_cases hb : (cT K q).2 = a
      · rw [hb] at ht
        rcases hS with (hS | ⟨o, hS⟩) | ⟨o, its, m, hk, _⟩
        · rw [ht] at hS; cases hS
        · rw [ht] at hS; cases hS
        · have := c.out q hq
          rw [hb, hk] at this; cases this
      · rw [he _ hb]; exact ht
    · refine ⟨by simp, fun i d v e1 e2 => ?_⟩
      rw [List.getElem?_map] at e1 e2
      cases q : ns[i]? with
      | none => rw [q] at e1; cases e1
      | some z => rw [q] at e1 e2; cases e1; cases e2; rfl
  · have W := wdOf_ok (base := base) X G c hglo hfree hok hbd hgn hg TB
    have F := fns_ok (P := l.prog) (w := w) W k f _ hd2
    have F : FnOk l.prog w K mg base C8.CX0 (k + 1) (fAd K (d.x, none)) (fdOf K d.x) d.ps (spD K (wdOf g L tf K) k f) := F
    rw [hps] at F
    exact freeze F
end
end Dz
end
section
set_option Elab.async false
set_option linter.all false
set_option maxRecDepth 100000
namespace Dz
open PySem
/-! ### what simp may unfold: all but loops, comprehensions, calls -/
section
variable {g : Str → Option D} {C : List CS} {ρ : Env} {st : Sto} {fs : List Df}
theorem ev_var (i : Nat) : ev (.var i) g C ρ st = (match ρ[i]? with | some (some d) => some (d, st) | _ => none) := rfl
@[simp] theorem ev_var0 (d : D) (ρ : Env) : ev (.var 0) g C (some d :: ρ) st = some (d, st) := id rfl
@[simp] theorem ev_varS (i : Nat) (x : Option D) (ρ : Env) : ev (.var (i + 1)) g C (x :: ρ) st = ev (.var i) g C ρ st := id rfl
@[simp] theorem ev_non : ev .non g C ρ st = some (.non, st) := id rfl
@[simp] theorem ev_bl (b : Bool) : ev (.bl b) g C ρ st = some (.bl b, st) := id rfl
@[simp] theorem ev_int (i : Int) : ev (.int i) g C ρ st = some (.int i, st) := id rfl
@[simp] theorem ev_str (x : Str) : ev (.str x) g C ρ st = some (.str x, st) := id rfl
@[simp] theorem ev_glb (x : Str) : ev (.glb x) g C ρ st = (g x).map fun d => (d, st) := id rfl
@[simp] theorem ev_tup (es : List E) : ev (.tup es) g C ρ st = (evs es g C ρ st).bind fun r => if r.1.length ≤ sizeLine then some (.tup r.1, r.2) else none := id rfl
@[simp] theorem ev_lst (es : List E) : ev (.lst es) g C ρ st = (evs es g C ρ st).bind fun r => if r.1.length ≤ sizeLine then some (new r.2 (.lst r.1)) else none := id rfl
@[simp] theorem ev_bin (o : Bop) (a b : E) : ev (.bin o a b) g C ρ st = (ev a g C ρ st).bind fun r => (ev b g C ρ r.2).bind fun q => binD o r.1 q.1 q.2 := id rfl
@[simp] theorem ev_neg (a : E) : ev (.neg a) g C ρ st = (ev a g C ρ st).bind fun r => match r.1 with | .int i => some (.int (-i), r.2) | _ => none := id rfl
@[simp] theorem ev_cmp (o : Cop) (a b : E) : ev (.cmp o a b) g C ρ st = (ev a g C ρ st).bind fun r => (ev b g C ρ r.2).bind fun q => (cmpD o r.1 q.1 q.2).map fun c => (.bl c, q.2) := id rfl
@[simp] theorem ev_chn (o p : Cop) (a b c : E) : ev (.chn o p a b c) g C ρ st = (ev a g C ρ st).bind fun r => (ev b g C ρ r.2).bind fun q => (cmpD o r.1 q.1 q.2).bind fun x =>
      if x then (ev c g C ρ q.2).bind fun z => (cmpD p q.1 z.1 z.2).map fun y => (.bl y, z.2) else some (.bl false, q.2) := id rfl
@[simp] theorem ev_and (es : List E) : ev (.and es) g C ρ st = evAnd es g C ρ st := id rfl
@[simp] theorem ev_or (es : List E) : ev (.or es) g C ρ st = evOr es g C ρ st := id rfl
@[simp] theorem ev_not (a : E) : ev (.not a) g C ρ st = (ev a g C ρ st).bind fun r => (truD r.1 r.2).map fun b => (.bl (!b), r.2) := id rfl
@[simp] theorem ev_ife (c : T) (a b : E) : ev (.ife c a b) g C ρ st = (evT c g C ρ st).bind fun r => if r.1 then ev a g C ρ r.2 else ev b g C ρ r.2 := id rfl
@[simp] theorem ev_call (n f : Nat) (es : List E) : ev (.call f es) g (calls fs g (n + 1)) ρ st = (evs es g (calls fs g (n + 1)) ρ st).bind fun r => callD fs g n f r.1 r.2 := id rfl
@[simp] theorem ev_bi (f : Bf) (es : List E) : ev (.bi f es) g C ρ st = (evs es g C ρ st).bind fun r => bfD f r.1 r.2 := id rfl
@[simp] theorem ev_isi (a : E) (t : Ty) : ev (.isi a t) g C ρ st = (ev a g C ρ st).bind fun r => (isiD r.1 t r.2).map fun b => (.bl b, r.2) := id rfl
@[simp] theorem ev_mth (m : Mt) (o : E) (es : List E) : ev (.mth m o es) g C ρ st = (ev o g C ρ st).bind fun r => if isL r.1 r.2 then (evs es g C ρ r.2).bind fun q => mtD m r.1 q.1 q.2 else none := id rfl
@[simp] theorem ev_idx (a i : E) : ev (.idx a i) g C ρ st = (ev a g C ρ st).bind fun r => (ev i g C ρ r.2).bind fun q => (idxD r.1 q.1 q.2).map fun d => (d, q.2) := id rfl
@[simp] theorem ev_slF (a lo : E) : ev (.slF a lo) g C ρ st = (ev a g C ρ st).bind fun r => (ev lo g C ρ r.2).bind fun q => match q.1 with | .int i => slcD r.1 (some i) none q.2 | _ => none := id rfl
@[simp] theorem ev_slT (a hi : E) : ev (.slT a hi) g C ρ st = (ev a g C ρ st).bind fun r => (ev hi g C ρ r.2).bind fun q => match q.1 with | .int i => slcD r.1 none (some i) q.2 | _ => none := id rfl
@[simp] theorem ev_slB (a lo hi : E) : ev (.slB a lo hi) g C ρ st = (ev a g C ρ st).bind fun r => (ev lo g C ρ r.2).bind fun q => (ev hi g C ρ q.2).bind fun z => match q.1, z.1 with | .int i, .int j => slcD r.1 (some i) (some j) z.2 | _, _ => none := id rfl
@[simp] theorem ev_slR (a : E) : ev (.slR a) g C ρ st = (ev a g C ρ st).bind fun r => match r.1 with | .ref k => (lstOf r.2 k).map fun ds => new r.2 (.lst ds.reverse) | _ => none := id rfl
@[simp] theorem evs_nil : evs [] g C ρ st = some ([], st) := id rfl
@[simp] theorem evs_cons (e : E) (es : List E) : evs (e :: es) g C ρ st = (ev e g C ρ st).bind fun r => (evs es g C ρ r.2).map fun q => (r.1 :: q.1, q.2) := id rfl
@[simp] theorem evAnd_cons (e : E) (es : List E) : evAnd (e :: es) g C ρ st = (ev e g C ρ st).bind fun r => if es.isEmpty then some r else match r.1 with | .bl true => evAnd es g C ρ r.2 | .bl false => some (.bl false, r.2) | _ => none := id rfl
@[simp] theorem evOr_cons (e : E) (es : List E) : evOr (e :: es) g C ρ st = (ev e g C ρ st).bind fun r => if es.isEmpty then some r else match r.1 with | .bl true => some (.bl true, r.2) | .bl false => evOr es g C ρ r.2 | _ => none := id rfl
@[simp] theorem evT_val (e : E) : evT (.val e) g C ρ st = (ev e g C ρ st).bind fun r => (truD r.1 r.2).map fun b => (b, r.2) := id rfl
@[simp] theorem evT_not (a : T) : evT (.not a) g C ρ st = (evT a g C ρ st).map fun r => (!r.1, r.2) := id rfl
@[simp] theorem evT_and (es : List T) : evT (.and es) g C ρ st = evTA es g C ρ st := id rfl
@[simp] theorem evT_or (es : List T) : evT (.or es) g C ρ st = evTO es g C ρ st := id rfl
@[simp] theorem evT_cmp (o : Cop) (a b : E) : evT (.cmp o a b) g C ρ st = (ev a g C ρ st).bind fun r => (ev b g C ρ r.2).bind fun q => (cmpD o r.1 q.1 q.2).map fun c => (c, q.2) := id rfl
@[simp] theorem evT_chn (o p : Cop) (a b c : E) : evT (.chn o p a b c) g C ρ st = (ev a g C ρ st).bind fun r => (ev b g C ρ r.2).bind fun q => (cmpD o r.1 q.1 q.2).bind fun x =>
      if x then (ev c g C ρ q.2).bind fun z => (cmpD p q.1 z.1 z.2).map fun y => (y, z.2) else some (false, q.2) := id rfl
@[simp] theorem evT_ife (c a b : T) : evT (.ife c a b) g C ρ st = (evT c g C ρ st).bind fun r => if r.1 then evT a g C ρ r.2 else evT b g C ρ r.2 := id rfl
@[simp] theorem evTA_nil : evTA [] g C ρ st = some (true, st) := id rfl
@[simp] theorem evTA_cons (e : T) (es : List T) : evTA (e :: es) g C ρ st = (evT e g C ρ st).bind fun r => if r.1 then evTA es g C ρ r.2 else some (false, r.2) := id rfl
@[simp] theorem evTO_nil : evTO [] g C ρ st = some (false, st) := id rfl
@[simp] theorem evTO_cons (e : T) (es : List T) : evTO (e :: es) g C ρ st = (evT e g C ρ st).bind fun r => if r.1 then some (true, r.2) else evTO es g C ρ r.2 := id rfl
@[simp] theorem asgD_nm (i : Nat) (d : D) : asgD (.nm i) d st ρ = if i < ρ.length then some (ρ.set i (some d)) else none := id rfl
@[simp] theorem asgD_tup (ts : List Tg) (ds : List D) : asgD (.tp ts) (.tup ds) st ρ = asgDs ts ds st ρ := id rfl
@[simp] theorem asgD_ref (ts : List Tg) (k : Nat) : asgD (.tp ts) (.ref k) st ρ = (lstOf st k).bind fun ds => asgDs ts ds st ρ := id rfl
@[simp] theorem asgDs_nil : asgDs [] [] st ρ = some ρ := id rfl
@[simp] theorem asgDs_cons (t : Tg) (ts : List Tg) (d : D) (ds : List D) : asgDs (t :: ts) (d :: ds) st ρ = (asgD t d st ρ).bind fun ρ1 => asgDs ts ds st ρ1 := id rfl
@[simp] theorem ex_expr (e : E) : ex (.expr e) g C ρ st = (ev e g C ρ st).map fun r => (.nx, ρ, r.2) := id rfl
@[simp] theorem ex_asg (tg : Tg) (e : E) : ex (.asg tg e) g C ρ st = (ev e g C ρ st).bind fun r => (asgD tg r.1 r.2 ρ).map fun ρ1 => (.nx, ρ1, r.2) := id rfl
@[simp] theorem ex_asub (o i e : E) : ex (.asub o i e) g C ρ st = (ev e g C ρ st).bind fun v => (ev o g C ρ v.2).bind fun r => (ev i g C ρ r.2).bind fun q => (setD r.1 q.1 v.1 q.2).map fun s => (.nx, ρ, s) := id rfl
@[simp] theorem ex_aug (i : Nat) (o : Bop) (e : E) : ex (.aug i o e) g C ρ st = (match ρ[i]? with | some (some x) => (ev e g C ρ st).bind fun r => (match x, r.1 with | .int a, .int b => (match o with | .add => some (.nx, ρ.set i (some (.int (a + b))), r.2) | .sub => some (.nx, ρ.set i (some (.int (a - b))), r.2) | _ => none) | _, _ => none) | _ => none) := id rfl
@[simp] theorem ex_ret (e : E) : ex (.ret e) g C ρ st = (ev e g C ρ st).map fun r => (.rt r.1, ρ, r.2) := id rfl
@[simp] theorem ex_retN : ex .retN g C ρ st = some (.rt .non, ρ, st) := id rfl
@[simp] theorem ex_pass : ex .pass g C ρ st = some (.nx, ρ, st) := id rfl
@[simp] theorem ex_brk : ex .brk g C ρ st = some (.bk, ρ, st) := id rfl
@[simp] theorem ex_cnt : ex .cnt g C ρ st = some (.ct, ρ, st) := id rfl
@[simp] theorem ex_ife (c : T) (a b : List S) : ex (.ife c a b) g C ρ st = (evT c g C ρ st).bind fun r => if r.1 then exs a g C ρ r.2 else exs b g C ρ r.2 := id rfl
@[simp] theorem exs_nil : exs [] g C ρ st = some (.nx, ρ, st) := id rfl
@[simp] theorem exs_cons (s : S) (ss : List S) : exs (s :: ss) g C ρ st = (ex s g C ρ st).bind fun q => match q with
    | (.nx, ρ', st') => exs ss g C ρ' st'
    | q => some q := id rfl
@[simp] theorem truD_bl (b : Bool) : truD (.bl b) st = some b := id rfl
@[simp] theorem truD_tup (ds : List D) : truD (.tup ds) st = some (!ds.isEmpty) := id rfl
@[simp] theorem truD_int (i : Int) : truD (.int i) st = some (i != 0) := id rfl
@[simp] theorem truD_ref (k : Nat) : truD (.ref k) st = (lstOf st k).map fun ds => !ds.isEmpty := id rfl
@[simp] theorem wipeD_nil : wipeD ρ [] = ρ := id rfl
@[simp] theorem wipeD_cons (v : Nat) (vs : List Nat) : wipeD ρ (v :: vs) = (wipeD ρ vs).set v none := id rfl
@[simp] theorem new_eq (o : O) : new st o = (.ref st.length, st ++ [o]) := id rfl
@[simp] theorem bin_addI (i j : Int) : binD .add (.int i) (.int j) st = some (.int (i + j), st) := id rfl
@[simp] theorem bin_subI (i j : Int) : binD .sub (.int i) (.int j) st = some (.int (i - j), st) := id rfl
@[simp] theorem bin_addT (a b : List D) : binD .add (.tup a) (.tup b) st = if a.length + b.length ≤ sizeLine then some (.tup (a ++ b), st) else none := id rfl
@[simp] theorem cmp_lt (i j : Int) : cmpD .lt (.int i) (.int j) st = some (decide (i < j)) := id rfl
@[simp] theorem cmp_le (i j : Int) : cmpD .le (.int i) (.int j) st = some (decide (i ≤ j)) := id rfl
@[simp] theorem cmp_gt (i j : Int) : cmpD .gt (.int i) (.int j) st = some (decide (i > j)) := id rfl
@[simp] theorem cmp_ge (i j : Int) : cmpD .ge (.int i) (.int j) st = some (decide (i ≥ j)) := id rfl
@[simp] theorem cmp_isN (x : D) : cmpD .is x .non st = some (isN x) := by cases x <;> rfl
@[simp] theorem cmp_isnN (x : D) : cmpD .isn x .non st = some (!isN x) := by cases x <;> rfl
@[simp] theorem cmp_isB (a b : Bool) : cmpD .is (.bl a) (.bl b) st = some (decide (a = b)) := id rfl
@[simp] theorem cmp_isnB (a b : Bool) : cmpD .isn (.bl a) (.bl b) st = some (!decide (a = b)) := id rfl
@[simp] theorem cmp_eq (x y : D) : cmpD .eq x y st = eqD st x y := by cases x <;> cases y <;> rfl
@[simp] theorem cmp_ne (x y : D) : cmpD .ne x y st = (eqD st x y).map (!·) := by cases x <;> cases y <;> rfl
@[simp] theorem idx_tup (ds : List D) (j : Int) : idxD (.tup ds) (.int j) st = L2.atI ds j := id rfl
@[simp] theorem idx_fz (ds : List D) (j : Int) : idxD (.fz ds) (.int j) st = L2.atI ds j := id rfl
@[simp] theorem idx_ref (k : Nat) (j : Int) : idxD (.ref k) (.int j) st = (lstOf st k).bind fun ds => L2.atI ds j := id rfl
@[simp] theorem len_tup (ds : List D) : bfD .len [.tup ds] st = some (.int ds.length, st) := id rfl
@[simp] theorem len_fz (ds : List D) : bfD .len [.fz ds] st = some (.int ds.length, st) := id rfl
@[simp] theorem len_ref (k : Nat) : bfD .len [.ref k] st = (lstOf st k).map fun ds => (.int ds.length, st) := id rfl
@[simp] theorem int_int (i : Int) : bfD .int [.int i] st = some (.int i, st) := id rfl
@[simp] theorem tuple_ref (k : Nat) : bfD .tuple [.ref k] st = (lstOf st k).map fun ds => (.tup ds, st) := id rfl
@[simp] theorem tuple_tup (ds : List D) : bfD .tuple [.tup ds] st = some (.tup ds, st) := id rfl
@[simp] theorem list_tup (ds : List D) : bfD .list [.tup ds] st = some (new st (.lst ds)) := id rfl
@[simp] theorem list_ref (k : Nat) : bfD .list [.ref k] st = (lstOf st k).map fun ds => new st (.lst ds) := id rfl
@[simp] theorem isL_ref (k : Nat) : isL (.ref k) st = (lstOf st k).isSome := id rfl
@[simp] theorem isN_non : isN .non = true := id rfl
@[simp] theorem isN_tup (ds : List D) : isN (.tup ds) = false := id rfl
@[simp] theorem isN_int (i : Int) : isN (.int i) = false := id rfl
@[simp] theorem isN_bl (i : Bool) : isN (.bl i) = false := id rfl
@[simp] theorem isN_str (i : Str) : isN (.str i) = false := id rfl
@[simp] theorem isN_ref (k : Nat) : isN (.ref k) = false := id rfl
@[simp] theorem isi_ti (ds : List D) : isiD (.tup ds) .tuple st = some true := id rfl
/-! a def that is called -/
theorem callD_run {n f : Nat} {d : Df} {xs : List D} (hd : fs[f]? = some d) (hl : xs.length = d.ar) : callD fs g n f xs st = (exs d.body g (calls fs g n) (xs.map some ++ List.replicate (d.sl - xs.length) none) st).bind fun q => match q with
    | (.nx, _, st') => some (.non, st')
    | (.rt v, _, st') => some (v, st')
    | _ => none := by
  show runD fs g (calls fs g n) f xs st = _
  unfold runD
  rw [hd]
  show (if xs.length = d.ar then _ else none) = _
  exact if_pos hl
end
/-! ### lists in the store -/
theorem lst_old {st J : Sto} {k : Nat} {ds : List D} (h : lstOf st k = some ds) : lstOf (st ++ J) k = some ds := by
  unfold lstOf at h ⊢
  cases q : st[k]? with
  | none => rw [q] at h; cases h
  | some o =>
    obtain ⟨hi, _⟩ := List.getElem?_eq_some_iff.mp q
    rw [List.getElem?_append_left hi, q]
    rw [q] at h
    exact h
@[simp] theorem lst_mid (st : Sto) (ds : List D) (J : Sto) : lstOf (st ++ .lst ds :: J) st.length = some ds := by simp [lstOf]
@[simp] theorem set_mid (st : Sto) (o o' : O) (J : Sto) : (st ++ o :: J).set st.length o' = st ++ o' :: J := by simp
theorem mt_append {st : Sto} {k : Nat} {ds : List D} (y : D) (h : lstOf st k = some ds) (hz : ds.length < sizeLine) : mtD .append (.ref k) [y] st = some (.non, st.set k (.lst (ds ++ [y]))) := by
  unfold lstOf at h
  unfold mtD
  split at h
  · rename_i ds' e
    cases h
    simp [e, hz]
  · cases h
theorem mt_extT {st : Sto} {k : Nat} {ds : List D} (zs : List D) (h : lstOf st k = some ds) (hz : ds.length + zs.length ≤ sizeLine) : mtD .extend (.ref k) [.tup zs] st = some (.non, st.set k (.lst (ds ++ zs))) := by
  unfold lstOf at h
  unfold mtD
  split at h
  · rename_i ds' e
    cases h
    simp [e, hz]
  · cases h
theorem mt_extR {st : Sto} {k j : Nat} {ds zs : List D} (h : lstOf st k = some ds) (h2 : lstOf st j = some zs) (hj : j ≠ k) (hz : ds.length + zs.length ≤ sizeLine) : mtD .extend (.ref k) [.ref j] st = some (.non, st.set k (.lst (ds ++ zs))) := by
  unfold lstOf at h
  unfold mtD
  split at h
  · rename_i ds' e
    cases h
    simp [e, hz, hj, h2]
  · cases h
theorem mt_pop {st : Sto} {k : Nat} {ds : List D} {d : D} (h : lstOf st k = some (ds ++ [d])) : mtD .pop (.ref k) [] st = some (d, st.set k (.lst ds)) := by
  unfold lstOf at h
  unfold mtD
  split at h
  · rename_i ds' e
    cases h
    simp [e]
  · cases h
/-! ### loops -/
/-- a for loop whose body goes on; P: what holds ahead of turn i -/
theorem for_ok {J : IT} {B : D → Env → Sto → Option (Fl × Env × Sto)} (P : Nat → Env → Sto → Prop) (N : Nat) (hs : ∀ i ρ st, i < N → P i ρ st → ∃ x fl ρ' st', nxD J i st = some x ∧ B x ρ st = some (fl, ρ', st') ∧ (fl = .nx ∨ fl = .ct) ∧ P (i + 1) ρ' st') (he : ∀ ρ st, P N ρ st → stD J N st = true) :
    ∀ (r i : Nat) (ρ : Env) (st : Sto), i + r = N → P i ρ st → ∃ ρ' st', loopF J B r i ρ st = some (.nx, ρ', st') ∧ P N ρ' st'
  | 0, i, ρ, st, h, p => by
    have e : i = N := by omega
    subst e
    exact ⟨ρ, st, by show (if stD J i st then _ else _) = _; rw [if_pos (he ρ st p)], p⟩
  | r + 1, i, ρ, st, h, p => by
    obtain ⟨x, fl, ρ', st', e1, e2, hf, p'⟩ := hs i ρ st (by omega) p
    obtain ⟨ρ2, st2, e3, p2⟩ := for_ok P N hs he r (i + 1) ρ' st' (by omega) p'
    refine ⟨ρ2, st2, ?_, p2⟩
    show (nxD J i st).bind _ = _
    rw [e1]
    show (B x ρ st).bind _ = _
    rw [e2]
    rcases hf with rfl | rfl <;> exact e3
/-- a list comprehension; P: what holds of the store and the items so far -/
theorem comp_ok {J : IT} {B : D → Sto → Option (Option D × Sto)} (P : Nat → List D → Sto → Prop) (N : Nat) (hs : ∀ i acc st, i < N → P i acc st → ∃ x o st', nxD J i st = some x ∧ B x st = some (o, st') ∧ (o ≠ none → acc.length < sizeLine) ∧ P (i + 1) (acc ++ o.toList) st') (he : ∀ acc st, P N acc st → stD J N st = true) :
    ∀ (r i : Nat) (acc : List D) (st : Sto), i + r = N → P i acc st → ∃ acc' st', loopC J B r i acc st = some (acc', st') ∧ P N acc' st'
  | 0, i, acc, st, h, p => by
    have e : i = N := by omega
    subst e
    exact ⟨acc, st, by show (if stD J i st then _ else _) = _; rw [if_pos (he acc st p)], p⟩
  | r + 1, i, acc, st, h, p => by
    obtain ⟨x, o, st', e1, e2, hz, p'⟩ := hs i acc st (by omega) p
    obtain ⟨ρ2, st2, e3, p2⟩ := comp_ok P N hs he r (i + 1) _ st' (by omega) p'
    refine ⟨ρ2, st2, ?_, p2⟩
    show (nxD J i st).bind _ = _
    rw [e1]
    show (B x st).bind _ = _
    rw [e2]
    cases o with
    | none => simpa using e3
    | some y =>
      show (if acc.length < sizeLine then _ else none) = _
      rw [if_pos (hz (by simp))]
      exact e3
end Dz
end
section
set_option Elab.async false
set_option linter.all false
set_option maxRecDepth 100000
set_option maxHeartbeats 0
namespace K00
open Dz PySem
/-- is_kind(value) -/
def b0 : List S :=
 [.asg (.nm 1) (.lst [(.var 0)]),
 .whl (.val (.var 1))
  [.asg (.nm 2) (.mth .pop (.var 1) []),
   .ife (.not (.val (.isi (.var 2) .tuple)))
    [.ret (.bl false)]
    [],
   .expr (.mth .extend (.var 1) [(.var 2)])],
 .ret (.bl true)]
def d0 : DD := ⟨1, "is_kind", ["value"], ["value", "waiting", "kind"], false, ⟨1, 3, b0⟩⟩
/-- places_beneath(kind, place) -/
def b1 : List S :=
 [.asg (.nm 2) (.lst [(.var 1)]),
 .for_ .enum [(.var 0)] (.tp [(.nm 3), (.nm 4)])
  [.expr (.mth .extend (.var 2) [(.call 1 [(.var 4), (.bin .add (.var 1) (.tup [(.var 3)]))])])],
 .ret (.var 2)]
def d1 : DD := ⟨2, "places_beneath", ["kind", "place"], ["kind", "place", "found", "number", "argument"], false, ⟨2, 5, b1⟩⟩
/-- places(kind) -/
def b2 : List S :=
 [.ret (.bi .tuple [(.call 1 [(.var 0), (.tup [])])])]
def d2 : DD := ⟨3, "places", ["kind"], ["kind"], false, ⟨1, 1, b2⟩⟩
/-- kind_at(kind, place) -/
def b3 : List S :=
 [.for_ .one [(.var 1)] (.nm 2)
  [.ife (.not (.chn .le .lt (.int 0) (.var 2) (.bi .len [(.var 0)])))
    [.ret .non]
    [],
   .asg (.nm 0) (.idx (.var 0) (.var 2))],
 .ret (.var 0)]
def d3 : DD := ⟨4, "kind_at", ["kind", "place"], ["kind", "place", "number"], false, ⟨2, 3, b3⟩⟩
/-- depth(kind) -/
def b4 : List S :=
 [.ret (.ife (.val (.var 0)) (.bin .add (.int 1) (.gen .max .one [(.var 0)] (.nm 1) [] (.call 4 [(.var 1)]) [1])) (.int 0))]
def d4 : DD := ⟨5, "depth", ["kind"], ["kind", "argument"], true, ⟨1, 2, b4⟩⟩
/-- _law_cell(script, k) -/
def b5 : List S :=
 [.ife (.cmp .lt (.var 1) (.bi .len [(.var 0)]))
  [.ret (.idx (.var 0) (.var 1))]
  [],
 .ret (.int 0)]
def d5 : DD := ⟨7, "_law_cell", ["script", "k"], ["script", "k"], false, ⟨2, 2, b5⟩⟩
/-- _law_digits(script, first, last) -/
def b6 : List S :=
 [.asg (.nm 3) (.lst []),
 .for_ .rng2 [(.var 1), (.var 2)] (.nm 4)
  [.asg (.nm 5) (.call 5 [(.var 0), (.var 4)]),
   .ife (.cmp .lt (.var 5) (.int 0))
    [.asg (.nm 5) (.bin .sub (.int 1) (.bin .mul (.int 2) (.var 5)))]
    [],
   .ife (.cmp .ge (.var 5) (.bin .pow (.int 10) (.int 18)))
    [.for_ .rng1 [(.int 60)] (.nm 6)
      [.ife (.cmp .gt (.var 5) (.int 0))
        [.expr (.mth .append (.var 3) [(.bin .mod (.bi .int [(.var 5)]) (.int 1000))]),
         .asg (.nm 5) (.bin .fdiv (.var 5) (.int 1000))]
        []]]
    [.asg (.nm 7) (.bin .mod (.bi .int [(.bin .add (.bin .add (.bin .mul (.var 5) (.int 48271)) (.bin .mul (.var 4) (.int 69621))) (.int 11))]) (.int 2147483647)),
     .for_ .rng1 [(.int 12)] (.nm 6)
      [.asg (.nm 7) (.bin .mod (.bi .int [(.bin .add (.bin .add (.bin .mul (.var 7) (.int 16807)) (.bin .mul (.int 7) (.var 6))) (.int 1))]) (.int 2147483647)),
       .expr (.mth .append (.var 3) [(.bin .mod (.bi .int [(.bin .fdiv (.var 7) (.int 997))]) (.int 1000))])]]],
 .ret (.var 3)]
def d6 : DD := ⟨8, "_law_digits", ["script", "first", "last"], ["script", "first", "last", "digits", "k", "cell", "turn", "seed"], false, ⟨3, 8, b6⟩⟩
/-- _law_draw(box, many) -/
def b7 : List S :=
 [.asg (.nm 2) (.idx (.var 0) (.int 1)),
 .asub (.var 0) (.int 1) (.bin .add (.var 2) (.int 1)),
 .ife (.cmp .lt (.var 2) (.bi .len [(.idx (.var 0) (.int 0))]))
  [.ret (.bin .mod (.bi .int [(.idx (.idx (.var 0) (.int 0)) (.var 2))]) (.var 1))]
  [],
 .ret (.int 0)]
def d7 : DD := ⟨9, "_law_draw", ["box", "many"], ["box", "many", "at"], false, ⟨2, 3, b7⟩⟩
/-- _law_box(script, first, last) -/
def b8 : List S :=
 [.ret (.lst [(.call 6 [(.var 0), (.var 1), (.var 2)]), (.int 0)])]
def d8 : DD := ⟨10, "_law_box", ["script", "first", "last"], ["script", "first", "last"], false, ⟨3, 3, b8⟩⟩
/-- _law_same(actual, expected) -/
def b9 : List S :=
 [.ife (.val (.isi (.var 1) .tuple))
  [.ife (.or [(.not (.val (.isi (.var 0) .tuple))), (.cmp .ne (.bi .len [(.var 0)]) (.bi .len [(.var 1)]))])
    [.ret (.bl false)]
    [],
   .for_ .rng1 [(.bi .len [(.var 1)])] (.nm 2)
    [.ife (.not (.val (.call 9 [(.idx (.var 0) (.var 2)), (.idx (.var 1) (.var 2))])))
      [.ret (.bl false)]
      []],
   .ret (.bl true)]
  [],
 .ife (.cmp .is (.var 1) .non)
  [.ret (.cmp .is (.var 0) .non)]
  [],
 .ife (.val (.isi (.var 1) .bool))
  [.ret (.and [(.isi (.var 0) .bool), (.cmp .eq (.var 0) (.var 1))])]
  [],
 .ife (.val (.isi (.var 1) .int))
  [.ret (.and [(.isi (.var 0) .int), (.not (.isi (.var 0) .bool)), (.cmp .eq (.var 0) (.var 1))])]
  [],
 .ret (.and [(.isi (.var 0) .str), (.cmp .eq (.var 0) (.var 1))])]
def d9 : DD := ⟨11, "_law_same", ["actual", "expected"], ["actual", "expected", "k"], false, ⟨2, 3, b9⟩⟩
/-- _law_at(kind, place) -/
def b10 : List S :=
 [.for_ .one [(.var 1)] (.nm 2)
  [.ife (.cmp .ge (.var 2) (.bi .len [(.var 0)]))
    [.ret .non]
    [],
   .asg (.nm 0) (.idx (.var 0) (.var 2))],
 .ret (.var 0)]
def d10 : DD := ⟨12, "_law_at", ["kind", "place"], ["kind", "place", "k"], false, ⟨2, 3, b10⟩⟩
/-- _law_places(kind) -/
def b11 : List S :=
 [.asg (.nm 1) (.lst [(.tup [])]),
 .for_ .rng1 [(.bi .len [(.var 0)])] (.nm 2)
  [.asg (.nm 1) (.bin .add (.var 1) (.lc .one [(.call 11 [(.idx (.var 0) (.var 2))])] (.nm 3) [] (.bin .add (.tup [(.var 2)]) (.var 3)) [3]))],
 .ret (.var 1)]
def d11 : DD := ⟨13, "_law_places", ["kind"], ["kind", "rows", "k", "row"], false, ⟨1, 4, b11⟩⟩
/-- _law_kind_deep(box, deep, budget) -/
def b12 : List S :=
 [.asg (.nm 3) (.lst []),
 .ife (.cmp .gt (.var 1) (.int 0))
  [.for_ .rng1 [(.call 7 [(.var 0), (.int 5)])] (.nm 4)
    [.ife (.cmp .gt (.idx (.var 2) (.int 0)) (.int 0))
      [.asub (.var 2) (.int 0) (.bin .sub (.idx (.var 2) (.int 0)) (.int 1)),
       .expr (.mth .append (.var 3) [(.call 12 [(.var 0), (.bin .sub (.var 1) (.int 1)), (.var 2)])])]
      []]]
  [],
 .ret (.bi .tuple [(.var 3)])]
def d12 : DD := ⟨14, "_law_kind_deep", ["box", "deep", "budget"], ["box", "deep", "budget", "parts", "k"], false, ⟨3, 5, b12⟩⟩
/-- _law_is_kind(value) -/
def b13 : List S :=
 [.ife (.not (.val (.isi (.var 0) .tuple)))
  [.ret (.bl false)]
  [],
 .ret (.cmp .eq (.lc .one [(.var 0)] (.nm 1) [(.not (.val (.call 13 [(.var 1)])))] (.var 1) [1]) (.lst []))]
def d13 : DD := ⟨15, "_law_is_kind", ["value"], ["value", "part"], false, ⟨1, 2, b13⟩⟩
/-- _law_deep(kind) -/
def b14 : List S :=
 [.ret (.bi .max1 [(.bin .add (.lst [(.int 0)]) (.lc .one [(.var 0)] (.nm 1) [] (.bin .add (.int 1) (.call 14 [(.var 1)])) [1]))])]
def d14 : DD := ⟨16, "_law_deep", ["kind"], ["kind", "part"], false, ⟨1, 2, b14⟩⟩
/-- _law_spoilt_kind(box, value) -/
def b15 : List S :=
 [.ife (.and [(.val (.isi (.var 1) .tuple)), (.cmp .ne (.var 1) (.tup [])), (.cmp .gt (.call 7 [(.var 0), (.int 3)]) (.int 0))])
  [.asg (.nm 3) (.call 7 [(.var 0), (.bi .len [(.var 1)])]),
   .ret (.bin .add (.bin .add (.slT (.var 1) (.var 3)) (.tup [(.call 15 [(.var 0), (.idx (.var 1) (.var 3))])])) (.slF (.var 1) (.bin .add (.var 3) (.int 1))))]
  [],
 .asg (.nm 2) (.lst [(.bi .list [(.var 1)]), .non, (.int 0), (.int 1), (.bl true), (.str ""), (.str "o"), (.str "()"), (.lst [(.tup [])]), (.tup [(.var 1)]), (.tup [(.var 1), (.tup [])]), (.tup [(.tup []), .non]), (.tup [(.tup []), (.lst [])])]),
 .ret (.idx (.var 2) (.call 7 [(.var 0), (.bi .len [(.var 2)])]))]
def d15 : DD := ⟨17, "_law_spoilt_kind", ["box", "value"], ["box", "value", "menu", "k"], false, ⟨2, 4, b15⟩⟩
/-- _law_right(kind) -/
def b16 : List S :=
 [.asg (.nm 1) (.call 11 [(.var 0)]),
 .ife (.or [(.cmp .isn (.call 0 [(.var 0)]) (.bl true)), (.not (.val (.call 9 [(.call 2 [(.var 0)]), (.bi .tuple [(.var 1)])])))])
  [.ret (.bl false)]
  [],
 .ife (.not (.val (.call 9 [(.call 4 [(.var 0)]), (.call 14 [(.var 0)])])))
  [.ret (.bl false)]
  [],
 .for_ .one [(.var 1)] (.nm 2)
  [.asg (.nm 3) (.call 10 [(.var 0), (.var 2)]),
   .asg (.nm 4) (.bi .len [(.var 3)]),
   .ife (.not (.val (.call 9 [(.call 3 [(.var 0), (.var 2)]), (.var 3)])))
    [.ret (.bl false)]
    [],
   .ife (.or [(.cmp .isn (.call 3 [(.var 0), (.bin .add (.var 2) (.tup [(.var 4)]))]) .non), (.cmp .isn (.call 3 [(.var 0), (.bin .add (.var 2) (.tup [(.bin .add (.var 4) (.int 1)), (.int 0)]))]) .non)])
    [.ret (.bl false)]
    []],
 .ret (.bl true)]
def d16 : DD := ⟨18, "_law_right", ["kind"], ["kind", "rows", "place", "found", "many"], false, ⟨1, 5, b16⟩⟩
/-- law(script) -/
def b17 : List S :=
 [.asg (.nm 1) (.call 8 [(.var 0), (.int 0), (.int 62)]),
 .asg (.nm 2) (.lst []),
 .for_ .rng1 [(.int 5)] (.nm 3)
  [.asg (.nm 4) (.call 12 [(.var 1), (.call 7 [(.var 1), (.int 4)]), (.lst [(.call 7 [(.var 1), (.int 12)])])]),
   .expr (.mth .append (.var 2) [(.var 4)]),
   .ife (.not (.val (.call 16 [(.var 4)])))
    [.ret (.bl false)]
    [],
   .for_ .rng1 [(.int 3)] (.nm 7)
    [.asg (.nm 6) (.call 15 [(.var 1), (.var 4)]),
     .ife (.not (.val (.call 9 [(.call 0 [(.var 6)]), (.call 13 [(.var 6)])])))
      [.ret (.bl false)]
      []]],
 .for_ .one [(.var 2)] (.nm 4)
  [.ife (.not (.val (.call 16 [(.var 4)])))
    [.ret (.bl false)]
    []],
 .asg (.nm 5) (.lst [(.idx (.var 2) (.int 0)), (.call 15 [(.var 1), (.idx (.var 2) (.int 1))]), (.idx (.var 2) (.int 2))]),
 .for_ .rng1 [(.bin .add (.int 25) (.call 7 [(.var 1), (.int 10)]))] (.nm 3)
  [.asg (.nm 8) (.call 7 [(.var 1), (.int 3)]),
   .asg (.nm 5) (.lc .one [(.var 5)] (.nm 6) [] (.idx (.lst [(.tup [(.var 6)]), (.tup [(.tup []), (.var 6)]), (.tup [(.var 6), (.tup []), (.tup [(.tup [])])])]) (.var 8)) [6])],
 .for_ .one [(.bin .add (.var 5) (.lst [(.bin .add (.bin .mul (.idx (.var 2) (.int 3)) (.int 25)) (.bin .mul (.tup [(.tup [])]) (.int 50))), (.bin .add (.bin .mul (.tup [(.idx (.var 2) (.int 4))]) (.int 50)) (.tup [.non]))]))] (.nm 6)
  [.ife (.not (.val (.call 9 [(.call 0 [(.var 6)]), (.call 13 [(.var 6)])])))
    [.ret (.bl false)]
    []],
 .ret (.and [(.cmp .is (.call 0 [(.lst [])]) (.bl false)), (.cmp .is (.call 0 [.non]) (.bl false)), (.cmp .is (.call 0 [(.int 0)]) (.bl false)), (.cmp .is (.call 0 [(.str "")]) (.bl false))])]
def d17 : DD := ⟨19, "law", ["script"], ["script", "box", "found", "turn", "kind", "great", "value", "step", "pick"], false, ⟨1, 9, b17⟩⟩
def defs : List DD := [d0, d1, d2, d3, d4, d5, d6, d7, d8, d9, d10, d11, d12, d13, d14, d15, d16, d17]
abbrev Pr : Program := PySem.Challenge.pw_sensehouse_k00_kinds_and_their_places
def names : List Str := defs.map (·.x)
theorem ok0 : defs.all (fun d => d.ok Pr names) = true := by decide +kernel
end K00
end
section
set_option Elab.async false
set_option linter.all false
set_option maxRecDepth 100000
set_option maxHeartbeats 1000000
namespace K00
open Dz PySem
abbrev FS : List Df := defs.map (·.df)
def gl : Str → Option D := fun _ => none
abbrev cl (n f : Nat) (xs : List D) (st : Sto) : Option (D × Sto) := callD FS gl n f xs st
theorem cl_run {n f : Nat} {d : Df} {xs : List D} {st : Sto} (hd : FS[f]? = some d) (hl : xs.length = d.ar) : callD FS gl n f xs st = (exs d.body gl (calls FS gl n) (xs.map some ++ List.replicate (d.sl - xs.length) none) st).bind fun q => match q with
    | (.nx, _, st') => some (.non, st')
    | (.rt v, _, st') => some (v, st')
    | _ => none := callD_run hd hl
theorem ex_forE (ik : Ik) (src : List E) (tg : Tg) (b : List S) (g : Str → Option D) (C : List CS) (ρ : Dz.Env) (st : Sto) : ex (.for_ ik src tg b) g C ρ st = (evs src g C ρ st).bind fun r => (itD ik r.1 r.2).bind fun J =>
      loopF J.1 (fun x ρ s => (asgD tg x s ρ).bind fun ρ1 => exs b g C ρ1 s) J.2 0 ρ r.2 := rfl
theorem ev_genE (cn : Cn) (ik : Ik) (src : List E) (tg : Tg) (cnd : List T) (elt : E) (own : List Nat) (g : Str → Option D) (F : CS) (C : List CS) (ρ : Dz.Env) (st : Sto) : ev (.gen cn ik src tg cnd elt own) g (F :: C) ρ st = (evs src g (F :: C) ρ st).bind fun r => (itD ik r.1 r.2).bind fun J =>
      (loopG cn J.1 (fun x s => (asgD tg x s (wipeD ρ own)).bind fun ρ1 => (evTA cnd g C ρ1 s).bind fun c => if c.1 then (ev elt g C ρ1 c.2).map fun y => (some y.1, y.2) else some (none, c.2)) J.2 0 (con0 cn) r.2) := rfl
theorem calls_succ (fs : List Df) (g : Str → Option D) (n : Nat) : calls fs g (n + 1) = callD fs g n :: calls fs g n := rfl
theorem exs_step {s : S} {ss : List S} {g : Str → Option D} {C : List CS} {ρ ρ' : Dz.Env} {st st' : Sto} {r : Option (Fl × Dz.Env × Sto)} (h : ex s g C ρ st = some (.nx, ρ', st')) (h2 : exs ss g C ρ' st' = r) : exs (s :: ss) g C ρ st = r := by
  rw [exs_cons, h]; exact h2
theorem exs_ret {s : S} {ss : List S} {g : Str → Option D} {C : List CS} {ρ ρ' : Dz.Env} {st st' : Sto} {v : D} (h : ex s g C ρ st = some (.rt v, ρ', st')) : exs (s :: ss) g C ρ st = some (.rt v, ρ', st') := by
  rw [exs_cons, h]; rfl
theorem cl_ret {n f : Nat} {d : Df} {xs : List D} {st st' : Sto} {ρ' : Dz.Env} {v : D} (hd : FS[f]? = some d) (hl : xs.length = d.ar) (h : exs d.body gl (calls FS gl n) (xs.map some ++ List.replicate (d.sl - xs.length) none) st = some (.rt v, ρ', st')) : callD FS gl n f xs st = some (v, st') := by
  rw [cl_run hd hl, h]; rfl
theorem popM (st J : Sto) (ds : List D) (d : D) : mtD .pop (.ref st.length) [] (st ++ .lst (ds ++ [d]) :: J) = some (d, st ++ .lst ds :: J) := by
  rw [mt_pop (lst_mid st _ J), set_mid]
theorem extM (st J : Sto) (ds zs : List D) (hz : ds.length + zs.length ≤ sizeLine) : mtD .extend (.ref st.length) [.tup zs] (st ++ .lst ds :: J) = some (.non, st ++ .lst (ds ++ zs) :: J) := by
  rw [mt_extT zs (lst_mid st _ J) hz, set_mid]
theorem appM (st J : Sto) (ds : List D) (y : D) (hz : ds.length < sizeLine) : mtD .append (.ref st.length) [y] (st ++ .lst ds :: J) = some (.non, st ++ .lst (ds ++ [y]) :: J) := by
  rw [mt_append y (lst_mid st _ J) hz, set_mid]
/-! ### loops over numbers, tuples, lists -/
section
variable {g : Str → Option D} {C : List CS} {ρ : Dz.Env} {st st0 : Sto}
theorem ex_for {ik : Ik} {src : List E} {tg : Tg} {b : List S} {xs : List D} {J : IT} {N : Nat} (hd : evs src g C ρ st = some (xs, st0)) (hi : itD ik xs st0 = some (J, N)) (P : Nat → Dz.Env → Sto → Prop) (h0 : P 0 ρ st0)
    (hs : ∀ i ρ st, i < N → P i ρ st → ∃ x fl ρ' st', nxD J i st = some x ∧ ((asgD tg x st ρ).bind fun ρ1 => exs b g C ρ1 st) = some (fl, ρ', st') ∧ (fl = .nx ∨ fl = .ct) ∧ P (i + 1) ρ' st') (he : ∀ ρ st, P N ρ st → stD J N st = true) :
    ∃ ρ' st', ex (.for_ ik src tg b) g C ρ st = some (.nx, ρ', st') ∧ P N ρ' st' := by
  obtain ⟨ρ', st', e, p⟩ := for_ok (J := J) (B := fun x ρ s => (asgD tg x s ρ).bind fun ρ1 => exs b g C ρ1 s) P N hs he N 0 ρ st0 (by omega) h0
  refine ⟨ρ', st', ?_, p⟩
  show (evs src g C ρ st).bind _ = _
  rw [hd]
  show (itD ik xs st0).bind _ = _
  rw [hi]
  exact e
theorem ex_rng {N : Nat} {src : E} {tg : Tg} {b : List S} (hd : ev src g C ρ st = some (.int N, st0)) (hN : N < 2 ^ 62) (P : Nat → Dz.Env → Sto → Prop) (h0 : P 0 ρ st0)
    (hs : ∀ i ρ st, i < N → P i ρ st → ∃ fl ρ' st', ((asgD tg (.int (i : Nat)) st ρ).bind fun ρ1 => exs b g C ρ1 st) = some (fl, ρ', st') ∧ (fl = .nx ∨ fl = .ct) ∧ P (i + 1) ρ' st') :
    ∃ ρ' st', ex (.for_ .rng1 [src] tg b) g C ρ st = some (.nx, ρ', st') ∧ P N ρ' st' := by
  refine ex_for (J := .rng 0 1 N) (N := N) (xs := [.int N]) (st0 := st0) (by simp [hd]) ?_ P h0 ?_ (fun _ _ _ => by simp [stD])
  · have : inR (N : Int) = true := by simp [inR]; omega
    simp [itD, this]
  · intro i ρ st hi p
    obtain ⟨fl, ρ', st', h1, h2, h3⟩ := hs i ρ st hi p
    exact ⟨.int (i : Nat), fl, ρ', st', by simp [nxD, hi], h1, h2, h3⟩
theorem ev_comp {ik : Ik} {src : List E} {tg : Tg} {cnd : List T} {elt : E} {own : List Nat} {xs : List D} {J : IT} {N : Nat} (hd : evs src g C ρ st = some (xs, st0)) (hi : itD ik xs st0 = some (J, N)) (P : Nat → List D → Sto → Prop) (h0 : P 0 [] st0)
    (hs : ∀ i acc st, i < N → P i acc st → ∃ x o st', nxD J i st = some x ∧ ((asgD tg x st (wipeD ρ own)).bind fun ρ1 => (evTA cnd g C ρ1 st).bind fun c => if c.1 then (ev elt g C ρ1 c.2).map fun y => (some y.1, y.2) else some (none, c.2)) = some (o, st') ∧ (o ≠ none → acc.length < sizeLine) ∧ P (i + 1) (acc ++ o.toList) st')
    (he : ∀ acc st, P N acc st → stD J N st = true) :
    ∃ acc st', ev (.lc ik src tg cnd elt own) g C ρ st = some (.ref st'.length, st' ++ [.lst acc]) ∧ P N acc st' := by
  obtain ⟨acc, st', e, p⟩ := comp_ok (J := J) (B := fun x s => (asgD tg x s (wipeD ρ own)).bind fun ρ1 => (evTA cnd g C ρ1 s).bind fun c => if c.1 then (ev elt g C ρ1 c.2).map fun y => (some y.1, y.2) else some (none, c.2)) P N hs he N 0 [] st0 (by omega) h0
  refine ⟨acc, st', ?_, p⟩
  show (evs src g C ρ st).bind _ = _
  rw [hd]
  show (itD ik xs st0).bind _ = _
  rw [hi]
  show (loopC _ _ _ _ _ _).map _ = _
  rw [e]
  rfl
end
/-! ### values -/
mutual
def isK : D → Bool
  | .tup ds => isKs ds
  | _ => false
def isKs : List D → Bool
  | [] => true
  | d :: ds => isK d && isKs ds
end
mutual
def sz : D → Nat
  | .tup ds => 1 + szs ds
  | _ => 1
def szs : List D → Nat
  | [] => 0
  | d :: ds => sz d + szs ds
end
mutual
def hgt : D → Nat
  | .tup ds => hgts ds
  | _ => 0
def hgts : List D → Nat
  | [] => 0
  | d :: ds => max (1 + hgt d) (hgts ds)
end
mutual
/-- its lists stand in the store -/
def inS (st : Sto) : D → Prop
  | .tup ds => inSs st ds
  | .ref k => (lstOf st k).isSome = true
  | .fz _ => False
  | _ => True
def inSs (st : Sto) : List D → Prop
  | [] => True
  | d :: ds => inS st d ∧ inSs st ds
end
theorem szs_append : ∀ (a b : List D), szs (a ++ b) = szs a + szs b
  | [], b => by simp [szs]
  | x :: a, b => by simp only [List.cons_append, szs, szs_append a b]; omega
theorem isKs_append : ∀ (a b : List D), isKs (a ++ b) = (isKs a && isKs b)
  | [], b => by simp [isKs]
  | x :: a, b => by simp only [List.cons_append, isKs, isKs_append a b, Bool.and_assoc]
theorem hgts_append : ∀ (a b : List D), hgts (a ++ b) = max (hgts a) (hgts b)
  | [], b => by simp [hgts]
  | x :: a, b => by simp only [List.cons_append, hgts, hgts_append a b]; omega
theorem inSs_append {st : Sto} : ∀ (a b : List D), inSs st (a ++ b) ↔ inSs st a ∧ inSs st b
  | [], b => by simp [inSs]
  | x :: a, b => by simp only [List.cons_append, inSs, inSs_append a b, and_assoc]
theorem sz_pos (x : D) : 1 ≤ sz x := by cases x <;> simp [sz]
theorem len_szs : ∀ a : List D, a.length ≤ szs a
  | [] => Nat.le_refl _
  | x :: a => by
    have := len_szs a
    have h := sz_pos x
    simp only [List.length_cons, szs]; omega
theorem isKs_mem : ∀ {ds : List D} {d : D}, isKs ds = true → d ∈ ds → isK d = true
  | x :: ds, d, h, m => by
    simp only [isKs, Bool.and_eq_true] at h
    cases m with
    | head => exact h.1
    | tail _ m => exact isKs_mem h.2 m
theorem hgts_mem : ∀ {ds : List D} {d : D}, d ∈ ds → 1 + hgt d ≤ hgts ds
  | x :: ds, d, m => by
    simp only [hgts]
    cases m with
    | head => omega
    | tail _ m => have := hgts_mem m; omega
theorem szs_mem : ∀ {ds : List D} {d : D}, d ∈ ds → sz d ≤ szs ds
  | x :: ds, d, m => by
    simp only [szs]
    cases m with
    | head => omega
    | tail _ m => have := szs_mem m; omega
theorem inSs_mem {st : Sto} : ∀ {ds : List D} {d : D}, inSs st ds → d ∈ ds → inS st d
  | x :: ds, d, h, m => by
    cases m with
    | head => exact h.1
    | tail _ m => exact inSs_mem h.2 m
theorem isK_tup {v : D} (h : isK v = true) : ∃ ds, v = .tup ds ∧ isKs ds = true := by
  cases v <;> first | exact ⟨_, rfl, h⟩ | simp [isK] at h
mutual
theorem inS_K (st : Sto) : ∀ d : D, isK d = true → inS st d
  | .tup ds, h => inSs_K st ds h
  | .non, h | .bl _, h | .int _, h | .str _, h | .fz _, h | .ref _, h => by simp [isK] at h
theorem inSs_K (st : Sto) : ∀ ds : List D, isKs ds = true → inSs st ds
  | [], _ => trivial
  | d :: ds, h => by
    simp only [isKs, Bool.and_eq_true] at h
    exact ⟨inS_K st d h.1, inSs_K st ds h.2⟩
end
/-! ### is_kind -/
def tupB : D → Bool
  | .tup _ => true
  | _ => false
theorem isi_tup {st J : Sto} {x : D} (h : inS st x) : isiD x .tuple (st ++ J) = some (tupB x) := by
  cases x with
  | ref k =>
    obtain ⟨ds, e⟩ := Option.isSome_iff_exists.mp h
    show (lstOf (st ++ J) k).map (fun _ => false) = _
    rw [lst_old e]; rfl
  | fz => exact h.elim
  | _ => rfl
theorem kind_loop (C : List CS) (v : D) (st : Sto) : ∀ (N : Nat) (ws : List D) (fuel : Nat) (x : Option D), szs ws ≤ N → N < fuel → szs ws ≤ 1000000 → inSs st ws →
    ∃ ρ' ws', loopW (fun ρ s => evT (.val (.var 1)) gl C ρ s) (fun ρ s => exs [.asg (.nm 2) (.mth .pop (.var 1) []), .ife (.not (.val (.isi (.var 2) .tuple))) [.ret (.bl false)] [], .expr (.mth .extend (.var 1) [(.var 2)])] gl C ρ s) fuel [some v, some (.ref st.length), x] (st ++ [.lst ws]) =
      some (if isKs ws then .nx else .rt (.bl false), ρ', st ++ [.lst ws']) := by
  intro N
  induction N with
  | zero =>
    intro ws fuel x h1 h2 h3 h4
    have : ws = [] := by
      have := len_szs ws
      exact List.eq_nil_of_length_eq_zero (by omega)
    subst this
    cases fuel with
    | zero => omega
    | succ r =>
      exact ⟨[some v, some (.ref st.length), x], [], by simp [loopW, isKs]⟩
  | succ N ih =>
    intro ws fuel x h1 h2 h3 h4
    cases fuel with
    | zero => omega
    | succ r =>
      rcases List.eq_nil_or_concat ws with rfl | ⟨init, d, rfl⟩
      · exact ⟨[some v, some (.ref st.length), x], [], by simp [loopW, isKs]⟩
      · rw [List.concat_eq_append] at *
        rw [inSs_append] at h4
        rw [szs_append] at h1 h3
        obtain ⟨h4, hd, _⟩ := h4
        simp only [szs, Nat.add_zero] at h1 h3
        have hi := isi_tup (J := [.lst init]) hd
        by_cases ht : ∃ ds, d = .tup ds
        · obtain ⟨ds, rfl⟩ := ht
          simp only [sz] at h1 h3
          have hs : szs (init ++ ds) ≤ N := by rw [szs_append]; omega
          have hl1 := len_szs init
          have hl2 := len_szs ds
          obtain ⟨ρ', ws', e⟩ := ih (init ++ ds) r (some (.tup ds)) hs (by omega) (by rw [szs_append]; omega) ((inSs_append _ _).mpr ⟨h4, hd⟩)
          have hz : init.length + ds.length ≤ sizeLine := by rw [sizeLine_eq]; omega
          refine ⟨ρ', ws', ?_⟩
          rw [isKs_append] at e ⊢
          simp only [isKs, isK, Bool.and_true] at e ⊢
          rw [← e]
          simp [loopW, popM, extM, hi, tupB, hz]
        · have hk : isK d = false ∧ tupB d = false := by cases d <;> first | exact ⟨rfl, rfl⟩ | exact absurd ⟨_, rfl⟩ ht
          refine ⟨[some v, some (.ref st.length), some d], init, ?_⟩
          simp [loopW, popM, hi, hk, isKs_append, isKs]
theorem run_is_kind (n : Nat) (v : D) (st : Sto) (h1 : sz v ≤ 1000000) (h2 : inS st v) : ∃ J, callD FS gl n 0 [v] st = some (.bl (isK v), st ++ J) := by
  obtain ⟨ρ', ws', e⟩ := kind_loop (calls FS gl n) v st 1000000 [v] KW none (by simpa [szs] using h1) (by unfold KW; omega) (by simpa [szs] using h1) ⟨h2, trivial⟩
  refine ⟨[.lst ws'], ?_⟩
  simp only [isKs, Bool.and_true] at e
  have e' : ex (.whl (.val (.var 1)) [.asg (.nm 2) (.mth .pop (.var 1) []), .ife (.not (.val (.isi (.var 2) .tuple))) [.ret (.bl false)] [], .expr (.mth .extend (.var 1) [(.var 2)])]) gl (calls FS gl n) [some v, some (.ref st.length), none] (st ++ [.lst [v]]) = _ := e
  rw [cl_run (d := d0.df) rfl rfl]
  have hz : 1 ≤ sizeLine := by rw [sizeLine_eq]; omega
  cases h : isK v <;> rw [h] at e' <;> simp [d0, b0, hz, e']
end K00
end
section
set_option Elab.async false
set_option linter.all false
set_option maxRecDepth 100000
set_option maxHeartbeats 1000000
namespace K00
open Dz PySem
def enc (p : List Nat) : D := .tup (p.map fun k => .int (k : Nat))
theorem enc_cons {i : Nat} {q : List Nat} {st : Sto} (h : 1 + q.length ≤ sizeLine) : binD .add (.tup [.int (i : Nat)]) (enc q) st = some (enc (i :: q), st) := by
  simp only [enc, bin_addT, List.length_map, List.length_cons, List.length_nil, Nat.zero_add, if_pos h]
  rfl
theorem enc_snoc {i : Nat} {q : List Nat} {st : Sto} (h : q.length + 1 ≤ sizeLine) : binD .add (enc q) (.tup [.int (i : Nat)]) st = some (enc (q ++ [i]), st) := by
  simp only [enc, bin_addT, List.length_map, List.length_cons, List.length_nil, Nat.zero_add, if_pos h]
  simp
mutual
def plc : D → List Nat → List (List Nat)
  | .tup ds, p => p :: plcs ds 0 p
  | _, p => [p]
def plcs : List D → Nat → List Nat → List (List Nat)
  | [], _, _ => []
  | d :: ds, i, p => plc d (p ++ [i]) ++ plcs ds (i + 1) p
end
theorem plcs_append : ∀ (a b : List D) (i : Nat) (p : List Nat), plcs (a ++ b) i p = plcs a i p ++ plcs b (i + a.length) p
  | [], b, i, p => by simp [plcs]
  | x :: a, b, i, p => by
    simp only [List.cons_append, plcs, plcs_append a b, List.append_assoc, List.length_cons]
    congr 3; omega
mutual
theorem plc_len : ∀ (d : D) (p : List Nat), (plc d p).length = sz d
  | .tup ds, p => by simp only [plc, sz, List.length_cons, plcs_len ds]; omega
  | .non, _ | .bl _, _ | .int _, _ | .str _, _ | .fz _, _ | .ref _, _ => rfl
theorem plcs_len : ∀ (ds : List D) (i : Nat) (p : List Nat), (plcs ds i p).length = szs ds
  | [], _, _ => rfl
  | d :: ds, i, p => by simp only [plcs, szs, List.length_append, plc_len d, plcs_len ds]
end
mutual
theorem plc_pre : ∀ (d : D) (q p : List Nat), plc d (q ++ p) = (plc d p).map (q ++ ·)
  | .tup ds, q, p => by simp only [plc, List.map_cons, plcs_pre ds]
  | .non, _, _ | .bl _, _, _ | .int _, _, _ | .str _, _, _ | .fz _, _, _ | .ref _, _, _ => rfl
theorem plcs_pre : ∀ (ds : List D) (i : Nat) (q p : List Nat), plcs ds i (q ++ p) = (plcs ds i p).map (q ++ ·)
  | [], _, _, _ => rfl
  | d :: ds, i, q, p => by simp only [plcs, List.map_append, List.append_assoc, plc_pre d, plcs_pre ds]
end
theorem take_one {ds : List D} {i : Nat} {x : D} (h : ds[i]? = some x) : ds.take (i + 1) = ds.take i ++ [x] := by
  rw [List.take_add_one, h]; rfl
theorem get_some {ds : List D} {i : Nat} (h : i < ds.length) : ∃ x, ds[i]? = some x ∧ x ∈ ds := ⟨ds[i], List.getElem?_eq_getElem h, List.getElem_mem h⟩
theorem szs_take (ds : List D) (i : Nat) : szs (ds.take i) ≤ szs ds := by
  have := szs_append (ds.take i) (ds.drop i)
  rw [List.take_append_drop] at this
  omega
mutual
theorem plc_ql : ∀ (d : D) (p q : List Nat), q ∈ plc d p → q.length ≤ p.length + hgt d
  | .tup ds, p, q, h => by
    simp only [plc, List.mem_cons] at h
    rcases h with rfl | h
    · omega
    · exact plcs_ql ds 0 p q h
  | .non, p, q, h | .bl _, p, q, h | .int _, p, q, h | .str _, p, q, h | .fz _, p, q, h | .ref _, p, q, h => by
    simp only [plc, List.mem_singleton] at h
    subst h; omega
theorem plcs_ql : ∀ (ds : List D) (i : Nat) (p q : List Nat), q ∈ plcs ds i p → q.length ≤ p.length + hgts ds
  | [], i, p, q, h => by cases h
  | d :: ds, i, p, q, h => by
    simp only [plcs, List.mem_append] at h
    simp only [hgts]
    rcases h with h | h
    · have := plc_ql d _ q h
      simp at this; omega
    · have := plcs_ql ds _ p q h
      omega
end
theorem run_beneath : ∀ (n : Nat) (v : D) (p : List Nat) (st : Sto), isK v = true → hgt v ≤ n → sz v ≤ 1000000 → p.length + n ≤ 1000000 →
    ∃ J, callD FS gl n 1 [v, enc p] st = some (.ref st.length, st ++ .lst ((plc v p).map enc) :: J) := by
  intro n
  induction n with
  | zero =>
    intro v p st hk hh hs hp
    obtain ⟨ds, rfl, hk⟩ := isK_tup hk
    cases ds with
    | cons d ds => simp only [hgt, hgts] at hh; omega
    | nil =>
      obtain ⟨ρ', st', e, rfl, rfl⟩ := ex_for (g := gl) (C := calls FS gl 0) (tg := .tp [.nm 3, .nm 4]) (b := [.expr (.mth .extend (.var 2) [(.call 1 [(.var 4), (.bin .add (.var 1) (.tup [(.var 3)]))])])])
        (ik := .enum) (src := [.var 0]) (ρ := [some (.tup []), some (enc p), some (.ref st.length), none, none]) (st := st ++ [.lst [enc p]]) (N := 0) rfl rfl (fun _ ρ s => s = st ++ [.lst [enc p]] ∧ ρ = [some (.tup []), some (enc p), some (.ref st.length), none, none]) ⟨rfl, rfl⟩ (fun i _ _ h => by omega) (fun _ _ _ => rfl)
      refine ⟨[], ?_⟩
      rw [cl_run (d := d1.df) rfl rfl]
      have hz : 1 ≤ sizeLine := by rw [sizeLine_eq]; omega
      simp [d1, b1, hz, e, plc, plcs]
  | succ n ih =>
    intro v p st hk hh hs hp
    obtain ⟨ds, rfl, hk⟩ := isK_tup hk
    have hz : 1 ≤ sizeLine := by rw [sizeLine_eq]; omega
    simp only [hgt, sz] at hh hs
    obtain ⟨ρ', st', e, J, x, y, rfl, rfl⟩ := ex_for (g := gl) (C := calls FS gl (n + 1)) (tg := .tp [.nm 3, .nm 4]) (b := [.expr (.mth .extend (.var 2) [(.call 1 [(.var 4), (.bin .add (.var 1) (.tup [(.var 3)]))])])])
        (ik := .enum) (src := [.var 0]) (ρ := [some (.tup ds), some (enc p), some (.ref st.length), none, none]) (st := st ++ [.lst [enc p]]) (J := .enT ds) (N := ds.length) (xs := [.tup ds]) (st0 := st ++ [.lst [enc p]]) rfl rfl
        (fun i ρ s => ∃ J x y, s = st ++ .lst ((p :: plcs (ds.take i) 0 p).map enc) :: J ∧ ρ = [some (.tup ds), some (enc p), some (.ref st.length), x, y]) ⟨[], none, none, by simp [plcs], rfl⟩ (by
          rintro i ρ s hi ⟨J, x, y, rfl, rfl⟩
          obtain ⟨d, e1, m⟩ := get_some hi
          have h1 := hgts_mem m
          have h2 := szs_mem m
          obtain ⟨J2, e2⟩ := ih d (p ++ [i]) (st ++ .lst ((p :: plcs (ds.take i) 0 p).map enc) :: J) (isKs_mem hk m) (by omega) (by omega) (by simp; omega)
          have ez : p.length + 1 ≤ sizeLine := by rw [sizeLine_eq]; omega
          have e4 : (plcs (ds.take i) 0 p).length + 1 + (plc d (p ++ [i])).length ≤ sizeLine := by
            rw [plc_len, plcs_len, sizeLine_eq]
            have := szs_take ds i
            omega
          refine ⟨.tup [.int (i : Nat), d], .nx, [some (.tup ds), some (enc p), some (.ref st.length), some (.int (i : Nat)), some d], st ++ .lst ((p :: plcs (ds.take (i + 1)) 0 p).map enc) :: (J ++ .lst ((plc d (p ++ [i])).map enc) :: J2), ?_, ?_, .inl rfl, ?_⟩
          · simp [nxD, pair2, e1]
          · have e5 := mt_extR (st := st ++ O.lst ((p :: plcs (ds.take i) 0 p).map enc) :: J ++ O.lst ((plc d (p ++ [i])).map enc) :: J2) (k := st.length) (j := (st ++ O.lst ((p :: plcs (ds.take i) 0 p).map enc) :: J).length) (ds := (p :: plcs (ds.take i) 0 p).map enc) (zs := (plc d (p ++ [i])).map enc) (by simp) (by rw [lst_mid]) (by simp) (by simpa using e4)
            have e6 : (st ++ O.lst ((p :: plcs (ds.take i) 0 p).map enc) :: J ++ O.lst ((plc d (p ++ [i])).map enc) :: J2).set st.length (.lst ((p :: plcs (ds.take i) 0 p).map enc ++ (plc d (p ++ [i])).map enc)) = st ++ .lst ((p :: plcs (ds.take (i + 1)) 0 p).map enc) :: (J ++ .lst ((plc d (p ++ [i])).map enc) :: J2) := by
              simp [take_one e1, plcs_append, plcs, Nat.min_eq_left (Nat.le_of_lt hi)]
            rw [e6] at e5
            have e7 := enc_snoc (i := i) (st := st ++ O.lst ((p :: plcs (ds.take i) 0 p).map enc) :: J) ez
            have e8 : isL (.ref st.length) (st ++ O.lst ((p :: plcs (ds.take i) 0 p).map enc) :: J) = true := by simp
            generalize st ++ O.lst ((p :: plcs (ds.take i) 0 p).map enc) :: J = s1 at e2 e5 e7 e8 ⊢
            simp [-isL_ref, hz, e7, e2, e8, e5]
          · exact ⟨_, _, _, rfl, rfl⟩) (by
          rintro ρ s ⟨J, x, y, rfl, rfl⟩
          simp [stD])
    refine ⟨J, ?_⟩
    rw [cl_run (d := d1.df) rfl rfl]
    simp [d1, b1, hz, e, plc]
theorem run_places (n : Nat) (v : D) (st : Sto) (hk : isK v = true) (hh : hgt v ≤ n) (hs : sz v ≤ 1000000) (hn : n ≤ 1000000) :
    ∃ J, callD FS gl (n + 1) 2 [v] st = some (.tup ((plc v []).map enc), st ++ J) := by
  obtain ⟨J, e⟩ := run_beneath n v [] st hk hh hs (by simpa using hn)
  refine ⟨.lst ((plc v []).map enc) :: J, ?_⟩
  rw [cl_run (d := d2.df) rfl rfl]
  have e0 : (.tup [] : D) = enc [] := rfl
  have hz : 0 ≤ sizeLine := Nat.zero_le _
  simp [d2, b2, hz]
  rw [e0, e]
  simp
end K00
end
section
set_option Elab.async false
set_option linter.all false
set_option maxRecDepth 100000
set_option maxHeartbeats 1000000
namespace K00
open Dz PySem
theorem run_law_places : ∀ (n : Nat) (v : D) (st : Sto), isK v = true → hgt v ≤ n → sz v ≤ 1000000 → n ≤ 1000000 →
    ∃ J k, callD FS gl n 11 [v] st = some (.ref k, st ++ J) ∧ lstOf (st ++ J) k = some ((plc v []).map enc) := by
  intro n
  induction n using Nat.strongRecOn with
  | _ n ih =>
    intro v st hk hh hs hp
    obtain ⟨ds, rfl, hk⟩ := isK_tup hk
    have hz : 1 ≤ sizeLine := by rw [sizeLine_eq]; omega
    simp only [hgt, sz] at hh hs
    have hlen := len_szs ds
    obtain ⟨ρ', st', e, J, k, x, y, rfl, hl, rfl⟩ := ex_rng (g := gl) (C := calls FS gl n) (tg := .nm 2) (b := [.asg (.nm 1) (.bin .add (.var 1) (.lc .one [(.call 11 [(.idx (.var 0) (.var 2))])] (.nm 3) [] (.bin .add (.tup [(.var 2)]) (.var 3)) [3]))])
        (src := .bi .len [.var 0]) (ρ := [some (.tup ds), some (.ref st.length), none, none]) (st := st ++ [.lst [enc []]]) (N := ds.length) (by simp) (by omega)
        (fun i ρ s => ∃ J k x y, s = st ++ J ∧ lstOf s k = some (([] :: plcs (ds.take i) 0 []).map enc) ∧ ρ = [some (.tup ds), some (.ref k), x, y]) ⟨[.lst [enc []]], st.length, none, none, rfl, by simp [plcs], rfl⟩ (by
          rintro i ρ s hi ⟨J, k, x, y, rfl, hl, rfl⟩
          obtain ⟨d, e1, m⟩ := get_some hi
          have h1 := hgts_mem m
          have h2 := szs_mem m
          obtain ⟨n, rfl⟩ : ∃ m, n = m + 1 := ⟨n - 1, by omega⟩
          obtain ⟨J2, k2, e2, hl2⟩ := ih n (by omega) d (st ++ J) (isKs_mem hk m) (by omega) (by omega) (by omega)
          have ez : ∀ q ∈ plc d [], 1 + q.length ≤ sizeLine := by
            intro q hq
            have := plc_ql d [] q hq
            rw [sizeLine_eq]
            simp at this
            omega
          have ea : L2.atI ds (i : Int) = some d := L2.atI_nat e1
          obtain ⟨acc, s3, e3, rfl, J3, rfl⟩ := ev_comp (g := gl) (C := calls FS gl (n + 1)) (ik := .one) (src := [(.call 11 [(.idx (.var 0) (.var 2))])]) (tg := .nm 3) (cnd := []) (elt := .bin .add (.tup [(.var 2)]) (.var 3)) (own := [3])
            (ρ := [some (.tup ds), some (.ref k), some (.int (i : Nat)), y]) (st := st ++ J) (st0 := st ++ J ++ J2) (xs := [.ref k2]) (J := .lst k2) (N := (plc d []).length) (by simp [ea, e2]) (by simp only [itD, hl2]; simp)
            (fun j acc s => acc = (((plc d []).take j).map fun q => enc (i :: q)) ∧ ∃ J3, s = st ++ J ++ J2 ++ J3) ⟨by simp, [], by simp⟩ (by
              rintro j acc s hj ⟨rfl, J3, rfl⟩
              refine ⟨enc ((plc d [])[j]), some (enc (i :: (plc d [])[j])), _, ?_, ?_, ?_, ?_, J3, rfl⟩
              · simp only [nxD, lst_old hl2]; simp [hj]
              · have := ez _ (List.getElem_mem hj)
                simp [hz, enc_cons this]
              · intro _
                rw [sizeLine_eq]
                have := plc_len d []
                simp; omega
              · rw [List.take_add_one, List.getElem?_eq_getElem hj, List.map_append]
                rfl) (by
              rintro acc s ⟨_, J3, rfl⟩
              simp only [stD, lst_old hl2]; simp)
          simp only [List.take_length] at e3
          have hl4 : lstOf (st ++ J ++ J2 ++ J3 ++ [O.lst ((plc d []).map fun q => enc (i :: q))]) k = some (([] :: plcs (ds.take i) 0 []).map enc) := by
            rw [List.append_assoc, List.append_assoc]; exact lst_old hl
          have hl5 : lstOf (st ++ J ++ J2 ++ J3 ++ [O.lst ((plc d []).map fun q => enc (i :: q))]) (st ++ J ++ J2 ++ J3).length = some ((plc d []).map fun q => enc (i :: q)) := lst_mid _ _ _
          have hz5 : (([] :: plcs (ds.take i) 0 []).map enc).length + ((plc d []).map fun q => enc (i :: q)).length ≤ sizeLine := by
            simp only [List.length_map, List.length_cons]
            rw [plc_len, plcs_len, sizeLine_eq]
            have := szs_take ds i
            omega
          have hq : (([] :: plcs (ds.take i) 0 []).map enc) ++ ((plc d []).map fun q => enc (i :: q)) = ([] :: plcs (ds.take (i + 1)) 0 []).map enc := by
            have e6 : plc d ([i]) = (plc d []).map ([i] ++ ·) := plc_pre d [i] []
            rw [take_one e1, plcs_append]
            simp [plcs, Nat.min_eq_left (Nat.le_of_lt hi), e6]
          refine ⟨.nx, [some (.tup ds), some (.ref (st ++ J ++ J2 ++ J3 ++ [O.lst ((plc d []).map fun q => enc (i :: q))]).length), some (.int (i : Nat)), y], st ++ J ++ J2 ++ J3 ++ [O.lst ((plc d []).map fun q => enc (i :: q))] ++ [O.lst (([] :: plcs (ds.take (i + 1)) 0 []).map enc)], ?_, .inl rfl, ?_⟩
          · simp only [asgD_nm, List.length_cons, List.length_nil]
            simp only [Nat.reduceAdd, Nat.reduceLT, if_true, Option.bind_some, List.set_cons_succ, List.set_cons_zero, exs_cons, exs_nil, ex_asg, ev_bin, ev_var0, ev_varS, e3, binD, hl4, hl5, if_pos hz5, new_eq, hq]
            simp
          · refine ⟨_, _, _, _, by rw [List.append_assoc, List.append_assoc, List.append_assoc, List.append_assoc], ?_, rfl⟩
            exact lst_mid _ _ [])
    refine ⟨J, k, ?_, by simpa [plc] using hl⟩
    have h9 : ex (.ret (.var 1)) gl (calls FS gl n) [some (.tup ds), some (.ref k), x, y] (st ++ J) = some (.rt (.ref k), [some (.tup ds), some (.ref k), x, y], st ++ J) := rfl
    have hz0 : 0 ≤ sizeLine := Nat.zero_le _
    have h8 : ex (.asg (.nm 1) (.lst [(.tup [])])) gl (calls FS gl n) [some (.tup ds), none, none, none] st = some (.nx, [some (.tup ds), some (.ref st.length), none, none], st ++ [.lst [enc []]]) := by simp [hz, hz0, enc]
    refine cl_ret (d := d11.df) rfl rfl (ρ' := [some (.tup ds), some (.ref k), x, y]) ?_
    show exs b11 gl (calls FS gl n) [some (.tup ds), none, none, none] st = _
    unfold b11
    rw [exs_step h8 rfl]
    rw [exs_step e rfl]
    rw [exs_ret h9]
end K00
end
section
set_option Elab.async false
set_option linter.all false
set_option maxRecDepth 100000
set_option maxHeartbeats 1000000
namespace K00
open Dz PySem
/-! ### what stands at a place -/
def atK : D → List Nat → D
  | v, [] => v
  | .tup ds, k :: p => (match ds[k]? with | some d => atK d p | none => .non)
  | _, _ :: _ => .non
theorem plc_at : ∀ (p : List Nat) (v : D), p ∈ plc v [] → True := fun _ _ _ => trivial
theorem at_loop (C : List CS) (tst : T) (nt : ∀ (ds : List D) (k : Nat) (x : D) (st : Sto), evT tst gl C [some (.tup ds), some x, some (.int k)] st = some (!decide (k < ds.length), st)) (pp : List D) (st : Sto) :
    ∀ (p : List Nat) (i : Nat) (v : D) (x y : D) (z : Option D), isK v = true → pp.drop i = p.map (fun k => .int (k : Nat)) →
    ∃ fl ρ', loopF (.tup pp) (fun d ρ s => (asgD (.nm 2) d s ρ).bind fun ρ1 => exs [.ife tst [.ret .non] [], .asg (.nm 0) (.idx (.var 0) (.var 2))] gl C ρ1 s) p.length i [some v, some y, z] st = some (fl, ρ', st) ∧
      ((∃ w, fl = .nx ∧ ρ' = [some (atK v p), some y, w]) ∨ (fl = .rt .non ∧ atK v p = .non)) := by
  intro p
  induction p with
  | nil =>
    intro i v x y z hk hd
    refine ⟨.nx, [some v, some y, z], ?_, .inl ⟨z, rfl, rfl⟩⟩
    have : pp.length ≤ i := by simpa using hd
    simp [loopF, stD, this]
  | cons k p ih =>
    intro i v x y z hk hd
    have hi : i < pp.length := by
      have := congrArg List.length hd
      simp at this
      omega
    have e1 : pp[i]? = some (.int (k : Nat)) := by
      have := congrArg (·[0]?) hd
      simpa using this
    have e2 : pp.drop (i + 1) = p.map (fun k => .int (k : Nat)) := by
      have := congrArg (List.drop 1) hd
      simpa [List.drop_drop, Nat.add_comm] using this
    obtain ⟨ds, rfl, hk⟩ := isK_tup hk
    by_cases hl : k < ds.length
    · obtain ⟨d, e3, m⟩ := get_some hl
      have ea : L2.atI ds (k : Int) = some d := L2.atI_nat e3
      obtain ⟨fl, ρ', e, h⟩ := ih (i + 1) d x y (some (.int (k : Nat))) (isKs_mem hk m) e2
      refine ⟨fl, ρ', ?_, by simpa [atK, e3] using h⟩
      rw [← e]
      simp [loopF, nxD, e1, nt, hl, ea]
    · refine ⟨.rt .non, [some (.tup ds), some y, some (.int (k : Nat))], ?_, .inr ⟨rfl, ?_⟩⟩
      · simp [loopF, nxD, e1, nt, hl]
      · have : ds[k]? = none := List.getElem?_eq_none (by omega)
        simp [atK, this]
theorem at_ret {n f : Nat} {d : Df} {tst : T} {v : D} {p : List Nat} {st : Sto} (hd : FS[f]? = some d) (ha : d.ar = 2) (hs : d.sl = 3) (hb : d.body = [.for_ .one [.var 1] (.nm 2) [.ife tst [.ret .non] [], .asg (.nm 0) (.idx (.var 0) (.var 2))], .ret (.var 0)])
    (nt : ∀ (ds : List D) (k : Nat) (x : D) (st : Sto), evT tst gl (calls FS gl n) [some (.tup ds), some x, some (.int k)] st = some (!decide (k < ds.length), st)) (hk : isK v = true) :
    callD FS gl n f [v, enc p] st = some (atK v p, st) := by
  obtain ⟨fl, ρ', e, h⟩ := at_loop (calls FS gl n) tst nt (p.map fun k => .int (k : Nat)) st p 0 v .non (enc p) none hk rfl
  have e1 : ex (.for_ .one [.var 1] (.nm 2) [.ife tst [.ret .non] [], .asg (.nm 0) (.idx (.var 0) (.var 2))]) gl (calls FS gl n) [some v, some (enc p), none] st = some (fl, ρ', st) := by
    rw [← e]
    rw [ex_forE]
    simp [itD, enc]
  have e2 : ∃ ρ2, exs d.body gl (calls FS gl n) ([v, enc p].map some ++ List.replicate (d.sl - [v, enc p].length) none) st = some (.rt (atK v p), ρ2, st) := by
    rw [hb, hs]
    show ∃ ρ2, exs _ gl (calls FS gl n) [some v, some (enc p), none] st = _
    rcases h with ⟨w, rfl, rfl⟩ | ⟨rfl, h0⟩
    · exact ⟨_, by rw [exs_step e1 rfl]; rfl⟩
    · exact ⟨ρ', by rw [exs_ret e1, h0]⟩
  obtain ⟨ρ2, e2⟩ := e2
  exact cl_ret hd (by rw [ha]; rfl) e2
theorem run_kind_at (n : Nat) (v : D) (p : List Nat) (st : Sto) (hk : isK v = true) : callD FS gl n 3 [v, enc p] st = some (atK v p, st) := by
  refine at_ret (d := d3.df) (tst := .not (.chn .le .lt (.int 0) (.var 2) (.bi .len [(.var 0)]))) rfl rfl rfl rfl ?_ hk
  intro ds k x st
  simp
theorem run_law_at (n : Nat) (v : D) (p : List Nat) (st : Sto) (hk : isK v = true) : callD FS gl n 10 [v, enc p] st = some (atK v p, st) := by
  refine at_ret (d := d10.df) (tst := .cmp .ge (.var 2) (.bi .len [(.var 0)])) rfl rfl rfl rfl ?_ hk
  intro ds k x st
  simp
  by_cases h : k < ds.length <;> simp [h] <;> omega
end K00
end
section
set_option Elab.async false
set_option linter.all false
set_option maxRecDepth 100000
set_option maxHeartbeats 1000000
namespace K00
open Dz PySem
/-! ### depth -/
theorem gen_ok {c : Cn} {J : IT} {B : D → Sto → Option (Option D × Sto)} (P : Nat → D → Sto → Prop) (N : Nat) (hs : ∀ i acc st, i < N → P i acc st → ∃ x y acc' st', nxD J i st = some x ∧ B x st = some (some y, st') ∧ conD c acc y st' = some (false, acc') ∧ P (i + 1) acc' st') (he : ∀ acc st, P N acc st → stD J N st = true ∧ (conE c acc).isSome) :
    ∀ (r i : Nat) (acc : D) (st : Sto), i + r = N → P i acc st → ∃ acc' st' d, loopG c J B r i acc st = some (d, st') ∧ P N acc' st' ∧ conE c acc' = some d
  | 0, i, acc, st, h, p => by
    have e : i = N := by omega
    subst e
    obtain ⟨h1, h2⟩ := he acc st p
    obtain ⟨d, h2⟩ := Option.isSome_iff_exists.mp h2
    refine ⟨acc, st, d, ?_, p, h2⟩
    show (if stD J i st then _ else _) = _
    rw [if_pos h1, h2]; rfl
  | r + 1, i, acc, st, h, p => by
    obtain ⟨x, y, acc', st', e1, e2, hc, p'⟩ := hs i acc st (by omega) p
    obtain ⟨acc2, st2, d, e3, p2, h2⟩ := gen_ok P N hs he r (i + 1) _ st' (by omega) p'
    refine ⟨acc2, st2, d, ?_, p2, h2⟩
    show (nxD J i st).bind _ = _
    rw [e1]
    show (B x st).bind _ = _
    rw [e2]
    show (conD c acc y st').bind _ = _
    rw [hc]
    exact e3
theorem hgts_take {ds : List D} {i : Nat} {d : D} (h : ds[i]? = some d) : hgts (ds.take (i + 1)) = max (hgts (ds.take i)) (1 + hgt d) := by
  rw [take_one h, hgts_append]; simp [hgts]
theorem run_depth : ∀ (n : Nat) (v : D) (st : Sto), isK v = true → 2 * hgt v ≤ n → callD FS gl n 4 [v] st = some (.int (hgt v : Nat), st) := by
  intro n
  induction n using Nat.strongRecOn with
  | _ n ih =>
    intro v st hk hh
    obtain ⟨ds, rfl, hk⟩ := isK_tup hk
    simp only [hgt] at hh
    by_cases hd : ds = []
    · subst hd
      refine cl_ret (d := d4.df) (ρ' := [some (.tup []), none]) rfl rfl ?_
      show exs b4 gl (calls FS gl n) [some (.tup []), none] st = _
      simp [b4, hgt, hgts]
    · obtain ⟨d0, ds0, rfl⟩ := List.exists_cons_of_ne_nil hd
      obtain ⟨m, rfl⟩ : ∃ m, n = m + 2 := ⟨n - 2, by simp only [hgts] at hh; omega⟩
      generalize hds : d0 :: ds0 = ds at *
      obtain ⟨acc, s, d, e, ⟨rfl, hP⟩, h2⟩ := gen_ok (c := .max) (J := .tup ds) (B := fun x s => (asgD (.nm 1) x s (wipeD [some (.tup ds), none] [1])).bind fun ρ1 => (evTA [] gl (calls FS gl (m + 1)) ρ1 s).bind fun c => if c.1 then (ev (.call 4 [(.var 1)]) gl (calls FS gl (m + 1)) ρ1 c.2).map fun y => (some y.1, y.2) else some (none, c.2))
        (fun i acc s => s = st ∧ ((i = 0 ∧ acc = .non) ∨ (∃ q : Nat, acc = .int q ∧ hgts (ds.take i) = 1 + q))) ds.length (by
          rintro i acc s hi ⟨rfl, h⟩
          obtain ⟨x, e1, mm⟩ := get_some hi
          have h1 := hgts_mem mm
          have e2 := ih m (by omega) x s (isKs_mem hk mm) (by omega)
          rcases h with ⟨rfl, rfl⟩ | ⟨q, rfl, h⟩
          · refine ⟨x, .int (hgt x : Nat), .int (hgt x : Nat), s, by simp [nxD, e1], by simp [e2], rfl, rfl, .inr ⟨_, rfl, ?_⟩⟩
            rw [hgts_take e1]
            simp [hgts]
          · refine ⟨x, .int (hgt x : Nat), .int ((max q (hgt x) : Nat)), s, by simp [nxD, e1], by simp [e2], ?_, rfl, .inr ⟨_, rfl, ?_⟩⟩
            · simp only [conD]
              congr 3
              split <;> omega
            · rw [hgts_take e1, h]
              omega) (by
          rintro acc s ⟨rfl, h⟩
          rcases h with ⟨h, rfl⟩ | ⟨q, rfl, h⟩
          · rw [← hds] at h; simp at h
          · exact ⟨by simp [stD], rfl⟩) ds.length 0 .non st (by omega) ⟨rfl, .inl ⟨rfl, rfl⟩⟩
      rcases hP with ⟨h, rfl⟩ | ⟨q, rfl, h⟩
      · rw [← hds] at h; simp at h
      · cases h2
        rw [List.take_length] at h
        have hne : ds.isEmpty = false := by rw [← hds]; rfl
        have e9 : ev (.gen .max .one [(.var 0)] (.nm 1) [] (.call 4 [(.var 1)]) [1]) gl (calls FS gl (m + 2)) [some (.tup ds), none] s = some (.int (q : Nat), s) := by
          rw [← e, calls_succ, ev_genE]
          simp [itD, con0]
        refine cl_ret (d := d4.df) (ρ' := [some (.tup ds), none]) rfl rfl ?_
        show exs b4 gl (calls FS gl (m + 2)) [some (.tup ds), none] s = _
        simp [b4, hgt, hne, e9, h]
end K00
end
section
set_option Elab.async false
set_option linter.all false
set_option maxRecDepth 100000
set_option maxHeartbeats 1000000
namespace K00
open Dz PySem
/-! ### _law_deep -/
theorem maxI_hgts : ∀ (ds : List D) (a : Nat), maxI (.int (a : Nat) :: ds.map (fun d => D.int ((1 + hgt d : Nat) : Int))) = some ((max a (hgts ds) : Nat) : Int)
  | [], a => by simp [maxI, hgts]
  | d :: ds, a => by
    have h := maxI_hgts ds (1 + hgt d)
    show (maxI (.int ((1 + hgt d : Nat) : Int) :: ds.map _)).map _ = _
    rw [h]
    simp only [Option.map_some, hgts]
    congr 1
    split <;> omega
theorem run_deep : ∀ (n : Nat) (v : D) (st : Sto), isK v = true → hgt v ≤ n → sz v ≤ 1000000 → ∃ J, callD FS gl n 14 [v] st = some (.int (hgt v : Nat), st ++ J) := by
  intro n
  induction n using Nat.strongRecOn with
  | _ n ih =>
    intro v st hk hh hs
    obtain ⟨ds, rfl, hk⟩ := isK_tup hk
    have hz : 1 ≤ sizeLine := by rw [sizeLine_eq]; omega
    simp only [hgt, sz] at hh hs
    have hlen := len_szs ds
    obtain ⟨acc, s3, e3, rfl, J3, rfl⟩ := ev_comp (g := gl) (C := calls FS gl n) (ik := .one) (src := [.var 0]) (tg := .nm 1) (cnd := []) (elt := .bin .add (.int 1) (.call 14 [(.var 1)])) (own := [1])
      (ρ := [some (.tup ds), none]) (st := st ++ [.lst [.int 0]]) (st0 := st ++ [.lst [.int 0]]) (xs := [.tup ds]) (J := .tup ds) (N := ds.length) (by simp) (by simp [itD])
      (fun j acc s => acc = ((ds.take j).map fun d => D.int ((1 + hgt d : Nat) : Int)) ∧ ∃ J3, s = st ++ .lst [.int 0] :: J3) ⟨by simp, [], by simp⟩ (by
        rintro i acc s hi ⟨rfl, J3, rfl⟩
        obtain ⟨d, e1, m⟩ := get_some hi
        have h1 := hgts_mem m
        have h2 := szs_mem m
        obtain ⟨n, rfl⟩ : ∃ m, n = m + 1 := ⟨n - 1, by omega⟩
        obtain ⟨J2, e2⟩ := ih n (by omega) d (st ++ .lst [.int 0] :: J3) (isKs_mem hk m) (by omega) (by omega)
        refine ⟨d, some (.int ((1 + hgt d : Nat) : Int)), st ++ .lst [.int 0] :: (J3 ++ J2), by simp [nxD, e1], ?_, ?_, ?_, _, rfl⟩
        · simp [e2]
        · intro _
          rw [sizeLine_eq]
          simp; omega
        · rw [take_one e1]; simp) (by
        rintro acc s ⟨_, J3, rfl⟩
        simp [stD])
    rw [List.take_length] at e3
    have hl1 : lstOf (st ++ .lst [.int 0] :: J3 ++ [.lst (ds.map fun d => D.int ((1 + hgt d : Nat) : Int))]) st.length = some [.int 0] := by
      rw [List.append_assoc, List.cons_append]; exact lst_mid _ _ _
    have hl2 : lstOf (st ++ .lst [.int 0] :: J3 ++ [.lst (ds.map fun d => D.int ((1 + hgt d : Nat) : Int))]) (st ++ .lst [.int 0] :: J3).length = some (ds.map fun d => D.int ((1 + hgt d : Nat) : Int)) := lst_mid _ _ _
    have hz2 : [D.int 0].length + (ds.map fun d => D.int ((1 + hgt d : Nat) : Int)).length ≤ sizeLine := by
      rw [sizeLine_eq]; simp; omega
    have hl3 := lst_mid (st ++ .lst [.int 0] :: J3 ++ [.lst (ds.map fun d => D.int ((1 + hgt d : Nat) : Int))]) ([D.int 0] ++ ds.map fun d => D.int ((1 + hgt d : Nat) : Int)) []
    have hm : maxI ([D.int 0] ++ ds.map fun d => D.int ((1 + hgt d : Nat) : Int)) = some ((hgts ds : Nat) : Int) := by
      have := maxI_hgts ds 0
      rw [Nat.zero_max] at this
      exact this
    generalize hS : st ++ .lst [.int 0] :: J3 ++ [O.lst (ds.map fun d => D.int ((1 + hgt d : Nat) : Int))] = S1 at e3 hl1 hl2 hl3
    have hS2 : S1 = st ++ (.lst [.int 0] :: J3 ++ [O.lst (ds.map fun d => D.int ((1 + hgt d : Nat) : Int))]) := by rw [← hS, List.append_assoc]
    refine ⟨(.lst [.int 0] :: J3 ++ [O.lst (ds.map fun d => D.int ((1 + hgt d : Nat) : Int))]) ++ [.lst ([D.int 0] ++ ds.map fun d => D.int ((1 + hgt d : Nat) : Int))], ?_⟩
    rw [← List.append_assoc, ← hS2]
    refine cl_ret (d := d14.df) (ρ' := [some (.tup ds), none]) rfl rfl ?_
    show exs b14 gl (calls FS gl n) [some (.tup ds), none] st = _
    have hb : binD .add (.ref st.length) (.ref (st ++ .lst [.int 0] :: J3).length) S1 = some (.ref S1.length, S1 ++ [.lst ([D.int 0] ++ ds.map fun d => D.int ((1 + hgt d : Nat) : Int))]) := by
      simp only [binD, hl1, hl2, Option.bind_some, if_pos hz2, new_eq]
    have hx : bfD .max1 [.ref S1.length] (S1 ++ [.lst ([D.int 0] ++ ds.map fun d => D.int ((1 + hgt d : Nat) : Int))]) = some (.int ((hgts ds : Nat) : Int), S1 ++ [.lst ([D.int 0] ++ ds.map fun d => D.int ((1 + hgt d : Nat) : Int))]) := by
      simp only [bfD, hl3, Option.bind_some, hm, Option.map_some]
    have e0 : ev (.lst [.int 0]) gl (calls FS gl n) [some (.tup ds), none] st = some (.ref st.length, st ++ [.lst [.int 0]]) := by simp [hz]
    have e9 : ex (.ret (.bi .max1 [(.bin .add (.lst [(.int 0)]) (.lc .one [(.var 0)] (.nm 1) [] (.bin .add (.int 1) (.call 14 [(.var 1)])) [1]))])) gl (calls FS gl n) [some (.tup ds), none] st = some (.rt (.int ((hgts ds : Nat) : Int)), [some (.tup ds), none], S1 ++ [.lst ([D.int 0] ++ ds.map fun d => D.int ((1 + hgt d : Nat) : Int))]) := by
      simp only [ex_ret, ev_bi, evs_cons, evs_nil, ev_bin, e0, e3, Option.bind_some, Option.map_some, hb, hx]
    exact exs_ret e9
end K00
end
section
set_option Elab.async false
set_option linter.all false
set_option maxRecDepth 100000
set_option maxHeartbeats 1000000
namespace K00
open Dz PySem
/-! ### the store, from here to there; the box -/
/-- lists stay lists, and but for X what they hold -/
def Kp (X : List Nat) (st st' : Sto) : Prop := st.length ≤ st'.length ∧ ∀ k ds, lstOf st k = some ds → ∃ ds', lstOf st' k = some ds' ∧ (k ∉ X → ds' = ds)
theorem Kp.refl (X : List Nat) (st : Sto) : Kp X st st := ⟨Nat.le_refl _, fun k ds h => ⟨ds, h, fun _ => rfl⟩⟩
theorem Kp.trans {X : List Nat} {a b c : Sto} (h : Kp X a b) (h' : Kp X b c) : Kp X a c := ⟨Nat.le_trans h.1 h'.1, fun k ds e => by
  obtain ⟨d1, e1, g1⟩ := h.2 k ds e
  obtain ⟨d2, e2, g2⟩ := h'.2 k d1 e1
  exact ⟨d2, e2, fun n => by rw [g2 n, g1 n]⟩⟩
theorem Kp.app (X : List Nat) (st J : Sto) : Kp X st (st ++ J) := ⟨by simp, fun k ds h => ⟨ds, lst_old h, fun _ => rfl⟩⟩
theorem lst_lt {st : Sto} {k : Nat} {ds : List D} (h : lstOf st k = some ds) : k < st.length := by
  rcases Nat.lt_or_ge k st.length with h1 | h1
  · exact h1
  · simp [lstOf, List.getElem?_eq_none h1] at h
theorem lst_set {st : Sto} {k j : Nat} {ds : List D} (hk : k < st.length) : lstOf (st.set k (.lst ds)) j = if j = k then some ds else lstOf st j := by
  unfold lstOf
  by_cases h : j = k
  · subst h; simp [hk]
  · rw [if_neg h, List.getElem?_set_ne (Ne.symm h)]
theorem Kp.set {X : List Nat} {st : Sto} {k : Nat} {ds0 ds : List D} (h : lstOf st k = some ds0) (m : k ∈ X) : Kp X st (st.set k (.lst ds)) := ⟨by simp, fun j es e => by
  rw [lst_set (lst_lt h)]
  by_cases q : j = k
  · rw [if_pos q]; exact ⟨_, rfl, fun n => absurd (q ▸ m) n⟩
  · rw [if_neg q]; exact ⟨es, e, fun _ => rfl⟩⟩
/-- a list that is newer than the store one looks from may be written -/
theorem Kp.setN {X : List Nat} {st s : Sto} {k : Nat} {ds0 ds : List D} (hs : Kp X st s) (h : lstOf s k = some ds0) (m : st.length ≤ k) : Kp X st (s.set k (.lst ds)) := ⟨by simpa using hs.1, fun j es e => by
  have := lst_lt e
  rw [lst_set (lst_lt h), if_neg (by omega)]
  exact hs.2 j es e⟩
theorem Kp.wk {X Y : List Nat} {a b : Sto} (h : Kp X a b) (s : ∀ x ∈ X, x ∈ Y) : Kp Y a b := ⟨h.1, fun k ds e => by
  obtain ⟨d1, e1, g⟩ := h.2 k ds e
  exact ⟨d1, e1, fun n => g fun m => n (s k m)⟩⟩
theorem Kp.get {X : List Nat} {a b : Sto} (h : Kp X a b) {k : Nat} {ds : List D} (e : lstOf a k = some ds) (n : k ∉ X) : lstOf b k = some ds := by
  obtain ⟨d1, e1, g⟩ := h.2 k ds e
  rw [e1, g n]
/-- the box at b with its digits at j -/
def Box (b j : Nat) (st : Sto) : Prop := j ≠ b ∧ ∃ (p : Nat) (zs : List Int), lstOf st b = some [.ref j, .int p] ∧ lstOf st j = some (zs.map .int)
theorem Box.kp {b j : Nat} {X : List Nat} {a c : Sto} (h : Box b j a) (k : Kp X a c) (hb : b ∉ X) (hj : j ∉ X) : Box b j c := by
  obtain ⟨n, p, zs, h1, h2⟩ := h
  exact ⟨n, p, zs, k.get h1 hb, k.get h2 hj⟩
theorem Box.lt {b j : Nat} {a : Sto} (h : Box b j a) : b < a.length ∧ j < a.length := by
  obtain ⟨n, p, zs, h1, h2⟩ := h
  exact ⟨lst_lt h1, lst_lt h2⟩
theorem run_draw (n : Nat) {b j : Nat} {st : Sto} (h : Box b j st) (m : Nat) (hm : 0 < m) : ∃ r st', r < m ∧ callD FS gl n 7 [.ref b, .int (m : Nat)] st = some (.int (r : Nat), st') ∧ Box b j st' ∧ Kp [b] st st' ∧ st'.length = st.length := by
  obtain ⟨hn, p, zs, h1, h2⟩ := h
  have hb := lst_lt h1
  have e1 : L2.atI [D.ref j, .int (p : Nat)] 1 = some (.int (p : Nat)) := rfl
  have e0 : L2.atI [D.ref j, .int ((p : Int) + 1)] 0 = some (.ref j) := rfl
  have e3 : L2.ixN [D.ref j, .int (p : Nat)].length 1 = some 1 := rfl
  have hget : st[b]? = some (.lst [.ref j, .int (p : Nat)]) := by
    unfold lstOf at h1
    split at h1
    · rename_i ds e; cases h1; exact e
    · cases h1
  have es : setD (.ref b) (.int 1) (.int ((p : Int) + 1)) st = some (st.set b (.lst [.ref j, .int ((p : Int) + 1)])) := by
    simp only [setD, hget, e3, Option.map_some]
    rfl
  have hl1 : lstOf (st.set b (.lst [.ref j, .int ((p : Int) + 1)])) b = some [.ref j, .int ((p : Int) + 1)] := by rw [lst_set hb, if_pos rfl]
  have hl2 : lstOf (st.set b (.lst [.ref j, .int ((p : Int) + 1)])) j = some (zs.map .int) := by rw [lst_set hb, if_neg hn]; exact h2
  have hB : Box b j (st.set b (.lst [.ref j, .int ((p : Int) + 1)])) := ⟨hn, p + 1, zs, by rw [hl1]; rfl, hl2⟩
  have hm0 : (m : Int) ≠ 0 := by omega
  have hm1 : m ≠ 0 := by omega
  by_cases hp : p < zs.length
  · have e4 : L2.atI (zs.map D.int) (p : Int) = some (.int zs[p]) := L2.atI_nat (by simp [hp])
    have hr : zs[p].fmod m = ((zs[p].fmod m).toNat : Nat) := by
      have := Int.fmod_nonneg_of_pos zs[p] (b := (m : Int)) (by omega)
      omega
    have hr2 := Int.fmod_lt_of_pos zs[p] (b := (m : Int)) (by omega)
    refine ⟨(zs[p].fmod m).toNat, _, by omega, ?_, hB, Kp.set h1 (by simp), by simp⟩
    rw [← hr]
    refine cl_ret (d := d7.df) (ρ' := [some (.ref b), some (.int (m : Nat)), some (.int (p : Nat))]) rfl rfl ?_
    show exs b7 gl (calls FS gl n) [some (.ref b), some (.int (m : Nat)), none] st = _
    simp [b7, h1, e1, es, hl1, e0, hl2, hp, e4, binD, hm0, hm1]
  · refine ⟨0, _, hm, ?_, hB, Kp.set h1 (by simp), by simp⟩
    refine cl_ret (d := d7.df) (ρ' := [some (.ref b), some (.int (m : Nat)), some (.int (p : Nat))]) rfl rfl ?_
    show exs b7 gl (calls FS gl n) [some (.ref b), some (.int (m : Nat)), none] st = _
    simp [b7, h1, e1, es, hl1, e0, hl2, hp, binD, hm0, hm1]
end K00
end
section
set_option Elab.async false
set_option linter.all false
set_option maxRecDepth 100000
set_option maxHeartbeats 1000000
namespace K00
open Dz PySem
/-! ### _law_same of a value and itself -/
mutual
def sm : D → Bool
  | .tup ds => sms ds
  | .non => true
  | .bl _ => true
  | .int _ => true
  | _ => false
def sms : List D → Bool
  | [] => true
  | d :: ds => sm d && sms ds
end
theorem sms_mem : ∀ {ds : List D} {d : D}, sms ds = true → d ∈ ds → sm d = true
  | x :: ds, d, h, m => by
    simp only [sms, Bool.and_eq_true] at h
    cases m with
    | head => exact h.1
    | tail _ m => exact sms_mem h.2 m
theorem sms_of : ∀ {ds : List D}, (∀ d ∈ ds, sm d = true) → sms ds = true
  | [], _ => rfl
  | x :: ds, h => by simp only [sms, h x (List.mem_cons_self), sms_of fun d m => h d (List.mem_cons_of_mem _ m), Bool.and_self]
mutual
theorem sm_K : ∀ d : D, isK d = true → sm d = true
  | .tup ds, h => by simp only [sm]; exact sms_K ds h
  | .non, h | .bl _, h | .int _, h | .str _, h | .fz _, h | .ref _, h => by simp [isK] at h
theorem sms_K : ∀ ds : List D, isKs ds = true → sms ds = true
  | [], _ => rfl
  | d :: ds, h => by
    simp only [isKs, Bool.and_eq_true] at h
    simp only [sms, sm_K d h.1, sms_K ds h.2, Bool.and_self]
end
theorem sm_enc (p : List Nat) : sm (enc p) = true := by
  simp only [enc, sm]
  exact sms_of fun d m => by
    obtain ⟨k, _, rfl⟩ := List.mem_map.mp m
    rfl
theorem hgts_le : ∀ {ds : List D} {m : Nat}, (∀ d ∈ ds, 1 + hgt d ≤ m) → hgts ds ≤ m
  | [], _, _ => Nat.zero_le _
  | d :: ds, m, h => by
    have h1 := h d (List.mem_cons_self)
    have h2 := hgts_le (ds := ds) fun x hx => h x (List.mem_cons_of_mem _ hx)
    simp only [hgts]; omega
theorem hgt_enc (p : List Nat) : hgt (enc p) ≤ 1 := by
  simp only [enc, hgt]
  exact hgts_le fun d m => by
    obtain ⟨k, _, rfl⟩ := List.mem_map.mp m
    simp [hgt]
theorem eq_int (i : Int) (st : Sto) : eqD st (.int i) (.int i) = some true := by
  simp [eqD, toP, toPw, SeqAt.shaped, PyData.canLay0, PyData.depth, PyData.eqv]
theorem eq_bl (i : Bool) (st : Sto) : eqD st (.bl i) (.bl i) = some true := by
  simp [eqD, toP, toPw, SeqAt.shaped, PyData.canLay0, PyData.depth, PyData.eqv]
theorem run_same : ∀ (n : Nat) (v : D) (st : Sto), sm v = true → hgt v ≤ n → sz v ≤ 1000000 → callD FS gl n 9 [v, v] st = some (.bl true, st) := by
  intro n
  induction n using Nat.strongRecOn with
  | _ n ih =>
    intro v st hk hh hs
    cases v with
    | str _ => simp [sm] at hk
    | fz _ => simp [sm] at hk
    | ref _ => simp [sm] at hk
    | non =>
      refine cl_ret (d := d9.df) (ρ' := [some .non, some .non, none]) rfl rfl ?_
      show exs b9 gl (calls FS gl n) [some .non, some .non, none] st = _
      simp [b9, isiD]
    | bl c =>
      refine cl_ret (d := d9.df) (ρ' := [some (.bl c), some (.bl c), none]) rfl rfl ?_
      show exs b9 gl (calls FS gl n) [some (.bl c), some (.bl c), none] st = _
      simp [b9, isiD, eq_bl]
    | int c =>
      refine cl_ret (d := d9.df) (ρ' := [some (.int c), some (.int c), none]) rfl rfl ?_
      show exs b9 gl (calls FS gl n) [some (.int c), some (.int c), none] st = _
      simp [b9, isiD, eq_int]
    | tup ds =>
      simp only [hgt, sz] at hh hs
      have hlen := len_szs ds
      obtain ⟨ρ', st', e, rfl, x, rfl⟩ := ex_rng (g := gl) (C := calls FS gl n) (tg := .nm 2) (b := [.ife (.not (.val (.call 9 [(.idx (.var 0) (.var 2)), (.idx (.var 1) (.var 2))]))) [.ret (.bl false)] []])
        (src := .bi .len [.var 1]) (ρ := [some (.tup ds), some (.tup ds), none]) (st := st) (st0 := st) (N := ds.length) (by simp) (by omega)
        (fun i ρ s => s = st ∧ ∃ x, ρ = [some (.tup ds), some (.tup ds), x]) ⟨rfl, _, rfl⟩ (by
          rintro i ρ s hi ⟨rfl, x, rfl⟩
          obtain ⟨d, e1, m⟩ := get_some hi
          have h1 := hgts_mem m
          have h2 := szs_mem m
          obtain ⟨n, rfl⟩ : ∃ m, n = m + 1 := ⟨n - 1, by omega⟩
          have e2 := ih n (by omega) d s (sms_mem hk m) (by omega) (by omega)
          have ea : L2.atI ds (i : Int) = some d := L2.atI_nat e1
          exact ⟨.nx, _, s, by simp [ea, e2]; rfl, .inl rfl, rfl, _, rfl⟩)
      refine cl_ret (d := d9.df) (ρ' := [some (.tup ds), some (.tup ds), x]) rfl rfl ?_
      show exs b9 gl (calls FS gl n) [some (.tup ds), some (.tup ds), none] st' = _
      have h1 : ex (.ife (.or [(.not (.val (.isi (.var 0) .tuple))), (.cmp .ne (.bi .len [(.var 0)]) (.bi .len [(.var 1)]))]) [.ret (.bl false)] []) gl (calls FS gl n) [some (.tup ds), some (.tup ds), none] st' = some (.nx, [some (.tup ds), some (.tup ds), none], st') := by
        have hT : evT (.or [(.not (.val (.isi (.var 0) .tuple))), (.cmp .ne (.bi .len [(.var 0)]) (.bi .len [(.var 1)]))]) gl (calls FS gl n) [some (.tup ds), some (.tup ds), none] st' = some (false, st') := by simp [eq_int]
        rw [ex_ife, hT]; rfl
      have h3 : ex (.ret (.bl true)) gl (calls FS gl n) [some (.tup ds), some (.tup ds), x] st' = some (.rt (.bl true), [some (.tup ds), some (.tup ds), x], st') := rfl
      have hT : evT (.val (.isi (.var 1) .tuple)) gl (calls FS gl n) [some (.tup ds), some (.tup ds), none] st' = some (true, st') := rfl
      unfold b9
      refine exs_ret ?_
      rw [ex_ife, hT]
      show exs _ gl (calls FS gl n) _ _ = _
      rw [exs_step h1 rfl, exs_step e rfl, exs_ret h3]
end K00
end
section
set_option Elab.async false
set_option linter.all false
set_option maxRecDepth 100000
set_option maxHeartbeats 1000000
namespace K00
open Dz PySem
/-! ### _law_right -/
theorem plcs_mem : ∀ (ds : List D) (i : Nat) (q : List Nat), q ∈ plcs ds i [] → ∃ k p d, q = (i + k) :: p ∧ ds[k]? = some d ∧ p ∈ plc d []
  | d :: ds, i, q, h => by
    simp only [plcs, List.mem_append] at h
    rcases h with h | h
    · have e := plc_pre d [i] []
      simp only [List.append_nil, List.nil_append] at e h
      rw [e] at h
      obtain ⟨p, m, rfl⟩ := List.mem_map.mp h
      exact ⟨0, p, d, rfl, rfl, m⟩
    · obtain ⟨k, p, d', rfl, h1, h2⟩ := plcs_mem ds (i + 1) q h
      exact ⟨k + 1, p, d', by congr 1; omega, h1, h2⟩
theorem at_plc : ∀ (p : List Nat) (v : D), isK v = true → p ∈ plc v [] → isK (atK v p) = true ∧ hgt (atK v p) ≤ hgt v ∧ sz (atK v p) ≤ sz v ∧ ∀ q, atK v (p ++ q) = atK (atK v p) q
  | [], v, hk, h => by
    have e : atK v [] = v := by cases v <;> rfl
    rw [e]
    exact ⟨hk, Nat.le_refl _, Nat.le_refl _, fun q => rfl⟩
  | k :: p, v, hk, h => by
    obtain ⟨ds, rfl, hk⟩ := isK_tup hk
    simp only [plc, List.mem_cons] at h
    rcases h with h | h
    · cases h
    · obtain ⟨k', p', d, e, h1, h2⟩ := plcs_mem ds 0 _ h
      simp only [Nat.zero_add, List.cons.injEq] at e
      obtain ⟨rfl, rfl⟩ := e
      have m := List.mem_of_getElem? h1
      obtain ⟨a1, a2, a3, a4⟩ := at_plc p d (isKs_mem hk m) h2
      have b1 := hgts_mem m
      have b2 := szs_mem m
      simp only [atK, h1, List.cons_append, hgt, sz]
      exact ⟨a1, by omega, by omega, a4⟩
theorem enc_two {q : List Nat} {a : Nat} {st : Sto} (h : q.length + 2 ≤ sizeLine) : binD .add (enc q) (.tup [.int ((a : Int) + 1), .int 0]) st = some (enc (q ++ [a + 1, 0]), st) := by
  simp only [enc, bin_addT, List.length_map, List.length_cons, List.length_nil, Nat.zero_add, Nat.reduceAdd, if_pos h]
  simp
theorem sz_enc (p : List Nat) : sz (enc p) = 1 + p.length := by
  simp only [enc, sz]
  congr 1
  induction p with
  | nil => rfl
  | cons k p ih => simp only [List.map_cons, szs, sz, ih, List.length_cons]; omega
theorem szs_encs (m : Nat) : ∀ (l : List (List Nat)), (∀ p ∈ l, p.length ≤ m) → szs (l.map enc) ≤ l.length * (m + 1)
  | [], _ => by simp [szs]
  | p :: l, h => by
    have h1 := h p (List.mem_cons_self)
    have h2 := szs_encs m l fun q hq => h q (List.mem_cons_of_mem _ hq)
    simp only [List.map_cons, szs, sz_enc, List.length_cons, Nat.add_mul]
    omega
theorem run_right (m : Nat) (v : D) (st : Sto) (hk : isK v = true) (hh : hgt v ≤ 5) (hs : sz v ≤ 100) (hm : 20 ≤ m) (hm2 : m ≤ 1000) : ∃ J, callD FS gl (m + 1) 16 [v] st = some (.bl true, st ++ J) := by
  obtain ⟨m, rfl⟩ : ∃ k, m = k + 1 := ⟨m - 1, by omega⟩
  obtain ⟨J1, k, e1, hl1⟩ := run_law_places (m + 1) v st hk (by omega) (by omega) (by omega)
  obtain ⟨J2, e2⟩ := run_is_kind (m + 1) v (st ++ J1) (by omega) (inS_K _ v hk)
  obtain ⟨J3, e3⟩ := run_places m v (st ++ J1 ++ J2) hk (by omega) (by omega) (by omega)
  have hq : ∀ p ∈ plc v [], p.length ≤ 5 := fun p hp => by
    have := plc_ql v [] p hp
    simp at this; omega
  have e4 := run_same (m + 1) (.tup ((plc v []).map enc)) (st ++ J1 ++ J2 ++ J3) (by
      simp only [sm]
      exact sms_of fun d hd => by
        obtain ⟨p, _, rfl⟩ := List.mem_map.mp hd
        exact sm_enc p) (by
      simp only [hgt]
      have : hgts ((plc v []).map enc) ≤ 2 := hgts_le fun d hd => by
        obtain ⟨p, _, rfl⟩ := List.mem_map.mp hd
        have := hgt_enc p
        omega
      omega) (by
      simp only [sz]
      have := szs_encs 5 (plc v []) hq
      rw [plc_len] at this
      omega)
  have e5 := run_depth (m + 1) v (st ++ J1 ++ J2 ++ J3) hk (by omega)
  obtain ⟨J4, e6⟩ := run_deep (m + 1) v (st ++ J1 ++ J2 ++ J3) hk (by omega) (by omega)
  have e7 := run_same (m + 1) (.int (hgt v : Nat)) (st ++ J1 ++ J2 ++ J3 ++ J4) rfl (Nat.zero_le _) (by simp [sz])
  have hl3 : lstOf (st ++ J1 ++ J2 ++ J3) k = some ((plc v []).map enc) := lst_old (lst_old hl1)
  have hl4 : lstOf (st ++ J1 ++ J2 ++ J3 ++ J4) k = some ((plc v []).map enc) := lst_old hl3
  have hS : st ++ J1 ++ J2 ++ J3 ++ J4 = st ++ (J1 ++ J2 ++ J3 ++ J4) := by simp [List.append_assoc]
  refine ⟨J1 ++ J2 ++ J3 ++ J4, ?_⟩
  rw [← hS]
  rw [hk] at e2
  generalize hC : calls FS gl (m + 1 + 1) = C
  have a0 : ex (.asg (.nm 1) (.call 11 [(.var 0)])) gl C [some v, none, none, none, none] st = some (.nx, [some v, some (.ref k), none, none, none], st ++ J1) := by
    subst hC
    simp [e1]
  generalize hS1 : st ++ J1 = S1 at *
  generalize hS2 : S1 ++ J2 = S2 at *
  generalize hS3 : S2 ++ J3 = S3 at *
  generalize hS4 : S3 ++ J4 = S4 at *
  have a1 : ex (.ife (.or [(.cmp .isn (.call 0 [(.var 0)]) (.bl true)), (.not (.val (.call 9 [(.call 2 [(.var 0)]), (.bi .tuple [(.var 1)])])))]) [.ret (.bl false)] []) gl C [some v, some (.ref k), none, none, none] S1 = some (.nx, [some v, some (.ref k), none, none, none], S3) := by
    subst hC
    simp [e2, e3, hl3, e4]
  have a2 : ex (.ife (.not (.val (.call 9 [(.call 4 [(.var 0)]), (.call 14 [(.var 0)])]))) [.ret (.bl false)] []) gl C [some v, some (.ref k), none, none, none] S3 = some (.nx, [some v, some (.ref k), none, none, none], S4) := by
    subst hC
    simp [e5, e6, e7]
  obtain ⟨ρ', st', a3, rfl, x, y, z, rfl⟩ := ex_for (g := gl) (C := C) (ik := .one) (src := [.var 1]) (tg := .nm 2) (b := [.asg (.nm 3) (.call 10 [(.var 0), (.var 2)]),
      .asg (.nm 4) (.bi .len [(.var 3)]),
      .ife (.not (.val (.call 9 [(.call 3 [(.var 0), (.var 2)]), (.var 3)]))) [.ret (.bl false)] [],
      .ife (.or [(.cmp .isn (.call 3 [(.var 0), (.bin .add (.var 2) (.tup [(.var 4)]))]) .non), (.cmp .isn (.call 3 [(.var 0), (.bin .add (.var 2) (.tup [(.bin .add (.var 4) (.int 1)), (.int 0)]))]) .non)]) [.ret (.bl false)] []])
    (ρ := [some v, some (.ref k), none, none, none]) (st := S4) (st0 := S4) (xs := [.ref k]) (J := .lst k) (N := (plc v []).length) rfl (by simp only [itD, hl4]; simp)
    (fun i ρ s => s = S4 ∧ ∃ x y z, ρ = [some v, some (.ref k), x, y, z]) ⟨rfl, _, _, _, rfl⟩ (by
      rintro i ρ s hi ⟨rfl, x, y, z, rfl⟩
      have hp := List.getElem_mem hi
      generalize hpe : (plc v [])[i] = p at hp
      obtain ⟨b1, b2, b3, b4⟩ := at_plc p v hk hp
      obtain ⟨fs, hfs, _⟩ := isK_tup b1
      have c1 := run_law_at (m + 1) v p s hk
      have c2 := run_kind_at (m + 1) v p s hk
      have c3 := run_same (m + 1) (atK v p) s (sm_K _ b1) (by omega) (by omega)
      have c4 := run_kind_at (m + 1) v (p ++ [fs.length]) s hk
      have c5 := run_kind_at (m + 1) v (p ++ [fs.length + 1, 0]) s hk
      have hn1 : fs[fs.length]? = none := by simp
      have hn2 : fs[fs.length + 1]? = none := by simp
      rw [b4, hfs] at c4 c5
      simp only [atK, hn1] at c4
      simp only [atK, hn2] at c5
      rw [hfs] at c1 c2 c3
      have z1 : p.length + 1 ≤ sizeLine := by rw [sizeLine_eq]; have := hq p hp; omega
      have z2 : p.length + 2 ≤ sizeLine := by rw [sizeLine_eq]; have := hq p hp; omega
      have z3 : 1 ≤ sizeLine := by rw [sizeLine_eq]; omega
      have z4 : 2 ≤ sizeLine := by rw [sizeLine_eq]; omega
      refine ⟨enc p, .nx, [some v, some (.ref k), some (enc p), some (.tup fs), some (.int fs.length)], s, ?_, ?_, .inl rfl, rfl, _, _, _, rfl⟩
      · simp only [nxD, hl4, Option.bind_some]
        rw [List.getElem?_map, List.getElem?_eq_getElem hi, hpe]; rfl
      · subst hC
        have d1 : ex (.asg (.nm 3) (.call 10 [(.var 0), (.var 2)])) gl (calls FS gl (m + 1 + 1)) [some v, some (.ref k), some (enc p), y, z] s = some (.nx, [some v, some (.ref k), some (enc p), some (.tup fs), z], s) := by simp [c1]
        have d2 : ex (.asg (.nm 4) (.bi .len [(.var 3)])) gl (calls FS gl (m + 1 + 1)) [some v, some (.ref k), some (enc p), some (.tup fs), z] s = some (.nx, [some v, some (.ref k), some (enc p), some (.tup fs), some (.int fs.length)], s) := by simp
        have d3 : ex (.ife (.not (.val (.call 9 [(.call 3 [(.var 0), (.var 2)]), (.var 3)]))) [.ret (.bl false)] []) gl (calls FS gl (m + 1 + 1)) [some v, some (.ref k), some (enc p), some (.tup fs), some (.int fs.length)] s = some (.nx, [some v, some (.ref k), some (enc p), some (.tup fs), some (.int fs.length)], s) := by simp [c2, c3]
        have d4 : ex (.ife (.or [(.cmp .isn (.call 3 [(.var 0), (.bin .add (.var 2) (.tup [(.var 4)]))]) .non), (.cmp .isn (.call 3 [(.var 0), (.bin .add (.var 2) (.tup [(.bin .add (.var 4) (.int 1)), (.int 0)]))]) .non)]) [.ret (.bl false)] []) gl (calls FS gl (m + 1 + 1)) [some v, some (.ref k), some (enc p), some (.tup fs), some (.int fs.length)] s = some (.nx, [some v, some (.ref k), some (enc p), some (.tup fs), some (.int fs.length)], s) := by
          simp [z3, z4, enc_snoc z1, c4, enc_two z2, c5]
        show exs _ gl (calls FS gl (m + 1 + 1)) [some v, some (.ref k), some (enc p), y, z] s = _
        rw [exs_step d1 rfl, exs_step d2 rfl, exs_step d3 rfl, exs_step d4 rfl]
        rfl) (by
      rintro ρ s ⟨rfl, x, y, z, rfl⟩
      simp only [stD, hl4]
      simp)
  have a4 : ex (.ret (.bl true)) gl C [some v, some (.ref k), x, y, z] st' = some (.rt (.bl true), [some v, some (.ref k), x, y, z], st') := rfl
  subst hC
  refine cl_ret (d := d16.df) (ρ' := [some v, some (.ref k), x, y, z]) rfl rfl ?_
  show exs b16 gl (calls FS gl (m + 1 + 1)) [some v, none, none, none, none] st = _
  unfold b16
  rw [exs_step a0 rfl, exs_step a1 rfl, exs_step a2 rfl, exs_step a3 rfl, exs_ret a4]
end K00
end
section
set_option Elab.async false
set_option linter.all false
set_option maxRecDepth 100000
set_option maxHeartbeats 1000000
namespace K00
open Dz PySem
/-! ### _law_kind_deep -/
theorem getO {st : Sto} {b : Nat} {ds : List D} (h1 : lstOf st b = some ds) : st[b]? = some (.lst ds) := by
  unfold lstOf at h1
  split at h1
  · rename_i ds e; cases h1; exact e
  · cases h1
theorem set0 {st : Sto} {b : Nat} {x v : D} {ds : List D} (h1 : lstOf st b = some (x :: ds)) : setD (.ref b) (.int 0) v st = some (st.set b (.lst (v :: ds))) := by
  have e3 : L2.ixN (x :: ds).length 0 = some 0 := by simp [L2.ixN]
  simp only [setD, getO h1, e3, Option.map_some]
  rfl
theorem run_kind_deep (b j u : Nat) (hu : u ≠ b ∧ u ≠ j) : ∀ (dp n : Nat) (st : Sto) (B : Nat), dp + 1 ≤ n → B ≤ 20 → Box b j st → lstOf st u = some [.int (B : Nat)] →
    ∃ v st' B', callD FS gl n 12 [.ref b, .int (dp : Nat), .ref u] st = some (v, st') ∧ isK v = true ∧ hgt v ≤ dp ∧ sz v + B' ≤ 1 + B ∧ Box b j st' ∧ lstOf st' u = some [.int (B' : Nat)] ∧ Kp [b, u] st st' := by
  intro dp
  induction dp with
  | zero =>
    intro n st B hn hB hb hl
    refine ⟨.tup [], st ++ [.lst []], B, ?_, rfl, Nat.le_refl _, by simp [sz, szs], ?_, lst_old hl, Kp.app _ _ _⟩
    · refine cl_ret (d := d12.df) (ρ' := [some (.ref b), some (.int 0), some (.ref u), some (.ref st.length), none]) rfl rfl ?_
      show exs b12 gl (calls FS gl n) [some (.ref b), some (.int 0), some (.ref u), none, none] st = _
      have hz0 : 0 ≤ sizeLine := Nat.zero_le _
      have a1 : ex (.asg (.nm 3) (.lst [])) gl (calls FS gl n) [some (.ref b), some (.int 0), some (.ref u), none, none] st = some (.nx, [some (.ref b), some (.int 0), some (.ref u), some (.ref st.length), none], st ++ [.lst []]) := by simp [hz0]
      have a3 : ex (.ret (.bi .tuple [(.var 3)])) gl (calls FS gl n) [some (.ref b), some (.int 0), some (.ref u), some (.ref st.length), none] (st ++ [.lst []]) = some (.rt (.tup []), [some (.ref b), some (.int 0), some (.ref u), some (.ref st.length), none], st ++ [.lst []]) := by simp
      have hT : evT (.cmp .gt (.var 1) (.int 0)) gl (calls FS gl n) [some (.ref b), some (.int 0), some (.ref u), some (.ref st.length), none] (st ++ [.lst []]) = some (false, st ++ [.lst []]) := by simp
      unfold b12
      rw [exs_step a1 rfl, exs_cons, ex_ife, hT]
      show exs _ _ _ _ _ = _
      rw [exs_ret a3]
    · exact hb.kp (X := []) (Kp.app _ _ _) (by simp) (by simp)
  | succ dp ih =>
    intro n st B hn hB hb hl
    obtain ⟨n, rfl⟩ : ∃ m, n = m + 1 := ⟨n - 1, by omega⟩
    have hz0 : 0 ≤ sizeLine := Nat.zero_le _
    have hb1 : Box b j (st ++ [.lst []]) := hb.kp (X := []) (Kp.app _ _ _) (by simp) (by simp)
    obtain ⟨r, s0, hr, e0, hb0, k0, len0⟩ := run_draw n hb1 5 (by omega)
    have hub : u < st.length := lst_lt hl
    have hbb := hb.lt
    generalize hP : st.length = P at *
    have hlP : lstOf s0 P = some [] := k0.get (by rw [← hP]; exact lst_mid _ _ _) (by simp; omega)
    have hl0 : lstOf s0 u = some [.int (B : Nat)] := k0.get (lst_old hl) (by simp; exact hu.1)
    have k1 : Kp [b, u] st s0 := (Kp.app _ _ _).trans (k0.wk (by simp))
    obtain ⟨ρ', st', a2, parts, B', x, rfl, hp1, hp2, hp3, hp4, hp5, hp6, hp7, hp8⟩ := ex_rng (g := gl) (C := calls FS gl (n + 1)) (tg := .nm 4) (src := .call 7 [(.var 0), (.int 5)]) (b := [.ife (.cmp .gt (.idx (.var 2) (.int 0)) (.int 0))
        [.asub (.var 2) (.int 0) (.bin .sub (.idx (.var 2) (.int 0)) (.int 1)),
         .expr (.mth .append (.var 3) [(.call 12 [(.var 0), (.bin .sub (.var 1) (.int 1)), (.var 2)])])] []])
      (ρ := [some (.ref b), some (.int ((dp + 1 : Nat) : Int)), some (.ref u), some (.ref P), none]) (st := st ++ [.lst []]) (st0 := s0) (N := r) (by simp only [ev_call, evs_cons, evs_nil, ev_var0, ev_int, Option.bind_some, Option.map_some]; exact e0) (by omega)
      (fun i ρ s => ∃ parts B' x, ρ = [some (.ref b), some (.int ((dp + 1 : Nat) : Int)), some (.ref u), some (.ref P), x] ∧ parts.length ≤ i ∧ lstOf s P = some parts ∧ isKs parts = true ∧ hgts parts ≤ dp + 1 ∧ szs parts + B' ≤ B ∧ Box b j s ∧ lstOf s u = some [.int (B' : Nat)] ∧ Kp [b, u] st s)
      ⟨[], B, none, rfl, Nat.le_refl _, hlP, rfl, Nat.zero_le _, by simp [szs], hb0, hl0, k1⟩ (by
        rintro i ρ s hi ⟨parts, B', x, rfl, hp1, hp2, hp3, hp4, hp5, hp6, hp7, hp8⟩
        have e1 : L2.atI [D.int (B' : Nat)] 0 = some (.int (B' : Nat)) := rfl
        by_cases hB0 : 0 < B'
        · obtain ⟨B1, rfl⟩ : ∃ q, B' = q + 1 := ⟨B' - 1, by omega⟩
          have s1 := set0 (v := .int (B1 : Nat)) hp7
          have hlt := lst_lt hp7
          have l1 : lstOf (s.set u (.lst [.int (B1 : Nat)])) u = some [.int (B1 : Nat)] := by rw [lst_set hlt, if_pos rfl]
          have l2 : lstOf (s.set u (.lst [.int (B1 : Nat)])) P = some parts := by rw [lst_set hlt, if_neg (by omega)]; exact hp2
          have kk : Kp [u] s (s.set u (.lst [.int (B1 : Nat)])) := Kp.set hp7 (by simp)
          obtain ⟨v, s2, B2, e2, v1, v2, v3, v4, v5, v6⟩ := ih n (s.set u (.lst [.int (B1 : Nat)])) B1 (by omega) (by omega) (hp6.kp kk (by simp; exact fun h => hu.1 h.symm) (by simp; exact fun h => hu.2 h.symm)) l1
          have l3 : lstOf s2 P = some parts := v6.get l2 (by simp; omega)
          have lp := lst_lt l3
          have a5 := mt_append v l3 (by rw [sizeLine_eq]; omega)
          refine ⟨.nx, [some (.ref b), some (.int ((dp + 1 : Nat) : Int)), some (.ref u), some (.ref P), some (.int (i : Nat))], s2.set P (.lst (parts ++ [v])), ?_, .inl rfl, parts ++ [v], B2, _, rfl, by simp; omega, by rw [lst_set lp, if_pos rfl], ?_, ?_, ?_, ?_, ?_, ?_⟩
          · have f0 : asgD (.nm 4) (.int (i : Nat)) s [some (.ref b), some (.int ((dp + 1 : Nat) : Int)), some (.ref u), some (.ref P), x] = some [some (.ref b), some (.int ((dp + 1 : Nat) : Int)), some (.ref u), some (.ref P), some (.int (i : Nat))] := rfl
            rw [f0]
            show exs _ gl (calls FS gl (n + 1)) _ _ = _
            have i1 : ((B1 + 1 : Nat) : Int) - 1 = (B1 : Nat) := by omega
            have i2 : ((dp + 1 : Nat) : Int) - 1 = (dp : Nat) := by omega
            have f1 : ex (.asub (.var 2) (.int 0) (.bin .sub (.idx (.var 2) (.int 0)) (.int 1))) gl (calls FS gl (n + 1)) [some (.ref b), some (.int ((dp + 1 : Nat) : Int)), some (.ref u), some (.ref P), some (.int (i : Nat))] s = some (.nx, [some (.ref b), some (.int ((dp + 1 : Nat) : Int)), some (.ref u), some (.ref P), some (.int (i : Nat))], s.set u (.lst [.int (B1 : Nat)])) := by
              simp only [ex_asub, ev_bin, ev_idx, ev_varS, ev_var0, ev_int, Option.bind_some, idx_ref, hp7, e1, Option.map_some, bin_subI, i1, s1]
            have f2 : ex (.expr (.mth .append (.var 3) [(.call 12 [(.var 0), (.bin .sub (.var 1) (.int 1)), (.var 2)])])) gl (calls FS gl (n + 1)) [some (.ref b), some (.int ((dp + 1 : Nat) : Int)), some (.ref u), some (.ref P), some (.int (i : Nat))] (s.set u (.lst [.int (B1 : Nat)])) = some (.nx, [some (.ref b), some (.int ((dp + 1 : Nat) : Int)), some (.ref u), some (.ref P), some (.int (i : Nat))], s2.set P (.lst (parts ++ [v]))) := by
              simp only [ex_expr, ev_mth, ev_varS, ev_var0, Option.bind_some, isL_ref, l2, Option.isSome_some, if_true, evs_cons, evs_nil, ev_call, ev_bin, ev_int, bin_subI, i2, Option.map_some, e2, a5]
            have hT : evT (.cmp .gt (.idx (.var 2) (.int 0)) (.int 0)) gl (calls FS gl (n + 1)) [some (.ref b), some (.int ((dp + 1 : Nat) : Int)), some (.ref u), some (.ref P), some (.int (i : Nat))] s = some (true, s) := by
              simp only [evT_cmp, ev_idx, ev_varS, ev_var0, ev_int, Option.bind_some, idx_ref, hp7, e1, Option.map_some, cmp_gt]
              simp
            have f3 : ex (.ife (.cmp .gt (.idx (.var 2) (.int 0)) (.int 0)) [.asub (.var 2) (.int 0) (.bin .sub (.idx (.var 2) (.int 0)) (.int 1)), .expr (.mth .append (.var 3) [(.call 12 [(.var 0), (.bin .sub (.var 1) (.int 1)), (.var 2)])])] []) gl (calls FS gl (n + 1)) [some (.ref b), some (.int ((dp + 1 : Nat) : Int)), some (.ref u), some (.ref P), some (.int (i : Nat))] s = some (.nx, [some (.ref b), some (.int ((dp + 1 : Nat) : Int)), some (.ref u), some (.ref P), some (.int (i : Nat))], s2.set P (.lst (parts ++ [v]))) := by
              rw [ex_ife, hT]
              show exs _ gl (calls FS gl (n + 1)) _ _ = _
              rw [exs_step f1 rfl, exs_step f2 rfl]
              rfl
            rw [exs_step f3 rfl]
            rfl
          · rw [isKs_append]; simp [isKs, hp3, v1]
          · rw [hgts_append]; simp only [hgts]; omega
          · rw [szs_append]; simp only [szs]; omega
          · exact v4.kp (X := [P]) (Kp.set l3 (by simp)) (by simp; omega) (by simp; omega)
          · rw [lst_set lp, if_neg (by omega)]; exact v5
          · exact Kp.setN ((hp8.trans (kk.wk (by simp))).trans v6) l3 (by omega)
        · have : B' = 0 := by omega
          subst this
          refine ⟨.nx, [some (.ref b), some (.int ((dp + 1 : Nat) : Int)), some (.ref u), some (.ref P), some (.int (i : Nat))], s, ?_, .inl rfl, parts, 0, _, rfl, by omega, hp2, hp3, hp4, hp5, hp6, hp7, hp8⟩
          have hT : evT (.cmp .gt (.idx (.var 2) (.int 0)) (.int 0)) gl (calls FS gl (n + 1)) [some (.ref b), some (.int ((dp + 1 : Nat) : Int)), some (.ref u), some (.ref P), some (.int (i : Nat))] s = some (false, s) := by
            simp only [evT_cmp, ev_idx, ev_varS, ev_var0, ev_int, Option.bind_some, idx_ref, hp7, e1, Option.map_some, cmp_gt]
            simp
          have f0 : asgD (.nm 4) (.int (i : Nat)) s [some (.ref b), some (.int ((dp + 1 : Nat) : Int)), some (.ref u), some (.ref P), x] = some [some (.ref b), some (.int ((dp + 1 : Nat) : Int)), some (.ref u), some (.ref P), some (.int (i : Nat))] := rfl
          rw [f0]
          show exs _ gl (calls FS gl (n + 1)) _ _ = _
          rw [exs_cons, ex_ife, hT]
          rfl)
    refine ⟨.tup parts, st', B', ?_, hp3, hp4, by simp only [sz]; omega, hp6, hp7, hp8⟩
    refine cl_ret (d := d12.df) (ρ' := [some (.ref b), some (.int ((dp + 1 : Nat) : Int)), some (.ref u), some (.ref P), x]) rfl rfl ?_
    show exs b12 gl (calls FS gl (n + 1)) [some (.ref b), some (.int ((dp + 1 : Nat) : Int)), some (.ref u), none, none] st = _
    have a1 : ex (.asg (.nm 3) (.lst [])) gl (calls FS gl (n + 1)) [some (.ref b), some (.int ((dp + 1 : Nat) : Int)), some (.ref u), none, none] st = some (.nx, [some (.ref b), some (.int ((dp + 1 : Nat) : Int)), some (.ref u), some (.ref P), none], st ++ [.lst []]) := by rw [← hP]; simp [hz0]
    have a3 : ex (.ret (.bi .tuple [(.var 3)])) gl (calls FS gl (n + 1)) [some (.ref b), some (.int ((dp + 1 : Nat) : Int)), some (.ref u), some (.ref P), x] st' = some (.rt (.tup parts), [some (.ref b), some (.int ((dp + 1 : Nat) : Int)), some (.ref u), some (.ref P), x], st') := by
      simp only [ex_ret, ev_bi, evs_cons, evs_nil, ev_varS, ev_var0, Option.bind_some, Option.map_some, tuple_ref, hp2]
    have hT : evT (.cmp .gt (.var 1) (.int 0)) gl (calls FS gl (n + 1)) [some (.ref b), some (.int ((dp + 1 : Nat) : Int)), some (.ref u), some (.ref P), none] (st ++ [.lst []]) = some (true, st ++ [.lst []]) := by
      simp only [evT_cmp, ev_varS, ev_var0, ev_int, Option.bind_some, cmp_gt, Option.map_some]
      simp
    have a4 : exs [_] gl (calls FS gl (n + 1)) [some (.ref b), some (.int ((dp + 1 : Nat) : Int)), some (.ref u), some (.ref P), none] (st ++ [.lst []]) = _ := exs_step a2 rfl
    unfold b12
    rw [exs_step a1 rfl, exs_cons, ex_ife, hT]
    simp only [if_true, Option.bind_some]
    rw [a4]
    show exs _ gl (calls FS gl (n + 1)) _ _ = _
    rw [exs_ret a3]
end K00
end
section
set_option Elab.async false
set_option linter.all false
set_option maxRecDepth 100000
set_option maxHeartbeats 1000000
namespace K00
open Dz PySem
/-! ### the digits -/
def cellOf (ns : List Int) (k : Nat) : Int := (ns[k]?).getD 0
theorem run_cell (n : Nat) (ns : List Int) (k : Nat) (st : Sto) : callD FS gl n 5 [.fz (ns.map .int), .int (k : Nat)] st = some (.int (cellOf ns k), st) := by
  refine cl_ret (d := d5.df) (ρ' := [some (.fz (ns.map .int)), some (.int (k : Nat))]) rfl rfl ?_
  show exs b5 gl (calls FS gl n) [some (.fz (ns.map .int)), some (.int (k : Nat))] st = _
  by_cases h : k < ns.length
  · have e : L2.atI (ns.map D.int) (k : Int) = some (.int (cellOf ns k)) := L2.atI_nat (by simp [cellOf, h])
    simp [b5, h, e]
  · have e : cellOf ns k = 0 := by simp [cellOf, List.getElem?_eq_none (Nat.le_of_not_lt h)]
    simp [b5, h, e]
abbrev dgE (ns : List Int) (P : Nat) (a b c d : Option D) : Dz.Env := [some (.fz (ns.map .int)), some (.int 0), some (.int 62), some (.ref P), a, b, c, d]
theorem appL (st : Sto) (zs : List Int) (z : Int) (hz : zs.length < sizeLine) : mtD .append (.ref st.length) [.int z] (st ++ [.lst (zs.map .int)]) = some (.non, st ++ [.lst ((zs ++ [z]).map .int)]) := by
  rw [appM st [] _ _ (by simpa using hz)]
  simp
theorem dig_a (C : List CS) (ns : List Int) (st : Sto) (k z : Option D) (zs : List Int) (c : Int) (w0 : Option D) (hz : zs.length ≤ 1000000) : ∃ ρ' st', ex (.for_ .rng1 [(.int 60)] (.nm 6)
      [.ife (.cmp .gt (.var 5) (.int 0))
        [.expr (.mth .append (.var 3) [(.bin .mod (.bi .int [(.var 5)]) (.int 1000))]),
         .asg (.nm 5) (.bin .fdiv (.var 5) (.int 1000))]
        []]) gl C (dgE ns st.length k (some (.int c)) w0 z) (st ++ [.lst (zs.map .int)]) = some (.nx, ρ', st') ∧ ∃ (zs' : List Int) (b w : Option D), ρ' = dgE ns st.length k b w z ∧ st' = st ++ [.lst (zs'.map .int)] ∧ zs'.length ≤ zs.length + 60 := by
  obtain ⟨ρ', st', e, zs', c', w, rfl, rfl, h⟩ := ex_rng (g := gl) (C := C) (N := 60) (src := .int 60) (tg := .nm 6) (ρ := dgE ns st.length k (some (.int c)) w0 z) (b := [.ife (.cmp .gt (.var 5) (.int 0))
        [.expr (.mth .append (.var 3) [(.bin .mod (.bi .int [(.var 5)]) (.int 1000))]),
         .asg (.nm 5) (.bin .fdiv (.var 5) (.int 1000))]
        []]) (st := st ++ [.lst (zs.map .int)]) (st0 := st ++ [.lst (zs.map .int)]) rfl (by omega)
    (fun i ρ s => ∃ (zs' : List Int) (c : Int) (w : Option D), ρ = dgE ns st.length k (some (.int c)) w z ∧ s = st ++ [.lst (zs'.map .int)] ∧ zs'.length ≤ zs.length + i) ⟨zs, c, _, rfl, rfl, by omega⟩ (by
      rintro i ρ s hi ⟨zs', c, w, rfl, rfl, h⟩
      by_cases hc : 0 < c
      · have hz' : zs'.length < sizeLine := by rw [sizeLine_eq]; omega
        have a := appL st zs' (c.fmod 1000) hz'
        refine ⟨.nx, dgE ns st.length k (some (.int (c.fdiv 1000))) (some (.int (i : Nat))) z, st ++ [.lst ((zs' ++ [c.fmod 1000]).map .int)], ?_, .inl rfl, zs' ++ [c.fmod 1000], _, _, rfl, rfl, by simp; omega⟩
        simp [hc, binD, a]
      · refine ⟨.nx, dgE ns st.length k (some (.int c)) (some (.int (i : Nat))) z, st ++ [.lst (zs'.map .int)], ?_, .inl rfl, zs', _, _, rfl, rfl, by omega⟩
        simp [hc])
  exact ⟨_, _, e, zs', _, w, rfl, rfl, h⟩
theorem dig_b (C : List CS) (ns : List Int) (st : Sto) (k b : Option D) (zs : List Int) (c : Int) (w0 : Option D) (hz : zs.length ≤ 1000000) : ∃ ρ' st', ex (.for_ .rng1 [(.int 12)] (.nm 6)
      [.asg (.nm 7) (.bin .mod (.bi .int [(.bin .add (.bin .add (.bin .mul (.var 7) (.int 16807)) (.bin .mul (.int 7) (.var 6))) (.int 1))]) (.int 2147483647)),
       .expr (.mth .append (.var 3) [(.bin .mod (.bi .int [(.bin .fdiv (.var 7) (.int 997))]) (.int 1000))])]) gl C (dgE ns st.length k b w0 (some (.int c))) (st ++ [.lst (zs.map .int)]) = some (.nx, ρ', st') ∧ ∃ (zs' : List Int) (w z : Option D), ρ' = dgE ns st.length k b w z ∧ st' = st ++ [.lst (zs'.map .int)] ∧ zs'.length ≤ zs.length + 12 := by
  obtain ⟨ρ', st', e, zs', c', w, rfl, rfl, h⟩ := ex_rng (g := gl) (C := C) (N := 12) (src := .int 12) (tg := .nm 6) (ρ := dgE ns st.length k b w0 (some (.int c))) (b := [.asg (.nm 7) (.bin .mod (.bi .int [(.bin .add (.bin .add (.bin .mul (.var 7) (.int 16807)) (.bin .mul (.int 7) (.var 6))) (.int 1))]) (.int 2147483647)),
       .expr (.mth .append (.var 3) [(.bin .mod (.bi .int [(.bin .fdiv (.var 7) (.int 997))]) (.int 1000))])]) (st := st ++ [.lst (zs.map .int)]) (st0 := st ++ [.lst (zs.map .int)]) rfl (by omega)
    (fun i ρ s => ∃ (zs' : List Int) (c : Int) (w : Option D), ρ = dgE ns st.length k b w (some (.int c)) ∧ s = st ++ [.lst (zs'.map .int)] ∧ zs'.length ≤ zs.length + i) ⟨zs, c, _, rfl, rfl, by omega⟩ (by
      rintro i ρ s hi ⟨zs', c, w, rfl, rfl, h⟩
      have hz' : zs'.length < sizeLine := by rw [sizeLine_eq]; omega
      generalize hq : (c * 16807 + 7 * (i : Int) + 1).fmod 2147483647 = q
      have a := appL st zs' ((q.fdiv 997).fmod 1000) hz'
      have h7 : small 7 = true := by decide
      have h8 : small 16807 = true := by decide
      refine ⟨.nx, dgE ns st.length k b (some (.int (i : Nat))) (some (.int q)), st ++ [.lst ((zs' ++ [(q.fdiv 997).fmod 1000]).map .int)], ?_, .inl rfl, _, _, _, rfl, rfl, by simp; omega⟩
      simp [binD, h7, h8, hq, a])
  exact ⟨_, _, e, zs', w, _, rfl, rfl, h⟩
end K00
end
section
set_option Elab.async false
set_option linter.all false
set_option maxRecDepth 100000
set_option maxHeartbeats 1000000
namespace K00
open Dz PySem
theorem bin_mulR {i j : Int} {st : Sto} (h : small j = true) : binD .mul (.int i) (.int j) st = some (.int (i * j), st) := by
  show (if (small i || small j) = true then _ else _) = _
  rw [h, Bool.or_true]; rfl
theorem bin_modI {i j : Int} {st : Sto} (h : j ≠ 0) : binD .mod (.int i) (.int j) st = some (.int (i.fmod j), st) := if_pos h
theorem seed_ev (a b m : Int) (ha : small a = true) (hb : small b = true) (hm : m ≠ 0) (C : List CS) (ns : List Int) (P : Nat) (k : Int) (c : Int) (x z : Option D) (s : Sto) :
    ex (.asg (.nm 7) (.bin .mod (.bi .int [(.bin .add (.bin .add (.bin .mul (.var 5) (.int a)) (.bin .mul (.var 4) (.int b))) (.int 11))]) (.int m))) gl C (dgE ns P (some (.int k)) (some (.int c)) x z) s = some (.nx, dgE ns P (some (.int k)) (some (.int c)) x (some (.int ((c * a + k * b + 11).fmod m))), s) := by
  simp only [ex_asg, ev_bin, ev_bi, evs_cons, evs_nil, ev_varS, ev_var0, ev_int, Option.bind_some, Option.map_some, bin_mulR ha, bin_mulR hb, bin_addI, int_int, bin_modI hm]
  rfl
theorem run_digits (n : Nat) (ns : List Int) (st : Sto) : ∃ zs : List Int, callD FS gl (n + 1) 6 [.fz (ns.map .int), .int 0, .int 62] st = some (.ref st.length, st ++ [.lst (zs.map .int)]) := by
  obtain ⟨ρ', st', e, zs, x1, x2, x3, x4, rfl, rfl, h⟩ := ex_for (g := gl) (C := (calls FS gl (n + 1))) (ik := .rng2) (src := [.var 1, .var 2]) (tg := .nm 4) (b := [(.asg (.nm 5) (.call 5 [(.var 0), (.var 4)])), (.ife (.cmp .lt (.var 5) (.int 0)) [.asg (.nm 5) (.bin .sub (.int 1) (.bin .mul (.int 2) (.var 5)))] []), (.ife (.cmp .ge (.var 5) (.bin .pow (.int 10) (.int 18))) [.for_ .rng1 [(.int 60)] (.nm 6)
      [.ife (.cmp .gt (.var 5) (.int 0))
        [.expr (.mth .append (.var 3) [(.bin .mod (.bi .int [(.var 5)]) (.int 1000))]),
         .asg (.nm 5) (.bin .fdiv (.var 5) (.int 1000))]
        []]] [(.asg (.nm 7) (.bin .mod (.bi .int [(.bin .add (.bin .add (.bin .mul (.var 5) (.int 48271)) (.bin .mul (.var 4) (.int 69621))) (.int 11))]) (.int 2147483647))), (.for_ .rng1 [(.int 12)] (.nm 6)
      [.asg (.nm 7) (.bin .mod (.bi .int [(.bin .add (.bin .add (.bin .mul (.var 7) (.int 16807)) (.bin .mul (.int 7) (.var 6))) (.int 1))]) (.int 2147483647)),
       .expr (.mth .append (.var 3) [(.bin .mod (.bi .int [(.bin .fdiv (.var 7) (.int 997))]) (.int 1000))])])])])
    (ρ := dgE ns st.length none none none none) (st := st ++ [.lst []]) (st0 := st ++ [.lst []]) (xs := [.int 0, .int 62]) (J := .rng 0 1 62) (N := 62) rfl (by simp [itD, inR])
    (fun i ρ s => ∃ (zs : List Int) (x1 x2 x3 x4 : Option D), ρ = dgE ns st.length x1 x2 x3 x4 ∧ s = st ++ [.lst (zs.map .int)] ∧ zs.length ≤ 60 * i) ⟨[], none, none, none, none, rfl, rfl, by simp⟩ (by
      rintro i ρ s hi ⟨zs, x1, x2, x3, x4, rfl, rfl, h⟩
      have e1 := run_cell n ns i (st ++ [.lst (zs.map .int)])
      have f0 : asgD (.nm 4) (.int (i : Nat)) (st ++ [.lst (zs.map .int)]) (dgE ns st.length x1 x2 x3 x4) = some (dgE ns st.length (some (.int (i : Nat))) x2 x3 x4) := rfl
      have f1 : ex (.asg (.nm 5) (.call 5 [(.var 0), (.var 4)])) gl (calls FS gl (n + 1)) (dgE ns st.length (some (.int (i : Nat))) x2 x3 x4) (st ++ [.lst (zs.map .int)]) = some (.nx, dgE ns st.length (some (.int (i : Nat))) (some (.int (cellOf ns i))) x3 x4, st ++ [.lst (zs.map .int)]) := by
        simp [e1]
      have h2 : small 2 = true := by decide
      have f2 : ∃ c : Int, ex (.ife (.cmp .lt (.var 5) (.int 0)) [.asg (.nm 5) (.bin .sub (.int 1) (.bin .mul (.int 2) (.var 5)))] []) gl (calls FS gl (n + 1)) (dgE ns st.length (some (.int (i : Nat))) (some (.int (cellOf ns i))) x3 x4) (st ++ [.lst (zs.map .int)]) = some (.nx, dgE ns st.length (some (.int (i : Nat))) (some (.int c)) x3 x4, st ++ [.lst (zs.map .int)]) := by
        by_cases hc : cellOf ns i < 0
        · exact ⟨1 - 2 * cellOf ns i, by simp [hc, binD, h2]⟩
        · exact ⟨cellOf ns i, by simp [hc]⟩
      obtain ⟨c, f2⟩ := f2
      have hT : evT (.cmp .ge (.var 5) (.bin .pow (.int 10) (.int 18))) gl (calls FS gl (n + 1)) (dgE ns st.length (some (.int (i : Nat))) (some (.int c)) x3 x4) (st ++ [.lst (zs.map .int)]) = some (decide (c ≥ 10 ^ 18), st ++ [.lst (zs.map .int)]) := by
        have hp : binD .pow (.int 10) (.int 18) (st ++ [.lst (zs.map .int)]) = some (.int (10 ^ 18), st ++ [.lst (zs.map .int)]) := by
          simp [binD]
        simp only [evT_cmp, ev_varS, ev_var0, ev_bin, ev_int, Option.bind_some, hp, cmp_ge, Option.map_some]
      have f3 : ∃ (zs' : List Int) (y2 y3 y4 : Option D), ex (.ife (.cmp .ge (.var 5) (.bin .pow (.int 10) (.int 18))) [.for_ .rng1 [(.int 60)] (.nm 6)
      [.ife (.cmp .gt (.var 5) (.int 0))
        [.expr (.mth .append (.var 3) [(.bin .mod (.bi .int [(.var 5)]) (.int 1000))]),
         .asg (.nm 5) (.bin .fdiv (.var 5) (.int 1000))]
        []]] [(.asg (.nm 7) (.bin .mod (.bi .int [(.bin .add (.bin .add (.bin .mul (.var 5) (.int 48271)) (.bin .mul (.var 4) (.int 69621))) (.int 11))]) (.int 2147483647))), (.for_ .rng1 [(.int 12)] (.nm 6)
      [.asg (.nm 7) (.bin .mod (.bi .int [(.bin .add (.bin .add (.bin .mul (.var 7) (.int 16807)) (.bin .mul (.int 7) (.var 6))) (.int 1))]) (.int 2147483647)),
       .expr (.mth .append (.var 3) [(.bin .mod (.bi .int [(.bin .fdiv (.var 7) (.int 997))]) (.int 1000))])])]) gl (calls FS gl (n + 1)) (dgE ns st.length (some (.int (i : Nat))) (some (.int c)) x3 x4) (st ++ [.lst (zs.map .int)]) = some (.nx, dgE ns st.length (some (.int (i : Nat))) y2 y3 y4, st ++ [.lst (zs'.map .int)]) ∧ zs'.length ≤ zs.length + 60 := by
        by_cases hc : c ≥ 10 ^ 18
        · obtain ⟨ρ1, s1, e5, zs', b, w, rfl, rfl, hl⟩ := dig_a (calls FS gl (n + 1)) ns st (some (.int (i : Nat))) x4 zs c x3 (by omega)
          refine ⟨zs', b, w, x4, ?_, hl⟩
          rw [ex_ife, hT, decide_eq_true hc]
          show exs _ gl (calls FS gl (n + 1)) _ _ = _
          rw [exs_step e5 rfl]
          rfl
        · generalize hq : (c * 48271 + (i : Int) * 69621 + 11).fmod 2147483647 = q
          obtain ⟨ρ1, s1, e5, zs', w, z, rfl, rfl, hl⟩ := dig_b (calls FS gl (n + 1)) ns st (some (.int (i : Nat))) (some (.int c)) zs q x3 (by omega)
          have h4 : small 48271 = true := by decide
          have h5 : small 69621 = true := by decide
          have f7 : ex (.asg (.nm 7) (.bin .mod (.bi .int [(.bin .add (.bin .add (.bin .mul (.var 5) (.int 48271)) (.bin .mul (.var 4) (.int 69621))) (.int 11))]) (.int 2147483647))) gl (calls FS gl (n + 1)) (dgE ns st.length (some (.int (i : Nat))) (some (.int c)) x3 x4) (st ++ [.lst (zs.map .int)]) = some (.nx, dgE ns st.length (some (.int (i : Nat))) (some (.int c)) x3 (some (.int q)), st ++ [.lst (zs.map .int)]) := by
            rw [← hq]; exact seed_ev 48271 69621 2147483647 h4 h5 (by decide) _ ns _ _ c x3 x4 _
          refine ⟨zs', some (.int c), w, z, ?_, by omega⟩
          rw [ex_ife, hT, decide_eq_false hc]
          show exs _ gl (calls FS gl (n + 1)) _ _ = _
          rw [exs_step f7 rfl, exs_step e5 rfl]
          rfl
      obtain ⟨zs', y2, y3, y4, f3, h3⟩ := f3
      refine ⟨.int (i : Nat), .nx, dgE ns st.length (some (.int (i : Nat))) y2 y3 y4, st ++ [.lst (zs'.map .int)], ?_, ?_, .inl rfl, zs', _, _, _, _, rfl, rfl, by omega⟩
      · simp [nxD, hi]
      · rw [f0]
        show exs _ gl (calls FS gl (n + 1)) _ _ = _
        rw [exs_step f1 rfl, exs_step f2 rfl, exs_step f3 rfl]
        rfl) (fun _ _ _ => rfl)
  refine ⟨zs, ?_⟩
  have hz0 : 0 ≤ sizeLine := Nat.zero_le _
  refine cl_ret (d := d6.df) (ρ' := dgE ns st.length x1 x2 x3 x4) rfl rfl ?_
  show exs b6 gl (calls FS gl (n + 1)) [some (.fz (ns.map .int)), some (.int 0), some (.int 62), none, none, none, none, none] st = _
  have a1 : ex (.asg (.nm 3) (.lst [])) gl (calls FS gl (n + 1)) [some (.fz (ns.map .int)), some (.int 0), some (.int 62), none, none, none, none, none] st = some (.nx, dgE ns st.length none none none none, st ++ [.lst []]) := by simp [hz0]
  have a3 : ex (.ret (.var 3)) gl (calls FS gl (n + 1)) (dgE ns st.length x1 x2 x3 x4) (st ++ [.lst (zs.map .int)]) = some (.rt (.ref st.length), dgE ns st.length x1 x2 x3 x4, st ++ [.lst (zs.map .int)]) := rfl
  unfold b6
  rw [exs_step a1 rfl, exs_step e rfl, exs_ret a3]
theorem run_box (n : Nat) (ns : List Int) : ∃ st b j, callD FS gl (n + 2) 8 [.fz (ns.map .int), .int 0, .int 62] [] = some (.ref b, st) ∧ Box b j st := by
  obtain ⟨zs, e⟩ := run_digits n ns []
  refine ⟨[.lst (zs.map .int), .lst [.ref 0, .int 0]], 1, 0, ?_, by decide, 0, zs, rfl, rfl⟩
  refine cl_ret (d := d8.df) (ρ' := [some (.fz (ns.map .int)), some (.int 0), some (.int 62)]) rfl rfl ?_
  show exs b8 gl (calls FS gl (n + 2)) [some (.fz (ns.map .int)), some (.int 0), some (.int 62)] [] = _
  have hz : 2 ≤ sizeLine := by rw [sizeLine_eq]; omega
  have a : ex (.ret (.lst [(.call 6 [(.var 0), (.var 1), (.var 2)]), (.int 0)])) gl (calls FS gl (n + 2)) [some (.fz (ns.map .int)), some (.int 0), some (.int 62)] [] = some (.rt (.ref 1), [some (.fz (ns.map .int)), some (.int 0), some (.int 62)], [.lst (zs.map .int), .lst [.ref 0, .int 0]]) := by
    simp [e, hz]
  unfold b8
  rw [exs_ret a]
end K00
end
section
set_option Elab.async false
set_option linter.all false
set_option maxRecDepth 100000
set_option maxHeartbeats 1000000
namespace K00
open Dz PySem
/-! ### values that may be no kinds; _law_is_kind -/
mutual
/-- texts are the menu's, lists hold kinds and are not X's -/
def spv (b : Nat) (st : Sto) : D → Prop
  | .tup ds => spvs b st ds
  | .ref k => k ≠ b ∧ ∃ ds, lstOf st k = some ds ∧ isKs ds = true ∧ hgts ds ≤ 6
  | .str x => x = "" ∨ x = "o" ∨ x = "()"
  | .fz _ => False
  | _ => True
def spvs (b : Nat) (st : Sto) : List D → Prop
  | [] => True
  | d :: ds => spv b st d ∧ spvs b st ds
end
mutual
/-- how deep it reads as data -/
def dep : D → Nat
  | .tup ds => 1 + deps ds
  | .ref _ => 8
  | _ => 0
def deps : List D → Nat
  | [] => 0
  | d :: ds => max (dep d) (deps ds)
end
mutual
theorem toK (f : Nat → Option PyData) : ∀ d : D, isK d = true → ∃ a, toPw f d = some a ∧ a.canLay0 = true ∧ a.depth ≤ hgt d + 1
  | .tup ds, h => by
    obtain ⟨as, e, h1, h2, _⟩ := toKs f ds h
    refine ⟨.tuple as, by simp only [toPw, e, Option.map_some], ?_, ?_⟩
    · simp only [PyData.canLay0]; exact h1
    · simp only [PyData.depth, hgt]; omega
  | .non, h | .bl _, h | .int _, h | .str _, h | .fz _, h | .ref _, h => by simp [isK] at h
theorem toKs (f : Nat → Option PyData) : ∀ ds : List D, isKs ds = true → ∃ as, toPws f ds = some as ∧ PyData.canLayAll0 as = true ∧ PyData.depthAll as ≤ hgts ds ∧ as.length = ds.length
  | [], _ => ⟨[], rfl, rfl, Nat.le_refl _, rfl⟩
  | d :: ds, h => by
    simp only [isKs, Bool.and_eq_true] at h
    obtain ⟨a, e, h1, h2⟩ := toK f d h.1
    obtain ⟨as, e', h1', h2', h3⟩ := toKs f ds h.2
    refine ⟨a :: as, by simp only [toPws, e, e', Option.bind_some, Option.map_some], ?_, ?_, by simp [h3]⟩
    · simp only [PyData.canLayAll0, h1, h1', Bool.and_self]
    · simp only [PyData.depthAll, hgts]; omega
end
theorem mapM_toPw (f : Nat → Option PyData) : ∀ ds : List D, ds.mapM (toPw f) = toPws f ds
  | [] => rfl
  | d :: ds => by
    rw [List.mapM_cons, mapM_toPw f ds]
    simp only [toPws]
    cases toPw f d with
    | none => rfl
    | some a => cases toPws f ds <;> rfl
def fS (n : Nat) (st : Sto) : Nat → Option PyData := fun k => match st[k]? with | some (.lst ds) => (ds.mapM (toP (n + 1) st)).map PyData.list | _ => none
mutual
theorem toS (b n : Nat) (st : Sto) : ∀ d : D, spv b st d → ∃ a, toPw (fS n st) d = some a ∧ a.canLay0 = true ∧ a.depth ≤ dep d
  | .tup ds, h => by
    obtain ⟨as, e, h1, h2, _⟩ := toSs b n st ds h
    refine ⟨.tuple as, by simp only [toPw]; rw [e]; rfl, ?_, ?_⟩
    · simp only [PyData.canLay0]; exact h1
    · simp only [PyData.depth, dep]; omega
  | .non, _ => ⟨.none, rfl, rfl, Nat.zero_le _⟩
  | .bl _, _ => ⟨.bool _, rfl, rfl, Nat.zero_le _⟩
  | .int _, _ => ⟨.int _, rfl, rfl, Nat.zero_le _⟩
  | .str x, h => by
    refine ⟨.str x, rfl, ?_, Nat.zero_le _⟩
    rcases h with rfl | rfl | rfl <;> decide +kernel
  | .fz _, h => h.elim
  | .ref k, h => by
    obtain ⟨_, ds, e, hk, hg⟩ := h
    have hf : ∃ f, toP (n + 1) st = toPw f := ⟨_, rfl⟩
    obtain ⟨f, hf⟩ := hf
    obtain ⟨as, e1, h1, h2, _⟩ := toKs f ds hk
    refine ⟨.list as, ?_, ?_, ?_⟩
    · show (match st[k]? with | some (.lst ds) => (ds.mapM (toP (n + 1) st)).map PyData.list | _ => none) = _
      rw [getO e, hf]
      show (ds.mapM (toPw f)).map PyData.list = _
      rw [mapM_toPw, e1]; rfl
    · simp only [PyData.canLay0]; exact h1
    · simp only [PyData.depth, dep]; omega
theorem toSs (b n : Nat) (st : Sto) : ∀ ds : List D, spvs b st ds → ∃ as, toPws (fS n st) ds = some as ∧ PyData.canLayAll0 as = true ∧ PyData.depthAll as ≤ deps ds ∧ as.length = ds.length
  | [], _ => ⟨[], rfl, rfl, Nat.le_refl _, rfl⟩
  | d :: ds, h => by
    obtain ⟨a, e, h1, h2⟩ := toS b n st d h.1
    obtain ⟨as, e', h1', h2', h3⟩ := toSs b n st ds h.2
    refine ⟨a :: as, ?_, ?_, ?_, by simp [h3]⟩
    · simp only [toPws]
      rw [e', e]; rfl
    · simp only [PyData.canLayAll0, h1, h1', Bool.and_self]
    · simp only [PyData.depthAll, deps]; omega
end
end K00
end
section
set_option Elab.async false
set_option linter.all false
set_option maxRecDepth 100000
set_option maxHeartbeats 1000000
namespace K00
open Dz PySem
theorem spvs_mem {b : Nat} {st : Sto} : ∀ {ds : List D} {d : D}, spvs b st ds → d ∈ ds → spv b st d
  | x :: ds, d, h, m => by
    cases m with
    | head => exact h.1
    | tail _ m => exact spvs_mem h.2 m
theorem spvs_of {b : Nat} {st : Sto} : ∀ {ds : List D}, (∀ d ∈ ds, spv b st d) → spvs b st ds
  | [], _ => trivial
  | x :: ds, h => ⟨h x (List.mem_cons_self), spvs_of fun d m => h d (List.mem_cons_of_mem _ m)⟩
theorem deps_mem : ∀ {ds : List D} {d : D}, d ∈ ds → dep d ≤ deps ds
  | x :: ds, d, m => by
    simp only [deps]
    cases m with
    | head => omega
    | tail _ m => have := deps_mem m; omega
theorem deps_le : ∀ {ds : List D} {m : Nat}, (∀ d ∈ ds, dep d ≤ m) → deps ds ≤ m
  | [], _, _ => Nat.zero_le _
  | d :: ds, m, h => by
    have h1 := h d (List.mem_cons_self)
    have h2 := deps_le (ds := ds) fun x hx => h x (List.mem_cons_of_mem _ hx)
    simp only [deps]; omega
mutual
theorem spv_kp {b : Nat} {X : List Nat} {st st' : Sto} (h : Kp X st st') (hX : ∀ x ∈ X, x = b) : ∀ d : D, spv b st d → spv b st' d
  | .tup ds, p => spvs_kp h hX ds p
  | .ref k, ⟨n, ds, e, p⟩ => ⟨n, ds, h.get e (fun m => n (hX k m)), p⟩
  | .non, _ => trivial
  | .bl _, _ => trivial
  | .int _, _ => trivial
  | .str _, p => p
  | .fz _, p => p
theorem spvs_kp {b : Nat} {X : List Nat} {st st' : Sto} (h : Kp X st st') (hX : ∀ x ∈ X, x = b) : ∀ ds : List D, spvs b st ds → spvs b st' ds
  | [], _ => trivial
  | d :: ds, p => ⟨spv_kp h hX d p.1, spvs_kp h hX ds p.2⟩
end
mutual
theorem spv_inS {b : Nat} {st : Sto} : ∀ d : D, spv b st d → inS st d
  | .tup ds, p => spvs_inS ds p
  | .ref k, ⟨n, ds, e, p⟩ => by show (lstOf st k).isSome = true; rw [e]; rfl
  | .non, _ => trivial
  | .bl _, _ => trivial
  | .int _, _ => trivial
  | .str _, p => trivial
  | .fz _, p => p
theorem spvs_inS {b : Nat} {st : Sto} : ∀ ds : List D, spvs b st ds → inSs st ds
  | [], _ => trivial
  | d :: ds, p => ⟨spv_inS d p.1, spvs_inS ds p.2⟩
end
mutual
theorem spv_K {b : Nat} (st : Sto) : ∀ (d : D), isK d = true → spv b st d
  | .tup ds, h => spvs_K st ds h
  | .non, h | .bl _, h | .int _, h | .str _, h | .fz _, h | .ref _, h => by simp [isK] at h
theorem spvs_K {b : Nat} (st : Sto) : ∀ (ds : List D), isKs ds = true → spvs b st ds
  | [], _ => trivial
  | d :: ds, h => by
    simp only [isKs, Bool.and_eq_true] at h
    exact ⟨spv_K st d h.1, spvs_K st ds h.2⟩
end
theorem eq_nil {b : Nat} {st : Sto} {k j : Nat} {acc : List D} (hk : lstOf st k = some acc) (hj : lstOf st j = some []) (hs : spvs b st acc) (hd : deps acc ≤ 60) : eqD st (.ref k) (.ref j) = some acc.isEmpty := by
  obtain ⟨as, e, h1, h2, h3⟩ := toSs b 0 st acc hs
  have e1 : toP 3 st (.ref k) = some (.list as) := by
    show (match st[k]? with | some (.lst ds) => (ds.mapM (toPw (fS 0 st))).map PyData.list | _ => none) = _
    rw [getO hk]
    show (acc.mapM (toPw (fS 0 st))).map PyData.list = _
    rw [mapM_toPw, e]; rfl
  have e2 : toP 3 st (.ref j) = some (.list []) := by
    show (match st[j]? with | some (.lst ds) => (ds.mapM (toPw (fS 0 st))).map PyData.list | _ => none) = _
    rw [getO hj]; rfl
  have s1 : SeqAt.shaped (.list as) = true := by
    have h9 : PyData.depthAll as + 1 ≤ 64 := by omega
    simp [SeqAt.shaped, PyData.canLay0, PyData.depth, h1, h9]
  have s2 : SeqAt.shaped (.list []) = true := by decide +kernel
  unfold eqD
  rw [e1, e2]
  simp only [Option.bind_some, s1, s2, Bool.and_self, if_true]
  congr 1
  cases as with
  | nil =>
    have : acc = [] := List.eq_nil_of_length_eq_zero (by rw [← h3]; rfl)
    subst this
    simp [PyData.eqv, PyData.eqvAll]
  | cons a as =>
    cases acc with
    | nil => simp at h3
    | cons d acc => simp [PyData.eqv, PyData.eqvAll]
end K00
end
section
set_option Elab.async false
set_option linter.all false
set_option maxRecDepth 100000
set_option maxHeartbeats 1000000
namespace K00
open Dz PySem
theorem isKs_filter : ∀ ds : List D, (ds.filter fun d => !isK d).isEmpty = isKs ds
  | [] => rfl
  | d :: ds => by
    simp only [List.filter_cons, isKs]
    cases h : isK d with
    | true => simpa using isKs_filter ds
    | false => simp
theorem spvs_app {b : Nat} {st J : Sto} (ds : List D) (h : spvs b st ds) : spvs b (st ++ J) ds := spvs_kp (X := []) (Kp.app [] st J) (by simp) ds h
theorem spv_app {b : Nat} {st J : Sto} (d : D) (h : spv b st d) : spv b (st ++ J) d := spv_kp (X := []) (Kp.app [] st J) (by simp) d h
theorem not_tup {b : Nat} {st : Sto} {v : D} (h : spv b st v) (hn : ∀ ds, v ≠ .tup ds) : isiD v .tuple st = some false ∧ isK v = false := by
  cases v with
  | tup ds => exact absurd rfl (hn ds)
  | ref k =>
    obtain ⟨_, ds, e, _⟩ := h
    exact ⟨by show (lstOf st k).map _ = _; rw [e]; rfl, rfl⟩
  | fz ds => exact h.elim
  | _ => exact ⟨rfl, rfl⟩
theorem run_law_is_kind (b : Nat) : ∀ (n : Nat) (v : D) (st : Sto), spv b st v → dep v ≤ n → dep v ≤ 60 → sz v ≤ 1000000 → ∃ J, callD FS gl n 13 [v] st = some (.bl (isK v), st ++ J) := by
  intro n
  induction n using Nat.strongRecOn with
  | _ n ih =>
    intro v st hv hh h6 hs
    by_cases ht : ∃ ds, v = .tup ds
    · obtain ⟨ds, rfl⟩ := ht
      simp only [dep, sz] at hh hs h6
      have hlen := len_szs ds
      obtain ⟨acc, s3, e3, rfl, J3, rfl⟩ := ev_comp (g := gl) (C := calls FS gl n) (ik := .one) (src := [.var 0]) (tg := .nm 1) (cnd := [(.not (.val (.call 13 [(.var 1)])))]) (elt := .var 1) (own := [1])
        (ρ := [some (.tup ds), none]) (st := st) (st0 := st) (xs := [.tup ds]) (J := .tup ds) (N := ds.length) (by simp) (by simp [itD])
        (fun j acc s => acc = ((ds.take j).filter fun d => !isK d) ∧ ∃ J3, s = st ++ J3) ⟨by simp, [], by simp⟩ (by
          rintro i acc s hi ⟨rfl, J3, rfl⟩
          obtain ⟨d, e1, m⟩ := get_some hi
          have h1 := deps_mem m
          have h2 := szs_mem m
          obtain ⟨n, rfl⟩ : ∃ m, n = m + 1 := ⟨n - 1, by omega⟩
          obtain ⟨J2, e2⟩ := ih n (by omega) d (st ++ J3) (spv_app d (spvs_mem hv m)) (by omega) (by omega) (by omega)
          refine ⟨d, if isK d then none else some d, st ++ (J3 ++ J2), by simp [nxD, e1], ?_, ?_, ?_, _, rfl⟩
          · cases hd : isK d <;> rw [hd] at e2 <;> simp [e2]
          · intro _
            rw [sizeLine_eq]
            have := List.length_filter_le (fun d => !isK d) (ds.take i)
            simp at this ⊢
            omega
          · rw [take_one e1, List.filter_append]
            cases hd : isK d <;> simp [hd]) (by
          rintro acc s ⟨_, J3, rfl⟩
          simp [stD])
      rw [List.take_length] at e3
      have hf : ∀ d ∈ ds.filter (fun d => !isK d), d ∈ ds := fun d m => (List.mem_filter.mp m).1
      have q1 : lstOf (st ++ J3 ++ [O.lst (ds.filter fun d => !isK d)] ++ [O.lst []]) (st ++ J3).length = some (ds.filter fun d => !isK d) := lst_old (lst_mid _ _ [])
      have q2 : lstOf (st ++ J3 ++ [O.lst (ds.filter fun d => !isK d)] ++ [O.lst []]) (st ++ J3 ++ [O.lst (ds.filter fun d => !isK d)]).length = some [] := lst_mid _ _ []
      have q3 : spvs b (st ++ J3 ++ [O.lst (ds.filter fun d => !isK d)] ++ [O.lst []]) (ds.filter fun d => !isK d) := by
        have := spvs_app (J := J3 ++ [O.lst (ds.filter fun d => !isK d)] ++ [O.lst []]) ds hv
        simp only [← List.append_assoc] at this
        exact spvs_of fun d m => spvs_mem this (hf d m)
      have q4 := eq_nil q1 q2 q3 (deps_le fun d m => by have := deps_mem (hf d m); omega)
      rw [isKs_filter] at q4
      have hz0 : 0 ≤ sizeLine := Nat.zero_le _
      have e9 : ex (.ret (.cmp .eq (.lc .one [(.var 0)] (.nm 1) [(.not (.val (.call 13 [(.var 1)])))] (.var 1) [1]) (.lst []))) gl (calls FS gl n) [some (.tup ds), none] st = some (.rt (.bl (isKs ds)), [some (.tup ds), none], st ++ J3 ++ [O.lst (ds.filter fun d => !isK d)] ++ [O.lst []]) := by
        simp only [ex_ret, ev_cmp, e3, Option.bind_some, ev_lst, evs_nil, List.length_nil, if_pos hz0, new_eq, cmp_eq, q4, Option.map_some]
      refine ⟨J3 ++ [O.lst (ds.filter fun d => !isK d)] ++ [O.lst []], ?_⟩
      rw [← List.append_assoc, ← List.append_assoc]
      refine cl_ret (d := d13.df) (ρ' := [some (.tup ds), none]) rfl rfl ?_
      show exs b13 gl (calls FS gl n) [some (.tup ds), none] st = _
      have hT : evT (.not (.val (.isi (.var 0) .tuple))) gl (calls FS gl n) [some (.tup ds), none] st = some (false, st) := rfl
      have e8 : ex (.ife (.not (.val (.isi (.var 0) .tuple))) [.ret (.bl false)] []) gl (calls FS gl n) [some (.tup ds), none] st = some (.nx, [some (.tup ds), none], st) := by
        rw [ex_ife, hT]; rfl
      unfold b13
      rw [exs_step e8 rfl, exs_ret e9]
      rfl
    · obtain ⟨h1, h2⟩ := not_tup hv (fun ds e => ht ⟨ds, e⟩)
      refine ⟨[], ?_⟩
      rw [List.append_nil, h2]
      refine cl_ret (d := d13.df) (ρ' := [some v, none]) rfl rfl ?_
      show exs b13 gl (calls FS gl n) [some v, none] st = _
      have hT : evT (.not (.val (.isi (.var 0) .tuple))) gl (calls FS gl n) [some v, none] st = some (true, st) := by simp [h1]
      unfold b13
      rw [exs_cons, ex_ife, hT]
      rfl
end K00
end
section
set_option Elab.async false
set_option linter.all false
set_option maxRecDepth 100000
set_option maxHeartbeats 1000000
namespace K00
open Dz PySem L2
/-! ### _law_spoilt_kind -/
theorem cut_to (ds : List D) (k : Nat) (h : k ≤ ds.length) : cutD ds none (some ((k : Nat) : Int)) = ds.take k := by
  unfold cutD
  rw [HT.sIx_none, HT.sIx_nat, List.drop_zero, Nat.sub_zero, Nat.min_eq_left h]
theorem cut_from (ds : List D) (k : Nat) : cutD ds (some ((k : Nat) : Int)) none = ds.drop k := by
  unfold cutD
  rw [HT.sIx_none, HT.sIx_nat]
  rcases Nat.le_total k ds.length with h | h
  · rw [Nat.min_eq_left h, List.take_of_length_le (by simp)]
  · rw [Nat.min_eq_right h, List.drop_of_length_le h, List.drop_of_length_le (Nat.le_refl _)]; simp
mutual
theorem dep_K : ∀ d : D, isK d = true → dep d = hgt d + 1
  | .tup ds, h => by
    simp only [dep, hgt, deps_K ds h]; omega
  | .non, h | .bl _, h | .int _, h | .str _, h | .fz _, h | .ref _, h => by simp [isK] at h
theorem deps_K : ∀ ds : List D, isKs ds = true → deps ds = hgts ds
  | [], _ => rfl
  | d :: ds, h => by
    simp only [isKs, Bool.and_eq_true] at h
    simp only [deps, hgts, dep_K d h.1, deps_K ds h.2]; omega
end
theorem deps_append : ∀ (a b : List D), deps (a ++ b) = max (deps a) (deps b)
  | [], b => by simp [deps]
  | x :: a, b => by simp only [List.cons_append, deps, deps_append a b]; omega
theorem spvs_append {b : Nat} {st : Sto} : ∀ (x y : List D), spvs b st (x ++ y) ↔ spvs b st x ∧ spvs b st y
  | [], y => by simp [spvs]
  | d :: x, y => by simp only [List.cons_append, spvs, spvs_append x y, and_assoc]
def menu (v : D) (P : Nat) : List D := [.ref P, .non, .int 0, .int 1, .bl true, .str "", .str "o", .str "()", .ref (P + 1), .tup [v], .tup [v, .tup []], .tup [.tup [], .non], .tup [.tup [], .ref (P + 2)]]
def menuE : E := .lst [(.bi .list [(.var 1)]), .non, (.int 0), (.int 1), (.bl true), (.str ""), (.str "o"), (.str "()"), (.lst [(.tup [])]), (.tup [(.var 1)]), (.tup [(.var 1), (.tup [])]), (.tup [(.tup []), .non]), (.tup [(.tup []), (.lst [])])]
theorem menu_ev (C : List CS) (b : Nat) (ds : List D) (x2 x3 : Option D) (st : Sto) : ev menuE gl C [some (.ref b), some (.tup ds), x2, x3] st = some (.ref (st.length + 3), st ++ [.lst ds, .lst [.tup []], .lst [], .lst (menu (.tup ds) st.length)]) := by
  have hz0 : 0 ≤ sizeLine := Nat.zero_le _
  have hz1 : 1 ≤ sizeLine := by rw [sizeLine_eq]; omega
  have hz2 : 2 ≤ sizeLine := by rw [sizeLine_eq]; omega
  have hz13 : 13 ≤ sizeLine := by rw [sizeLine_eq]; omega
  unfold menuE
  simp only [ev_lst, evs_cons, evs_nil, ev_bi, ev_varS, ev_var0, ev_non, ev_int, ev_bl, ev_str, ev_tup, Option.bind_some, Option.map_some, list_tup, new_eq, List.length_nil, List.length_cons, Nat.zero_add, Nat.reduceAdd, if_pos hz0, if_pos hz1, if_pos hz2, if_pos hz13, List.length_append, List.append_assoc, List.cons_append, List.nil_append]
  rfl
theorem menu_ok (v : D) (P b : Nat) (st : Sto) (ds : List D) (hv : v = .tup ds) (hk : isK v = true) (hh : hgt v ≤ 6) (hb : b < P) (l0 : lstOf st P = some ds) (l1 : lstOf st (P + 1) = some [.tup []]) (l2 : lstOf st (P + 2) = some []) :
    ∀ d ∈ menu v P, spv b st d ∧ sz d ≤ sz v + 5 ∧ dep d ≤ hgt v + 9 := by
  have hp := sz_pos v
  have hd := dep_K v hk
  have hkk := spv_K (b := b) st v hk
  have hks : isKs ds = true := by rw [hv] at hk; exact hk
  have hhs : hgts ds ≤ 6 := by rw [hv] at hh; exact hh
  intro d m
  simp only [menu, List.mem_cons, List.not_mem_nil, or_false] at m
  rcases m with rfl | rfl | rfl | rfl | rfl | rfl | rfl | rfl | rfl | rfl | rfl | rfl | rfl
  · refine ⟨⟨by omega, ds, l0, hks, hhs⟩, ?_, ?_⟩
    · simp only [sz]; omega
    · simp only [dep]; omega
  · exact ⟨trivial, by simp only [sz]; omega, by simp only [dep]; omega⟩
  · exact ⟨trivial, by simp only [sz]; omega, by simp only [dep]; omega⟩
  · exact ⟨trivial, by simp only [sz]; omega, by simp only [dep]; omega⟩
  · exact ⟨trivial, by simp only [sz]; omega, by simp only [dep]; omega⟩
  · exact ⟨.inl rfl, by simp only [sz]; omega, by simp only [dep]; omega⟩
  · exact ⟨.inr (.inl rfl), by simp only [sz]; omega, by simp only [dep]; omega⟩
  · exact ⟨.inr (.inr rfl), by simp only [sz]; omega, by simp only [dep]; omega⟩
  · refine ⟨⟨by omega, _, l1, rfl, by decide⟩, ?_, ?_⟩
    · simp only [sz]; omega
    · simp only [dep]; omega
  · exact ⟨⟨hkk, trivial⟩, by simp only [sz, szs]; omega, by simp only [dep, deps]; omega⟩
  · exact ⟨⟨hkk, trivial, trivial⟩, by simp only [sz, szs]; omega, by simp only [dep, deps]; omega⟩
  · exact ⟨⟨trivial, trivial, trivial⟩, by simp only [sz, szs]; omega, by simp only [dep, deps]; omega⟩
  · refine ⟨⟨trivial, ⟨by omega, _, l2, rfl, by decide⟩, trivial⟩, ?_, ?_⟩
    · simp only [sz, szs]; omega
    · simp only [dep, deps]; omega
theorem menu_run (n b j : Nat) (v : D) (x3 : Option D) (st : Sto) (hk : isK v = true) (hh : hgt v ≤ 6) (hb : Box b j st) :
    ∃ v' ρ' st', exs [.asg (.nm 2) menuE, .ret (.idx (.var 2) (.call 7 [(.var 0), (.bi .len [(.var 2)])]))] gl (calls FS gl (n + 1)) [some (.ref b), some v, none, x3] st = some (.rt v', ρ', st') ∧ spv b st' v' ∧ sz v' ≤ sz v + 5 ∧ dep v' ≤ hgt v + 9 ∧ Box b j st' ∧ Kp [b] st st' := by
  obtain ⟨ds, rfl, hks⟩ := isK_tup hk
  have hlt := hb.lt
  generalize hA : st ++ [.lst ds, .lst [.tup []], .lst [], .lst (menu (.tup ds) st.length)] = s1
  have k1 : Kp [b] st s1 := by rw [← hA]; exact Kp.app _ _ _
  have hb1 : Box b j s1 := by rw [← hA]; exact hb.kp (X := []) (Kp.app _ _ _) (by simp) (by simp)
  have q0 : lstOf s1 st.length = some ds := by rw [← hA]; exact lst_mid _ _ _
  have q1 : lstOf s1 (st.length + 1) = some [.tup []] := by rw [← hA]; simp [lstOf]
  have q2 : lstOf s1 (st.length + 2) = some [] := by rw [← hA]; simp [lstOf]
  have q3 : lstOf s1 (st.length + 3) = some (menu (.tup ds) st.length) := by rw [← hA]; simp [lstOf]
  obtain ⟨r, s2, hr, e2, hb2, k2, _⟩ := run_draw n hb1 13 (by omega)
  have p0 := k2.get q0 (by simp; omega)
  have p1 := k2.get q1 (by simp; omega)
  have p2 := k2.get q2 (by simp; omega)
  have p3 := k2.get q3 (by simp; omega)
  obtain ⟨d, g1, m⟩ := get_some (ds := menu (.tup ds) st.length) (i := r) hr
  have hm := menu_ok (.tup ds) st.length b s2 ds rfl hk hh (by omega) p0 p1 p2 d m
  have g2 : L2.atI (menu (.tup ds) st.length) (r : Int) = some d := L2.atI_nat g1
  refine ⟨d, [some (.ref b), some (.tup ds), some (.ref (st.length + 3)), x3], s2, ?_, hm.1, hm.2.1, hm.2.2, hb2, k1.trans k2⟩
  have a1 : ex (.asg (.nm 2) menuE) gl (calls FS gl (n + 1)) [some (.ref b), some (.tup ds), none, x3] st = some (.nx, [some (.ref b), some (.tup ds), some (.ref (st.length + 3)), x3], s1) := by
    simp only [ex_asg, menu_ev, Option.bind_some, asgD_nm, hA]
    rfl
  have hl : ((menu (.tup ds) st.length).length : Int) = (13 : Nat) := rfl
  have a2 : ex (.ret (.idx (.var 2) (.call 7 [(.var 0), (.bi .len [(.var 2)])]))) gl (calls FS gl (n + 1)) [some (.ref b), some (.tup ds), some (.ref (st.length + 3)), x3] s1 = some (.rt d, [some (.ref b), some (.tup ds), some (.ref (st.length + 3)), x3], s2) := by
    simp only [ex_ret, ev_idx, ev_varS, ev_var0, Option.bind_some, ev_call, evs_cons, evs_nil, ev_bi, len_ref, q3, Option.map_some, hl, e2, idx_ref, p3, g2]
  rw [exs_step a1 rfl, exs_ret a2]
theorem eq_unit {st : Sto} {v : D} (hk : isK v = true) (hh : hgt v ≤ 60) : eqD st v (.tup []) = some (match v with | .tup [] => true | _ => false) := by
  obtain ⟨ds, rfl, hks⟩ := isK_tup hk
  have hf : ∃ f, toP 3 st = toPw f := ⟨_, rfl⟩
  obtain ⟨f, hf⟩ := hf
  obtain ⟨as, e, h1, h2, h3⟩ := toKs f ds hks
  have e1 : toP 3 st (.tup ds) = some (.tuple as) := by rw [hf]; simp only [toPw, e, Option.map_some]
  have e2 : toP 3 st (.tup []) = some (.tuple []) := by rw [hf]; rfl
  have hgg : hgts ds ≤ 60 := hh
  have s1 : SeqAt.shaped (.tuple as) = true := by
    have h9 : PyData.depthAll as + 1 ≤ 64 := by omega
    simp [SeqAt.shaped, PyData.canLay0, PyData.depth, h1, h9]
  have s2 : SeqAt.shaped (.tuple []) = true := by decide +kernel
  unfold eqD
  rw [e1, e2]
  simp only [Option.bind_some, s1, s2, Bool.and_self, if_true]
  congr 1
  cases as with
  | nil =>
    have : ds = [] := List.eq_nil_of_length_eq_zero (by rw [← h3]; rfl)
    subst this
    simp [PyData.eqv, PyData.eqvAll]
  | cons a as =>
    cases ds with
    | nil => simp at h3
    | cons d acc => simp [PyData.eqv, PyData.eqvAll]
end K00
end
section
set_option Elab.async false
set_option linter.all false
set_option maxRecDepth 100000
set_option maxHeartbeats 1000000
namespace K00
open Dz PySem L2
def spT : T := .and [(.val (.isi (.var 1) .tuple)), (.cmp .ne (.var 1) (.tup [])), (.cmp .gt (.call 7 [(.var 0), (.int 3)]) (.int 0))]
def spR : E := .bin .add (.bin .add (.slT (.var 1) (.var 3)) (.tup [(.call 15 [(.var 0), (.idx (.var 1) (.var 3))])])) (.slF (.var 1) (.bin .add (.var 3) (.int 1)))
def spB : List S := [.asg (.nm 3) (.call 7 [(.var 0), (.bi .len [(.var 1)])]), .ret spR]
def mnB : List S := [.asg (.nm 2) menuE, .ret (.idx (.var 2) (.call 7 [(.var 0), (.bi .len [(.var 2)])]))]
theorem b15_eq : b15 = .ife spT spB [] :: mnB := rfl
theorem run_spoilt (b j : Nat) : ∀ (n : Nat) (v : D) (st : Sto), isK v = true → hgt v ≤ 6 → hgt v + 1 ≤ n → sz v ≤ 1000 → Box b j st → ∃ v' st', callD FS gl n 15 [.ref b, v] st = some (v', st') ∧ spv b st' v' ∧ sz v' ≤ sz v + 5 ∧ dep v' ≤ hgt v + 9 ∧ Box b j st' ∧ Kp [b] st st' := by
  intro n
  induction n with
  | zero => intro v st _ _ h; omega
  | succ n ih =>
    intro v st hk hh hn hs hb
    obtain ⟨ds, rfl, hks⟩ := isK_tup hk
    have hz1 : 1 ≤ sizeLine := by rw [sizeLine_eq]; omega
    have hz0 : 0 ≤ sizeLine := Nat.zero_le _
    have hsz := len_szs ds
    have hszd : sz (.tup ds) = 1 + szs ds := rfl
    have hhd : hgt (.tup ds) = hgts ds := rfl
    -- the menu
    have mn : ∀ (s : Sto), Box b j s → Kp [b] st s → evT spT gl (calls FS gl (n + 1)) [some (.ref b), some (.tup ds), none, none] st = some (false, s) → ∃ v' st', callD FS gl (n + 1) 15 [.ref b, .tup ds] st = some (v', st') ∧ spv b st' v' ∧ sz v' ≤ sz (.tup ds) + 5 ∧ dep v' ≤ hgt (.tup ds) + 9 ∧ Box b j st' ∧ Kp [b] st st' := by
      intro s hb1 k1 hT
      obtain ⟨v', ρ', st', e, h1, h2, h3, h4, h5⟩ := menu_run n b j (.tup ds) none s hk hh hb1
      refine ⟨v', st', ?_, h1, h2, h3, h4, k1.trans h5⟩
      refine cl_ret (d := d15.df) (ρ' := ρ') rfl rfl ?_
      show exs b15 gl (calls FS gl (n + 1)) [some (.ref b), some (.tup ds), none, none] st = _
      have e8 : ex (.ife spT spB []) gl (calls FS gl (n + 1)) [some (.ref b), some (.tup ds), none, none] st = some (.nx, [some (.ref b), some (.tup ds), none, none], s) := by
        rw [ex_ife, hT]; rfl
      rw [b15_eq, exs_step e8 rfl]
      exact e
    have hq := eq_unit (st := st) hk (by omega)
    cases ds with
    | nil =>
      refine mn st hb (Kp.refl _ _) ?_
      unfold spT
      simp only [evT_and, evTA_cons, evT_val, ev_isi, ev_varS, ev_var0, Option.bind_some, isi_ti, Option.map_some, truD_bl, if_true, evT_cmp, ev_tup, evs_nil, List.length_nil, if_pos hz0, cmp_ne, hq, Bool.not_true]
      rfl
    | cons d0 ds0 =>
      obtain ⟨r, s1, hr, e1, hb1, k1, _⟩ := run_draw n hb 3 (by omega)
      have hT : evT spT gl (calls FS gl (n + 1)) [some (.ref b), some (.tup (d0 :: ds0)), none, none] st = some (decide (0 < r), s1) := by
        unfold spT
        have h3 : ((3 : Nat) : Int) = 3 := rfl
        rw [h3] at e1
        simp only [evT_and, evTA_cons, evTA_nil, evT_val, ev_isi, ev_varS, ev_var0, Option.bind_some, isi_ti, Option.map_some, truD_bl, if_true, evT_cmp, ev_tup, evs_nil, List.length_nil, if_pos hz0, cmp_ne, hq, Bool.not_false, evs_cons, ev_call, ev_int, e1, cmp_gt]
        by_cases h : 0 < r
        · have h' : (0 : Int) < (r : Int) := by omega
          simp [h]
        · have : r = 0 := by omega
          subst this
          simp
      by_cases h : 0 < r
      · rw [decide_eq_true h] at hT
        obtain ⟨k, s2, hk2, e2, hb2, k2, _⟩ := run_draw n hb1 (d0 :: ds0).length (by simp)
        generalize hE : d0 :: ds0 = ds at *
        obtain ⟨d, g1, m⟩ := get_some hk2
        have m1 := hgts_mem m
        have m2 := szs_mem m
        obtain ⟨w, s3, e3, w1, w2, w3, hb3, k3⟩ := ih d s2 (isKs_mem hks m) (by omega) (by omega) (by omega) hb2
        have g2 : L2.atI ds (k : Int) = some d := L2.atI_nat g1
        have g3 : ds = ds.take k ++ d :: ds.drop (k + 1) := by
          have := List.take_append_drop k ds
          rw [List.drop_eq_getElem_cons hk2] at this
          rw [List.getElem?_eq_getElem hk2] at g1
          cases g1
          exact this.symm
        have K1 : isKs (ds.take k) = true ∧ isKs (ds.drop (k + 1)) = true := by
          rw [g3, isKs_append] at hks
          simp only [isKs, Bool.and_eq_true] at hks
          exact ⟨hks.1, hks.2.2⟩
        have K2 : szs ds = szs (ds.take k) + (sz d + szs (ds.drop (k + 1))) := by
          conv => lhs; rw [g3, szs_append]
          rfl
        have K3 : hgts ds = max (hgts (ds.take k)) (max (1 + hgt d) (hgts (ds.drop (k + 1)))) := by
          conv => lhs; rw [g3, hgts_append]
          rfl
        have K4 : ((k : Nat) : Int) + 1 = ((k + 1 : Nat) : Int) := by omega
        have L1 : (ds.take k).length + 1 ≤ sizeLine := by rw [sizeLine_eq]; simp; omega
        have L3 : (ds.take k ++ [w]).length + (ds.drop (k + 1)).length ≤ sizeLine := by rw [sizeLine_eq]; simp; omega
        refine ⟨.tup (ds.take k ++ [w] ++ ds.drop (k + 1)), s3, ?_, ?_, ?_, ?_, hb3, (k1.trans k2).trans k3⟩
        · refine cl_ret (d := d15.df) (ρ' := [some (.ref b), some (.tup ds), none, some (.int (k : Nat))]) rfl rfl ?_
          show exs b15 gl (calls FS gl (n + 1)) [some (.ref b), some (.tup ds), none, none] st = _
          have a1 : ex (.asg (.nm 3) (.call 7 [(.var 0), (.bi .len [(.var 1)])])) gl (calls FS gl (n + 1)) [some (.ref b), some (.tup ds), none, none] s1 = some (.nx, [some (.ref b), some (.tup ds), none, some (.int (k : Nat))], s2) := by
            simp only [ex_asg, ev_call, evs_cons, evs_nil, ev_bi, ev_varS, ev_var0, Option.bind_some, Option.map_some, len_tup, e2, asgD_nm]
            rfl
          have a2 : ex (.ret spR) gl (calls FS gl (n + 1)) [some (.ref b), some (.tup ds), none, some (.int (k : Nat))] s2 = some (.rt (.tup (ds.take k ++ [w] ++ ds.drop (k + 1))), [some (.ref b), some (.tup ds), none, some (.int (k : Nat))], s3) := by
            unfold spR
            simp only [ex_ret, ev_bin, ev_slT, ev_slF, ev_varS, ev_var0, Option.bind_some, slcD, cut_to ds k (by omega), ev_tup, evs_cons, evs_nil, ev_call, ev_idx, idx_tup, g2, Option.map_some, e3, List.length_cons, List.length_nil, Nat.zero_add, if_pos hz1, bin_addT, if_pos L1, ev_int, bin_addI, K4, cut_from, if_pos L3]
          have a3 : exs spB gl (calls FS gl (n + 1)) [some (.ref b), some (.tup ds), none, none] s1 = some (.rt (.tup (ds.take k ++ [w] ++ ds.drop (k + 1))), [some (.ref b), some (.tup ds), none, some (.int (k : Nat))], s3) := by
            unfold spB
            rw [exs_step a1 rfl, exs_ret a2]
          have e8 : ex (.ife spT spB []) gl (calls FS gl (n + 1)) [some (.ref b), some (.tup ds), none, none] st = some (.rt (.tup (ds.take k ++ [w] ++ ds.drop (k + 1))), [some (.ref b), some (.tup ds), none, some (.int (k : Nat))], s3) := by
            rw [ex_ife, hT, ← a3]; rfl
          rw [b15_eq, exs_ret e8]
        · show spvs b s3 _
          rw [spvs_append, spvs_append]
          exact ⟨⟨spvs_K s3 _ K1.1, w1, trivial⟩, spvs_K s3 _ K1.2⟩
        · simp only [sz, szs_append, szs]; omega
        · simp only [dep, deps_append, deps, deps_K _ K1.1, deps_K _ K1.2, hgt]; omega
      · rw [decide_eq_false h] at hT
        exact mn s1 hb1 k1 hT
end K00
end
section
set_option Elab.async false
set_option linter.all false
set_option maxRecDepth 100000
set_option maxHeartbeats 1000000
namespace K00
open Dz PySem L2
/-! ### law, its parts -/
def rgS : S := .ife (.not (.val (.call 16 [(.var 4)]))) [.ret (.bl false)] []
def chS : S := .ife (.not (.val (.call 9 [(.call 0 [(.var 6)]), (.call 13 [(.var 6)])]))) [.ret (.bl false)] []
theorem ev_v {i : Nat} {v : D} {C : List CS} {ρ : Dz.Env} {st : Sto} (h : ρ[i]? = some (some v)) : ev (.var i) gl C ρ st = some (v, st) := by
  rw [ev_var, h]
theorem ex_right (m : Nat) (ρ : Dz.Env) (v : D) (st : Sto) (h : ρ[4]? = some (some v)) (hk : isK v = true) (hh : hgt v ≤ 5) (hs : sz v ≤ 100) (hm : 20 ≤ m) (hm2 : m ≤ 1000) : ∃ J, ex rgS gl (calls FS gl (m + 1 + 1)) ρ st = some (.nx, ρ, st ++ J) := by
  obtain ⟨J, e⟩ := run_right m v st hk hh hs hm hm2
  refine ⟨J, ?_⟩
  have hT : evT (.not (.val (.call 16 [(.var 4)]))) gl (calls FS gl (m + 1 + 1)) ρ st = some (false, st ++ J) := by
    simp only [evT_not, evT_val, ev_call, evs_cons, evs_nil, ev_v h, Option.bind_some, Option.map_some, e, truD_bl, Bool.not_true]
  unfold rgS
  rw [ex_ife, hT]; rfl
theorem ex_chk (b m : Nat) (ρ : Dz.Env) (v : D) (st : Sto) (h : ρ[6]? = some (some v)) (hv : spv b st v) (hd : dep v ≤ 60) (hm : 60 ≤ m) (hs : sz v ≤ 1000000) : ∃ J, ex chS gl (calls FS gl (m + 1 + 1)) ρ st = some (.nx, ρ, st ++ J) := by
  obtain ⟨J1, e1⟩ := run_is_kind (m + 1) v st hs (spv_inS v hv)
  obtain ⟨J2, e2⟩ := run_law_is_kind b (m + 1) v (st ++ J1) (spv_app v hv) (by omega) hd hs
  have e3 := run_same (m + 1) (.bl (isK v)) (st ++ J1 ++ J2) rfl (Nat.zero_le _) (by simp [sz])
  refine ⟨J1 ++ J2, ?_⟩
  rw [← List.append_assoc]
  have hT : evT (.not (.val (.call 9 [(.call 0 [(.var 6)]), (.call 13 [(.var 6)])]))) gl (calls FS gl (m + 1 + 1)) ρ st = some (false, st ++ J1 ++ J2) := by
    simp only [evT_not, evT_val, ev_call, evs_cons, evs_nil, ev_v h, Option.bind_some, Option.map_some, e1, e2, e3, truD_bl, Bool.not_true]
  unfold chS
  rw [ex_ife, hT]; rfl
/-- three times a spoilt one -/
theorem in_loop (m b j F : Nat) (sc kd : D) (x3 x5 x6 x7 x8 : Option D) (st : Sto) (hm : 60 ≤ m) (hb : Box b j st) (hk : isK kd = true) (hh : hgt kd ≤ 6) (hs : sz kd ≤ 1000) :
    ∃ y6 y7 st', ex (.for_ .rng1 [(.int 3)] (.nm 7) [.asg (.nm 6) (.call 15 [(.var 1), (.var 4)]), chS]) gl (calls FS gl (m + 1 + 1)) [some sc, some (.ref b), some (.ref F), x3, some kd, x5, x6, x7, x8] st = some (.nx, [some sc, some (.ref b), some (.ref F), x3, some kd, x5, y6, y7, x8], st') ∧ Box b j st' ∧ Kp [b] st st' := by
  obtain ⟨ρ', st', e, y6, y7, rfl, h1, h2⟩ := ex_rng (g := gl) (C := calls FS gl (m + 1 + 1)) (tg := .nm 7) (src := .int 3) (b := [.asg (.nm 6) (.call 15 [(.var 1), (.var 4)]), chS])
    (ρ := [some sc, some (.ref b), some (.ref F), x3, some kd, x5, x6, x7, x8]) (st := st) (st0 := st) (N := 3) rfl (by omega)
    (fun i ρ s => ∃ y6 y7, ρ = [some sc, some (.ref b), some (.ref F), x3, some kd, x5, y6, y7, x8] ∧ Box b j s ∧ Kp [b] st s) ⟨x6, x7, rfl, hb, Kp.refl _ _⟩ (by
      rintro i ρ s hi ⟨y6, y7, rfl, hb1, k1⟩
      obtain ⟨w, s2, e2, w1, w2, w3, hb2, k2⟩ := run_spoilt b j (m + 1) kd s hk hh (by omega) hs hb1
      obtain ⟨J, e3⟩ := ex_chk b m [some sc, some (.ref b), some (.ref F), x3, some kd, x5, some w, some (.int (i : Nat)), x8] w s2 rfl w1 (by omega) hm (by omega)
      refine ⟨.nx, [some sc, some (.ref b), some (.ref F), x3, some kd, x5, some w, some (.int (i : Nat)), x8], s2 ++ J, ?_, .inl rfl, _, _, rfl, hb2.kp (X := []) (Kp.app _ _ _) (by simp) (by simp), (k1.trans k2).trans (Kp.app _ _ _)⟩
      have f0 : asgD (.nm 7) (.int (i : Nat)) s [some sc, some (.ref b), some (.ref F), x3, some kd, x5, y6, y7, x8] = some [some sc, some (.ref b), some (.ref F), x3, some kd, x5, y6, some (.int (i : Nat)), x8] := rfl
      have f1 : ex (.asg (.nm 6) (.call 15 [(.var 1), (.var 4)])) gl (calls FS gl (m + 1 + 1)) [some sc, some (.ref b), some (.ref F), x3, some kd, x5, y6, some (.int (i : Nat)), x8] s = some (.nx, [some sc, some (.ref b), some (.ref F), x3, some kd, x5, some w, some (.int (i : Nat)), x8], s2) := by
        simp only [ex_asg, ev_call, evs_cons, evs_nil, ev_varS, ev_var0, Option.bind_some, Option.map_some, e2, asgD_nm]
        rfl
      rw [f0]
      show exs _ gl (calls FS gl (m + 1 + 1)) _ _ = _
      rw [exs_step f1 rfl, exs_step e3 rfl]
      rfl)
  exact ⟨y6, y7, st', e, h1, h2⟩
def gd (d : D) : Prop := isK d = true ∧ hgt d ≤ 3 ∧ sz d ≤ 12
def tuB : List S := [.asg (.nm 4) (.call 12 [(.var 1), (.call 7 [(.var 1), (.int 4)]), (.lst [(.call 7 [(.var 1), (.int 12)])])]),
   .expr (.mth .append (.var 2) [(.var 4)]),
   rgS,
   .for_ .rng1 [(.int 3)] (.nm 7) [.asg (.nm 6) (.call 15 [(.var 1), (.var 4)]), chS]]
theorem one_turn (m b j F : Nat) (sc : D) (x3 x4 x5 x6 x7 x8 : Option D) (fs : List D) (st : Sto) (hm : 60 ≤ m) (hm2 : m ≤ 1000) (hb : Box b j st) (hF : lstOf st F = some fs) (hFb : F ≠ b) (hFj : F ≠ j) (hfs : ∀ d ∈ fs, gd d) (hl : fs.length ≤ 100) :
    ∃ v y6 y7 st', exs tuB gl (calls FS gl (m + 1 + 1)) [some sc, some (.ref b), some (.ref F), x3, x4, x5, x6, x7, x8] st = some (.nx, [some sc, some (.ref b), some (.ref F), x3, some v, x5, y6, y7, x8], st') ∧ Box b j st' ∧ lstOf st' F = some (fs ++ [v]) ∧ gd v := by
  obtain ⟨r, s1, hr, e1, hb1, k1, _⟩ := run_draw (m + 1) hb 4 (by omega)
  obtain ⟨B, s2, hB, e2, hb2, k2, _⟩ := run_draw (m + 1) hb1 12 (by omega)
  have hlt := hb2.lt
  have hF2 : lstOf s2 F = some fs := k2.get (k1.get hF (by simpa using hFb)) (by simpa using hFb)
  have hFlt := lst_lt hF2
  obtain ⟨v, s4, B', e4, v1, v2, v3, hb4, _, k4⟩ := run_kind_deep b j s2.length ⟨by omega, by omega⟩ r (m + 1) (s2 ++ [.lst [.int (B : Nat)]]) B (by omega) (by omega) (hb2.kp (X := []) (Kp.app _ _ _) (by simp) (by simp)) (lst_mid _ _ _)
  have hF4 : lstOf s4 F = some fs := k4.get (lst_old hF2) (by simp; omega)
  have hz1 : 1 ≤ sizeLine := by rw [sizeLine_eq]; omega
  have a5 := mt_append v hF4 (by rw [sizeLine_eq]; omega)
  have hF4lt := lst_lt hF4
  generalize hs5 : s4.set F (.lst (fs ++ [v])) = s5 at *
  have k5 : Kp [F] s4 s5 := by rw [← hs5]; exact Kp.set hF4 (by simp)
  have hF5 : lstOf s5 F = some (fs ++ [v]) := by rw [← hs5, lst_set hF4lt, if_pos rfl]
  have hb5 : Box b j s5 := hb4.kp k5 (by simpa using hFb.symm) (by simpa using hFj.symm)
  obtain ⟨J, e6⟩ := ex_right m [some sc, some (.ref b), some (.ref F), x3, some v, x5, x6, x7, x8] v s5 rfl v1 (by omega) (by omega) (by omega) hm2
  have hb6 : Box b j (s5 ++ J) := hb5.kp (X := []) (Kp.app _ _ _) (by simp) (by simp)
  obtain ⟨y6, y7, s7, e7, hb7, k7⟩ := in_loop m b j F sc v x3 x5 x6 x7 x8 (s5 ++ J) hm hb6 v1 (by omega) (by omega)
  refine ⟨v, y6, y7, s7, ?_, hb7, k7.get (lst_old hF5) (by simpa using hFb), v1, by omega, by omega⟩
  have h4 : ((4 : Nat) : Int) = 4 := rfl
  have h12 : ((12 : Nat) : Int) = 12 := rfl
  rw [h4] at e1
  rw [h12] at e2
  have f1 : ex (.asg (.nm 4) (.call 12 [(.var 1), (.call 7 [(.var 1), (.int 4)]), (.lst [(.call 7 [(.var 1), (.int 12)])])])) gl (calls FS gl (m + 1 + 1)) [some sc, some (.ref b), some (.ref F), x3, x4, x5, x6, x7, x8] st = some (.nx, [some sc, some (.ref b), some (.ref F), x3, some v, x5, x6, x7, x8], s4) := by
    simp only [ex_asg, ev_call, evs_cons, evs_nil, ev_varS, ev_var0, ev_int, Option.bind_some, Option.map_some, e1, ev_lst, e2, List.length_cons, List.length_nil, Nat.zero_add, if_pos hz1, new_eq, e4, asgD_nm]
    rfl
  have f2 : ex (.expr (.mth .append (.var 2) [(.var 4)])) gl (calls FS gl (m + 1 + 1)) [some sc, some (.ref b), some (.ref F), x3, some v, x5, x6, x7, x8] s4 = some (.nx, [some sc, some (.ref b), some (.ref F), x3, some v, x5, x6, x7, x8], s5) := by
    simp only [ex_expr, ev_mth, ev_varS, ev_var0, Option.bind_some, isL_ref, hF4, Option.isSome_some, if_true, evs_cons, evs_nil, Option.map_some, a5]
  unfold tuB
  rw [exs_step f1 rfl, exs_step f2 rfl, exs_step e6 rfl, exs_step e7 rfl]
  rfl
theorem five (m b j F : Nat) (sc : D) (st : Sto) (hm : 60 ≤ m) (hm2 : m ≤ 1000) (hb : Box b j st) (hF : lstOf st F = some []) (hFb : F ≠ b) (hFj : F ≠ j) :
    ∃ x3 x4 x6 x7 fs st', ex (.for_ .rng1 [(.int 5)] (.nm 3) tuB) gl (calls FS gl (m + 1 + 1)) [some sc, some (.ref b), some (.ref F), none, none, none, none, none, none] st = some (.nx, [some sc, some (.ref b), some (.ref F), x3, x4, none, x6, x7, none], st') ∧ Box b j st' ∧ lstOf st' F = some fs ∧ fs.length = 5 ∧ ∀ d ∈ fs, gd d := by
  obtain ⟨ρ', st', e, x3, x4, x6, x7, fs, rfl, h1, h2, h3, h4⟩ := ex_rng (g := gl) (C := calls FS gl (m + 1 + 1)) (tg := .nm 3) (src := .int 5) (b := tuB)
    (ρ := [some sc, some (.ref b), some (.ref F), none, none, none, none, none, none]) (st := st) (st0 := st) (N := 5) rfl (by omega)
    (fun i ρ s => ∃ x3 x4 x6 x7 fs, ρ = [some sc, some (.ref b), some (.ref F), x3, x4, none, x6, x7, none] ∧ Box b j s ∧ lstOf s F = some fs ∧ fs.length = i ∧ ∀ d ∈ fs, gd d) ⟨none, none, none, none, [], rfl, hb, hF, rfl, by simp⟩ (by
      rintro i ρ s hi ⟨x3, x4, x6, x7, fs, rfl, hb1, h2, h3, h4⟩
      obtain ⟨v, y6, y7, s1, e1, hb2, g1, g2⟩ := one_turn m b j F sc (some (.int (i : Nat))) x4 none x6 x7 none fs s hm hm2 hb1 h2 hFb hFj h4 (by omega)
      refine ⟨.nx, _, s1, ?_, .inl rfl, some (.int (i : Nat)), some v, y6, y7, fs ++ [v], rfl, hb2, g1, by simp [h3], ?_⟩
      · have f0 : asgD (.nm 3) (.int (i : Nat)) s [some sc, some (.ref b), some (.ref F), x3, x4, none, x6, x7, none] = some [some sc, some (.ref b), some (.ref F), some (.int (i : Nat)), x4, none, x6, x7, none] := rfl
        rw [f0]
        exact e1
      · intro d hd
        rw [List.mem_append, List.mem_singleton] at hd
        rcases hd with hd | rfl
        · exact h4 d hd
        · exact g2)
  exact ⟨x3, x4, x6, x7, fs, st', e, h1, h2, h3, h4⟩
theorem again (m b j F : Nat) (sc : D) (x3 x4 x5 x6 x7 x8 : Option D) (fs : List D) (st : Sto) (hm : 60 ≤ m) (hm2 : m ≤ 1000) (hF : lstOf st F = some fs) (hfs : ∀ d ∈ fs, gd d) :
    ∃ y4 J, ex (.for_ .one [(.var 2)] (.nm 4) [rgS]) gl (calls FS gl (m + 1 + 1)) [some sc, some (.ref b), some (.ref F), x3, x4, x5, x6, x7, x8] st = some (.nx, [some sc, some (.ref b), some (.ref F), x3, y4, x5, x6, x7, x8], st ++ J) := by
  obtain ⟨ρ', st', e, y4, J, rfl, rfl⟩ := ex_for (g := gl) (C := calls FS gl (m + 1 + 1)) (ik := .one) (src := [.var 2]) (tg := .nm 4) (b := [rgS])
    (ρ := [some sc, some (.ref b), some (.ref F), x3, x4, x5, x6, x7, x8]) (st := st) (st0 := st) (xs := [.ref F]) (J := .lst F) (N := fs.length) (by simp only [evs_cons, evs_nil, ev_varS, ev_var0, Option.bind_some, Option.map_some]) (by simp [itD, hF])
    (fun i ρ s => ∃ y4 J, ρ = [some sc, some (.ref b), some (.ref F), x3, y4, x5, x6, x7, x8] ∧ s = st ++ J) ⟨x4, [], rfl, by simp⟩ (by
      rintro i ρ s hi ⟨y4, J, rfl, rfl⟩
      obtain ⟨d, e1, hd⟩ := get_some hi
      obtain ⟨g1, g2, g3⟩ := hfs d hd
      obtain ⟨J2, e2⟩ := ex_right m [some sc, some (.ref b), some (.ref F), x3, some d, x5, x6, x7, x8] d (st ++ J) rfl g1 (by omega) (by omega) (by omega) hm2
      refine ⟨d, .nx, _, st ++ J ++ J2, by simp [nxD, lst_old hF, e1], ?_, .inl rfl, some d, J ++ J2, rfl, by simp⟩
      have f0 : asgD (.nm 4) d (st ++ J) [some sc, some (.ref b), some (.ref F), x3, y4, x5, x6, x7, x8] = some [some sc, some (.ref b), some (.ref F), x3, some d, x5, x6, x7, x8] := rfl
      rw [f0]
      show exs _ gl (calls FS gl (m + 1 + 1)) _ _ = _
      rw [exs_step e2 rfl]
      rfl) (by
      rintro ρ s ⟨_, J, _, rfl⟩
      simp [stD, lst_old hF])
  exact ⟨y4, J, e⟩
end K00
end
section
set_option Elab.async false
set_option linter.all false
set_option maxRecDepth 100000
set_option maxHeartbeats 1000000
namespace K00
open Dz PySem L2
/-! ### law, its second half -/
def wr (r : Nat) (d : D) : D := match r with
  | 0 => .tup [d]
  | 1 => .tup [.tup [], d]
  | _ => .tup [d, .tup [], .tup [.tup []]]
theorem wr_at {r : Nat} (h : r < 3) (d : D) : L2.atI [.tup [d], .tup [.tup [], d], .tup [d, .tup [], .tup [.tup []]]] (r : Int) = some (wr r d) := by
  refine L2.atI_nat ?_
  match r, h with
  | 0, _ => rfl
  | 1, _ => rfl
  | 2, _ => rfl
def sok (b : Nat) (s : Sto) (m p : Nat) (d : D) : Prop := spv b s d ∧ sz d ≤ m ∧ dep d ≤ p
theorem wr_ok {b r m p : Nat} {s : Sto} {d : D} (hp : 3 ≤ p) (h : sok b s m p d) : sok b s (m + 4) (p + 1) (wr r d) := by
  obtain ⟨h1, h2, h3⟩ := h
  unfold wr
  split
  · exact ⟨⟨h1, trivial⟩, by simp only [sz, szs]; omega, by simp only [dep, deps]; omega⟩
  · exact ⟨⟨trivial, h1, trivial⟩, by simp only [sz, szs]; omega, by simp only [dep, deps]; omega⟩
  · refine ⟨⟨h1, trivial, ⟨trivial, trivial⟩, trivial⟩, by simp only [sz, szs]; omega, ?_⟩
    simp only [dep, deps]; omega
def wrE : E := .lc .one [(.var 5)] (.nm 6) [] (.idx (.lst [(.tup [(.var 6)]), (.tup [(.tup []), (.var 6)]), (.tup [(.var 6), (.tup []), (.tup [(.tup [])])])]) (.var 8)) [6]
theorem wr_ev (C : List CS) (b F G r : Nat) (sc : D) (x3 x4 x6 x7 : Option D) (gs : List D) (st : Sto) (hr : r < 3) (hG : lstOf st G = some gs) (hl : gs.length = 3) :
    ∃ J, ev wrE gl C [some sc, some (.ref b), some (.ref F), x3, x4, some (.ref G), x6, x7, some (.int (r : Nat))] st = some (.ref (st ++ J).length, st ++ J ++ [.lst (gs.map (wr r))]) := by
  have hz0 : 0 ≤ sizeLine := Nat.zero_le _
  have hz1 : 1 ≤ sizeLine := by rw [sizeLine_eq]; omega
  have hz2 : 2 ≤ sizeLine := by rw [sizeLine_eq]; omega
  have hz3 : 3 ≤ sizeLine := by rw [sizeLine_eq]; omega
  obtain ⟨acc, st', e, rfl, J, rfl⟩ := ev_comp (g := gl) (C := C) (ik := .one) (src := [.var 5]) (tg := .nm 6) (cnd := []) (elt := .idx (.lst [(.tup [(.var 6)]), (.tup [(.tup []), (.var 6)]), (.tup [(.var 6), (.tup []), (.tup [(.tup [])])])]) (.var 8)) (own := [6])
    (ρ := [some sc, some (.ref b), some (.ref F), x3, x4, some (.ref G), x6, x7, some (.int (r : Nat))]) (st := st) (st0 := st) (xs := [.ref G]) (J := .lst G) (N := gs.length) (by simp only [evs_cons, evs_nil, ev_varS, ev_var0, Option.bind_some, Option.map_some]) (by simp [itD, hG])
    (fun k acc s => acc = (gs.take k).map (wr r) ∧ ∃ J, s = st ++ J) ⟨by simp, [], by simp⟩ (by
      rintro i acc s hi ⟨rfl, J, rfl⟩
      obtain ⟨d, e1, hd⟩ := get_some hi
      refine ⟨d, some (wr r d), st ++ J ++ [.lst [.tup [d], .tup [.tup [], d], .tup [d, .tup [], .tup [.tup []]]]], by simp [nxD, lst_old hG, e1], ?_, fun _ => by rw [sizeLine_eq]; simp; omega, ?_, _, List.append_assoc _ _ _⟩
      · have f0 : asgD (.nm 6) d (st ++ J) (wipeD [some sc, some (.ref b), some (.ref F), x3, x4, some (.ref G), x6, x7, some (.int (r : Nat))] [6]) = some [some sc, some (.ref b), some (.ref F), x3, x4, some (.ref G), some d, x7, some (.int (r : Nat))] := rfl
        rw [f0]
        simp only [Option.bind_some, evTA_nil, if_true, ev_idx, ev_lst, evs_cons, evs_nil, ev_tup, ev_varS, ev_var0, Option.map_some, List.length_cons, List.length_nil, Nat.zero_add, Nat.reduceAdd, if_pos hz0, if_pos hz1, if_pos hz2, if_pos hz3, new_eq, idx_ref, lst_mid, wr_at hr]
      · rw [take_one e1, List.map_append]; rfl) (by
      rintro acc s ⟨_, J, rfl⟩
      simp [stD, lst_old hG])
  rw [List.take_length] at e
  exact ⟨J, e⟩
def wrB : List S := [.asg (.nm 8) (.call 7 [(.var 1), (.int 3)]), .asg (.nm 5) wrE]
theorem wraps (n b j F G : Nat) (sc : D) (x3 x4 x6 x7 x8 : Option D) (gs fs : List D) (st : Sto) (hb : Box b j st) (hF : lstOf st F = some fs) (hFb : F ≠ b) (hG : lstOf st G = some gs) (hGb : G ≠ b) (hl : gs.length = 3) (m p : Nat) (hp : 3 ≤ p) (hg : ∀ d ∈ gs, sok b st m p d) :
    ∃ y3 y6 y8 G' gs' st' q, q ≤ 34 ∧ ex (.for_ .rng1 [(.bin .add (.int 25) (.call 7 [(.var 1), (.int 10)]))] (.nm 3) wrB) gl (calls FS gl (n + 1)) [some sc, some (.ref b), some (.ref F), x3, x4, some (.ref G), x6, x7, x8] st = some (.nx, [some sc, some (.ref b), some (.ref F), y3, x4, some (.ref G'), y6, x7, y8], st') ∧ Box b j st' ∧ lstOf st' F = some fs ∧ lstOf st' G' = some gs' ∧ gs'.length = 3 ∧ ∀ d ∈ gs', sok b st' (m + 4 * q) (p + q) d := by
  obtain ⟨r, s1, hr, e1, hb1, k1, _⟩ := run_draw n hb 10 (by omega)
  have h10 : ((10 : Nat) : Int) = 10 := rfl
  rw [h10] at e1
  have h25 : (25 : Int) + (r : Nat) = ((25 + r : Nat) : Int) := by omega
  obtain ⟨ρ', st', e, y3, y6, y8, G', gs', rfl, h1, h2, h3, h4, h5, h6⟩ := ex_rng (g := gl) (C := calls FS gl (n + 1)) (tg := .nm 3) (src := .bin .add (.int 25) (.call 7 [(.var 1), (.int 10)])) (b := wrB)
    (ρ := [some sc, some (.ref b), some (.ref F), x3, x4, some (.ref G), x6, x7, x8]) (st := st) (st0 := s1) (N := 25 + r) (by
      simp only [ev_bin, ev_int, ev_call, evs_cons, evs_nil, ev_varS, ev_var0, Option.bind_some, Option.map_some, e1, bin_addI, h25]) (by omega)
    (fun i ρ s => ∃ y3 y6 y8 G' gs', ρ = [some sc, some (.ref b), some (.ref F), y3, x4, some (.ref G'), y6, x7, y8] ∧ Box b j s ∧ lstOf s F = some fs ∧ lstOf s G' = some gs' ∧ G' ≠ b ∧ gs'.length = 3 ∧ ∀ d ∈ gs', sok b s (m + 4 * i) (p + i) d)
    ⟨x3, x6, x8, G, gs, rfl, hb1, k1.get hF (by simpa using hFb), k1.get hG (by simpa using hGb), hGb, hl, fun d hd => ⟨spv_kp k1 (by simp) d (hg d hd).1, (hg d hd).2⟩⟩ (by
      rintro i ρ s hi ⟨y3, y6, y8, G', gs', rfl, hb2, h2, h3, h4, h5, h6⟩
      obtain ⟨q, s2, hq, e2, hb3, k2, _⟩ := run_draw n hb2 3 (by omega)
      have h33 : ((3 : Nat) : Int) = 3 := rfl
      rw [h33] at e2
      obtain ⟨J, e3⟩ := wr_ev (calls FS gl (n + 1)) b F G' q sc (some (.int (i : Nat))) x4 y6 x7 gs' s2 hq (k2.get h3 (by simpa using h4)) h5
      have kA : Kp [] s2 (s2 ++ J ++ [.lst (gs'.map (wr q))]) := (Kp.app _ _ _).trans (Kp.app _ _ _)
      have hlt := hb3.lt
      refine ⟨.nx, [some sc, some (.ref b), some (.ref F), some (.int (i : Nat)), x4, some (.ref (s2 ++ J).length), y6, x7, some (.int (q : Nat))], _, ?_, .inl rfl, some (.int (i : Nat)), y6, some (.int (q : Nat)), (s2 ++ J).length, gs'.map (wr q), rfl, hb3.kp kA (by simp) (by simp), kA.get (k2.get h2 (by simpa using hFb)) (by simp), lst_mid _ _ _, by simp; omega, by simp [h5], ?_⟩
      · have f0 : asgD (.nm 3) (.int (i : Nat)) s [some sc, some (.ref b), some (.ref F), y3, x4, some (.ref G'), y6, x7, y8] = some [some sc, some (.ref b), some (.ref F), some (.int (i : Nat)), x4, some (.ref G'), y6, x7, y8] := rfl
        have f1 : ex (.asg (.nm 8) (.call 7 [(.var 1), (.int 3)])) gl (calls FS gl (n + 1)) [some sc, some (.ref b), some (.ref F), some (.int (i : Nat)), x4, some (.ref G'), y6, x7, y8] s = some (.nx, [some sc, some (.ref b), some (.ref F), some (.int (i : Nat)), x4, some (.ref G'), y6, x7, some (.int (q : Nat))], s2) := by
          simp only [ex_asg, ev_call, evs_cons, evs_nil, ev_varS, ev_var0, ev_int, Option.bind_some, Option.map_some, e2, asgD_nm]
          rfl
        have f2 : ex (.asg (.nm 5) wrE) gl (calls FS gl (n + 1)) [some sc, some (.ref b), some (.ref F), some (.int (i : Nat)), x4, some (.ref G'), y6, x7, some (.int (q : Nat))] s2 = some (.nx, [some sc, some (.ref b), some (.ref F), some (.int (i : Nat)), x4, some (.ref (s2 ++ J).length), y6, x7, some (.int (q : Nat))], s2 ++ J ++ [.lst (gs'.map (wr q))]) := by
          simp only [ex_asg, e3, Option.bind_some, asgD_nm]
          rfl
        rw [f0]
        show exs _ gl (calls FS gl (n + 1)) _ _ = _
        unfold wrB
        rw [exs_step f1 rfl, exs_step f2 rfl]
        rfl
      · intro d hd
        obtain ⟨d0, hd0, rfl⟩ := List.mem_map.mp hd
        have := h6 d0 hd0
        have t : sok b (s2 ++ J ++ [.lst (gs'.map (wr q))]) (m + 4 * i) (p + i) d0 := ⟨spv_kp kA (by simp) d0 (spv_kp k2 (by simp) d0 this.1), this.2⟩
        have t2 := wr_ok (r := q) (show 3 ≤ p + i by omega) t
        rw [show m + 4 * (i + 1) = m + 4 * i + 4 by omega, show p + (i + 1) = p + i + 1 by omega]
        exact t2)
  exact ⟨y3, y6, y8, G', gs', st', 25 + r, by omega, e, h1, h2, h3, h5, h6⟩
/-! the last list -/
theorem isKs_rep (a : List D) : ∀ k, isKs a = true → isKs (List.replicate k a).flatten = true
  | 0, _ => rfl
  | k + 1, h => by rw [List.replicate_succ, List.flatten_cons, isKs_append, h, isKs_rep a k h]; rfl
theorem szs_rep (a : List D) : ∀ k, szs (List.replicate k a).flatten = k * szs a
  | 0 => by simp [szs]
  | k + 1 => by rw [List.replicate_succ, List.flatten_cons, szs_append, szs_rep a k, Nat.succ_mul]; omega
theorem hgts_rep (a : List D) : ∀ k, hgts (List.replicate k a).flatten ≤ hgts a
  | 0 => Nat.zero_le _
  | k + 1 => by
    have := hgts_rep a k
    rw [List.replicate_succ, List.flatten_cons, hgts_append]; omega
theorem bin_mulT (a : List D) (k : Nat) (st : Sto) (h1 : 2 ≤ k) (h2 : k ≤ 1000) (h3 : a.length ≤ 1000) : binD .mul (.tup a) (.int (k : Nat)) st = some (.tup (List.replicate k a).flatten, st) := by
  cases a with
  | nil =>
    have : -(2 ^ 63) ≤ ((k : Nat) : Int) ∧ ((k : Nat) : Int) < 2 ^ 63 := by omega
    have e : (List.replicate k ([] : List D)).flatten = [] := by simp
    simp only [binD, List.isEmpty_nil, if_true, if_pos this, e]
  | cons d a =>
    have : 2 ≤ ((k : Nat) : Int) ∧ ((k : Nat) : Int) ≤ 1000 ∧ (d :: a).length ≤ 1000 := by omega
    simp only [binD, List.isEmpty_cons, Bool.false_eq_true, if_false, if_pos this, Int.toNat_natCast]
theorem checks (m b j F : Nat) (sc : D) (src : E) (x3 x4 x5 x6 x7 x8 : Option D) (ls : List D) (st s0 : Sto) (G : Nat) (hm : 60 ≤ m) (he : ev src gl (calls FS gl (m + 1 + 1)) [some sc, some (.ref b), some (.ref F), x3, x4, x5, x6, x7, x8] st = some (.ref G, s0)) (hG : lstOf s0 G = some ls) (hs : ∀ d ∈ ls, sok b s0 1000000 60 d) :
    ∃ y6 J, ex (.for_ .one [src] (.nm 6) [chS]) gl (calls FS gl (m + 1 + 1)) [some sc, some (.ref b), some (.ref F), x3, x4, x5, x6, x7, x8] st = some (.nx, [some sc, some (.ref b), some (.ref F), x3, x4, x5, y6, x7, x8], s0 ++ J) := by
  obtain ⟨ρ', st', e, y6, J, rfl, rfl⟩ := ex_for (g := gl) (C := calls FS gl (m + 1 + 1)) (ik := .one) (src := [src]) (tg := .nm 6) (b := [chS])
    (ρ := [some sc, some (.ref b), some (.ref F), x3, x4, x5, x6, x7, x8]) (st := st) (st0 := s0) (xs := [.ref G]) (J := .lst G) (N := ls.length) (by simp only [evs_cons, evs_nil, he, Option.bind_some, Option.map_some]) (by simp [itD, hG])
    (fun i ρ s => ∃ y6 J, ρ = [some sc, some (.ref b), some (.ref F), x3, x4, x5, y6, x7, x8] ∧ s = s0 ++ J) ⟨x6, [], rfl, by simp⟩ (by
      rintro i ρ s hi ⟨y6, J, rfl, rfl⟩
      obtain ⟨d, e1, hd⟩ := get_some hi
      obtain ⟨g1, g2, g3⟩ := hs d hd
      obtain ⟨J2, e2⟩ := ex_chk b m [some sc, some (.ref b), some (.ref F), x3, x4, x5, some d, x7, x8] d (s0 ++ J) rfl (spv_app d g1) g3 hm g2
      refine ⟨d, .nx, _, s0 ++ J ++ J2, by simp [nxD, lst_old hG, e1], ?_, .inl rfl, some d, J ++ J2, rfl, by simp⟩
      have f0 : asgD (.nm 6) d (s0 ++ J) [some sc, some (.ref b), some (.ref F), x3, x4, x5, y6, x7, x8] = some [some sc, some (.ref b), some (.ref F), x3, x4, x5, some d, x7, x8] := rfl
      rw [f0]
      show exs _ gl (calls FS gl (m + 1 + 1)) _ _ = _
      rw [exs_step e2 rfl]
      rfl) (by
      rintro ρ s ⟨_, J, _, rfl⟩
      simp [stD, lst_old hG])
  exact ⟨y6, J, e⟩
end K00
end
section
set_option Elab.async false
set_option linter.all false
set_option maxRecDepth 100000
set_option maxHeartbeats 1000000
namespace K00
open Dz PySem L2
def lastE : E := .bin .add (.var 5) (.lst [(.bin .add (.bin .mul (.idx (.var 2) (.int 3)) (.int 25)) (.bin .mul (.tup [(.tup [])]) (.int 50))), (.bin .add (.bin .mul (.tup [(.idx (.var 2) (.int 4))]) (.int 50)) (.tup [.non]))])
def lA (a : List D) : D := .tup ((List.replicate 25 a).flatten ++ (List.replicate 50 [D.tup []]).flatten)
def lB (d : D) : D := .tup ((List.replicate 50 [d]).flatten ++ [.non])
theorem rep_len (a : List D) : ∀ k, (List.replicate k a).flatten.length = k * a.length
  | 0 => by simp
  | k + 1 => by rw [List.replicate_succ, List.flatten_cons, List.length_append, rep_len a k, Nat.succ_mul]; omega
theorem last_ev (C : List CS) (b F G : Nat) (sc : D) (x3 x4 x6 x7 x8 : Option D) (d0 d1 d2 d4 : D) (a gs : List D) (st : Sto) (hF : lstOf st F = some [d0, d1, d2, .tup a, d4]) (hG : lstOf st G = some gs) (hl : gs.length = 3) (ha : a.length ≤ 12) :
    ev lastE gl C [some sc, some (.ref b), some (.ref F), x3, x4, some (.ref G), x6, x7, x8] st = some (.ref (st.length + 1), st ++ [.lst [lA a, lB d4]] ++ [.lst (gs ++ [lA a, lB d4])]) := by
  have hz0 : 0 ≤ sizeLine := Nat.zero_le _
  have hz1 : 1 ≤ sizeLine := by rw [sizeLine_eq]; omega
  have hz2 : 2 ≤ sizeLine := by rw [sizeLine_eq]; omega
  have i3 : L2.atI [d0, d1, d2, .tup a, d4] 3 = some (.tup a) := rfl
  have i4 : L2.atI [d0, d1, d2, .tup a, d4] 4 = some d4 := rfl
  have m1 := bin_mulT a 25 st (by omega) (by omega) (by omega)
  have m2 := bin_mulT [.tup []] 50 st (by omega) (by omega) (by simp)
  have m3 := bin_mulT [d4] 50 st (by omega) (by omega) (by simp)
  have h25 : ((25 : Nat) : Int) = 25 := rfl
  have h50 : ((50 : Nat) : Int) = 50 := rfl
  rw [h25] at m1
  rw [h50] at m2 m3
  have z1 : (List.replicate 25 a).flatten.length + (List.replicate 50 [D.tup []]).flatten.length ≤ sizeLine := by
    rw [rep_len, rep_len, sizeLine_eq]; simp; omega
  have z2 : (List.replicate 50 [d4]).flatten.length + [D.non].length ≤ sizeLine := by
    rw [rep_len, sizeLine_eq]; simp
  have z3 : gs.length + [lA a, lB d4].length ≤ sizeLine := by rw [sizeLine_eq]; simp; omega
  have f1 : ev (.bin .add (.bin .mul (.idx (.var 2) (.int 3)) (.int 25)) (.bin .mul (.tup [(.tup [])]) (.int 50))) gl C [some sc, some (.ref b), some (.ref F), x3, x4, some (.ref G), x6, x7, x8] st = some (lA a, st) := by
    simp only [ev_bin, ev_idx, ev_varS, ev_var0, ev_int, Option.bind_some, idx_ref, hF, i3, Option.map_some, m1, ev_tup, evs_cons, evs_nil, List.length_cons, List.length_nil, Nat.zero_add, if_pos hz0, if_pos hz1, m2, bin_addT, if_pos z1]
    rfl
  have f2 : ev (.bin .add (.bin .mul (.tup [(.idx (.var 2) (.int 4))]) (.int 50)) (.tup [.non])) gl C [some sc, some (.ref b), some (.ref F), x3, x4, some (.ref G), x6, x7, x8] st = some (lB d4, st) := by
    simp only [ev_bin, ev_idx, ev_varS, ev_var0, ev_int, ev_non, Option.bind_some, idx_ref, hF, i4, Option.map_some, m3, ev_tup, evs_cons, evs_nil, List.length_cons, List.length_nil, Nat.zero_add, if_pos hz1, bin_addT]
    simp only [List.length_cons, List.length_nil, Nat.zero_add] at z2
    rw [if_pos z2]
    rfl
  have f3 : ev (.lst [(.bin .add (.bin .mul (.idx (.var 2) (.int 3)) (.int 25)) (.bin .mul (.tup [(.tup [])]) (.int 50))), (.bin .add (.bin .mul (.tup [(.idx (.var 2) (.int 4))]) (.int 50)) (.tup [.non]))]) gl C [some sc, some (.ref b), some (.ref F), x3, x4, some (.ref G), x6, x7, x8] st = some (.ref st.length, st ++ [.lst [lA a, lB d4]]) := by
    simp only [ev_lst, evs_cons, evs_nil, f1, f2, Option.bind_some, Option.map_some, List.length_cons, List.length_nil, Nat.zero_add, Nat.reduceAdd, if_pos hz2, new_eq]
  unfold lastE
  rw [ev_bin]
  simp only [ev_varS, ev_var0, Option.bind_some, f3]
  show (lstOf (st ++ [.lst [lA a, lB d4]]) G).bind _ = _
  rw [lst_old hG]
  show (lstOf (st ++ [.lst [lA a, lB d4]]) st.length).bind _ = _
  rw [lst_mid]
  simp only [Option.bind_some, if_pos z3, new_eq]
  simp
def endS : S := .ret (.and [(.cmp .is (.call 0 [(.lst [])]) (.bl false)), (.cmp .is (.call 0 [.non]) (.bl false)), (.cmp .is (.call 0 [(.int 0)]) (.bl false)), (.cmp .is (.call 0 [(.str "")]) (.bl false))])
theorem end_ev (n : Nat) (ρ : Dz.Env) (st : Sto) : ∃ J, ex endS gl (calls FS gl (n + 1)) ρ st = some (.rt (.bl true), ρ, st ++ J) := by
  have hz0 : 0 ≤ sizeLine := Nat.zero_le _
  obtain ⟨J1, e1⟩ := run_is_kind n (.ref st.length) (st ++ [.lst []]) (by simp [sz]) (by show (lstOf (st ++ [.lst []]) st.length).isSome = true; rw [lst_mid]; rfl)
  obtain ⟨J2, e2⟩ := run_is_kind n .non (st ++ [.lst []] ++ J1) (by simp [sz]) trivial
  obtain ⟨J3, e3⟩ := run_is_kind n (.int 0) (st ++ [.lst []] ++ J1 ++ J2) (by simp [sz]) trivial
  obtain ⟨J4, e4⟩ := run_is_kind n (.str "") (st ++ [.lst []] ++ J1 ++ J2 ++ J3) (by simp [sz]) trivial
  refine ⟨[.lst []] ++ J1 ++ J2 ++ J3 ++ J4, ?_⟩
  simp only [← List.append_assoc]
  unfold endS
  simp only [ex_ret, ev_and, evAnd_cons, ev_cmp, ev_call, evs_cons, evs_nil, ev_lst, ev_non, ev_int, ev_str, ev_bl, Option.bind_some, Option.map_some, List.length_nil, if_pos hz0, new_eq, e1, e2, e3, e4, isK, cmp_isB, decide_true, List.isEmpty_cons, List.isEmpty_nil, Bool.false_eq_true, if_false, if_true]
theorem b17_eq : b17 = [.asg (.nm 1) (.call 8 [(.var 0), (.int 0), (.int 62)]), .asg (.nm 2) (.lst []), .for_ .rng1 [(.int 5)] (.nm 3) tuB, .for_ .one [(.var 2)] (.nm 4) [rgS],
  .asg (.nm 5) (.lst [(.idx (.var 2) (.int 0)), (.call 15 [(.var 1), (.idx (.var 2) (.int 1))]), (.idx (.var 2) (.int 2))]),
  .for_ .rng1 [(.bin .add (.int 25) (.call 7 [(.var 1), (.int 10)]))] (.nm 3) wrB, .for_ .one [lastE] (.nm 6) [chS], endS] := rfl
theorem gd_sok {b : Nat} {s : Sto} {d : D} (h : gd d) : sok b s 17 12 d := ⟨spv_K s d h.1, by have := h.2.2; omega, by have := dep_K d h.1; have := h.2.1; omega⟩
theorem run_law (m : Nat) (ns : List Int) (hm : 60 ≤ m) (hm2 : m ≤ 1000) : ∃ st', callD FS gl (m + 1 + 1) 17 [.fz (ns.map .int)] [] = some (.bl true, st') := by
  obtain ⟨s1, b, j, e1, hb1⟩ := run_box (m - 1) ns
  have hm3 : m - 1 + 2 = m + 1 := by omega
  rw [hm3] at e1
  have hz0 : 0 ≤ sizeLine := Nat.zero_le _
  have hz3 : 3 ≤ sizeLine := by rw [sizeLine_eq]; omega
  generalize hsc : D.fz (ns.map .int) = sc at *
  have hlt1 := hb1.lt
  have hb2 : Box b j (s1 ++ [.lst []]) := hb1.kp (X := []) (Kp.app _ _ _) (by simp) (by simp)
  obtain ⟨x3, x4, x6, x7, fs, s3, e3, hb3, hF3, hl3, hg3⟩ := five m b j s1.length sc (s1 ++ [.lst []]) hm hm2 hb2 (lst_mid _ _ _) (by omega) (by omega)
  obtain ⟨y4, J4, e4⟩ := again m b j s1.length sc x3 x4 none x6 x7 none fs s3 hm hm2 hF3 hg3
  have k4 : Kp [] s3 (s3 ++ J4) := Kp.app _ _ _
  have hb4 : Box b j (s3 ++ J4) := hb3.kp k4 (by simp) (by simp)
  have hF4 := k4.get hF3 (by simp)
  generalize s3 ++ J4 = s4 at *
  match fs, hl3 with
  | [d0, d1, d2, d3, d4], _ =>
    have g0 := hg3 d0 (by simp)
    have g1 := hg3 d1 (by simp)
    have g2 := hg3 d2 (by simp)
    have g3 := hg3 d3 (by simp)
    have g4 := hg3 d4 (by simp)
    obtain ⟨a, rfl, ha⟩ := isK_tup g3.1
    obtain ⟨w, s5, e5, w1, w2, w3, hb5, k5⟩ := run_spoilt b j (m + 1) d1 s4 g1.1 (by have := g1.2.1; omega) (by have := g1.2.1; omega) (by have := g1.2.2; omega) hb4
    have hF5 := k5.get hF4 (by simp; omega)
    have hlt5 := hb5.lt
    have i0 : L2.atI [d0, d1, d2, .tup a, d4] 0 = some d0 := rfl
    have i1 : L2.atI [d0, d1, d2, .tup a, d4] 1 = some d1 := rfl
    have i2 : L2.atI [d0, d1, d2, .tup a, d4] 2 = some d2 := rfl
    have f5 : ex (.asg (.nm 5) (.lst [(.idx (.var 2) (.int 0)), (.call 15 [(.var 1), (.idx (.var 2) (.int 1))]), (.idx (.var 2) (.int 2))])) gl (calls FS gl (m + 1 + 1)) [some sc, some (.ref b), some (.ref s1.length), x3, y4, none, x6, x7, none] s4 = some (.nx, [some sc, some (.ref b), some (.ref s1.length), x3, y4, some (.ref s5.length), x6, x7, none], s5 ++ [.lst [d0, w, d2]]) := by
      simp only [ex_asg, ev_lst, evs_cons, evs_nil, ev_idx, ev_call, ev_varS, ev_var0, ev_int, Option.bind_some, Option.map_some, idx_ref, hF4, i0, i1, e5, hF5, i2, List.length_cons, List.length_nil, Nat.zero_add, Nat.reduceAdd, if_pos hz3, new_eq, asgD_nm]
      rfl
    have k6 : Kp [] s5 (s5 ++ [.lst [d0, w, d2]]) := Kp.app _ _ _
    have hb6 : Box b j (s5 ++ [.lst [d0, w, d2]]) := hb5.kp k6 (by simp) (by simp)
    have hG6 : lstOf (s5 ++ [.lst [d0, w, d2]]) s5.length = some [d0, w, d2] := lst_mid _ _ _
    obtain ⟨y3, y6, y8, G', gs', s7, q, hq, e7, hb7, hF7, hG7, hl7, hg7⟩ := wraps (m + 1) b j s1.length s5.length sc x3 y4 x6 x7 none [d0, w, d2] [d0, d1, d2, .tup a, d4] (s5 ++ [.lst [d0, w, d2]]) hb6 (k6.get hF5 (by simp)) (by omega) hG6 (by omega) rfl 17 12 (by omega) (by
      intro d hd
      simp only [List.mem_cons, List.not_mem_nil, or_false] at hd
      rcases hd with rfl | rfl | rfl
      · exact gd_sok g0
      · exact ⟨spv_app _ w1, by have := g1.2.2; omega, by have := g1.2.1; omega⟩
      · exact gd_sok g2)
    have hal : a.length ≤ 12 := by have := len_szs a; have := g3.2.2; simp only [sz] at this; omega
    have has : szs a ≤ 12 := by have := g3.2.2; simp only [sz] at this; omega
    have hah : hgts a ≤ 3 := g3.2.1
    have e8 := last_ev (calls FS gl (m + 1 + 1)) b s1.length G' sc y3 y4 y6 x7 y8 d0 d1 d2 d4 a gs' s7 hF7 hG7 hl7 hal
    have hG8 : lstOf (s7 ++ [.lst [lA a, lB d4]] ++ [.lst (gs' ++ [lA a, lB d4])]) (s7.length + 1) = some (gs' ++ [lA a, lB d4]) := by
      have := lst_mid (s7 ++ [.lst [lA a, lB d4]]) (gs' ++ [lA a, lB d4]) []
      simpa only [List.length_append, List.length_cons, List.length_nil, Nat.zero_add] using this
    have hlA : isKs ((List.replicate 25 a).flatten ++ (List.replicate 50 [D.tup []]).flatten) = true := by
      rw [isKs_append, isKs_rep a 25 ha, isKs_rep [.tup []] 50 rfl]; rfl
    have hlB : isKs (List.replicate 50 [d4]).flatten = true := isKs_rep [d4] 50 (by simp [isKs, g4.1])
    obtain ⟨z6, J9, e9⟩ := checks m b j s1.length sc lastE y3 y4 (some (.ref G')) y6 x7 y8 (gs' ++ [lA a, lB d4]) s7 _ (s7.length + 1) hm e8 hG8 (by
      intro d hd
      rw [List.mem_append] at hd
      rcases hd with hd | hd
      · obtain ⟨t1, t2, t3⟩ := hg7 d hd
        exact ⟨by rw [List.append_assoc]; exact spv_app d t1, by omega, by omega⟩
      · simp only [List.mem_cons, List.not_mem_nil, or_false] at hd
        rcases hd with rfl | rfl
        · refine ⟨spvs_K _ _ hlA, ?_, ?_⟩
          · simp only [lA, sz, szs_append, szs_rep, szs]; omega
          · have h1 := hgts_rep a 25
            have h2 := hgts_rep [.tup []] 50
            have h3 : hgts [D.tup []] = 1 := rfl
            have h4 := dep_K (lA a) hlA
            rw [h4]
            simp only [lA, hgt, hgts_append]; omega
        · refine ⟨?_, ?_, ?_⟩
          · show spvs b _ _
            rw [spvs_append]
            exact ⟨spvs_K _ _ hlB, trivial, trivial⟩
          · have := g4.2.2
            simp only [lB, sz, szs_append, szs_rep, szs]; omega
          · have h1 := hgts_rep [d4] 50
            have h3 : hgts [d4] = 1 + hgt d4 := by simp [hgts]
            have := g4.2.1
            simp only [lB, dep, deps_append, deps_K _ hlB, deps]; omega)
    obtain ⟨J10, e10⟩ := end_ev (m + 1) [some sc, some (.ref b), some (.ref s1.length), y3, y4, some (.ref G'), z6, x7, y8] (s7 ++ [.lst [lA a, lB d4]] ++ [.lst (gs' ++ [lA a, lB d4])] ++ J9)
    refine ⟨s7 ++ [O.lst [lA a, lB d4]] ++ [O.lst (gs' ++ [lA a, lB d4])] ++ J9 ++ J10, ?_⟩
    refine cl_ret (d := d17.df) (ρ' := [some sc, some (.ref b), some (.ref s1.length), y3, y4, some (.ref G'), z6, x7, y8]) rfl rfl ?_
    show exs b17 gl (calls FS gl (m + 1 + 1)) [some sc, none, none, none, none, none, none, none, none] [] = _
    have f1 : ex (.asg (.nm 1) (.call 8 [(.var 0), (.int 0), (.int 62)])) gl (calls FS gl (m + 1 + 1)) [some sc, none, none, none, none, none, none, none, none] [] = some (.nx, [some sc, some (.ref b), none, none, none, none, none, none, none], s1) := by
      simp only [ex_asg, ev_call, evs_cons, evs_nil, ev_var0, ev_int, Option.bind_some, Option.map_some, e1, asgD_nm]
      rfl
    have f2 : ex (.asg (.nm 2) (.lst [])) gl (calls FS gl (m + 1 + 1)) [some sc, some (.ref b), none, none, none, none, none, none, none] s1 = some (.nx, [some sc, some (.ref b), some (.ref s1.length), none, none, none, none, none, none], s1 ++ [.lst []]) := by
      simp only [ex_asg, ev_lst, evs_nil, Option.bind_some, List.length_nil, if_pos hz0, new_eq, asgD_nm]
      rfl
    rw [b17_eq, exs_step f1 rfl, exs_step f2 rfl, exs_step e3 rfl, exs_step e4 rfl, exs_step f5 rfl, exs_step e7 rfl, exs_step e9 rfl, exs_ret e10]
end K00
end
section
set_option Elab.async false
set_option linter.all false
set_option maxRecDepth 100000
set_option maxHeartbeats 0
namespace K00
open Dz PySem PySem.Spec PyProof.Rows L2 He
def fa : List Fa := defs.map (fun d => Fa.glo d.x) ++ blts.map Fa.free
def tf : List Defn := (defs.filter (·.gn)).map fun d => (d.x, none)
def fnD : List DefD := defs.map (DD.defD Pr)
abbrev R : PySem.W.OpenRow := PySem.W.OpenLaw.row PySem.Challenge.rw_sensehouse_k00_kinds_and_their_places
def hk : PySem.W.Hook := hookX 5 fa fnD [] tf fun _ => true
def ob (s : PySem.W.SharedT) : AlX := obsX 5 fa fnD [] tf (fun _ => true) (HandSHeadRun.getT s)
theorem ob_eq (s : PySem.W.SharedT) : ob s = hk.obs s.abs := obsX_eq (HandSHeadRun.getT_eq s)
abbrev iLaw : Nat := 19
def loose : List Str := names.filter fun x => decide (x ≠ ("law" : Str))
theorem run (w : World) : HandSHeadRun.RunEq R (PySem.W.view R.prog [iLaw]) hk ob 2000 loose w := by
  intro os
  kernel_rfl
end K00
end
section
set_option Elab.async false
set_option linter.all false
set_option maxRecDepth 100000
set_option maxHeartbeats 0
namespace K00
open Dz PySem PySem.Spec PyProof.Rows L2 He
theorem hglo : ∀ d ∈ defs, Fa.glo d.x ∈ fa := fun d hd => List.mem_append_left _ (List.mem_map.mpr ⟨d, hd, rfl⟩)
theorem hfree : ∀ x ∈ blts, Fa.free x ∈ fa := fun x hx => List.mem_append_right _ (List.mem_map.mpr ⟨x, hx, rfl⟩)
theorem hok : ∀ d ∈ defs, d.ok Pr (defs.map (·.x)) = true := fun d hd => List.all_eq_true.mp ok0 d hd
theorem hgn : ∀ d ∈ defs, d.gn = true → (d.x, none) ∈ tf := fun d hd hg => List.mem_map.mpr ⟨d, List.mem_filter.mpr ⟨hd, hg⟩, rfl⟩
theorem hbd : ∀ d ∈ defs, d.Bd Pr := by
  have h1 : ∀ d : DD, d ∈ defs → d.ps.length = 1 ∨ d.ps.length = 2 ∨ d.ps.length = 3 := by decide +kernel
  intro d hd
  simp only [defs, List.mem_cons, List.not_mem_nil, or_false] at hd
  rcases hd with rfl | rfl | rfl | rfl | rfl | rfl | rfl | rfl | rfl | rfl | rfl | rfl | rfl | rfl | rfl | rfl | rfl | rfl <;>
    first
      | exact fun _ _ _ _ _ _ us hl => match us, hl with | [_], _ => rfl
      | exact fun _ _ _ _ _ _ us hl => match us, hl with | [_, _], _ => rfl
      | exact fun _ _ _ _ _ _ us hl => match us, hl with | [_, _, _], _ => rfl
def LawOk : Prop := ∀ ns : List Int, ns.length ≤ 63 → (∀ z ∈ ns, Builtin.Int.intBits z ≤ 1048576) → ∃ st', callD (defs.map (·.df)) gl 229 17 [.fz (ns.map .int)] [] = some (.bl true, st')
theorem holds (law : LawOk) : PySem.Challenge.rw_sensehouse_k00_kinds_and_their_places.Holds := by
  w_on; o_law
  refine HandSHeadRun.head_any (r := PySem.W.OpenLaw.row PySem.Challenge.rw_sensehouse_k00_kinds_and_their_places) (q := PySem.W.view (PySem.W.OpenLaw.row PySem.Challenge.rw_sensehouse_k00_kinds_and_their_places).prog [iLaw]) (H := hk) (ob := ob) (M := 2000) (loose := loose) (d := HandSHeadRun.topDef (PySem.W.OpenLaw.row PySem.Challenge.rw_sensehouse_k00_kinds_and_their_places).prog iLaw) (kwd := []) ob_eq
    (by kernel_rfl) (fun s => by kernel_rfl) run (by kernel_rfl) (by kernel_rfl) (by kernel_rfl) (by rfl) (by first | assumption | decide +kernel) (by decide +kernel) ⟨rfl, rfl, rfl, rfl, rfl, by decide +kernel⟩ ?hw ?hc
  case hw => w_witness2
  case hc =>
    refine LamX.walk_ofTsE (l := PySem.Challenge.rw_sensehouse_k00_kinds_and_their_places) (n := 63) (k := 230) (x := "script") (CX := fun _ => C8.CX0) rfl (by decide) (by kernel_rfl) ⟨rfl, by decide, by decide⟩ ?F (fun _ _ _ _ _ z => z)
    intro w mg fA h Y G hmg0
    obtain ⟨K, KX, c⟩ := Y
    have hmg : mg ("law" : PySem.Str) = some (.ref fA) := by
      have e : (HandSHeadRun.topDef (PySem.W.OpenLaw.row PySem.Challenge.rw_sensehouse_k00_kinds_and_their_places).prog iLaw).name = ("law" : PySem.Str) := by kernel_rfl
      rw [← e]
      exact hmg0
    exact ⟨K, KX, law_end (g := gl) (L := defs) (f := 17) (d := d17) (k := 229) KX G c hglo hfree hok hbd hgn (fun x d e => by cases e) rfl rfl hmg law⟩
end K00
end
theorem PySem.Challenge.cw_sensehouse_k00_kinds_and_their_places_holds : PySem.Challenge.rw_sensehouse_k00_kinds_and_their_places.Holds := by
  exact K00.holds fun ns _ _ => K00.run_law 227 ns (by decide) (by decide)
