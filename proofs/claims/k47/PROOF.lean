import PyProof.Rows.All
import Wide.All
import OpenK.AllK
import Wide.FinOn
import HandS.ForMost
import HandS.Deep
import HandS.Flow
import HandS.Style
import HandS.TupAny
import HandS.DictComp
import HandS.TupLe
import HandS.IsInst
import PyProof.Rows.SortShellK
import HandS.ReplaceList
import PyProof.Rows.StrJoinStr
import KE.KTupSum
import HandS.Comp
import KE.GoesMore
import HandS.Call
import HandS.Head0
import HandS.Head1
import HandS.Head2
import HandS.HeadEnd
import HandS.HeadHook1
import HandS.HeadHook2
import PySem.Challenge.RW_oncewords_k47_whole_maps
set_option linter.all false
set_option Elab.async false
set_option maxRecDepth 100000
/-! Mini: a small language with a pure evaluator. Data, expressions, statements, values. -/
namespace Mini
open PySem

abbrev Sg := List Nat
def toS (s : Sg) : Str := Str.mk s.toArray
abbrev Ky := Sum Int Sg
def LIM : Nat := 4000000

inductive D where
  | non | bl (b : Bool) | int (i : Int) | str (s : Sg)
  | tup (ds : List D) | lst (ds : List D) | dic (kvs : List (Ky × D))

instance : Inhabited D := ⟨.non⟩

/-- a name's place: nothing, data that never change, a list or dict of the def's own, one of the caller's -/
inductive Sl where
  | un | fz (d : D) | own (d : D) | io (d : D)

abbrev En := List Sl

inductive Bop where | add | sub | mul | fdiv | mod | pow
inductive Cop where | eq | ne | lt | le | gt | ge | isin | notin | isN | notN
inductive Ty where | int | bool | str | tuple | list
inductive Bf where | len | sorted | sum | any | all | tuple | list | int | max | min | abs
inductive Mt where | join | index | count | get1 | get2

mutual
inductive E where
  | var (i : Nat) | brw (i : Nat) | mv (i : Nat)
  | int (n : Int) | str (s : Sg) | bl (b : Bool) | non
  | glob (g : Nat)
  | tup (es : Es) | lst (es : Es) | dct0
  | bin (op : Bop) (a b : E) | neg (a : E)
  | cmp (op : Cop) (a b : E) | chain (o1 o2 : Cop) (a b c : E)
  | and (a b : E) | or (a b : E) | not (a : E)
  | ite (c a b : E)
  | idx (a i : E) | slc (a : E) (lo hi : Oe) | rev (a : E)
  | call (f : Nat) (es : Es)
  | fn (b : Bf) (es : Es)
  | isi (a : E) (t : Ty) | isi2 (a : E) (t u : Ty)
  | popa (i : Nat) (e : E) | popl (i : Nat)
  | mt (m : Mt) (o : E) (es : Es)
  | rep (o e : E)
  | comp (own : List Nat) (elt : E) (tg : List Nat) (it : It) (c : Oe)
  | dcomp (own : List Nat) (k v : E) (tg : List Nat) (it : It) (c : Oe)
inductive Es where | nil | cons (e : E) (es : Es) | io (i : Nat) (es : Es) | fr
inductive Oe where | none | some (e : E)
inductive It where
  | seq (e : E) | range1 (a : E) | range2 (a b : E) | enum (e : E) | zip (a b : E) | items (e : E)
end

mutual
inductive S where
  | set (i : Nat) (e : E) | own (i : Nat) (e : E)
  | par (ts : List (Nat × Bool)) (es : Es)
  | unp (ts : List Nat) (e : E)
  | aug (i : Nat) (op : Bop) (e : E)
  | app (i : Nat) (e : E)
  | put (i : Nat) (k e : E)
  | ite (c : E) (a b : Ss) | while (c : E) (b : Ss) | for (tg : List Nat) (it : It) (b : Ss)
  | ret (e : E) | retN | brk | cnt | ex (e : E) | raise | pass
inductive Ss where | nil | cons (s : S) (ss : Ss)
end

/-! ### what operators do -/
def kyOf : D → Option Ky
  | .int i => some (.inl i)
  | .str s => some (.inr s)
  | _ => none
def kyD : Ky → D
  | .inl i => .int i
  | .inr s => .str s
def dget (kvs : List (Ky × D)) (k : Ky) : Option D := (kvs.find? fun p => decide (p.1 = k)).map (·.2)
def dput (kvs : List (Ky × D)) (k : Ky) (v : D) : List (Ky × D) :=
  if (kvs.any fun p => decide (p.1 = k)) = true then kvs.map (fun p => if p.1 = k then (p.1, v) else p) else kvs ++ [(k, v)]

mutual
def pd : D → Option PyData
  | .non => some .none
  | .bl b => some (.bool b)
  | .int i => some (.int i)
  | .str s => some (.str (toS s))
  | .tup ds => (pds ds).map PyData.tuple
  | .lst ds => (pds ds).map PyData.list
  | .dic _ => none
def pds : List D → Option (List PyData)
  | [] => some []
  | d :: ds => match pd d, pds ds with
    | some p, some ps => some (p :: ps)
    | _, _ => none
end
/-- d == e -/
def eqD : D → D → Option Bool
  | .int a, .int b => some (decide (a = b))
  | .str a, .str b => some (decide (a = b))
  | .bl a, .bl b => some (decide (a = b))
  | .non, .non => some true
  | .non, .str _ => some false
  | .str _, .non => some false
  | .non, .int _ => some false
  | .int _, .non => some false
  | .str _, .int _ => some false
  | .int _, .str _ => some false
  | d, e => match pd d, pd e with
    | some p, some q => if SeqAt.shaped p = true ∧ SeqAt.shaped q = true then some (PyData.eqv p q) else none
    | _, _ => none

def bmul (a b : Int) : Bool := decide (-(2 ^ 64) < a ∧ a < 2 ^ 64) || decide (-(2 ^ 64) < b ∧ b < 2 ^ 64)
def bopD : Bop → D → D → Option D
  | .add, .int a, .int b => some (.int (a + b))
  | .add, .str a, .str b => if a.length + b.length ≤ LIM then some (.str (a ++ b)) else none
  | .add, .lst a, .lst b => if a.length + b.length ≤ LIM then some (.lst (a ++ b)) else none
  | .add, .tup a, .tup b => if a.length + b.length ≤ LIM then some (.tup (a ++ b)) else none
  | .sub, .int a, .int b => some (.int (a - b))
  | .mul, .int a, .int b => if bmul a b = true then some (.int (a * b)) else none
  | .fdiv, .int a, .int b => if 0 < b ∧ b < 1073741824 then some (.int (a / b)) else none
  | .mod, .int a, .int b => if 0 < b then some (.int (a % b)) else none
  | .pow, .int a, .int b => if 0 ≤ b ∧ b ≤ 1000000 ∧ a.natAbs < 2 ^ 64 then some (.int (a ^ b.toNat)) else none
  | _, _, _ => none

def ltS (a b : Sg) : Bool := decide (a < b)
def allSome {α : Type} : List (Option α) → Option (List α)
  | [] => some []
  | some x :: r => (allSome r).map (x :: ·)
  | none :: _ => none
def flatD : D → Bool
  | .non => true | .bl _ => true | .int _ => true | .str _ => true | _ => false
def eqF : D → D → Bool
  | .non, .non => true
  | .bl a, .bl b => a == b
  | .bl a, .int b => (if a then 1 else 0) == b
  | .int a, .bl b => a == (if b then 1 else 0)
  | .int a, .int b => a == b
  | .str a, .str b => decide (a = b)
  | _, _ => false
/-- d in xs -/
def inD (d : D) (xs : List D) : Option Bool :=
  if flatD d = true ∧ xs.all flatD = true then some (xs.any fun x => eqF x d)
  else match pd d, pds xs with
    | some p, some ps => if SeqAt.shaped p = true ∧ SeqAt.shaped (.list ps) = true then some (ps.any fun z => PyData.eqv z p) else none
    | _, _ => none
/-- items of tuples that are compared: ints, texts -/
def itEq : D → D → Option Bool
  | .int a, .int b => some (decide (a = b))
  | .str a, .str b => some (decide (a = b))
  | _, _ => none
def itLt : D → D → Option Bool
  | .int a, .int b => some (decide (a < b))
  | .str a, .str b => some (decide (a < b))
  | _, _ => none
def itLe : D → D → Option Bool
  | .int a, .int b => some (decide (a ≤ b))
  | _, _ => none
/-- the first unequal pair says it, or the lengths -/
def lexB (r : D → D → Option Bool) (z : Bool) : List D → List D → Bool
  | [], [] => z
  | [], _ :: _ => true
  | _ :: _, [] => false
  | a :: as, b :: bs => if (itEq a b).getD false = true then lexB r z as bs else (r a b).getD false
def pairsOk (r : D → D → Option Bool) : List D → List D → Bool
  | a :: as, b :: bs => (itEq a b).isSome && (r a b).isSome && pairsOk r as bs
  | _, _ => true
def lexT (r : D → D → Option Bool) (z : Bool) (as bs : List D) : Option Bool := if pairsOk r as bs = true then some (lexB r z as bs) else none
def subS (a b : Sg) : Bool := (!(Builtin.Str.occurrences (toS b) (toS a) 0 (toS b).length 1).isEmpty)
def isNon : D → Bool
  | .non => true
  | _ => false
def cmpD : Cop → D → D → Option D
  | .eq, a, b => (eqD a b).map .bl
  | .ne, a, b => (eqD a b).map fun x => .bl (!x)
  | .lt, .int a, .int b => some (.bl (decide (a < b)))
  | .le, .int a, .int b => some (.bl (decide (a ≤ b)))
  | .gt, .int a, .int b => some (.bl (decide (b < a)))
  | .ge, .int a, .int b => some (.bl (decide (b ≤ a)))
  | .lt, .str a, .str b => some (.bl (decide (a < b)))
  | .lt, .tup a, .tup b => (lexT itLt false a b).map .bl
  | .le, .tup a, .tup b => (lexT itLe true a b).map .bl
  | .isin, .str [c], .str z => some (.bl (decide (c ∈ z)))
  | .notin, .str [c], .str z => some (.bl (!decide (c ∈ z)))
  | .isin, k, .dic kvs => (kyOf k).map fun y => .bl (dget kvs y).isSome
  | .notin, k, .dic kvs => (kyOf k).map fun y => .bl (!(dget kvs y).isSome)
  | .isin, d, .lst xs => (inD d xs).map .bl
  | .notin, d, .lst xs => (inD d xs).map fun b => .bl (!b)
  | .isin, d, .tup xs => (inD d xs).map .bl
  | .notin, d, .tup xs => (inD d xs).map fun b => .bl (!b)
  | .isN, a, .non => some (.bl (isNon a))
  | .notN, a, .non => some (.bl (!isNon a))
  | _, _, _ => none

def ixL {α : Type} (xs : List α) (i : Int) : Option α := (L2.ixN xs.length i).bind fun j => xs[j]?
def idxD : D → D → Option D
  | .lst ds, .int i => ixL ds i
  | .tup ds, .int i => ixL ds i
  | .str s, .int i => if s.length ≤ LIM then (ixL s i).map fun c => .str [c] else none
  | .dic kvs, k => (kyOf k).bind (dget kvs)
  | _, _ => none
def cutL {α : Type} (xs : List α) (lo hi : Option Int) : List α :=
  (xs.drop (HT.sIx xs.length 0 lo)).take (HT.sIx xs.length xs.length hi - HT.sIx xs.length 0 lo)
def slcD : D → Option Int → Option Int → Option D
  | .lst ds, lo, hi => some (.lst (cutL ds lo hi))
  | .tup ds, lo, hi => some (.tup (cutL ds lo hi))
  | .str s, lo, hi => if s.length ≤ LIM then some (.str (cutL s lo hi)) else none
  | _, _, _ => none
def revD : D → Option D
  | .str s => if s.length ≤ LIM then some (.str s.reverse) else none
  | .lst ds => some (.lst ds.reverse)
  | _ => none

def bls : List D → Option (List Bool)
  | [] => some []
  | .bl b :: r => (bls r).map (b :: ·)
  | _ :: _ => none
def intsD : List D → Option (List Int)
  | [] => some []
  | .int b :: r => (intsD r).map (b :: ·)
  | _ :: _ => none
def strsD : List D → Option (List Sg)
  | [] => some []
  | .str b :: r => (strsD r).map (b :: ·)
  | _ :: _ => none
def insN (x : Nat) : List Nat → List Nat
  | [] => [x]
  | y :: r => if x ≤ y then x :: y :: r else y :: insN x r
def sortN : List Nat → List Nat
  | [] => []
  | x :: r => insN x (sortN r)
/-- min(xs), max(xs): the place of the first best -/
def bestD (mx : Bool) (ds : List D) : Option D :=
  if ds.isEmpty = true then none else match strsD ds with
  | some xs => if mx then none else ds[argBest (fun i j => decide (xs.getD i [] < xs.getD j [])) (ds.length - 1)]?
  | none => match intsD ds with
    | some xs => ds[argBest (fun i j => if mx then decide (xs.getD i 0 > xs.getD j 0) else decide (xs.getD i 0 < xs.getD j 0)) (ds.length - 1)]?
    | none => none
def fnD : Bf → List D → Option D
  | .len, [.str s] => if s.length ≤ LIM then some (.int s.length) else none
  | .len, [.lst ds] => some (.int ds.length)
  | .len, [.tup ds] => some (.int ds.length)
  | .len, [.dic ds] => some (.int ds.length)
  | .any, [.lst ds] => (bls ds).map fun b => .bl (b.any id)
  | .all, [.lst ds] => (bls ds).map fun b => .bl (b.all id)
  | .sum, [.lst ds] => (intsD ds).map fun b => .int b.sum
  | .sum, [.tup ds] => (intsD ds).map fun b => .int b.sum
  | .tuple, [.lst ds] => some (.tup ds)
  | .tuple, [.tup ds] => some (.tup ds)
  | .list, [.lst ds] => some (.lst ds)
  | .list, [.tup ds] => some (.lst ds)
  | .list, [.str s] => if s.length ≤ LIM then some (.lst (s.map fun c => .str [c])) else none
  | .int, [.int i] => some (.int i)
  | .int, [.bl b] => some (.int (if b then 1 else 0))
  | .abs, [.int i] => some (.int (if i < 0 then -i else i))
  | .sorted, [.str s] => if s.length < 64 then some (.lst ((sortN s).map fun c => .str [c])) else none
  | .max, [.int a, .int b] => some (.int (if b > a then b else a))
  | .min, [.lst ds] => bestD false ds
  | .min, [.str (c :: x)] => some (.str [x.foldl min c])
  | .max, [.lst ds] => bestD true ds
  | .min, [.int a, .int b] => some (.int (if b < a then b else a))
  | .min, [.str a, .str b] => some (.str (if b < a then b else a))
  | .max, [.str a, .str b] => some (.str (if a < b then b else a))
  | _, _ => none
def isiD : D → Ty → Bool
  | .int _, .int => true
  | .bl _, .int => true
  | .bl _, .bool => true
  | .str _, .str => true
  | .tup _, .tuple => true
  | .lst _, .list => true
  | _, _ => false

/-- the place of a sign -/
def placeOf (c : Nat) : Sg → Option Nat
  | [] => none
  | x :: r => if x = c then some 0 else (placeOf c r).map (· + 1)
def joinS (sep : Sg) : List Sg → Sg
  | [] => []
  | [x] => x
  | x :: y :: r => x ++ sep ++ joinS sep (y :: r)
/-- x.replace(y, "") -/
def repD : D → D → Option D
  | .str s, .str [c] => if s.length ≤ LIM then some (.str (s.filter (· ≠ c))) else none
  | _, _ => none
def mtD : Mt → D → List D → Option D
  | .join, .str sep, [.lst ds] => (strsD ds).bind fun xs => if (xs.map List.length).sum + xs.length * sep.length ≤ LIM then some (.str (joinS sep xs)) else none
  | .join, .str sep, [.str x] => if x.length + x.length * sep.length ≤ LIM then some (.str (joinS sep (x.map fun c => [c]))) else none
  | .index, .str s, [.str [c]] => (placeOf c s).map fun (j : Nat) => D.int (j : Int)
  | _, _, _ => none

/-! ### the evaluator -/
abbrev Fn := Nat → List D → Option D → Option (D × Option D)

def getFz (ρ : En) (i : Nat) : Option D := match ρ[i]? with
  | some (.fz d) => some d
  | _ => none
def getOwn (ρ : En) (i : Nat) : Option D := match ρ[i]? with
  | some (.own d) => some d
  | some (.io d) => some d
  | _ => none
def setFz (ρ : En) (i : Nat) (d : D) : Option En := match ρ[i]? with
  | some (.io _) => none
  | some _ => some (ρ.set i (.fz d))
  | none => none
def setOwn (ρ : En) (i : Nat) (d : D) : Option En := match ρ[i]? with
  | some (.io _) => none
  | some _ => some (ρ.set i (.own d))
  | none => none
/-- what an own place holds is changed -/
def chg (ρ : En) (i : Nat) (d : D) : Option En := match ρ[i]? with
  | some (.own _) => some (ρ.set i (.own d))
  | some (.io _) => some (ρ.set i (.io d))
  | _ => none
def wipeE (ρ : En) : List Nat → En
  | [] => ρ
  | v :: vs => (wipeE ρ vs).set v .un
/-- the block's own names are none of the def's own lists -/
def clean (ρ : En) (vs : List Nat) : Bool := vs.all fun v => match ρ[v]? with
  | some (.own _) => false
  | some (.io _) => false
  | some _ => true
  | none => false
def backE (ρ ρ' : En) : List Nat → En
  | [] => ρ'
  | v :: vs => match ρ[v]? with
    | some x => (backE ρ ρ' vs).set v x
    | none => backE ρ ρ' vs
def setAll (ρ : En) : List Nat → List D → Option En
  | [], [] => some ρ
  | i :: is, d :: ds => (setFz ρ i d).bind fun ρ' => setAll ρ' is ds
  | _, _ => none
def setTg (ρ : En) (tg : List Nat) (d : D) : Option En := match tg with
  | [i] => setFz ρ i d
  | is => match d with
    | .tup ds => setAll ρ is ds
    | _ => none
def setPar (ρ : En) : List (Nat × Bool) → List D → Option En
  | [], [] => some ρ
  | (i, o) :: is, d :: ds => (if o then setOwn ρ i d else setFz ρ i d).bind fun ρ' => setPar ρ' is ds
  | _, _ => none

def rangeD (a b : Int) : List D := (List.range (b - a).toNat).map fun i => D.int (a + (i : Nat))
def enumD (n : Nat) : List D → List D
  | [] => []
  | d :: ds => .tup [.int n, d] :: enumD (n + 1) ds
def zipD : List D → List D → List D
  | a :: as, b :: bs => .tup [a, b] :: zipD as bs
  | _, _ => []
def seqD : D → Option (List D)
  | .lst ds => some ds
  | .tup ds => some ds
  | .str s => some (s.map fun c => .str [c])
  | _ => none

def compGo (turn : D → En → Option (Option D × En)) : List D → En → List D → Option (List D × En)
  | [], ρ, acc => some (acc, ρ)
  | x :: xs, ρ, acc => match turn x ρ with
    | some (some y, ρ') => if acc.length < LIM then compGo turn xs ρ' (acc ++ [y]) else none
    | some (none, ρ') => compGo turn xs ρ' acc
    | none => none
def dcompGo (turn : D → En → Option (Option (Ky × D) × En)) : List D → En → List (Ky × D) → Option (List (Ky × D) × En)
  | [], ρ, acc => some (acc, ρ)
  | x :: xs, ρ, acc => match turn x ρ with
    | some (some (k, v), ρ') => if acc.length < LIM then dcompGo turn xs ρ' (dput acc k v) else none
    | some (none, ρ') => dcompGo turn xs ρ' acc
    | none => none

mutual
/-- nothing is changed by it -/
def pureE : E → Bool
  | .bin _ a b => pureE a && pureE b
  | .neg a => pureE a
  | .var _ => true | .brw _ => true | .int _ => true | .str _ => true | .bl _ => true | .non => true | .glob _ => true
  | .cmp _ a b => pureE a && pureE b
  | .idx a b => pureE a && pureE b
  | .fn _ es => pureEs es
  | .lst es => pureEs es
  | .tup es => pureEs es
  | _ => false
def pureEs : Es → Bool
  | .nil => true
  | .cons e es => pureE e && pureEs es
  | _ => false
end
def pureO : Oe → Bool
  | .none => true
  | .some e => pureE e
def isBrw : E → Bool
  | .brw _ => true
  | _ => false

def isLst : Option D → Bool
  | some (.lst _) => true
  | _ => false

inductive Io where | no | at (i : Nat) | new
def ioOf : Es → Io
  | .nil => .no
  | .cons _ es => ioOf es
  | .io i _ => .at i
  | .fr => .new
def ioPos : Es → Option Nat
  | .nil => none
  | .cons _ es => (ioPos es).map (· + 1)
  | .io _ _ => some 0
  | .fr => some 0
def noIo : Es → Bool
  | .nil => true
  | .cons _ es => noIo es
  | _ => false
/-- one at most is handed in to be changed -/
def oneIo : Es → Bool
  | .nil => true
  | .cons _ es => oneIo es
  | .io _ es => noIo es
  | .fr => true

variable (G : Nat → Option D) (Φ : Fn)
mutual
def ev : E → En → Option (D × En)
  | .var i, ρ => (getFz ρ i).map fun d => (d, ρ)
  | .brw i, ρ => (getOwn ρ i).map fun d => (d, ρ)
  | .mv i, ρ => match ρ[i]? with
    | some (.own d) => some (d, ρ.set i (.fz d))
    | _ => none
  | .int n, ρ => some (.int n, ρ)
  | .str s, ρ => some (.str s, ρ)
  | .bl b, ρ => some (.bl b, ρ)
  | .non, ρ => some (.non, ρ)
  | .glob g, ρ => (G g).map fun d => (d, ρ)
  | .tup es, ρ => match evs es ρ with
    | some (ds, ρ') => if ds.length ≤ LIM then some (.tup ds, ρ') else none
    | none => none
  | .lst es, ρ => match evs es ρ with
    | some (ds, ρ') => if ds.length ≤ LIM then some (.lst ds, ρ') else none
    | none => none
  | .dct0, ρ => some (.dic [], ρ)
  | .bin op a b, ρ => if isBrw a && !pureE b then none else match ev a ρ with
    | some (x, ρ1) => match ev b ρ1 with
      | some (y, ρ2) => (bopD op x y).map fun d => (d, ρ2)
      | none => none
    | none => none
  | .neg a, ρ => match ev a ρ with
    | some (.int i, ρ1) => some (.int (-i), ρ1)
    | _ => none
  | .cmp op a b, ρ => if isBrw a && !pureE b then none else match ev a ρ with
    | some (x, ρ1) => match ev b ρ1 with
      | some (y, ρ2) => (cmpD op x y).map fun d => (d, ρ2)
      | none => none
    | none => none
  | .chain o1 o2 a b c, ρ => match ev a ρ with
    | some (x, ρ1) => match ev b ρ1 with
      | some (y, ρ2) => match cmpD o1 x y with
        | some (.bl true) => match ev c ρ2 with
          | some (z, ρ3) => (cmpD o2 y z).map fun d => (d, ρ3)
          | none => none
        | some (.bl false) => some (.bl false, ρ2)
        | _ => none
      | none => none
    | none => none
  | .and a b, ρ => match ev a ρ with
    | some (.bl true, ρ1) => match ev b ρ1 with
      | some (.bl x, ρ2) => some (.bl x, ρ2)
      | _ => none
    | some (.bl false, ρ1) => some (.bl false, ρ1)
    | _ => none
  | .or a b, ρ => match ev a ρ with
    | some (.bl false, ρ1) => match ev b ρ1 with
      | some (.bl x, ρ2) => some (.bl x, ρ2)
      | _ => none
    | some (.bl true, ρ1) => some (.bl true, ρ1)
    | _ => none
  | .not a, ρ => match ev a ρ with
    | some (.bl x, ρ1) => some (.bl (!x), ρ1)
    | _ => none
  | .ite c a b, ρ => match ev c ρ with
    | some (.bl true, ρ1) => if isBrw a then none else ev a ρ1
    | some (.bl false, ρ1) => if isBrw b then none else ev b ρ1
    | _ => none
  | .idx a i, ρ => if isBrw a && !pureE i then none else match ev a ρ with
    | some (x, ρ1) => match ev i ρ1 with
      | some (y, ρ2) => (idxD x y).map fun d => (d, ρ2)
      | none => none
    | none => none
  | .slc a lo hi, ρ => match ev a ρ with
    | some (x, ρ1) => match evo lo ρ1 with
      | some (l, ρ2) => match evo hi ρ2 with
        | some (h, ρ3) => (slcD x l h).map fun d => (d, ρ3)
        | none => none
      | none => none
    | none => none
  | .rev a, ρ => match ev a ρ with
    | some (x, ρ1) => (revD x).map fun d => (d, ρ1)
    | none => none
  | .call f es, ρ => match evs es ρ with
    | some (ds, ρ1) => match ioOf es with
      | .no => match Φ f ds none with
        | some (d, none) => some (d, ρ1)
        | _ => none
      | .at i => match getOwn ρ1 i with
        | some c => match Φ f ds (some c) with
          | some (d, some c') => (chg ρ1 i c').map fun ρ2 => (d, ρ2)
          | _ => none
        | none => none
      | .new => match Φ f ds (some (.dic [])) with
        | some (d, some _) => some (d, ρ1)
        | _ => none
    | none => none
  | .fn b es, ρ => match es with
    | .cons a .nil => match ev a ρ with
      | some (x, ρ1) => (fnD b [x]).map fun d => (d, ρ1)
      | none => none
    | es => match evs es ρ with
      | some (ds, ρ1) => (fnD b ds).map fun d => (d, ρ1)
      | none => none
  | .isi a t, ρ => match ev a ρ with
    | some (x, ρ1) => some (.bl (isiD x t), ρ1)
    | none => none
  | .isi2 a t u, ρ => match ev a ρ with
    | some (x, ρ1) => some (.bl (isiD x t || isiD x u), ρ1)
    | none => none
  | .popa i e, ρ => if isBrw e || !isLst (getOwn ρ i) then none else match ev e ρ with
    | some (.int j, ρ1) => match getOwn ρ1 i with
      | some (.lst ds) => match L2.ixN ds.length j with
        | some n => match ds[n]? with
          | some d => (chg ρ1 i (.lst (ds.eraseIdx n))).map fun ρ2 => (d, ρ2)
          | none => none
        | none => none
      | _ => none
    | _ => none
  | .popl i, ρ => match getOwn ρ i with
    | some (.lst ds) => match ds[ds.length - 1]? with
      | some d => (chg ρ i (.lst (ds.eraseIdx (ds.length - 1)))).map fun ρ2 => (d, ρ2)
      | none => none
    | _ => none
  | .mt m o es, ρ => match ev o ρ with
    | some (x, ρ1) => match evs es ρ1 with
      | some (ds, ρ2) => (mtD m x ds).map fun d => (d, ρ2)
      | none => none
    | none => none
  | .rep o e, ρ => match ev o ρ with
    | some (x, ρ1) => match ev e ρ1 with
      | some (y, ρ2) => (repD x y).map fun d => (d, ρ2)
      | none => none
    | none => none
  | .comp own elt tg it c, ρ => match evi it ρ with
    | some (xs, ρ1) => if clean ρ1 own = true then
        match compGo (fun x ρ => match setTg ρ tg x with
          | some ρ2 => match evo' c ρ2 with
            | some (true, ρ3) => if isBrw elt then none else match ev elt ρ3 with
              | some (y, ρ4) => some (some y, wipeE ρ4 own)
              | none => none
            | some (false, ρ3) => some (none, wipeE ρ3 own)
            | none => none
          | none => none) xs (wipeE ρ1 own) [] with
        | some (ds, ρ5) => some (.lst ds, backE ρ1 ρ5 own)
        | none => none
      else none
    | none => none
  | .dcomp own k v tg it c, ρ => match evi it ρ with
    | some (xs, ρ1) => if clean ρ1 own = true then
        match dcompGo (fun x ρ => match setTg ρ tg x with
          | some ρ2 => match evo' c ρ2 with
            | some (true, ρ3) => if isBrw k || isBrw v then none else match ev k ρ3 with
              | some (y, ρ4) => match kyOf y with
                | some y' => match ev v ρ4 with
                  | some (z, ρ5) => some (some (y', z), wipeE ρ5 own)
                  | none => none
                | none => none
              | none => none
            | some (false, ρ3) => some (none, wipeE ρ3 own)
            | none => none
          | none => none) xs (wipeE ρ1 own) [] with
        | some (ds, ρ5) => some (.dic ds, backE ρ1 ρ5 own)
        | none => none
      else none
    | none => none
def evs : Es → En → Option (List D × En)
  | .nil, ρ => some ([], ρ)
  | .cons e es, ρ => if isBrw e then none else match ev e ρ with
    | some (x, ρ1) => match evs es ρ1 with
      | some (xs, ρ2) => some (x :: xs, ρ2)
      | none => none
    | none => none
  | .io i es, ρ => if (getOwn ρ i).isSome = true then evs es ρ else none
  | .fr, ρ => some ([], ρ)
def evo : Oe → En → Option (Option Int × En)
  | .none, ρ => some (none, ρ)
  | .some e, ρ => match ev e ρ with
    | some (.int i, ρ1) => some (some i, ρ1)
    | _ => none
def evo' : Oe → En → Option (Bool × En)
  | .none, ρ => some (true, ρ)
  | .some e, ρ => match ev e ρ with
    | some (.bl b, ρ1) => some (b, ρ1)
    | _ => none
def evi : It → En → Option (List D × En)
  | .seq e, ρ => if isBrw e then none else match ev e ρ with
    | some (x, ρ1) => (seqD x).map fun xs => (xs, ρ1)
    | none => none
  | .range1 a, ρ => match ev a ρ with
    | some (.int n, ρ1) => if -1000000 ≤ n ∧ n ≤ 1000000 then some (rangeD 0 n, ρ1) else none
    | _ => none
  | .range2 a b, ρ => match ev a ρ with
    | some (.int m, ρ1) => match ev b ρ1 with
      | some (.int n, ρ2) => if -1000000 ≤ m ∧ m ≤ 1000000 ∧ -1000000 ≤ n ∧ n ≤ 1000000 then some (rangeD m n, ρ2) else none
      | _ => none
    | _ => none
  | .enum e, ρ => if isBrw e then none else match ev e ρ with
    | some (x, ρ1) => (seqD x).map fun xs => (enumD 0 xs, ρ1)
    | none => none
  | .zip a b, ρ => if isBrw a || isBrw b then none else match ev a ρ with
    | some (.lst ds, ρ1) => match ev b ρ1 with
      | some (.lst es, ρ2) => some (zipD ds es, ρ2)
      | _ => none
    | _ => none
  | .items e, ρ => if isBrw e then none else match ev e ρ with
    | some (.dic kvs, ρ1) => some (kvs.map fun p => .tup [kyD p.1, p.2], ρ1)
    | _ => none
end

inductive Fl where | nx | brk | cnt | ret (d : D)
def forGo (turn : D → En → Option (Fl × En)) : List D → En → Option (Fl × En)
  | [], ρ => some (.nx, ρ)
  | x :: xs, ρ => match turn x ρ with
    | some (.nx, ρ') => forGo turn xs ρ'
    | some (.cnt, ρ') => forGo turn xs ρ'
    | some (.brk, ρ') => some (.nx, ρ')
    | some (.ret d, ρ') => some (.ret d, ρ')
    | none => none
def whileGo (test : En → Option (Bool × En)) (body : En → Option (Fl × En)) : Nat → En → Option (Fl × En)
  | 0, _ => none
  | n + 1, ρ => match test ρ with
    | some (true, ρ1) => match body ρ1 with
      | some (.nx, ρ2) => whileGo test body n ρ2
      | some (.cnt, ρ2) => whileGo test body n ρ2
      | some (.brk, ρ2) => some (.nx, ρ2)
      | some (.ret d, ρ2) => some (.ret d, ρ2)
      | none => none
    | some (false, ρ1) => some (.nx, ρ1)
    | none => none
/-- how often a while may turn -/
def WH : Nat := 1000000

/-- what a statement that makes a new list or dict of a place's own may say -/
def allocE : E → Bool
  | .lst _ => true | .dct0 => true | .comp .. => true | .dcomp .. => true
  | .fn .sorted _ => true | .fn .list (.cons _ .nil) => true
  | .bin .add _ (.lst _) => true | .bin .add _ (.comp ..) => true
  | _ => false
def asBl : Option (D × En) → Option (Bool × En)
  | some (.bl b, ρ) => some (b, ρ)
  | _ => none

mutual
def ex : S → En → Option (Fl × En)
  | .set i e, ρ => if isBrw e then none else match ev G Φ e ρ with
    | some (d, ρ1) => (setFz ρ1 i d).map fun ρ2 => (.nx, ρ2)
    | none => none
  | .own i e, ρ => if allocE e then match ev G Φ e ρ with
    | some (d, ρ1) => (setOwn ρ1 i d).map fun ρ2 => (.nx, ρ2)
    | none => none else none
  | .par ts es, ρ => match evs G Φ es ρ with
    | some (ds, ρ1) => (setPar ρ1 ts ds).map fun ρ2 => (.nx, ρ2)
    | none => none
  | .unp ts e, ρ => if isBrw e then none else match ev G Φ e ρ with
    | some (.tup ds, ρ1) => (setAll ρ1 ts ds).map fun ρ2 => (.nx, ρ2)
    | _ => none
  | .aug i op e, ρ => match getFz ρ i with
    | some x => if !flatD x then none else match ev G Φ e ρ with
      | some (y, ρ1) => match bopD op x y with
        | some z => (setFz ρ1 i z).map fun ρ2 => (.nx, ρ2)
        | none => none
      | none => none
    | none => none
  | .app i e, ρ => if isBrw e || !isLst (getOwn ρ i) then none else match ev G Φ e ρ with
    | some (d, ρ1) => match getOwn ρ1 i with
      | some (.lst ds) => if ds.length < LIM then (chg ρ1 i (.lst (ds ++ [d]))).map fun ρ2 => (.nx, ρ2) else none
      | _ => none
    | none => none
  | .put i k e, ρ => if isBrw e || isBrw k then none else match ev G Φ e ρ with
    | some (d, ρ1) => if (getOwn ρ1 i).isNone then none else match ev G Φ k ρ1 with
      | some (y, ρ2) => match getOwn ρ2 i with
        | some (.dic kvs) => match kyOf y with
          | some y' => if kvs.length < LIM then (chg ρ2 i (.dic (dput kvs y' d))).map fun ρ3 => (.nx, ρ3) else none
          | none => none
        | some (.lst ds) => match y with
          | .int j => match L2.ixN ds.length j with
            | some n => (chg ρ2 i (.lst (ds.set n d))).map fun ρ3 => (.nx, ρ3)
            | none => none
          | _ => none
        | _ => none
      | none => none
    | none => none
  | .ite c a b, ρ => match ev G Φ c ρ with
    | some (.bl true, ρ1) => exs a ρ1
    | some (.bl false, ρ1) => exs b ρ1
    | _ => none
  | .while c b, ρ => whileGo (fun ρ => asBl (ev G Φ c ρ)) (fun ρ => exs b ρ) WH ρ
  | .for tg it b, ρ => match evi G Φ it ρ with
    | some (xs, ρ1) => forGo (fun x ρ => match setTg ρ tg x with
      | some ρ' => exs b ρ'
      | none => none) xs ρ1
    | none => none
  | .ret e, ρ => if isBrw e then none else match ev G Φ e ρ with
    | some (d, ρ1) => some (.ret d, ρ1)
    | none => none
  | .retN, ρ => some (.ret .non, ρ)
  | .brk, ρ => some (.brk, ρ)
  | .cnt, ρ => some (.cnt, ρ)
  | .ex e, ρ => match ev G Φ e ρ with
    | some (_, ρ1) => some (.nx, ρ1)
    | none => none
  | .raise, _ => none
  | .pass, ρ => some (.nx, ρ)
def exs : Ss → En → Option (Fl × En)
  | .nil, ρ => some (.nx, ρ)
  | .cons s ss, ρ => match ex s ρ with
    | some (.nx, ρ1) => exs ss ρ1
    | r => r
end

/-- a def: how many names, how many parameters, the place of the one that is changed, its body -/
structure Df where
  n : Nat
  ps : Nat
  io : Option Nat
  body : Ss
def startE (n : Nat) (ds : List D) (q : Option Nat) (io : Option D) : En :=
  match q, io with
  | some q, some c => (ds.take q).map Sl.fz ++ Sl.io c :: (ds.drop q).map Sl.fz ++ List.replicate (n - (ds.length + 1)) Sl.un
  | _, _ => ds.map Sl.fz ++ List.replicate (n - ds.length) Sl.un
def lastIo (q : Option Nat) (ρ : En) : Option (Option D) :=
  match q with
  | some q => match ρ[q]? with
    | some (.io c) => some (some c)
    | _ => none
  | none => some none
def run (d : Df) (ds : List D) (io : Option D) : Option (D × Option D) :=
  if d.io.isSome = io.isSome ∧ ds.length + (if io.isSome then 1 else 0) = d.ps then
    match exs G Φ d.body (startE d.n ds d.io io) with
    | some (.nx, ρ) => (lastIo d.io ρ).map fun c => (.non, c)
    | some (.ret r, ρ) => (lastIo d.io ρ).map fun c => (r, c)
    | _ => none
  else none
def fnv (P : Nat → Option Df) : Nat → Fn
  | 0 => fun _ _ _ => none
  | k + 1 => fun f ds io => match P f with
    | some d => run G (fnv P k) d ds io
    | none => none
end Mini
/-! Mini, exact: data in the heap by their very objects; the state. -/
namespace Mini
open PySem PySem.Spec PyProof.Rows L2

theorem toS_inj {a b : Sg} (h : toS a = toS b) : a = b := by
  have := congrArg (fun z : Str => z.cps.toList) h
  simpa [toS] using this
theorem toS_len (s : Sg) : (toS s).length = s.length := by simp [toS, Str.length]
theorem toS_app (a b : Sg) : toS a ++ toS b = toS (a ++ b) := by
  show Str.mk (a.toArray ++ b.toArray) = _
  simp [toS]
theorem toS_cps (s : Sg) : (toS s).cps.toList = s := by simp [toS]
def kyK : Ky → Key
  | .inl i => .inl i
  | .inr s => .inr (toS s)
theorem kyK_inj {a b : Ky} (h : kyK a = kyK b) : a = b := by
  cases a <;> cases b <;> simp only [kyK] at h
  · cases h; rfl
  · cases h
  · cases h
  · have := toS_inj (Sum.inr.inj h); rw [this]
theorem kyK_dec (a b : Ky) : decide (kyK a = kyK b) = decide (a = b) := by
  by_cases h : a = b
  · subst h; simp
  · have h' : kyK a ≠ kyK b := fun e => h (kyK_inj e)
    simp [h, h']

/-- objects that never change -/
abbrev Om := Addr → Option Obj
def oset (O : Om) (p : Addr) (o : Obj) : Om := fun b => if b = p then some o else O b
theorem oset_same {O : Om} {p : Addr} {o : Obj} : oset O p o p = some o := if_pos rfl
theorem oset_ne {O : Om} {p b : Addr} {o : Obj} (h : b ≠ p) : oset O p o b = O b := if_neg h
def Le (O O' : Om) : Prop := ∀ b o, O b = some o → O' b = some o
theorem Le.refl (O : Om) : Le O O := fun _ _ h => h
theorem Le.trans {A B C : Om} (x : Le A B) (y : Le B C) : Le A C := fun b o h => y b o (x b o h)
theorem le_oset {O : Om} {p : Addr} {o : Obj} (h : O p = none) : Le O (oset O p o) := fun b x e => by
  by_cases hb : b = p
  · subst hb; rw [h] at e; cases e
  · rw [oset_ne hb]; exact e

/-- a token that str.replace may meet -/
def tokOk (n : Nat) (t : Tok) : Prop := t ≠ 0 ∧ t < n
/-- how a dict's object lies: its pairs by key -/
def DkObj (P : Program) (w : World) (o : Obj) (vs : List (Key × Value)) : Prop :=
  o.ExactDict ∧ ∃ es ep, o.data = .dict es ep ∧ KeysOf (mixKind P w) es ∧ Pairs (mixKind P w) es.toList vs ∧ (vs.map (·.1)).Nodup

section
variable (P : Program) (w : World)
mutual
inductive RepV (O : Om) (n : Nat) : Value → D → Prop
  | non : RepV O n .none .non
  | bl (b : Bool) : RepV O n (.bool b) (.bl b)
  | int (i : Int) (t : Tok) : RepV O n (.int i t) (.int i)
  | str (s : Sg) (t : Tok) : (s.length = 1 → tokOk n t) → RepV O n (.str (toS s) t) (.str s)
  | tup {p : Addr} {o : Obj} {us : List Value} {k : Nat} {ds : List D} : O p = some o → o.cls = .type "tuple" → o.data = .seq us.toArray k → us.length ≤ sizeLine → RepVs O n us ds → RepV O n (.ref p) (.tup ds)
  | lst {p : Addr} {us : List Value} {k : Nat} {ds : List D} : O p = some { cls := .type "list", data := .seq us.toArray k } → us.length ≤ sizeLine → RepVs O n us ds → RepV O n (.ref p) (.lst ds)
  | dic {p : Addr} {o : Obj} {vs : List (Key × Value)} {kvs : List (Ky × D)} : O p = some o → (p == sysModules) = false → vs.length ≤ sizeLine → DkObj P w o vs → RepVk O n vs kvs → RepV O n (.ref p) (.dic kvs)
inductive RepVs (O : Om) (n : Nat) : List Value → List D → Prop
  | nil : RepVs O n [] []
  | cons {v : Value} {vs : List Value} {d : D} {ds : List D} : RepV O n v d → RepVs O n vs ds → RepVs O n (v :: vs) (d :: ds)
inductive RepVk (O : Om) (n : Nat) : List (Key × Value) → List (Ky × D) → Prop
  | nil : RepVk O n [] []
  | cons {k : Ky} {v : Value} {ws : List (Key × Value)} {d : D} {kvs : List (Ky × D)} : RepV O n v d → RepVk O n ws kvs → RepVk O n ((kyK k, v) :: ws) ((k, d) :: kvs)
end
end

section
variable {P : Program} {w : World} {O O' : Om} {n n' : Nat}
mutual
theorem RepV.mono (le : Le O O') (hn : n ≤ n') : ∀ {v : Value} {d : D}, RepV P w O n v d → RepV P w O' n' v d
  | _, _, .non => .non
  | _, _, .bl b => .bl b
  | _, _, .int i t => .int i t
  | _, _, .str x t h => .str x t fun e => ⟨(h e).1, Nat.lt_of_lt_of_le (h e).2 hn⟩
  | _, _, .tup h h1 h2 h3 r => .tup (le _ _ h) h1 h2 h3 (RepVs.mono le hn r)
  | _, _, .lst h h3 r => .lst (le _ _ h) h3 (RepVs.mono le hn r)
  | _, _, .dic h h1 h2 h3 r => .dic (le _ _ h) h1 h2 h3 (RepVk.mono le hn r)
theorem RepVs.mono (le : Le O O') (hn : n ≤ n') : ∀ {v : List Value} {d : List D}, RepVs P w O n v d → RepVs P w O' n' v d
  | _, _, .nil => .nil
  | _, _, .cons h r => .cons (RepV.mono le hn h) (RepVs.mono le hn r)
theorem RepVk.mono (le : Le O O') (hn : n ≤ n') : ∀ {v : List (Key × Value)} {d : List (Ky × D)}, RepVk P w O n v d → RepVk P w O' n' v d
  | _, _, .nil => .nil
  | _, _, .cons h r => .cons (RepV.mono le hn h) (RepVk.mono le hn r)
end
theorem RepVs.length : ∀ {v : List Value} {d : List D}, RepVs P w O n v d → v.length = d.length
  | _, _, .nil => rfl
  | _, _, .cons _ r => by simp [RepVs.length r]
theorem RepVk.length : ∀ {v : List (Key × Value)} {d : List (Ky × D)}, RepVk P w O n v d → v.length = d.length
  | _, _, .nil => rfl
  | _, _, .cons _ r => by simp [RepVk.length r]
theorem RepVs.get : ∀ {v : List Value} {d : List D} {i : Nat} {x : D}, RepVs P w O n v d → d[i]? = some x → ∃ y, v[i]? = some y ∧ RepV P w O n y x
  | _, _, _, _, .nil, e => by simp at e
  | _, _, 0, _, .cons h _, e => by simp at e; subst e; exact ⟨_, rfl, h⟩
  | _, _, i + 1, x, .cons _ r, e => by
    obtain ⟨y, h1, h2⟩ := RepVs.get (i := i) (x := x) r (by simpa using e)
    exact ⟨y, by simpa using h1, h2⟩
theorem RepVs.set {y : Value} {x : D} (h : RepV P w O n y x) : ∀ {v : List Value} {d : List D} (i : Nat), RepVs P w O n v d → RepVs P w O n (v.set i y) (d.set i x)
  | _, _, _, .nil => .nil
  | _, _, 0, .cons _ r => .cons h r
  | _, _, i + 1, .cons g r => .cons g (RepVs.set h i r)
theorem RepVs.append : ∀ {v v' : List Value} {d e : List D}, RepVs P w O n v d → RepVs P w O n v' e → RepVs P w O n (v ++ v') (d ++ e)
  | _, _, _, _, .nil, s => s
  | _, _, _, _, .cons h r, s => .cons h (RepVs.append r s)
theorem RepVs.take : ∀ {v : List Value} {d : List D} (k : Nat), RepVs P w O n v d → RepVs P w O n (v.take k) (d.take k)
  | _, _, 0, _ => .nil
  | _, _, _ + 1, .nil => .nil
  | _, _, k + 1, .cons h r => .cons h (RepVs.take k r)
theorem RepVs.drop : ∀ {v : List Value} {d : List D} (k : Nat), RepVs P w O n v d → RepVs P w O n (v.drop k) (d.drop k)
  | _, _, 0, r => r
  | _, _, _ + 1, .nil => .nil
  | _, _, k + 1, .cons h r => RepVs.drop k r
theorem RepVs.reverse : ∀ {v : List Value} {d : List D}, RepVs P w O n v d → RepVs P w O n v.reverse d.reverse
  | _, _, .nil => .nil
  | _, _, .cons h r => by rw [List.reverse_cons, List.reverse_cons]; exact (RepVs.reverse r).append (.cons h .nil)

/-- what stands at the top of a value, its parts fixed -/
inductive Lk (P : Program) (w : World) (O : Om) (h : Heap) (n : Nat) : Value → D → Prop
  | of {v : Value} {d : D} : (∀ b o, O b = some o → h.get? b = some o) → RepV P w O n v d → Lk P w O h n v d
  | lst {p : Addr} {us : List Value} {k : Nat} {ds : List D} : h.get? p = some { cls := .type "list", data := .seq us.toArray k } → us.length ≤ sizeLine → RepVs P w O n us ds → Lk P w O h n (.ref p) (.lst ds)
  | dic {p : Addr} {o : Obj} {vs : List (Key × Value)} {kvs : List (Ky × D)} : h.get? p = some o → (p == sysModules) = false → vs.length ≤ sizeLine → DkObj P w o vs → RepVk P w O n vs kvs → Lk P w O h n (.ref p) (.dic kvs)
section
variable {h : Heap}
theorem Lk.list {v : Value} {ds : List D} (l : Lk P w O h n v (.lst ds)) : ∃ p us k, v = .ref p ∧ h.get? p = some { cls := .type "list", data := .seq us.toArray k } ∧ us.length ≤ sizeLine ∧ RepVs P w O n us ds := by
  cases l with
  | of s r => cases r with | lst a e f => exact ⟨_, _, _, rfl, s _ _ a, e, f⟩
  | lst a e f => exact ⟨_, _, _, rfl, a, e, f⟩
theorem Lk.tuple {v : Value} {ds : List D} (l : Lk P w O h n v (.tup ds)) : ∃ p o us k, v = .ref p ∧ h.get? p = some o ∧ o.cls = .type "tuple" ∧ o.data = .seq us.toArray k ∧ us.length ≤ sizeLine ∧ RepVs P w O n us ds := by
  cases l with
  | of s r => cases r with | tup a b c d e => exact ⟨_, _, _, _, rfl, s _ _ a, b, c, d, e⟩
theorem Lk.dict {v : Value} {kvs : List (Ky × D)} (l : Lk P w O h n v (.dic kvs)) : ∃ p o vs, v = .ref p ∧ h.get? p = some o ∧ (p == sysModules) = false ∧ vs.length ≤ sizeLine ∧ DkObj P w o vs ∧ RepVk P w O n vs kvs := by
  cases l with
  | of s r => cases r with | dic a b c d e => exact ⟨_, _, _, rfl, s _ _ a, b, c, d, e⟩
  | dic a b c d e => exact ⟨_, _, _, rfl, a, b, c, d, e⟩
theorem Lk.int {v : Value} {i : Int} (l : Lk P w O h n v (.int i)) : ∃ t, v = .int i t := by
  cases l with | of s r => cases r with | int _ t => exact ⟨t, rfl⟩
theorem Lk.str {v : Value} {s : Sg} (l : Lk P w O h n v (.str s)) : ∃ t, v = .str (toS s) t ∧ (s.length = 1 → tokOk n t) := by
  cases l with | of s r => cases r with | str _ t h => exact ⟨t, rfl, h⟩
theorem Lk.bl {v : Value} {b : Bool} (l : Lk P w O h n v (.bl b)) : v = .bool b := by
  cases l with | of s r => cases r with | bl => rfl
theorem Lk.non {v : Value} (l : Lk P w O h n v .non) : v = .none := by
  cases l with | of s r => cases r with | non => rfl
end
end

/-! ### what grows -/
def Kept (h h' : Heap) : Prop := ∀ b o, h.get? b = some o → h'.get? b = some o
theorem Kept.refl (h : Heap) : Kept h h := fun _ _ e => e
theorem Kept.trans {a b c : Heap} (x : Kept a b) (y : Kept b c) : Kept a c := fun d o e => y d o (x d o e)
theorem Kept.push (h : Heap) (o : Obj) : Kept h (h.push o) := fun _ _ e => Heap.get?_push_of_some _ e
structure Gr (O : Om) (s : Shared) (O' : Om) (s' : Shared) : Prop where
  kept : Kept s.heap s'.heap
  le : Le O O'
  nw : ∀ b o, s.heap.get? b = some o → O' b = O b
  sub : ∀ b o, O' b = some o → s'.heap.get? b = some o
  tk : s.toks ≤ s'.toks
  bare : AllBare s'.gens
  os : s'.os = s.os
section
variable {O O' : Om} {s s' : Shared}
/-- no new object that is known -/
theorem Gr.same {h' : Heap} {t' : Nat} (sub : ∀ b o, O b = some o → s.heap.get? b = some o) (b : AllBare s.gens) (k : Kept s.heap h') (t : s.toks ≤ t') : Gr O s O { s with heap := h', toks := t' } :=
  ⟨k, Le.refl _, fun _ _ _ => rfl, fun b o e => k b o (sub b o e), t, b, rfl⟩
theorem Gr.refl (sub : ∀ b o, O b = some o → s.heap.get? b = some o) (b : AllBare s.gens) : Gr O s O s := Gr.same (h' := s.heap) (t' := s.toks) sub b (Kept.refl _) (Nat.le_refl _)
/-- one new object -/
theorem Gr.laidN {h' : Heap} {t' : Nat} {p : Addr} {o : Obj} (sub : ∀ b o, O b = some o → s.heap.get? b = some o) (b : AllBare s.gens) (k : Kept s.heap h') (no : s.heap.get? p = none) (e : h'.get? p = some o) (t : s.toks ≤ t') : Gr O s (oset O p o) { s with heap := h', toks := t' } := by
  have oo : O p = none := by
    cases q : O p with
    | none => rfl
    | some x => rw [sub p x q] at no; cases no
  refine ⟨k, le_oset oo, fun c x q => oset_ne fun z => ?_, fun c x q => ?_, t, b, rfl⟩
  · subst z; rw [no] at q; cases q
  · by_cases hb : c = p
    · subst hb; rw [oset_same] at q; cases q; exact e
    · rw [oset_ne hb] at q; exact k c x (sub c x q)
theorem Gr.laid {h' : Heap} {t' : Nat} {p : Addr} {o : Obj} (sub : ∀ b o, O b = some o → s.heap.get? b = some o) (b : AllBare s.gens) (k : Kept s.heap h') (hp : s.heap.objs.size ≤ p) (e : h'.get? p = some o) (t : s.toks ≤ t') : Gr O s (oset O p o) { s with heap := h', toks := t' } :=
  Gr.laidN sub b k (Heap.get?_none_of_le hp) e t
theorem Gr.trans {O'' : Om} {s'' : Shared} (x : Gr O s O' s') (y : Gr O' s' O'' s'') : Gr O s O'' s'' :=
  ⟨x.kept.trans y.kept, x.le.trans y.le, fun b o e => (y.nw b o (x.kept b o e)).trans (x.nw b o e), y.sub, Nat.le_trans x.tk y.tk, y.bare, y.os.trans x.os⟩
end

/-! ### where code runs -/
structure Cz where
  prog : Program
  w : World
  K : PySem.W.Frag
  mg : Str → Option Value
  base : Heap
  A : Around
  N : List Str
  env : PySem.Env
  fn : Str → Bool
  os : OsState
  O0 : Om
  t1 : Nat
structure Cz.Ok (C : Cz) : Prop where
  mod : L2.Mod C.K C.mg C.base
  kind : C.env.scope.kind = .function
  glob : C.env.globals = mainGlobals
  blt : C.env.builtins = builtinsNs
  inj : ∀ x y c, C.env.cells.lookup x = some c → C.env.cells.lookup y = some c → x = y
  has : ∀ x, (C.env.kindOf x = some .cell ∨ C.env.kindOf x = some .free) → ∃ c, C.env.cells.lookup x = some c
  hd : C.A.handled = none
  nd : C.N.Nodup
  lb : C.base.get? C.env.locals = none
  cb : ∀ x c, C.fn x = true → C.env.cells.lookup x = some c → C.base.get? c = none
/-- what the code's own stores change -/
def Cz.St (C : Cz) (b : Addr) : Prop := b = C.env.locals ∨ ∃ x, C.fn x = true ∧ C.env.cells.lookup x = some b
structure Iz (C : Cz) (τ : List (Option Value)) (s : Shared) : Prop where
  ok : C.Ok
  bk : Kept C.base s.heap
  bare : AllBare s.gens
  tk : C.t1 ≤ s.toks
  os : s.os = C.os
  loc : ∃ m, s.heap.Ns C.env.locals m ∧ ∀ (i : Nat) (x : Str) (u : Value), C.N[i]? = some x → τ[i]? = some (some u) → Vis C.env.scope x → Look C.env s.heap m x u
  cell : ∀ x c, C.env.cells.lookup x = some c → ∃ v, s.heap.IsCell c v
  len : τ.length = C.N.length

abbrev Bk := Addr → Option (Obj × Option Obj)
def ownS : Sl → Bool
  | .own _ => true
  | .io _ => true
  | _ => false
/-- an own list or dict, as it stands -/
def OwnV (P : Program) (w : World) (O : Om) (n : Nat) (p : Addr) (o : Option Obj) : D → Prop
  | .lst ds => ∃ us k, o = some { cls := .type "list", data := .seq us.toArray k } ∧ us.length ≤ sizeLine ∧ RepVs P w O n us ds
  | .dic kvs => ∃ x vs, o = some x ∧ (p == sysModules) = false ∧ vs.length ≤ sizeLine ∧ DkObj P w x vs ∧ RepVk P w O n vs kvs
  | _ => False
def SlZ (C : Cz) (B : Bk) (po : Option Addr) (O : Om) (n : Nat) (h : Heap) (x : Option (Option Value)) : Sl → Prop
  | .un => True
  | .fz d => ∃ u, x = some (some u) ∧ RepV C.prog C.w O n u d
  | .own d => ∃ p, x = some (some (.ref p)) ∧ O p = none ∧ B p = none ∧ ¬ C.St p ∧ C.base.get? p = none ∧ True ∧ OwnV C.prog C.w O n p (h.get? p) d
  | .io d => ∃ p, x = some (some (.ref p)) ∧ O p = none ∧ B p = none ∧ ¬ C.St p ∧ C.base.get? p = none ∧ po = some p ∧ OwnV C.prog C.w O n p (h.get? p) d
structure Sz (C : Cz) (B : Bk) (po : Option Addr) (ρ : En) (τ : List (Option Value)) (O : Om) (s : Shared) : Prop where
  iz : Iz C τ s
  g0 : Le C.O0 O
  sub : ∀ b o, O b = some o → s.heap.get? b = some o
  bk : ∀ b o z, B b = some (o, z) → s.heap.get? b = some o ∧ O b = z
  on : ∀ b, C.St b → O b = none ∧ B b = none
  len : ρ.length = τ.length
  at_ : ∀ (i : Nat) (x : Sl), ρ[i]? = some x → SlZ C B po O s.toks s.heap τ[i]? x
  ne : ∀ (i j : Nat) (x y : Sl) (p : Addr), i ≠ j → ρ[i]? = some x → ρ[j]? = some y → ownS x = true → ownS y = true → τ[i]? = some (some (.ref p)) → τ[j]? ≠ some (some (.ref p))
end Mini
/-! Mini, exact: how the state goes along. -/
namespace Mini
open PySem PySem.Spec PyProof.Rows L2

section
variable {C : Cz} {B : Bk} {po : Option Addr} {ρ ρ' : En} {τ : List (Option Value)} {O O' : Om} {s s' : Shared} {d : D} {p : Addr} {u : Value}

theorem Iz.grow (I : Iz C τ s) (k : Kept s.heap s'.heap) (t : s.toks ≤ s'.toks) (b : AllBare s'.gens) (o : s'.os = s.os) : Iz C τ s' := by
  refine ⟨I.ok, I.bk.trans k, b, Nat.le_trans I.tk t, o.trans I.os, ?_, fun x c e => ?_, I.len⟩
  · obtain ⟨m, hn, hl⟩ := I.loc
    refine ⟨m, hn.keeps k, fun i x u e1 e2 e3 => ?_⟩
    rcases hl i x u e1 e2 e3 with h | ⟨h1, c, h2, h3⟩
    · exact .inl h
    · exact .inr ⟨h1, c, h2, h3.keeps k⟩
  · obtain ⟨v, h⟩ := I.cell x c e
    exact ⟨v, h.keeps k⟩
theorem Iz.kin (I : Iz C τ s) : C.K.In s.heap := I.ok.mod.kin.keeps I.bk
theorem Iz.nolimit (I : Iz C τ s) : s.heap.NoLimit := I.ok.mod.nolimit.keeps I.bk
theorem Iz.cne (I : Iz C τ s) {x : Str} {c : Addr} (e : C.env.cells.lookup x = some c) : c ≠ C.env.locals := fun z => by
  obtain ⟨v, o, ho, hd⟩ := I.cell x c e
  obtain ⟨m, ⟨o', es, ep, ho', hd', _⟩, _⟩ := I.loc
  rw [z, ho'] at ho; cases ho; rw [hd'] at hd; cases hd
theorem Iz.lt (I : Iz C τ s) : C.env.locals < s.heap.objs.size := let ⟨_, hn, _⟩ := I.loc; hn.lt
theorem Iz.stlt (I : Iz C τ s) {b : Addr} (h : C.St b) : b < s.heap.objs.size := by
  rcases h with h | ⟨x, _, e⟩
  · rw [h]; exact I.lt
  · obtain ⟨v, o, ho, _⟩ := I.cell x b e; exact Heap.lt_size ho

theorem Iz.stobj (I : Iz C τ s) {b : Addr} (h : C.St b) : ∃ o, s.heap.get? b = some o := by
  rcases h with h | ⟨x, _, e⟩
  · obtain ⟨m, ⟨o, _, _, ho, _⟩, _⟩ := I.loc; exact ⟨o, h ▸ ho⟩
  · obtain ⟨v, o, ho, _⟩ := I.cell x b e; exact ⟨o, ho⟩
/-- another content of an own place -/
def chgS : Sl → D → Sl
  | .io _, d => .io d
  | _, d => .own d
theorem OwnV.some {o : Option Obj} {n : Nat} (h : OwnV C.prog C.w O n p o d) : ∃ x, o = Option.some x := by
  cases d <;> simp only [OwnV] at h
  · obtain ⟨_, _, e, _⟩ := h; exact ⟨_, e⟩
  · obtain ⟨x, _, e, _⟩ := h; exact ⟨x, e⟩
theorem OwnV.mono {o : Option Obj} {n n' : Nat} (le : Le O O') (hn : n ≤ n') (h : OwnV C.prog C.w O n p o d) : OwnV C.prog C.w O' n' p o d := by
  cases d <;> simp only [OwnV] at h ⊢
  · obtain ⟨a, b, c, e, r⟩ := h; exact ⟨a, b, c, e, r.mono le hn⟩
  · obtain ⟨a, b, c, e, f, g, r⟩ := h; exact ⟨a, b, c, e, f, g, r.mono le hn⟩
theorem OwnV.lk {h : Heap} {n : Nat} (x : OwnV C.prog C.w O n p (h.get? p) d) : Lk C.prog C.w O h n (.ref p) d := by
  cases d <;> simp only [OwnV] at x
  · obtain ⟨a, b, c, e, r⟩ := x; exact .lst c e r
  · obtain ⟨a, b, c, e, f, g, r⟩ := x; exact .dic c e f g r
theorem OwnV.freeze {o : Obj} {n : Nat} (hp : O p = none) (h : OwnV C.prog C.w O n p (Option.some o) d) : RepV C.prog C.w (oset O p o) n (.ref p) d := by
  cases d <;> simp only [OwnV] at h
  · obtain ⟨a, b, c, e, r⟩ := h; cases c; exact .lst oset_same e (r.mono (le_oset hp) (Nat.le_refl _))
  · obtain ⟨a, b, c, e, f, g, r⟩ := h; cases c; exact .dic oset_same e f g (r.mono (le_oset hp) (Nat.le_refl _))

theorem Sz.own (S : Sz C B po ρ τ O s) {i : Nat} (h : getOwn ρ i = some d) : ∃ p, τ[i]? = some (some (.ref p)) ∧ O p = none ∧ B p = none ∧ ¬ C.St p ∧ C.base.get? p = none ∧ OwnV C.prog C.w O s.toks p (s.heap.get? p) d := by
  unfold getOwn at h
  cases e : ρ[i]? with
  | none => rw [e] at h; cases h
  | some x =>
    have q := S.at_ i x e
    cases x with
    | un => rw [e] at h; cases h
    | fz d' => rw [e] at h; cases h
    | own d' => rw [e] at h; cases h; obtain ⟨p, a, b, c, c2, c3, _, f⟩ := q; exact ⟨p, a, b, c, c2, c3, f⟩
    | io d' => rw [e] at h; cases h; obtain ⟨p, a, b, c, c2, c3, _, f⟩ := q; exact ⟨p, a, b, c, c2, c3, f⟩
theorem Sz.get (S : Sz C B po ρ τ O s) {i : Nat} (h : getFz ρ i = some d) : ∃ v, τ[i]? = some (some v) ∧ RepV C.prog C.w O s.toks v d := by
  unfold getFz at h
  cases e : ρ[i]? with
  | none => rw [e] at h; cases h
  | some x =>
    have q := S.at_ i x e
    cases x with
    | un => rw [e] at h; cases h
    | fz d' => rw [e] at h; cases h; exact q
    | own d' => rw [e] at h; cases h
    | io d' => rw [e] at h; cases h
theorem Sz.ownP (S : Sz C B po ρ τ O s) {i : Nat} {x : Sl} (e : ρ[i]? = some x) (h : ownS x = true) : ∃ p d, τ[i]? = some (some (.ref p)) ∧ O p = none ∧ B p = none ∧ ¬ C.St p ∧ C.base.get? p = none ∧ OwnV C.prog C.w O s.toks p (s.heap.get? p) d := by
  have q := S.at_ i x e
  cases x with
  | un => cases h
  | fz d' => cases h
  | own d' => obtain ⟨p, a, b, c, c2, c3, _, f⟩ := q; exact ⟨p, d', a, b, c, c2, c3, f⟩
  | io d' => obtain ⟨p, a, b, c, c2, c3, _, f⟩ := q; exact ⟨p, d', a, b, c, c2, c3, f⟩
/-- the state at another heap where the own things stand as before -/
theorem Sz.at' (S : Sz C B po ρ τ O s) (I : Iz C τ s') (le : Le O O') (tk : s.toks ≤ s'.toks) (sub : ∀ b o, O' b = some o → s'.heap.get? b = some o)
    (bk : ∀ b o z, B b = some (o, z) → s'.heap.get? b = some o ∧ O' b = z) (on : ∀ b, C.St b → O' b = none ∧ B b = none)
    (w : ∀ (i : Nat) (x : Sl) (p : Addr), ρ[i]? = some x → ownS x = true → τ[i]? = some (some (.ref p)) → O' p = none ∧ s'.heap.get? p = s.heap.get? p) : Sz C B po ρ τ O' s' := by
  refine ⟨I, S.g0.trans le, sub, bk, on, S.len, fun i t e => ?_, S.ne⟩
  have q := S.at_ i t e
  cases t with
  | un => trivial
  | fz d => obtain ⟨v, e1, r⟩ := q; exact ⟨v, e1, r.mono le tk⟩
  | own d =>
    obtain ⟨p, e1, a, b, c, c2, g, r⟩ := q
    obtain ⟨w1, w2⟩ := w i _ p e rfl e1
    exact ⟨p, e1, w1, b, c, c2, g, by rw [w2]; exact r.mono le tk⟩
  | io d =>
    obtain ⟨p, e1, a, b, c, c2, g, r⟩ := q
    obtain ⟨w1, w2⟩ := w i _ p e rfl e1
    exact ⟨p, e1, w1, b, c, c2, g, by rw [w2]; exact r.mono le tk⟩
theorem Sz.grow (S : Sz C B po ρ τ O s) (g : Gr O s O' s') : Sz C B po ρ τ O' s' := by
  refine S.at' (S.iz.grow g.kept g.tk g.bare g.os) g.le g.tk g.sub (fun b o z e => ?_) (fun b h => ?_) fun i x p e h e1 => ?_
  · obtain ⟨h1, h2⟩ := S.bk b o z e
    exact ⟨g.kept b o h1, (g.nw b o h1).trans h2⟩
  · obtain ⟨h1, h2⟩ := S.on b h
    obtain ⟨o, q⟩ := S.iz.stobj h
    exact ⟨(g.nw b o q).trans h1, h2⟩
  · obtain ⟨p2, d2, a, b, c, _, _, f⟩ := S.ownP e h
    rw [e1] at a; cases a
    obtain ⟨x2, e2⟩ := f.some
    exact ⟨(g.nw p x2 e2).trans b, by rw [e2]; exact g.kept p x2 e2⟩
theorem Sz.gr (S : Sz C B po ρ τ O s) : Gr O s O s := Gr.refl S.sub S.iz.bare

/-- a name is stored -/
theorem Iz.store {M : Model} {A : Around} {E : Value → Shared → Prop} {i : Nat} {x : Str} {Q : Unit → Shared → Prop} (I : Iz C τ s) (hi : C.N[i]? = some x) (hx : Loc C.env.scope x) (hf : C.fn x = true ∨ C.env.scope.names.lookup x = some .local)
    (h : ∀ h' t', s.toks ≤ t' → Iz C (τ.set i (some u)) { s with heap := h', toks := t' } → (∃ a, C.St a ∧ Heap.SameBut a s.heap h') → Q () { s with heap := h', toks := t' }) : wpAny M A (storeName C.env x u) Q E s := by
  obtain ⟨m, hn, hl⟩ := id I.loc
  have hcls : (C.env.scope.kind == .class || (C.env.scope.kind == .module && C.env.locals != C.env.globals)) = false := by rw [I.ok.kind]; rfl
  have hiσ : i < τ.length := by rw [I.len]; exact (List.getElem?_eq_some_iff.mp hi).1
  rcases hx with hk | hk
  · refine wpAny_storeName_local hk hn (fun h' hn' hs => ?_) hcls
    refine h h' (s.toks + 1) (Nat.le_succ _) ⟨I.ok, fun b o e => (hs.2 b (fun z => by rw [z, I.ok.lb] at e; cases e)).trans (I.bk b o e), I.bare, Nat.le_succ_of_le I.tk, I.os, ⟨_, hn', fun j y v e1 e2 e3 => ?_⟩, fun y c e => ?_, by simpa using I.len⟩ ⟨_, .inl rfl, hs⟩
    · by_cases hj : j = i
      · subst hj
        rw [hi] at e1; cases e1
        rw [List.getElem?_set_self hiσ] at e2; cases e2
        exact .inl ⟨hk, by simp⟩
      · rw [List.getElem?_set_ne (Ne.symm hj)] at e2
        rcases hl j y v e1 e2 e3 with ⟨k, e⟩ | ⟨k, c, e, z⟩
        · have : y ≠ x := fun q => hj (nodup_ix I.ok.nd e1 (q ▸ hi))
          exact .inl ⟨k, by simp [this, e]⟩
        · exact .inr ⟨k, c, e, z.sameBut hs (I.cne e)⟩
    · obtain ⟨v, z⟩ := I.cell y c e
      exact ⟨v, z.sameBut hs (I.cne e)⟩
  · have hfn : C.fn x = true := hf.elim id fun z => by rw [z] at hk; cases hk
    obtain ⟨c, hc⟩ := I.ok.has x (.inl hk)
    obtain ⟨w', z⟩ := I.cell x c hc
    refine wpAny_storeName_cell I.ok.kind hk hc z (fun h' hc' hs => ?_)
    refine h h' s.toks (Nat.le_refl _) ⟨I.ok, fun b o e => (hs.2 b (fun z => by rw [z, I.ok.cb x c hfn hc] at e; cases e)).trans (I.bk b o e), I.bare, I.tk, I.os, ⟨m, hn.sameBut hs (Ne.symm (I.cne hc)), fun j y v e1 e2 e3 => ?_⟩, fun y c' e => ?_, by simpa using I.len⟩ ⟨c, .inr ⟨x, hfn, hc⟩, hs⟩
    · by_cases hj : j = i
      · subst hj
        rw [hi] at e1; cases e1
        rw [List.getElem?_set_self hiσ] at e2; cases e2
        exact .inr ⟨.inl hk, c, hc, hc'⟩
      · rw [List.getElem?_set_ne (Ne.symm hj)] at e2
        rcases hl j y v e1 e2 e3 with q | ⟨k, c', e, z'⟩
        · exact .inl q
        · refine .inr ⟨k, c', e, z'.sameBut hs ?_⟩
          rintro rfl
          exact hj (nodup_ix I.ok.nd e1 (I.ok.inj _ _ _ e hc ▸ hi))
    · by_cases hcc : c' = c
      · subst hcc; exact ⟨_, hc'⟩
      · obtain ⟨w2, z2⟩ := I.cell y c' e
        exact ⟨w2, z2.sameBut hs hcc⟩
/-- the rest of the state behind a store -/
theorem Sz.stored (S : Sz C B po ρ τ O s) {i : Nat} {h' : Heap} {t' : Nat} {a : Addr} (tk : s.toks ≤ t') (I : Iz C (τ.set i (some u)) { s with heap := h', toks := t' }) (ha : C.St a) (hs : Heap.SameBut a s.heap h') {y : Sl} (hi : i < ρ.length)
    (ok : SlZ C B po O s.toks s.heap (some (some u)) y) (ne : ownS y = true → ∀ (j : Nat) (x : Sl), j ≠ i → ρ[j]? = some x → ownS x = true → τ[j]? ≠ some (some u)) : Sz C B po (ρ.set i y) (τ.set i (some u)) O { s with heap := h', toks := t' } := by
  have kp : ∀ b, ¬ C.St b → h'.get? b = s.heap.get? b := fun b n => hs.2 b fun z => n (by rw [z]; exact ha)
  have hiτ : i < τ.length := by rw [← S.len]; exact hi
  refine ⟨I, S.g0, fun b o e => ?_, fun b o z e => ?_, S.on, by simp [S.len], fun j x e => ?_, fun j k x y' q hjk e1 e2 o1 o2 e3 e4 => ?_⟩
  · exact (kp b fun n => by rw [(S.on b n).1] at e; cases e).trans (S.sub b o e)
  · obtain ⟨h1, h2⟩ := S.bk b o z e
    exact ⟨(kp b fun n => by rw [(S.on b n).2] at e; cases e).trans h1, h2⟩
  · have conv : ∀ {x : Sl} {v : Option (Option Value)}, SlZ C B po O s.toks s.heap v x → SlZ C B po O t' h' v x := fun {x v} q => by
      cases x with
      | un => trivial
      | fz d => obtain ⟨w, e1, r⟩ := q; exact ⟨w, e1, r.mono (Le.refl _) tk⟩
      | own d => obtain ⟨p, e1, a1, b1, c1, c2, g, r⟩ := q; exact ⟨p, e1, a1, b1, c1, c2, g, by rw [kp p c1]; exact r.mono (Le.refl _) tk⟩
      | io d => obtain ⟨p, e1, a1, b1, c1, c2, g, r⟩ := q; exact ⟨p, e1, a1, b1, c1, c2, g, by rw [kp p c1]; exact r.mono (Le.refl _) tk⟩
    by_cases hj : j = i
    · subst hj
      rw [List.getElem?_set_self hi] at e; cases e
      rw [List.getElem?_set_self hiτ]
      exact conv ok
    · rw [List.getElem?_set_ne (Ne.symm hj)] at e ⊢
      exact conv (S.at_ j x e)
  · by_cases hj : j = i
    · subst hj
      rw [List.getElem?_set_self hi] at e1; cases e1
      rw [List.getElem?_set_self hiτ] at e3
      rw [List.getElem?_set_ne hjk] at e2 e4
      have := ne o1 k y' (Ne.symm hjk) e2 o2
      cases e3
      exact this e4
    · rw [List.getElem?_set_ne (Ne.symm hj)] at e1 e3
      by_cases hk : k = i
      · subst hk
        rw [List.getElem?_set_self hi] at e2; cases e2
        rw [List.getElem?_set_self hiτ] at e4
        cases e4
        exact ne o2 j x hj e1 o1 e3
      · rw [List.getElem?_set_ne (Ne.symm hk)] at e2 e4
        exact S.ne j k x y' q hjk e1 e2 o1 o2 e3 e4
/-- what an own place holds has changed -/
theorem Sz.chg (S : Sz C B po ρ τ O s) {i : Nat} {x : Sl} {h' : Heap} {t' : Nat} {d' : D} (e : ρ[i]? = some x) (ho : ownS x = true) (ep : τ[i]? = some (some (.ref p))) (tk : s.toks ≤ t')
    (k : ∀ b o, b ≠ p → s.heap.get? b = some o → h'.get? b = some o) (new : OwnV C.prog C.w O t' p (h'.get? p) d') :
    Sz C B po (ρ.set i (chgS x d')) τ O { s with heap := h', toks := t' } := by
  obtain ⟨p2, d2, a1, a2, a3, a4, a5, a6⟩ := S.ownP e ho
  rw [ep] at a1; cases a1
  obtain ⟨x2, e2⟩ := a6.some
  have kS : ∀ b o, C.St b → s.heap.get? b = some o → h'.get? b = some o := fun b o st q => k b o (fun z => a4 (by rw [← z]; exact st)) q
  have cp : ∀ y c, C.env.cells.lookup y = some c → c ≠ p := fun y c ec z => by
    obtain ⟨v, o, h1, h2⟩ := S.iz.cell y c ec
    rw [z, e2] at h1; cases h1
    rw [z] at ec
    cases d2 <;> simp only [OwnV] at a6
    · obtain ⟨_, _, q, _⟩ := a6; rw [e2] at q; cases q; cases h2
    · obtain ⟨_, _, q, _, _, ⟨_, _, _, q2, _⟩, _⟩ := a6; rw [e2] at q; cases q; rw [h2] at q2; cases q2
  have I : Iz C τ { s with heap := h', toks := t' } := by
    refine ⟨S.iz.ok, fun b o q => k b o (fun z => by rw [z, a5] at q; cases q) (S.iz.bk b o q), S.iz.bare, Nat.le_trans S.iz.tk tk, S.iz.os, ?_, fun y c ec => ?_, S.iz.len⟩
    · obtain ⟨m, ⟨o, es, epp, h1, h2, h3⟩, hl⟩ := S.iz.loc
      refine ⟨m, ⟨o, es, epp, kS _ o (.inl rfl) h1, h2, h3⟩, fun j y v q1 q2 q3 => ?_⟩
      rcases hl j y v q1 q2 q3 with q | ⟨q4, c, q5, o, q6, q7⟩
      · exact .inl q
      · exact .inr ⟨q4, c, q5, o, k c o (cp y c q5) q6, q7⟩
    · obtain ⟨v, o, q6, q7⟩ := S.iz.cell y c ec
      exact ⟨v, o, k c o (cp y c ec) q6, q7⟩
  have hi : i < ρ.length := (List.getElem?_eq_some_iff.mp e).1
  refine ⟨I, S.g0, fun b o q => k b o (fun z => by rw [z, a2] at q; cases q) (S.sub b o q), fun b o z q => ?_, S.on, by simp [S.len], fun j y q => ?_, fun j l y y' q hjl e1 e3 o1 o2 e4 e5 => ?_⟩
  · obtain ⟨h1, h2⟩ := S.bk b o z q
    exact ⟨k b o (fun z => by rw [z, a3] at q; cases q) h1, h2⟩
  · by_cases hj : j = i
    · subst hj
      rw [List.getElem?_set_self hi] at q; cases q
      have z := S.at_ j x e
      cases x with
      | un => cases ho
      | fz _ => cases ho
      | own _ => obtain ⟨p3, b1, b2, b3, b4, b5, b6, b7⟩ := z; rw [ep] at b1; cases b1; exact ⟨_, ep, b2, b3, b4, b5, b6, new⟩
      | io _ => obtain ⟨p3, b1, b2, b3, b4, b5, b6, b7⟩ := z; rw [ep] at b1; cases b1; exact ⟨_, ep, b2, b3, b4, b5, b6, new⟩
    · rw [List.getElem?_set_ne (Ne.symm hj)] at q
      have z := S.at_ j y q
      have other : ∀ p3, ownS y = true → τ[j]? = some (some (.ref p3)) → h'.get? p3 = s.heap.get? p3 := fun p3 oy q3 => by
        obtain ⟨p4, d4, b1, _, _, _, _, b6⟩ := S.ownP q oy
        rw [q3] at b1; cases b1
        obtain ⟨x4, e4⟩ := b6.some
        rw [e4]
        exact k p3 x4 (fun z => by subst z; exact S.ne i j x y _ (Ne.symm hj) e q ho oy ep q3) e4
      cases y with
      | un => trivial
      | fz d => obtain ⟨v, b1, b2⟩ := z; exact ⟨v, b1, b2.mono (Le.refl _) tk⟩
      | own d => obtain ⟨p3, b1, b2, b3, b4, b5, b6, b7⟩ := z; exact ⟨p3, b1, b2, b3, b4, b5, b6, by rw [other p3 rfl b1]; exact b7.mono (Le.refl _) tk⟩
      | io d => obtain ⟨p3, b1, b2, b3, b4, b5, b6, b7⟩ := z; exact ⟨p3, b1, b2, b3, b4, b5, b6, by rw [other p3 rfl b1]; exact b7.mono (Le.refl _) tk⟩
  · have back : ∀ {j : Nat} {y : Sl}, (ρ.set i (chgS x d'))[j]? = some y → ownS y = true → ∃ y0, ρ[j]? = some y0 ∧ ownS y0 = true := fun {j y} q oy => by
      by_cases hj : j = i
      · subst hj; exact ⟨x, e, ho⟩
      · rw [List.getElem?_set_ne (Ne.symm hj)] at q; exact ⟨y, q, oy⟩
    obtain ⟨y1, f1, g1⟩ := back e1 o1
    obtain ⟨y2, f2, g2⟩ := back e3 o2
    exact S.ne j l y1 y2 q hjl f1 f2 g1 g2 e4 e5
/-- an own thing never changes from here on -/
theorem Sz.freeze (S : Sz C B po ρ τ O s) {i : Nat} (e : ρ[i]? = some (.own d)) : ∃ p o, τ[i]? = some (some (.ref p)) ∧ s.heap.get? p = some o ∧ O p = none ∧ Sz C B po (ρ.set i (.fz d)) τ (oset O p o) s ∧ RepV C.prog C.w (oset O p o) s.toks (.ref p) d := by
  obtain ⟨p, a1, a2, a3, a4, a5, a6, a7⟩ := S.at_ i _ e
  obtain ⟨o, eo⟩ := OwnV.some a7
  rw [eo] at a7
  have r := OwnV.freeze a2 a7
  have hi : i < ρ.length := (List.getElem?_eq_some_iff.mp e).1
  refine ⟨p, o, a1, eo, a2, ⟨S.iz, S.g0.trans (le_oset a2), fun b x q => ?_, fun b x z q => ?_, fun b st => ?_, by simp [S.len], fun j y q => ?_, fun j l y y' q hjl e1 e2 o1 o2 e3 e4 => ?_⟩, r⟩
  · by_cases hb : b = p
    · subst hb; rw [oset_same] at q; cases q; exact eo
    · rw [oset_ne hb] at q; exact S.sub b x q
  · obtain ⟨h1, h2⟩ := S.bk b x z q
    exact ⟨h1, by rw [oset_ne fun z => by rw [z, a3] at q; cases q]; exact h2⟩
  · obtain ⟨h1, h2⟩ := S.on b st
    exact ⟨by rw [oset_ne fun z => a4 (by rw [← z]; exact st)]; exact h1, h2⟩
  · by_cases hj : j = i
    · subst hj
      rw [List.getElem?_set_self hi] at q; cases q
      exact ⟨_, a1, r⟩
    · rw [List.getElem?_set_ne (Ne.symm hj)] at q
      have z := S.at_ j y q
      cases y with
      | un => trivial
      | fz d => obtain ⟨v, b1, b2⟩ := z; exact ⟨v, b1, b2.mono (le_oset a2) (Nat.le_refl _)⟩
      | own d => obtain ⟨p3, b1, b2, b3, b4, b5, b6, b7⟩ := z; exact ⟨p3, b1, by rw [oset_ne fun z => S.ne i j _ _ p (Ne.symm hj) e q rfl rfl a1 (by rw [← z]; exact b1)]; exact b2, b3, b4, b5, b6, b7.mono (le_oset a2) (Nat.le_refl _)⟩
      | io d => obtain ⟨p3, b1, b2, b3, b4, b5, b6, b7⟩ := z; exact ⟨p3, b1, by rw [oset_ne fun z => S.ne i j _ _ p (Ne.symm hj) e q rfl rfl a1 (by rw [← z]; exact b1)]; exact b2, b3, b4, b5, b6, b7.mono (le_oset a2) (Nat.le_refl _)⟩
  · have back : ∀ {j : Nat} {y : Sl}, (ρ.set i (Sl.fz d))[j]? = some y → ownS y = true → ρ[j]? = some y := fun {j y} q oy => by
      by_cases hj : j = i
      · subst hj; rw [List.getElem?_set_self hi] at q; cases q; cases oy
      · rwa [List.getElem?_set_ne (Ne.symm hj)] at q
    exact S.ne j l y y' q hjl (back e1 o1) (back e2 o2) o1 o2 e3 e4
end
end Mini
/-! Mini, exact: the operators. -/
namespace Mini
open PySem PySem.Spec PyProof.Rows L2

/-- what a step may lean on -/
structure Cn (O : Om) (s : Shared) : Prop where
  sub : ∀ b o, O b = some o → s.heap.get? b = some o
  bare : AllBare s.gens
  tk : 1 ≤ s.toks
/-- what must be shown behind a step that gives d -/
def Res (P : Program) (w : World) (O : Om) (s : Shared) (d : D) (Q : Value → Shared → Prop) : Prop := ∀ u O' s', Gr O s O' s' → RepV P w O' s'.toks u d → Q u s'

section
variable {prog : Program} {w : World} {A : Around} {E : Value → Shared → Prop} {O : Om} {s : Shared} {Q : Value → Shared → Prop}
theorem Res.now {d : D} {u : Value} (q : Res prog w O s d Q) (c : Cn O s) (r : RepV prog w O s.toks u d) : Q u s := q u O s (Gr.refl c.sub c.bare) r
theorem Res.tok {d : D} {u : Value} {h' : Heap} {t' : Nat} (q : Res prog w O s d Q) (c : Cn O s) (k : Kept s.heap h') (t : s.toks ≤ t') (r : RepV prog w O t' u d) : Q u { s with heap := h', toks := t' } :=
  q u O _ (Gr.same c.sub c.bare k t) r
theorem Res.tk {d : D} {u : Value} {t' : Nat} (q : Res prog w O s d Q) (c : Cn O s) (t : s.toks ≤ t') (r : RepV prog w O t' u d) : Q u { s with toks := t' } :=
  q.tok (h' := s.heap) c (Kept.refl _) t r
theorem Res.int {i : Int} (q : Res prog w O s (.int i) Q) (c : Cn O s) (t : Tok) : Q (.int i t) { s with toks := s.toks + 1 } := q.tk c (Nat.le_succ _) (.int i t)
theorem Res.bl {b : Bool} (q : Res prog w O s (.bl b) Q) (c : Cn O s) : Q (.bool b) s := q.now c (.bl b)
theorem Res.strNew {x : Sg} (q : Res prog w O s (.str x) Q) (c : Cn O s) : Q (.str (toS x) s.toks) { s with toks := s.toks + 1 } :=
  q.tk c (Nat.le_succ _) (.str x _ fun _ => ⟨Nat.one_le_iff_ne_zero.mp c.tk, Nat.lt_succ_self _⟩)
/-- one new list -/
theorem Res.list {ds : List D} {us : List Value} {h' : Heap} {t' : Nat} {p : Addr} {k : Nat} (q : Res prog w O s (.lst ds) Q) (c : Cn O s) (kp : Kept s.heap h') (hp : s.heap.objs.size ≤ p) (e : h'.get? p = some { cls := .type "list", data := .seq us.toArray k })
    (hz : us.length ≤ sizeLine) (t : s.toks ≤ t') (r : RepVs prog w O t' us ds) : Q (.ref p) { s with heap := h', toks := t' } := by
  have g := Gr.laid c.sub c.bare kp hp e t
  exact q _ _ _ g (.lst oset_same hz (r.mono g.le (Nat.le_refl _)))
/-- what must be shown behind a step that makes a new list, whoever then has it -/
def ResL (P : Program) (w : World) (O : Om) (s : Shared) (ds : List D) (Q : Value → Shared → Prop) : Prop := ∀ (us : List Value) (h' : Heap) (t' : Nat) (p : Addr) (k : Nat), Kept s.heap h' → s.heap.objs.size ≤ p → h'.get? p = some { cls := .type "list", data := .seq us.toArray k } →
    us.length ≤ sizeLine → s.toks ≤ t' → RepVs P w O t' us ds → Q (.ref p) { s with heap := h', toks := t' }
theorem Res.toL {ds : List D} (q : Res prog w O s (.lst ds) Q) (c : Cn O s) : ResL prog w O s ds Q := fun us h' t' p k kp hp e hz t r => q.list c kp hp e hz t r
theorem Res.tup {ds : List D} {us : List Value} {h' : Heap} {t' : Nat} {p : Addr} {o : Obj} {k : Nat} (q : Res prog w O s (.tup ds) Q) (c : Cn O s) (kp : Kept s.heap h') (hp : s.heap.objs.size ≤ p) (e : h'.get? p = some o)
    (h1 : o.cls = .type "tuple") (h3 : o.data = .seq us.toArray k) (hz : us.length ≤ sizeLine) (t : s.toks ≤ t') (r : RepVs prog w O t' us ds) : Q (.ref p) { s with heap := h', toks := t' } := by
  have g := Gr.laid c.sub c.bare kp hp e t
  exact q _ _ _ g (.tup oset_same h1 h3 hz (r.mono g.le (Nat.le_refl _)))
theorem lim : LIM ≤ sizeLine := by rw [sizeLine_eq]; decide
theorem lim63 {n : Nat} (h : n ≤ LIM) : (n : Int) < 2 ^ 63 := by
  have : (LIM : Int) < 2 ^ 63 := by decide
  omega

theorem Lk.tupR {n : Nat} {h : Heap} {v : Value} {ds : List D} (l : Lk prog w O h n v (.tup ds)) (c : Cn O s) : RepV prog w O n v (.tup ds) := by
  cases l with | of _ r => exact r
def mop : Bop → Operator
  | .add => .Add | .sub => .Sub | .mul => .Mult | .fdiv => .FloorDiv | .mod => .Mod | .pow => .Pow
theorem add_lists {x y : List D} {v u : Value} (hz : x.length + y.length ≤ LIM) (c : Cn O s) (la : Lk prog w O s.heap s.toks v (.lst x)) (lb : Lk prog w O s.heap s.toks u (.lst y)) (q : ResL prog w O s (x ++ y) Q) : wpAny (model prog w) A (binaryOp .Add v u) Q E s := by
  obtain ⟨p, us, k, rfl, e1, e5, r1⟩ := la.list
  obtain ⟨p', us', k', rfl, f1, f5, r2⟩ := lb.list
  have hl1 := r1.length
  have hl2 := r2.length
  have hz' : us.length + us'.length ≤ sizeLine := by rw [hl1, hl2]; exact Nat.le_trans hz lim
  refine PySem.P.add_list e1 f1 ?_ (by simpa using hz')
  have ea : us.toArray ++ us'.toArray = (us ++ us').toArray := by simp
  rw [ea]
  exact q _ _ s.toks _ _ (Kept.push _ _) (Nat.le_refl _) (Heap.get?_push_size _ rfl) (by rw [List.length_append]; exact hz') (Nat.le_refl _) (r1.append r2)
theorem bop_ok {op : Bop} {a b d : D} {v u : Value} (hd : bopD op a b = some d) (c : Cn O s) (la : Lk prog w O s.heap s.toks v a) (lb : Lk prog w O s.heap s.toks u b) (q : Res prog w O s d Q) :
    wpAny (model prog w) A (binaryOp (mop op) v u) Q E s := by
  cases op with
  | add =>
    cases a <;> cases b <;> simp only [bopD] at hd <;> try (cases hd; done)
    · cases hd
      obtain ⟨t, rfl⟩ := la.int; obtain ⟨t', rfl⟩ := lb.int
      exact add_int (q.int c _)
    · rename_i x y
      split at hd
      · rename_i hz
        cases hd
        obtain ⟨t, rfl, g1⟩ := la.str; obtain ⟨t', rfl, g2⟩ := lb.str
        refine PySem.P.add_str ?_
        rw [toS_len, toS_len]
        split
        · rename_i e
          have e : x = [] := by simpa using e
          subst e
          exact q.now c (.str _ _ g2)
        · split
          · rename_i e
            have e : y = [] := by simpa using e
            subst e
            rw [List.append_nil] at q
            exact q.now c (.str _ _ g1)
          · rw [toS_app]
            exact ⟨by rw [toS_len, List.length_append]; exact Nat.le_trans hz lim, q.strNew c⟩
      · cases hd
    · rename_i x y
      split at hd
      · rename_i hz
        cases hd
        obtain ⟨p, o, us, k, rfl, e1, e2, e3, e5, r1⟩ := la.tuple
        obtain ⟨p', o', us', k', rfl, f1, f2, f3, f5, r2⟩ := lb.tuple
        have t1 : IsTup s.heap p us.toArray := ⟨o, e1, e2, k, e3⟩
        have t2 : IsTup s.heap p' us'.toArray := ⟨o', f1, f2, k', f3⟩
        have hl1 := r1.length
        have hl2 := r2.length
        have hz' : us.length + us'.length ≤ sizeLine := by rw [hl1, hl2]; exact Nat.le_trans hz lim
        by_cases hx : us = []
        · subst hx
          cases r1
          exact cat_tup0 t1 t2 (q.now c (lb.tupR c))
        · refine HT.cat_tup t1 t2 hx (fun z => ?_) (fun z => ?_) hz'
          · subst z
            cases r2
            rw [List.append_nil] at q
            exact q.now c (la.tupR c)
          · exact q.tup (t' := s.toks) (k := 0) c (Kept.push _ _) (Nat.le_refl _) (Heap.get?_push_size _ rfl) rfl rfl (by rw [List.length_append]; exact hz') (Nat.le_refl _) (r1.append r2)
      · cases hd
    · rename_i x y
      split at hd
      · rename_i hz
        cases hd
        exact add_lists hz c la lb (q.toL c)
      · cases hd
  | sub =>
    cases a <;> cases b <;> simp only [bopD] at hd <;> try (cases hd; done)
    cases hd
    obtain ⟨t, rfl⟩ := la.int; obtain ⟨t', rfl⟩ := lb.int
    exact sub_int (q.int c _)
  | mul =>
    cases a <;> cases b <;> simp only [bopD] at hd <;> try (cases hd; done)
    split at hd
    · rename_i hm
      cases hd
      obtain ⟨t, rfl⟩ := la.int; obtain ⟨t', rfl⟩ := lb.int
      refine mul_int (q.int c _) (CMul.ok ?_)
      unfold bmul at hm
      rw [Bool.or_eq_true, decide_eq_true_eq, decide_eq_true_eq] at hm
      exact hm
    · cases hd
  | fdiv =>
    cases a <;> cases b <;> simp only [bopD] at hd <;> try (cases hd; done)
    split at hd
    · rename_i i j hm
      cases hd
      obtain ⟨t, rfl⟩ := la.int; obtain ⟨t', rfl⟩ := lb.int
      exact floordiv_int (by omega) (by rw [Int.fdiv_eq_ediv_of_nonneg i (by omega)]; exact q.int c _) (.inl (PyProof.noPylong_small (by omega)))
    · cases hd
  | mod =>
    cases a <;> cases b <;> simp only [bopD] at hd <;> try (cases hd; done)
    split at hd
    · rename_i i j hm
      cases hd
      obtain ⟨t, rfl⟩ := la.int; obtain ⟨t', rfl⟩ := lb.int
      exact mod_int' (by omega) (by rw [Int.fmod_eq_emod_of_nonneg i (by omega)]; exact q.int c _)
    · cases hd
  | pow =>
    cases a <;> cases b <;> simp only [bopD] at hd <;> try (cases hd; done)
    split at hd
    · rename_i hm
      cases hd
      obtain ⟨t, rfl⟩ := la.int; obtain ⟨t', rfl⟩ := lb.int
      exact pow_int_small hm.1 hm.2.1 hm.2.2 (q.int c _)
    · cases hd

/-! ### data that == reads -/
mutual
theorem RepV.reads {n : Nat} {h : Heap} (sub : ∀ b o, O b = some o → h.get? b = some o) : ∀ {v : Value} {d : D} {p : PyData}, RepV prog w O n v d → pd d = some p → ∃ as, Reads h v p as
  | _, _, _, .non, e => by simp [pd] at e; subst e; exact ⟨_, .none⟩
  | _, _, _, .bl b, e => by simp [pd] at e; subst e; exact ⟨_, .bool b⟩
  | _, _, _, .int b t, e => by simp [pd] at e; subst e; exact ⟨_, .int b t⟩
  | _, _, _, .str b t _, e => by simp [pd] at e; subst e; exact ⟨_, .str _ t⟩
  | _, _, _, .tup (ds := ds) h1 h2 h3 h4 r, e => by
    cases q : pds ds with
    | none => simp [pd, q] at e
    | some ps =>
      simp [pd, q] at e; subst e
      obtain ⟨as, r'⟩ := RepVs.reads sub r q
      exact ⟨_, .tuple (sub _ _ h1) h2 h3 r'⟩
  | _, _, _, .lst (ds := ds) h1 h4 r, e => by
    cases q : pds ds with
    | none => simp [pd, q] at e
    | some ps =>
      simp [pd, q] at e; subst e
      obtain ⟨as, r'⟩ := RepVs.reads sub r q
      exact ⟨_, .list (sub _ _ h1) rfl rfl r'⟩
  | _, _, _, .dic _ _ _ _ _, e => by simp [pd] at e
theorem RepVs.reads {n : Nat} {h : Heap} (sub : ∀ b o, O b = some o → h.get? b = some o) : ∀ {v : List Value} {d : List D} {p : List PyData}, RepVs prog w O n v d → pds d = some p → ∃ as, ReadsAll h v p as
  | _, _, _, .nil, e => by simp [pds] at e; subst e; exact ⟨_, .nil⟩
  | _, _, _, .cons (d := d) (ds := ds) h1 r, e => by
    cases q1 : pd d with
    | none => simp [pds, q1] at e
    | some a =>
      cases q2 : pds ds with
      | none => simp [pds, q1, q2] at e
      | some b =>
        simp [pds, q1, q2] at e; subst e
        obtain ⟨as, r1⟩ := RepV.reads sub h1 q1
        obtain ⟨bs, r2⟩ := RepVs.reads sub r q2
        exact ⟨_, .cons r1 r2⟩
end
theorem Lk.reads {n : Nat} {v : Value} {d : D} {p : PyData} (c : ∀ b o, O b = some o → s.heap.get? b = some o) (l : Lk prog w O s.heap n v d) (e : pd d = some p) : ∃ as, Reads s.heap v p as := by
  cases l with
  | of sub r => exact r.reads sub e
  | lst h1 h4 r =>
    rename_i p us k ds
    cases q : pds ds with
    | none => simp [pd, q] at e
    | some ps =>
      simp [pd, q] at e; subst e
      obtain ⟨as, r'⟩ := r.reads c q
      exact ⟨_, .list h1 rfl rfl r'⟩
  | dic _ _ _ _ _ => simp [pd] at e
theorem sg_beq (a b : Sg) : ((toS a).cps.toList == (toS b).cps.toList) = decide (a = b) := by
  rw [toS_cps, toS_cps]
  by_cases h : a = b
  · subst h; simp
  · simp [h]
def eqDeep (d e : D) : Option Bool := match pd d, pd e with
    | some p, some q => if SeqAt.shaped p = true ∧ SeqAt.shaped q = true then some (PyData.eqv p q) else none
    | _, _ => none
theorem eqDeep_ok {d e : D} {b : Bool} {v u : Value} {neg : Bool} (hu : A.units + 64 < cLine) (h : eqDeep d e = some b) (c : Cn O s) (la : Lk prog w O s.heap s.toks v d) (lb : Lk prog w O s.heap s.toks u e) (q : Q (.bool (if neg then !b else b)) s) :
    wpAny (model prog w) A (compareOp (if neg then .NotEq else .Eq) v u) Q E s := by
  unfold eqDeep at h
  cases e1 : pd d with
  | none => simp [e1] at h
  | some p =>
    cases e2 : pd e with
    | none => simp [e1, e2] at h
    | some q' =>
      simp only [e1, e2] at h
      split at h
      · rename_i hs
        cases h
        obtain ⟨as, r1⟩ := la.reads c.sub e1
        obtain ⟨bs, r2⟩ := lb.reads c.sub e2
        cases neg with
        | false => exact SeqAt.compareEq_shaped r1 r2 hs.1 hs.2 hu q
        | true => exact SeqAt.compareNe_shaped r1 r2 hs.1 hs.2 hu q
      · cases h
theorem eq_ok {d e : D} {b : Bool} {v u : Value} {neg : Bool} (hu : A.units + 64 < cLine) (h : eqD d e = some b) (c : Cn O s) (la : Lk prog w O s.heap s.toks v d) (lb : Lk prog w O s.heap s.toks u e) (q : Q (.bool (if neg then !b else b)) s) :
    wpAny (model prog w) A (compareOp (if neg then .NotEq else .Eq) v u) Q E s := by
  have deep : eqD d e = eqDeep d e → wpAny (model prog w) A (compareOp (if neg then .NotEq else .Eq) v u) Q E s := fun hh => eqDeep_ok hu (hh ▸ h) c la lb q
  cases d with
  | non =>
    cases la.non
    cases e with
    | non => cases h; cases lb.non; cases neg; exact PySem.EqNone.eq_none_none q; exact PySem.EqNone.ne_none_none q
    | int j => cases h; obtain ⟨t', rfl⟩ := lb.int; cases neg; exact PySem.EqNone.eq_none_int q; exact PySem.EqNone.ne_none_int q
    | str j => cases h; obtain ⟨t', rfl, _⟩ := lb.str; cases neg; exact PySem.EqNone.eq_none_str q; exact PySem.EqNone.ne_none_str q
    | _ => exact deep rfl
  | bl i =>
    cases e with
    | bl j =>
      cases h; cases la.bl; cases lb.bl
      have e1 : decide (i = j) = (i == j) := by cases i <;> cases j <;> rfl
      rw [e1] at q
      cases neg; exact eq_bool q; exact ne_bool q
    | _ => exact deep rfl
  | int i =>
    cases e with
    | non => cases h; cases lb.non; obtain ⟨t', rfl⟩ := la.int; cases neg; exact PySem.EqNone.eq_int_none q; exact PySem.EqNone.ne_int_none q
    | int j =>
      cases h; obtain ⟨t, rfl⟩ := la.int; obtain ⟨t', rfl⟩ := lb.int
      cases neg; exact eq_int (by rw [Bool.beq_eq_decide_eq]; exact q); exact ne_int (by rw [bne, Bool.beq_eq_decide_eq]; exact q)
    | str j => cases h; obtain ⟨t, rfl⟩ := la.int; obtain ⟨t', rfl, _⟩ := lb.str; cases neg; exact PySem.EqMixed.eq_int_str q; exact PySem.EqMixed.ne_int_str q
    | _ => exact deep rfl
  | str i =>
    cases e with
    | non => cases h; cases lb.non; obtain ⟨t', rfl, _⟩ := la.str; cases neg; exact PySem.EqNone.eq_str_none q; exact PySem.EqNone.ne_str_none q
    | int j => cases h; obtain ⟨t, rfl, _⟩ := la.str; obtain ⟨t', rfl⟩ := lb.int; cases neg; exact PySem.EqMixed.eq_str_int q; exact PySem.EqMixed.ne_str_int q
    | str j =>
      cases h; obtain ⟨t, rfl, _⟩ := la.str; obtain ⟨t', rfl, _⟩ := lb.str
      cases neg; exact PySem.P.eq_str (by rw [sg_beq i j]; exact q); exact PySem.P.ne_str (by rw [bne, sg_beq i j]; exact q)
    | _ => exact deep rfl
  | _ => cases e <;> exact deep rfl

/-! ### in, not in -/
def toV : D → V
  | .non => .non | .bl b => .bl b | .int i => .int i | .str x => .str (toS x) | _ => .non
def valD : Value → D
  | .none => .non | .bool b => .bl b | .int i _ => .int i | .str x _ => .str x.cps.toList | _ => .non
theorem flat_rel {n : Nat} {v : Value} {d : D} (r : RepV prog w O n v d) (f : flatD d = true) : RelV (toV d) v ∧ flatV (toV d) = true ∧ valD v = d := by
  cases r <;> simp only [flatD] at f <;> first
    | (cases f; done)
    | exact ⟨rfl, rfl, rfl⟩
    | exact ⟨⟨_, rfl⟩, rfl, rfl⟩
    | exact ⟨⟨_, rfl⟩, rfl, by simp only [valD, toS_cps]⟩
theorem eqV_flat {a b : D} (f : flatD a = true) (g : flatD b = true) : eqV (toV a) (toV b) = eqF a b := by
  cases a <;> simp only [flatD] at f <;> (try (cases f; done)) <;> cases b <;> simp only [flatD] at g <;> (try (cases g; done)) <;> first
    | rfl
    | skip
  rename_i x y
  show (toS x == toS y) = decide (x = y)
  by_cases e : x = y
  · subst e; simp
  · have : toS x ≠ toS y := fun z => e (toS_inj z)
    simp [e, this]
theorem Lk.flat {n : Nat} {h : Heap} {v : Value} {d : D} (l : Lk prog w O h n v d) (f : flatD d = true) : RepV prog w O n v d := by
  cases l with
  | of _ r => exact r
  | lst _ _ _ => cases f
  | dic _ _ _ _ _ => cases f
theorem in_items {B : Around} {n : Nat} {v : Value} {d : D} (r : RepV prog w O n v d) (f : flatD d = true) : ∀ {us : List Value} {ds : List D}, RepVs prog w O n us ds → ds.all flatD = true →
    (∀ y ∈ us, SeqAt.EqAt B s y v (eqF (valD y) d)) ∧ us.any (fun y => eqF (valD y) d) = ds.any (fun x => eqF x d)
  | _, _, .nil, _ => ⟨fun _ h => (by simp at h), rfl⟩
  | _, _, .cons (v := y) (d := x) h t, g => by
    rw [List.all_cons, Bool.and_eq_true] at g
    obtain ⟨i1, i2⟩ := in_items r f t g.2
    obtain ⟨a1, a2, a3⟩ := flat_rel h g.1
    obtain ⟨b1, b2, b3⟩ := flat_rel r f
    refine ⟨fun z hz => ?_, by rw [List.any_cons, List.any_cons, i2, a3]⟩
    rcases List.mem_cons.mp hz with e | hz
    · subst e
      rw [a3, ← eqV_flat g.1 f]
      exact eqAt_V a1 b1 a2 b2
    · exact i1 z hz
theorem isL {p : Addr} {us : List Value} {k : Nat} (e : s.heap.get? p = some { cls := .type "list", data := .seq us.toArray k }) : s.heap.IsList p us.toArray := ⟨_, e, rfl, k, rfl⟩
theorem in_ok {d e : D} {b : Bool} {v u : Value} {neg : Bool} (hu : A.units + 65 < cLine) (c : Cn O s) (la : Lk prog w O s.heap s.toks v d) (lb : Lk prog w O s.heap s.toks u e)
    (h : ∃ xs, (e = .lst xs ∨ e = .tup xs) ∧ inD d xs = some b) (q : Q (.bool (if neg then !b else b)) s) :
    wpAny (model prog w) A (compareOp (if neg then .NotIn else .In) v u) Q E s := by
  obtain ⟨xs, he, h⟩ := h
  unfold inD at h
  rcases he with rfl | rfl
  · obtain ⟨p, us, k, rfl, e1, e2, r⟩ := lb.list
    split at h
    · rename_i f
      cases h
      obtain ⟨i1, i2⟩ := in_items (B := A.in1) (la.flat f.1) f.1 r f.2
      cases neg with
      | false => exact SeqAt.in_listAt (fun y => eqF (valD y) d) (isL e1) (fun y hy => i1 y (by simpa using hy)) (by rw [List.any_toArray, i2]; exact q)
      | true => exact SeqAt.notIn_listAt (fun y => eqF (valD y) d) (isL e1) (fun y hy => i1 y (by simpa using hy)) (by rw [List.any_toArray, i2]; exact q)
    · cases q1 : pd d with
      | none => simp [q1] at h
      | some p1 =>
        cases q2 : pds xs with
        | none => simp [q1, q2] at h
        | some ps =>
          simp only [q1, q2] at h
          split at h
          · rename_i hs
            cases h
            obtain ⟨as, r1⟩ := la.reads c.sub q1
            obtain ⟨bs, r2⟩ := lb.reads (p := .list ps) c.sub (by simp [pd, q2])
            cases neg with
            | false => exact SeqAt.in_list_reads r2 r1 (SeqAt.canLay_of_shaped hs.2) (SeqAt.canLay_of_shaped hs.1) (room_in_shaped hs.1 hu) q
            | true => exact SeqAt.notIn_list_reads r2 r1 (SeqAt.canLay_of_shaped hs.2) (SeqAt.canLay_of_shaped hs.1) (room_in_shaped hs.1 hu) q
          · cases h
  · split at h
    · rename_i f
      obtain ⟨p, o, us, k, rfl, e1, e2, e3, e4, r⟩ := lb.tuple
      cases h
      obtain ⟨i1, i2⟩ := in_items (B := A.in1) (la.flat f.1) f.1 r f.2
      cases neg with
      | false => exact SeqAt.in_tupleAt (fun y => eqF (valD y) d) ⟨o, e1, e2, k, e3⟩ (fun y hy => i1 y (by simpa using hy)) (by rw [List.any_toArray, i2]; exact q)
      | true => exact SeqAt.notIn_tupleAt (fun y => eqF (valD y) d) ⟨o, e1, e2, k, e3⟩ (fun y hy => i1 y (by simpa using hy)) (by rw [List.any_toArray, i2]; exact q)
    · cases q1 : pd d with
      | none => simp [q1] at h
      | some p1 =>
        cases q2 : pds xs with
        | none => simp [q1, q2] at h
        | some ps =>
          simp only [q1, q2] at h
          split at h
          · rename_i hs
            cases h
            obtain ⟨as, r1⟩ := la.reads c.sub q1
            obtain ⟨bs, r2⟩ := lb.reads (p := .tuple ps) c.sub (by simp [pd, q2])
            cases neg with
            | false => exact SeqAt.in_tuple_reads r2 r1 (SeqAt.canLay_of_shaped hs.2) (SeqAt.canLay_of_shaped hs.1) (room_in_shaped hs.1 hu) q
            | true => exact SeqAt.notIn_tuple_reads r2 r1 (SeqAt.canLay_of_shaped hs.2) (SeqAt.canLay_of_shaped hs.1) (room_in_shaped hs.1 hu) q
          · cases h

/-! ### dicts -/
theorem DkObj.at' {o : Obj} {vs : List (Key × Value)} {p : Addr} {h : Heap} (x : DkObj prog w o vs) (e : h.get? p = some o) : h.DictOf (mixKind prog w) p vs := by
  obtain ⟨h1, es, ep, h2, h3, h4, h5⟩ := x
  exact ⟨o, es, ep, e, h1, h2, h3, h4, h5⟩
theorem ky_is {n : Nat} {h : Heap} {u : Value} {d : D} {y : Ky} (l : Lk prog w O h n u d) (e : kyOf d = some y) : keyIs (kyK y) u = true := by
  cases d <;> simp only [kyOf] at e <;> try (cases e; done)
  · cases e; obtain ⟨t, rfl⟩ := l.int; exact keyIs_int _ _
  · cases e; obtain ⟨t, rfl, _⟩ := l.str; exact keyIs_str _ _
theorem RepVk.val {n : Nat} : ∀ {vs : List (Key × Value)} {kvs : List (Ky × D)}, RepVk prog w O n vs kvs → ∀ (k : Ky), match dget kvs k with
    | some d => ∃ v, valueAt vs (kyK k) = some v ∧ RepV prog w O n v d
    | none => valueAt vs (kyK k) = none
  | _, _, .nil, k => by simp [dget, valueAt]
  | _, _, .cons (k := k') (v := v) (ws := ws) (d := d) (kvs := kvs) h r, k => by
    have ih := RepVk.val r k
    have e1 : dget ((k', d) :: kvs) k = if k' = k then some d else dget kvs k := by
      unfold dget; rw [List.find?_cons]; by_cases e : k' = k <;> simp [e]
    have e2 : valueAt ((kyK k', v) :: ws) (kyK k) = if k' = k then some v else valueAt ws (kyK k) := by
      unfold valueAt; rw [List.find?_cons]
      by_cases e : k' = k
      · simp [e]
      · have : ¬ kyK k' = kyK k := fun q => e (kyK_inj q)
        simp [e, this]
    rw [e1, e2]
    by_cases e : k' = k
    · simp only [if_pos e]; exact ⟨v, rfl, h⟩
    · simp only [if_neg e]; exact ih
theorem RepVk.isSome {n : Nat} {vs : List (Key × Value)} {kvs : List (Ky × D)} (r : RepVk prog w O n vs kvs) (k : Ky) : (valueAt vs (kyK k)).isSome = (dget kvs k).isSome := by
  have := r.val k
  cases e : dget kvs k with
  | none => rw [e] at this; simp only at this; rw [this]; rfl
  | some d => rw [e] at this; obtain ⟨v, h, _⟩ := this; rw [h]; rfl
theorem din_ok {d : D} {y : Ky} {kvs : List (Ky × D)} {v u : Value} {neg : Bool} (la : Lk prog w O s.heap s.toks v d) (lb : Lk prog w O s.heap s.toks u (.dic kvs)) (hy : kyOf d = some y)
    (c : Cn O s) (q : Res prog w O s (.bl (if neg then !(dget kvs y).isSome else (dget kvs y).isSome)) Q) : wpAny (model prog w) A (compareOp (if neg then .NotIn else .In) v u) Q E s := by
  obtain ⟨p, o, vs, rfl, e1, e2, e3, e4, r⟩ := lb.dict
  have dd := e4.at' e1
  cases neg with
  | false => exact wpAny_in_of (ky_is la hy) e2 dd.mapOf (by rw [r.isSome]; exact q.tk c (Nat.le_succ _) (.bl _))
  | true => exact wpAny_notIn_of (ky_is la hy) e2 dd.mapOf (by rw [r.isSome]; exact q.tk c (Nat.le_succ _) (.bl _))

def mcop : Cop → CmpOp
  | .eq => .Eq | .ne => .NotEq | .lt => .Lt | .le => .LtE | .gt => .Gt | .ge => .GtE | .isin => .In | .notin => .NotIn | .isN => .Is | .notN => .IsNot
/-! ### tuples in order -/
theorem it_eq {a b : D} {v u : Value} {e : Bool} {n : Nat} {B : Around} (h : itEq a b = some e) (ra : RepV prog w O n v a) (rb : RepV prog w O n u b) : SeqAt.EqAt B s v u e := by
  cases ra <;> cases rb <;> simp only [itEq] at h <;> try (cases h; done)
  · cases h
    have := SeqAt.EqAt.int_int (A := B) (s := s)
    rename_i i t j t'
    have z := this i t j t'
    rw [Bool.beq_eq_decide_eq] at z
    exact z
  · cases h
    rename_i x t hx y t' hy
    have z := SeqAt.EqAt.str_str (A := B) (s := s) (toS x) t (toS y) t'
    have e : (toS x == toS y) = decide (x = y) := by
      by_cases q : x = y
      · subst q; simp
      · have q' : toS x ≠ toS y := fun e => q (toS_inj e)
        simp [q, q']
    rw [e] at z
    exact z
theorem it_lt {a b : D} {v u : Value} {e : Bool} {n : Nat} {B : Around} (h : itLt a b = some e) (ra : RepV prog w O n v a) (rb : RepV prog w O n u b) : Ob.RcOp .Lt B s v u e := by
  cases ra <;> cases rb <;> simp only [itLt] at h <;> try (cases h; done)
  · cases h; exact Ob.RcOp.lt_int _ _ _ _
  · cases h
    rename_i x t hx y t' hy
    exact fun prog w E Q q => PySem.P.lt_str (by rw [toS_cps, toS_cps]; exact q)
theorem it_le {a b : D} {v u : Value} {e : Bool} {n : Nat} {B : Around} (h : itLe a b = some e) (ra : RepV prog w O n v a) (rb : RepV prog w O n u b) : Ob.RcOp .LtE B s v u e := by
  cases ra <;> cases rb <;> simp only [itLe] at h <;> try (cases h; done)
  cases h; exact Ob.RcOp.le_int _ _ _ _
theorem pairs_get {r : D → D → Option Bool} : ∀ {as bs : List D}, pairsOk r as bs = true → ∀ (i : Nat) (a b : D), as[i]? = some a → bs[i]? = some b → (∃ e, itEq a b = some e) ∧ ∃ e, r a b = some e
  | [], _, _, _, _, _, h, _ => by simp at h
  | _ :: _, [], _, _, _, _, _, h => by simp at h
  | x :: as, y :: bs, h, 0, a, b, h1, h2 => by
    simp only [pairsOk, Bool.and_eq_true] at h
    simp at h1 h2
    subst h1 h2
    exact ⟨Option.isSome_iff_exists.mp h.1.1, Option.isSome_iff_exists.mp h.1.2⟩
  | x :: as, y :: bs, h, i + 1, a, b, h1, h2 => by
    simp only [pairsOk, Bool.and_eq_true] at h
    exact pairs_get h.2 i a b (by simpa using h1) (by simpa using h2)
theorem lexAt_lexB {r : D → D → Option Bool} {z : Bool} {as bs : List D} : ∀ (k i : Nat), i + k = min as.length bs.length →
    Ob.lexAt (fun j => (itEq (as.getD j .non) (bs.getD j .non)).getD false) (fun j => (r (as.getD j .non) (bs.getD j .non)).getD false) (if as.length < bs.length then true else if as.length = bs.length then z else false) i k = lexB r z (as.drop i) (bs.drop i)
  | 0, i, h => by
    rw [Ob.lexAt_zero]
    rcases Nat.lt_trichotomy as.length bs.length with q | q | q
    · have h1 : as.drop i = [] := List.drop_of_length_le (by omega)
      have h2 : bs.drop i = bs[i]'(by omega) :: bs.drop (i + 1) := List.drop_eq_getElem_cons (by omega)
      rw [if_pos q, h1, h2]; rfl
    · have h1 : as.drop i = [] := List.drop_of_length_le (by omega)
      have h2 : bs.drop i = [] := List.drop_of_length_le (by omega)
      rw [if_neg (by omega), if_pos q, h1, h2]; rfl
    · have h1 : as.drop i = as[i]'(by omega) :: as.drop (i + 1) := List.drop_eq_getElem_cons (by omega)
      have h2 : bs.drop i = [] := List.drop_of_length_le (by omega)
      rw [if_neg (by omega), if_neg (by omega), h1, h2]; rfl
  | k + 1, i, h => by
    have h1 : i < as.length := by omega
    have h2 : i < bs.length := by omega
    rw [Ob.lexAt_succ, lexAt_lexB k (i + 1) (by omega), List.drop_eq_getElem_cons h1, List.drop_eq_getElem_cons h2]
    simp only [lexB, List.getD_eq_getElem?_getD, List.getElem?_eq_getElem h1, List.getElem?_eq_getElem h2, Option.getD_some]
theorem tups_ok {op : CmpOp} {r : D → D → Option Bool} {z : Bool} {as bs : List D} {d : Bool} {v u : Value} (hu : A.units + 65 < cLine) (hd : lexT r z as bs = some d) (la : Lk prog w O s.heap s.toks v (.tup as)) (lb : Lk prog w O s.heap s.toks u (.tup bs))
    (hr : ∀ {a b : D} {v u : Value} {e : Bool} {n : Nat} {B : Around}, r a b = some e → RepV prog w O n v a → RepV prog w O n u b → Ob.RcOp op B s v u e)
    (go : ∀ {l b : Addr} {items items2 : Array Value} {e r : Nat → Bool}, s.heap.IsTuple l items → s.heap.IsTuple b items2 → A.units < cLine → (∀ j (h1 : j < items.size) (h2 : j < items2.size), SeqAt.EqAt A.in1 s items[j] items2[j] (e j)) →
      (∀ j (h1 : j < items.size) (h2 : j < items2.size), e j = false → Ob.RcOp op A.in1 s items[j] items2[j] (r j)) → Ob.RcOp op A s (.ref l) (.ref b) (Ob.lexAt e r (if items.size < items2.size then true else if items.size = items2.size then z else false) 0 (min items.size items2.size))) :
    Ob.RcOp op A s v u d := by
  unfold lexT at hd
  split at hd
  case isFalse => cases hd
  rename_i hp
  cases hd
  obtain ⟨p, o, us, k, rfl, e1, e2, e3, e4, ra⟩ := la.tuple
  obtain ⟨p', o', us', k', rfl, f1, f2, f3, f4, rb⟩ := lb.tuple
  have hl := ra.length
  have hl' := rb.length
  have get1 : ∀ j (h : j < us.toArray.size), ∃ a, as[j]? = some a ∧ RepV prog w O s.toks us.toArray[j] a := fun j h => by
    have hj : j < as.length := by rw [← hl]; simpa using h
    obtain ⟨y, h1, h2⟩ := ra.get (List.getElem?_eq_getElem hj)
    refine ⟨_, List.getElem?_eq_getElem hj, ?_⟩
    have : us.toArray[j] = y := by
      have : us.toArray[j]? = some y := by simpa using h1
      rw [Array.getElem?_eq_getElem h] at this
      exact Option.some.inj this
    rw [this]; exact h2
  have get2 : ∀ j (h : j < us'.toArray.size), ∃ a, bs[j]? = some a ∧ RepV prog w O s.toks us'.toArray[j] a := fun j h => by
    have hj : j < bs.length := by rw [← hl']; simpa using h
    obtain ⟨y, h1, h2⟩ := rb.get (List.getElem?_eq_getElem hj)
    refine ⟨_, List.getElem?_eq_getElem hj, ?_⟩
    have : us'.toArray[j] = y := by
      have : us'.toArray[j]? = some y := by simpa using h1
      rw [Array.getElem?_eq_getElem h] at this
      exact Option.some.inj this
    rw [this]; exact h2
  have key := go (l := p) (b := p') (items := us.toArray) (items2 := us'.toArray) (e := fun j => (itEq (as.getD j .non) (bs.getD j .non)).getD false) (r := fun j => (r (as.getD j .non) (bs.getD j .non)).getD false)
    ⟨o, e1, e2, k, e3⟩ ⟨o', f1, f2, k', f3⟩ (by omega) (fun j h1 h2 => ?_) (fun j h1 h2 _ => ?_)
  · have := lexAt_lexB (r := r) (z := z) (as := as) (bs := bs) (min as.length bs.length) 0 (by omega)
    simp only [List.size_toArray, hl, hl'] at key
    rw [this] at key
    simpa using key
  · obtain ⟨a, ha, r1⟩ := get1 j h1
    obtain ⟨b, hb, r2⟩ := get2 j h2
    obtain ⟨⟨e, he⟩, _⟩ := pairs_get hp j a b ha hb
    simp only [List.getD_eq_getElem?_getD, ha, hb, Option.getD_some, he]
    exact it_eq he r1 r2
  · obtain ⟨a, ha, r1⟩ := get1 j h1
    obtain ⟨b, hb, r2⟩ := get2 j h2
    obtain ⟨_, ⟨e, he⟩⟩ := pairs_get hp j a b ha hb
    simp only [List.getD_eq_getElem?_getD, ha, hb, Option.getD_some, he]
    exact hr he r1 r2
/-! ### all comparisons -/
theorem cmp_ok {op : Cop} {a b d : D} {v u : Value} (hu : A.units + 65 < cLine) (hd : cmpD op a b = some d) (c : Cn O s) (la : Lk prog w O s.heap s.toks v a) (lb : Lk prog w O s.heap s.toks u b) (q : Res prog w O s d Q) :
    wpAny (model prog w) A (compareOp (mcop op) v u) Q E s := by
  cases op with
  | eq =>
    simp only [cmpD, Option.map_eq_some_iff] at hd
    obtain ⟨x, h, rfl⟩ := hd
    exact eq_ok (neg := false) (by omega) h c la lb (q.bl c)
  | ne =>
    simp only [cmpD, Option.map_eq_some_iff] at hd
    obtain ⟨x, h, rfl⟩ := hd
    exact eq_ok (neg := true) (by omega) h c la lb (q.bl c)
  | lt =>
    cases a <;> cases b <;> simp only [cmpD] at hd <;> try (cases hd; done)
    · cases hd; obtain ⟨t, rfl⟩ := la.int; obtain ⟨t', rfl⟩ := lb.int; exact lt_int (q.bl c)
    · cases hd; obtain ⟨t, rfl, _⟩ := la.str; obtain ⟨t', rfl, _⟩ := lb.str
      exact PySem.P.lt_str (by rw [toS_cps, toS_cps]; exact q.bl c)
    · rw [Option.map_eq_some_iff] at hd
      obtain ⟨x, h, rfl⟩ := hd
      refine tups_ok hu h la lb (fun h1 h2 h3 => it_lt h1 h2 h3) (fun {l b items items2 e r} h1 h2 h3 h4 h5 => ?_) prog w E Q (q.bl c)
      have z := Ob.RcOp.tuples_lt h1 h2 h3 h4 h5
      have eq : decide (items.size < items2.size) = (if items.size < items2.size then true else if items.size = items2.size then false else false) := by
        by_cases y : items.size < items2.size
        · simp [y]
        · simp [y]
      rw [eq] at z; exact z
  | le =>
    cases a <;> cases b <;> simp only [cmpD] at hd <;> try (cases hd; done)
    · cases hd; obtain ⟨t, rfl⟩ := la.int; obtain ⟨t', rfl⟩ := lb.int; exact le_int (q.bl c)
    · rw [Option.map_eq_some_iff] at hd
      obtain ⟨x, h, rfl⟩ := hd
      refine tups_ok hu h la lb (fun h1 h2 h3 => it_le h1 h2 h3) (fun {l b items items2 e r} h1 h2 h3 h4 h5 => ?_) prog w E Q (q.bl c)
      have z := Ob.RcOp.tuples_le h1 h2 h3 h4 h5
      have eq : decide (items.size ≤ items2.size) = (if items.size < items2.size then true else if items.size = items2.size then true else false) := by
        rcases Nat.lt_trichotomy items.size items2.size with y | y | y
        · simp [y, Nat.le_of_lt y]
        · simp [y]
        · simp [Nat.not_le.mpr y, Nat.not_lt.mpr (Nat.le_of_lt y), Nat.ne_of_gt y]
      rw [eq] at z; exact z
  | gt =>
    cases a <;> cases b <;> simp only [cmpD] at hd <;> try (cases hd; done)
    cases hd; obtain ⟨t, rfl⟩ := la.int; obtain ⟨t', rfl⟩ := lb.int; exact gt_int (q.bl c)
  | ge =>
    cases a <;> cases b <;> simp only [cmpD] at hd <;> try (cases hd; done)
    cases hd; obtain ⟨t, rfl⟩ := la.int; obtain ⟨t', rfl⟩ := lb.int; exact ge_int (q.bl c)
  | isin =>
    have key : ∀ (kvs : List (Ky × D)), b = .dic kvs → (kyOf a).map (fun y => D.bl (dget kvs y).isSome) = some d → wpAny (model prog w) A (compareOp .In v u) Q E s := fun kvs e h => by
      subst e
      rw [Option.map_eq_some_iff] at h
      obtain ⟨y, h, rfl⟩ := h
      exact din_ok (neg := false) la lb h c q
    have seq : ∀ (xs : List D), b = .lst xs → (inD a xs).map D.bl = some d → wpAny (model prog w) A (compareOp .In v u) Q E s := fun xs e h => by
      rw [Option.map_eq_some_iff] at h
      obtain ⟨y, h, rfl⟩ := h
      exact in_ok (neg := false) hu c la lb ⟨xs, .inl e, h⟩ (q.bl c)
    have tup : ∀ (xs : List D), b = .tup xs → (inD a xs).map D.bl = some d → wpAny (model prog w) A (compareOp .In v u) Q E s := fun xs e h => by
      rw [Option.map_eq_some_iff] at h
      obtain ⟨y, h, rfl⟩ := h
      exact in_ok (neg := false) hu c la lb ⟨xs, .inr e, h⟩ (q.bl c)
    cases b with
    | dic kvs => exact key kvs rfl (by cases a <;> simpa only [cmpD] using hd)
    | lst xs => exact seq xs rfl (by cases a <;> simpa only [cmpD] using hd)
    | tup xs => exact tup xs rfl (by cases a <;> simpa only [cmpD] using hd)
    | str z =>
      cases a with
      | str x =>
        match x, hd with
        | [c'], hd =>
          simp only [cmpD] at hd
          cases hd
          obtain ⟨t, rfl, _⟩ := la.str; obtain ⟨t', rfl, _⟩ := lb.str
          refine PySem.P.in_str ?_
          have e := PySem.StrLaws.found_one (toS z) c'
          rw [toS_cps] at e
          show Q (.bool (!(Builtin.Str.occurrences (toS z) ⟨#[c']⟩ 0 (toS z).length 1).isEmpty)) s
          rw [e]
          exact q.bl c
      | _ => simp only [cmpD] at hd; cases hd
    | _ => cases a <;> simp only [cmpD] at hd <;> cases hd
  | notin =>
    have key : ∀ (kvs : List (Ky × D)), b = .dic kvs → (kyOf a).map (fun y => D.bl (!(dget kvs y).isSome)) = some d → wpAny (model prog w) A (compareOp .NotIn v u) Q E s := fun kvs e h => by
      subst e
      rw [Option.map_eq_some_iff] at h
      obtain ⟨y, h, rfl⟩ := h
      exact din_ok (neg := true) la lb h c q
    have seq : ∀ (xs : List D), b = .lst xs → (inD a xs).map (fun b => D.bl (!b)) = some d → wpAny (model prog w) A (compareOp .NotIn v u) Q E s := fun xs e h => by
      rw [Option.map_eq_some_iff] at h
      obtain ⟨y, h, rfl⟩ := h
      exact in_ok (neg := true) hu c la lb ⟨xs, .inl e, h⟩ (q.bl c)
    have tup : ∀ (xs : List D), b = .tup xs → (inD a xs).map (fun b => D.bl (!b)) = some d → wpAny (model prog w) A (compareOp .NotIn v u) Q E s := fun xs e h => by
      rw [Option.map_eq_some_iff] at h
      obtain ⟨y, h, rfl⟩ := h
      exact in_ok (neg := true) hu c la lb ⟨xs, .inr e, h⟩ (q.bl c)
    cases b with
    | dic kvs => exact key kvs rfl (by cases a <;> simpa only [cmpD] using hd)
    | lst xs => exact seq xs rfl (by cases a <;> simpa only [cmpD] using hd)
    | tup xs => exact tup xs rfl (by cases a <;> simpa only [cmpD] using hd)
    | str z =>
      cases a with
      | str x =>
        match x, hd with
        | [c'], hd =>
          simp only [cmpD] at hd
          cases hd
          obtain ⟨t, rfl, _⟩ := la.str; obtain ⟨t', rfl, _⟩ := lb.str
          refine PySem.P.notIn_str ?_
          have e := PySem.StrLaws.found_one (toS z) c'
          rw [toS_cps] at e
          show Q (.bool (!(!(Builtin.Str.occurrences (toS z) ⟨#[c']⟩ 0 (toS z).length 1).isEmpty))) s
          rw [e]
          exact q.bl c
      | _ => simp only [cmpD] at hd; cases hd
    | _ => cases a <;> simp only [cmpD] at hd <;> cases hd
  | isN =>
    cases b with
    | non =>
      have hd : some (D.bl (isNon a)) = some d := by cases a <;> simpa only [cmpD] using hd
      cases hd
      cases lb.non
      refine is_none_gen ?_
      have e : (v == Value.none) = isNon a := by
        cases a with
        | non => cases la.non; rfl
        | bl => cases la.bl; rfl
        | int => obtain ⟨t, rfl⟩ := la.int; rfl
        | str => obtain ⟨t, rfl, _⟩ := la.str; rfl
        | tup => obtain ⟨_, _, _, _, rfl, _⟩ := la.tuple; rfl
        | lst => obtain ⟨_, _, _, rfl, _⟩ := la.list; rfl
        | dic => obtain ⟨_, _, _, rfl, _⟩ := la.dict; rfl
      rw [e]
      exact q.bl c
    | _ => cases a <;> simp only [cmpD] at hd <;> cases hd
  | notN =>
    cases b with
    | non =>
      have hd : some (D.bl (!isNon a)) = some d := by cases a <;> simpa only [cmpD] using hd
      cases hd
      cases lb.non
      refine isnot_none_gen ?_
      have e : (!(v == Value.none)) = (!isNon a) := by
        cases a with
        | non => cases la.non; rfl
        | bl => cases la.bl; rfl
        | int => obtain ⟨t, rfl⟩ := la.int; rfl
        | str => obtain ⟨t, rfl, _⟩ := la.str; rfl
        | tup => obtain ⟨_, _, _, _, rfl, _⟩ := la.tuple; rfl
        | lst => obtain ⟨_, _, _, rfl, _⟩ := la.list; rfl
        | dic => obtain ⟨_, _, _, rfl, _⟩ := la.dict; rfl
      rw [e]
      exact q.bl c
    | _ => cases a <;> simp only [cmpD] at hd <;> cases hd
end
end Mini
/-! Mini, exact: subscripts, slices, builtins, methods. -/
namespace Mini
open PySem PySem.Spec PyProof.Rows L2

section
variable {prog : Program} {w : World} {A : Around} {E : Value → Shared → Prop} {O : Om} {s : Shared} {Q : Value → Shared → Prop}

theorem ixL_get {α : Type} {xs : List α} {i : Int} {v : α} (h : ixL xs i = some v) : ∃ j, seqIndex? i xs.length = some j ∧ xs[j]? = some v ∧ j < xs.length ∧ -(xs.length : Int) ≤ i ∧ i < xs.length := atI_get h
theorem sz63 : (sizeLine : Int) < 2 ^ 63 := by rw [sizeLine_eq]; decide
theorem idx_ok {value slice : Expr} {a b d : D} {v u : Value} (hd : idxD a b = some d) (c : Cn O s) (la : Lk prog w O s.heap s.toks v a) (lb : Lk prog w O s.heap s.toks u b) (q : Res prog w O s d Q)
    (hs : subscripted slice false v u = operate [v, u] (getItem v u)) : wpAny (model prog w) A (subscriptTail value slice v u) Q E s := by
  have hsz := sz63
  cases a with
  | lst ds =>
    cases b with
    | int i =>
      obtain ⟨p, us, k, rfl, e1, e2, r⟩ := la.list
      obtain ⟨t, rfl⟩ := lb.int
      obtain ⟨j, h1, h2, h3, h4, h5⟩ := ixL_get hd
      obtain ⟨y, ey, ry⟩ := r.get h2
      have hl := r.length
      have pl : s.heap.IsList p us.toArray := isL e1
      have fin : Q y s := q.now c ry
      by_cases h0 : 0 ≤ i
      · have hj : i.toNat = j := by rw [seqIndex_of h0 h5] at h1; exact Option.some.inj h1
        exact item_listR pl h0 (by omega) (by rw [hj]; simpa using ey) fin hs
      · have hj : (i + (us.toArray.size : Int)).toNat = j := by
          rw [seqIndex_neg (by omega) h4] at h1
          rw [List.size_toArray, hl]
          exact Option.some.inj h1
        exact subscriptTail_builtinR (x := y) pl.typeIs slot_list_getitem.lookup
          (wpAny_getItem_list_neg (Q := fun r s' => r = y ∧ Q r s') pl (by omega) (by rw [List.size_toArray] <;> omega) (by omega) (by rw [hj]; simpa using ey) ⟨rfl, fin⟩) hs
    | _ => simp [idxD] at hd
  | tup ds =>
    cases b with
    | int i =>
      obtain ⟨p, o, us, k, rfl, e1, e2, e3, e4, r⟩ := la.tuple
      obtain ⟨t, rfl⟩ := lb.int
      obtain ⟨j, h1, h2, h3, h4, h5⟩ := ixL_get hd
      obtain ⟨y, ey, ry⟩ := r.get h2
      have hl := r.length
      have pl : IsTup s.heap p us.toArray := ⟨o, e1, e2, k, e3⟩
      exact subscriptTail_builtinR (x := y) pl.typeIs slot_tuple_getitem.lookup
        (PyProof.Rows.getItem_tuple (j := j) (Q := fun r s' => r = y ∧ Q r s') pl (by omega) (by omega) (by rw [List.size_toArray, hl]; exact h1) (by simpa using ey) ⟨rfl, q.now c ry⟩) hs
    | _ => simp [idxD] at hd
  | str z =>
    cases b with
    | int i =>
      simp only [idxD] at hd
      split at hd
      · rename_i hz
        rw [Option.map_eq_some_iff] at hd
        obtain ⟨x, hx, rfl⟩ := hd
        obtain ⟨t, rfl, _⟩ := la.str
        obtain ⟨t', rfl⟩ := lb.int
        obtain ⟨j, h1, h2, h3, h4, h5⟩ := ixL_get hx
        have hl : (LIM : Int) < 2 ^ 63 := by decide
        exact tail_any (typeIs_str s _ t) slot_str_getitem.lookup (PyProof.Rows.getItem_str (c := x) (by
          have e1 : decide (i < -(2 ^ 63 : Int)) = false := decide_eq_false (by omega)
          have e2 : decide (i ≥ 2 ^ 63) = false := decide_eq_false (by omega)
          rw [e1, e2, Bool.or_false]) (by rw [toS_len, h1]; simpa [toS] using h2) (q.strNew (x := [x]) c)) hs
      · cases hd
    | _ => simp [idxD] at hd
  | dic kvs =>
    simp only [idxD] at hd
    cases hk : kyOf b with
    | none => rw [hk] at hd; cases hd
    | some y =>
      rw [hk] at hd
      have hd : dget kvs y = some d := hd
      obtain ⟨p, o, vs, rfl, e1, e2, e3, e4, r⟩ := la.dict
      have dd := e4.at' e1
      have hv := r.val y
      rw [hd] at hv
      obtain ⟨v', h1, h2⟩ := hv
      refine tail_any dd.typeIs PySem.F.slot_dict_getitem.lookup (wpAny_getItem_of (ky_is lb hk) dd.mapOf h1 ?_) hs
      exact q.tk c (Nat.le_succ _) (h2.mono (Le.refl _) (Nat.le_succ _))
  | _ => simp [idxD] at hd

/-! ### slices -/
theorem slcL_ok {p sl : Addr} {us : List Value} {k : Nat} {ds : List D} {vl vu : Value} {lo hi : Option Int} (c : Cn O s) (e1 : s.heap.get? p = some { cls := .type "list", data := .seq us.toArray k }) (e2 : us.length ≤ sizeLine) (r : RepVs prog w O s.toks us ds)
    (hs : s.heap.IsSliceOf sl vl vu .none) (pl : IsPart vl lo) (pu : IsPart vu hi) (q : Res prog w O s (.lst (cutL ds lo hi)) Q) : wpAny (model prog w) A (getItem (.ref p) (.ref sl)) Q E s := by
  refine wpAny_getItem_list_slice (isL e1) hs pl pu (IsPart.none) (by decide) ?_ (by rw [List.size_toArray]; exact e2)
  rw [slicePick_cut]
  have hl := r.length
  have rr : RepVs prog w O s.toks ((us.drop (HT.sIx us.length 0 lo)).take (HT.sIx us.length us.length hi - HT.sIx us.length 0 lo)) (cutL ds lo hi) := by
    unfold cutL
    rw [← hl]
    exact (r.drop _).take _
  exact q.list (t' := s.toks) c (Kept.push _ _) (Nat.le_refl _) (Heap.get?_push_size _ rfl) (by rw [List.length_take, List.length_drop]; omega) (Nat.le_refl _) rr
theorem slcT_ok {v : Value} {sl : Addr} {ds : List D} {vl vu : Value} {lo hi : Option Int} (c : Cn O s) (l : Lk prog w O s.heap s.toks v (.tup ds))
    (hs : s.heap.IsSliceOf sl vl vu .none) (pl : IsPart vl lo) (pu : IsPart vu hi) (q : Res prog w O s (.tup (cutL ds lo hi)) Q) : wpAny (model prog w) A (getItem v (.ref sl)) Q E s := by
  have lr := l.tupR c
  obtain ⟨p, o, us, k, rfl, e1, e2, e3, e4, r⟩ := l.tuple
  have tt : IsTup s.heap p us.toArray := ⟨o, e1, e2, k, e3⟩
  have hl := r.length
  have rr : RepVs prog w O s.toks ((us.drop (HT.sIx us.length 0 lo)).take (HT.sIx us.length us.length hi - HT.sIx us.length 0 lo)) (cutL ds lo hi) := by
    unfold cutL
    rw [← hl]
    exact (r.drop _).take _
  by_cases hw : HT.sIx us.toArray.size 0 lo = 0 ∧ HT.sIx us.toArray.size us.toArray.size hi = us.toArray.size
  · refine getItem_tuple_whole tt hs pl pu hw ?_
    rw [List.size_toArray] at hw
    have e : cutL ds lo hi = ds := by
      unfold cutL
      rw [← hl, hw.1, hw.2, List.drop_zero, Nat.sub_zero, hl, List.take_length]
    rw [e] at q
    exact q.now c lr
  · refine HT.getItem_tuple_cut tt hs pl pu hw ?_ (by rw [List.size_toArray]; exact e4)
    have hs' : us.toArray.size = us.length := List.size_toArray ..
    simp only [hs'] at *
    exact q.tup (t' := s.toks) (k := 0) c (Kept.push _ _) (Nat.le_refl _) (Heap.get?_push_size _ rfl) rfl rfl (by rw [List.length_take, List.length_drop]; omega) (Nat.le_refl _) rr
theorem revL_ok {p sl : Addr} {us : List Value} {k : Nat} {ds : List D} {t : Tok} (c : Cn O s) (e1 : s.heap.get? p = some { cls := .type "list", data := .seq us.toArray k }) (e2 : us.length ≤ sizeLine) (r : RepVs prog w O s.toks us ds)
    (hs : s.heap.IsSliceOf sl .none .none (.int (-1) t)) (q : Res prog w O s (.lst ds.reverse) Q) : wpAny (model prog w) A (getItem (.ref p) (.ref sl)) Q E s := by
  refine wpAny_getItem_list_slice (isL e1) hs IsPart.none IsPart.none (IsPart.int (-1) t) (by decide) ?_ (by rw [List.size_toArray]; exact e2)
  rw [PySem.W.krv_pick]
  exact q.list (t' := s.toks) c (Kept.push _ _) (Nat.le_refl _) (Heap.get?_push_size _ rfl) (by rw [List.length_reverse]; exact e2) (Nat.le_refl _) r.reverse
theorem slcS_ok {x : Sg} {t : Tok} {sl : Addr} {vl vu : Value} {lo hi : Option Int} (c : Cn O s) (ht : x.length = 1 → tokOk s.toks t) (hx : x.length ≤ LIM)
    (hs : s.heap.IsSliceOf sl vl vu .none) (pl : IsPart vl lo) (pu : IsPart vu hi) (q : Res prog w O s (.str (cutL x lo hi)) Q) : wpAny (model prog w) A (getItem (.str (toS x) t) (.ref sl)) Q E s := by
  obtain ⟨os, hos, hcs, hds⟩ := hs
  obtain ⟨l, rfl, rfl⟩ := IsPart.raw pl
  obtain ⟨u, rfl, rfl⟩ := IsPart.raw pu
  refine wpAny_getItem_str_slice (l := l) (u := u) (st := none) ⟨os, hos, hcs, hds⟩ rfl ?_
  have ec : cutS (toS x) (l.map (·.1)) (u.map (·.1)) = toS (cutL x (l.map (·.1)) (u.map (·.1))) := by
    unfold cutS cutL
    rw [toS_cps, toS_len]; rfl
  have e := sliceText_cut (toS x) (l.map (·.1)) (u.map (·.1))
  rw [ec] at e
  have hl : (toS (cutL x (l.map (·.1)) (u.map (·.1)))).length ≤ sizeLine := by
    rw [← ec]
    exact Nat.le_trans (cutS_length (toS x) _ _) (by rw [toS_len]; exact Nat.le_trans hx lim)
  unfold PySem.StrLaws.sliceText at e
  show Made.post (if ((1 : Int) == 1 && (Builtin.Str.strSliceIndices (l.map (·.1)) (u.map (·.1)) 1 (toS x).length).length == (toS x).length) = true then Made.val (.str (toS x) t)
    else Made.str ⟨((Builtin.Str.strSliceIndices (l.map (·.1)) (u.map (·.1)) 1 (toS x).length).filterMap ((toS x).cps[·]?)).toArray⟩) Q s
  by_cases cc : ((1 : Int) == 1 && (Builtin.Str.strSliceIndices (l.map (·.1)) (u.map (·.1)) 1 (toS x).length).length == (toS x).length) = true
  · rw [if_pos cc] at e ⊢
    rw [← toS_inj e] at q
    exact q.now c (.str _ _ ht)
  · rw [if_neg cc] at e ⊢
    rw [e]
    exact ⟨hl, q.strNew c⟩
end
end Mini
/-! Mini, exact: sorted(text). -/
namespace Mini
open PySem PySem.Spec PyProof.Rows L2

/-! ### sorting signs -/
theorem insN_perm (x : Nat) : ∀ l, (insN x l).Perm (x :: l)
  | [] => .refl _
  | y :: r => by
    unfold insN
    split
    · exact .refl _
    · exact ((insN_perm x r).cons y).trans (.swap x y r)
theorem sortN_perm : ∀ l, (sortN l).Perm l
  | [] => .refl _
  | x :: r => by
    show (insN x (sortN r)).Perm _
    exact (insN_perm x _).trans ((sortN_perm r).cons x)
theorem insN_sorted (x : Nat) : ∀ l : List Nat, l.Pairwise (· ≤ ·) → (insN x l).Pairwise (· ≤ ·)
  | [], _ => by unfold insN; exact List.pairwise_singleton _ _
  | y :: r, h => by
    unfold insN
    obtain ⟨h1, h2⟩ := List.pairwise_cons.mp h
    split
    · rename_i hx
      refine List.pairwise_cons.mpr ⟨fun z hz => ?_, h⟩
      rcases List.mem_cons.mp hz with e | e
      · subst e; exact hx
      · exact Nat.le_trans hx (h1 z e)
    · rename_i hx
      refine List.pairwise_cons.mpr ⟨fun z hz => ?_, insN_sorted x r h2⟩
      rcases List.mem_cons.mp ((insN_perm x r).mem_iff.mp hz) with e | e
      · subst e; omega
      · exact h1 z e
theorem sortN_sorted : ∀ l : List Nat, (sortN l).Pairwise (· ≤ ·)
  | [] => .nil
  | x :: r => insN_sorted x _ (sortN_sorted r)
theorem sorted_eq : ∀ (l m : List Nat), l.Perm m → l.Pairwise (· ≤ ·) → m.Pairwise (· ≤ ·) → l = m
  | [], m, p, _, _ => (List.nil_perm.mp p).symm
  | x :: l, [], p, _, _ => absurd p.length_eq (by simp)
  | x :: l, y :: m, p, hl, hm => by
    obtain ⟨h1, h2⟩ := List.pairwise_cons.mp hl
    obtain ⟨g1, g2⟩ := List.pairwise_cons.mp hm
    have e : x = y := by
      have a : x ∈ y :: m := p.mem_iff.mp (List.mem_cons_self ..)
      have b : y ∈ x :: l := p.mem_iff.mpr (List.mem_cons_self ..)
      rcases List.mem_cons.mp a with a | a
      · exact a
      · rcases List.mem_cons.mp b with b | b
        · exact b.symm
        · exact Nat.le_antisymm (h1 y b) (g1 x a)
    subst e
    rw [sorted_eq l m (p.cons_inv) h2 g2]

section
variable {prog : Program} {w : World} {A : Around} {E : Value → Shared → Prop} {O : Om} {s : Shared}

/-- how text is walked: by either of its two iterators -/
def TxIt (h : Heap) (I : Addr) (x : Str) (t : Tok) (i : Nat) : Prop := h.IsStrIter I "str_ascii_iterator" x t i ∨ h.IsStrIter I "str_iterator" x t i
theorem TxIt.keep {h h' : Heap} {I : Addr} {x : Str} {t : Tok} {i : Nat} (r : TxIt h I x t i) (k : ∀ o, h.get? I = some o → h'.get? I = some o) : TxIt h' I x t i := by
  rcases r with ⟨o, e, r⟩ | ⟨o, e, r⟩
  · exact .inl ⟨o, k o e, r⟩
  · exact .inr ⟨o, k o e, r⟩
theorem tx_iter {x : Str} {t : Tok} {Q : Value → Shared → Prop} (h : ∀ o, TxIt (s.heap.push o) s.heap.objs.size x t 0 → Q (.ref s.heap.objs.size) { s with heap := s.heap.push o }) : wpAny (model prog w) A (pyIter (.str x t)) Q E s := by
  cases ha : x.cps.all (· < 128)
  · exact PySem.wpAny_pyIter_wide ha (h _ (.inr ⟨_, Heap.get?_push_size _ rfl, rfl, rfl⟩))
  · exact PySem.wpAny_pyIter_ascii ha (h _ (.inl ⟨_, Heap.get?_push_size _ rfl, rfl, rfl⟩))
theorem tx_item {I : Addr} {x : Str} {t : Tok} {i c : Nat} {Q : Option Value → Shared → Prop} (r : TxIt s.heap I x t i) (hx : x.cps[i]? = some c)
    (h : ∀ h', TxIt h' I x t (i + 1) → Heap.SameBut I s.heap h' → Q (some (.str ⟨#[c]⟩ s.toks)) { s with heap := h', toks := s.toks + 1 }) : wpAny (model prog w) A (pyNext (.ref I)) Q E s := by
  rcases r with r | r
  · exact PySem.wpAny_pyNext_ascii_item r hx fun h' a b => h h' (.inl a) b
  · exact PySem.wpAny_pyNext_wide_item r hx fun h' a b => h h' (.inr a) b
theorem tx_end {I : Addr} {x : Str} {t : Tok} {i : Nat} {Q : Option Value → Shared → Prop} (hh : A.handled = none) (r : TxIt s.heap I x t i) (hx : x.cps[i]? = none)
    (h : ∀ h', Heap.ExtBut I s.heap h' → Q none { s with heap := h' }) : wpAny (model prog w) A (pyNext (.ref I)) Q E s := by
  rcases r with r | r
  · exact PySem.wpAny_pyNext_ascii_end hh r hx h
  · exact PySem.wpAny_pyNext_wide_end hh r hx h

/-- signs with good tokens -/
def Signs (lo hi : Nat) (cs : List Nat) (vs : List Value) : Prop := vs.length = cs.length ∧ ∀ (j : Nat) (v : Value), vs[j]? = some v → ∃ c t, cs[j]? = some c ∧ v = .str ⟨#[c]⟩ t ∧ lo ≤ t ∧ t < hi
theorem signs_nil (lo hi : Nat) : Signs lo hi [] [] := ⟨rfl, fun j v h => by simp at h⟩
theorem Signs.snoc {lo hi hi' : Nat} {cs : List Nat} {vs : List Value} {c t : Nat} (h : Signs lo hi cs vs) (h1 : lo ≤ t) (h2 : t < hi') (h3 : hi ≤ hi') : Signs lo hi' (cs ++ [c]) (vs ++ [.str ⟨#[c]⟩ t]) := by
  obtain ⟨hl, ha⟩ := h
  refine ⟨by simp [hl], fun j v hj => ?_⟩
  by_cases hlt : j < vs.length
  · rw [List.getElem?_append_left hlt] at hj
    obtain ⟨c', t', e1, e2, e3, e4⟩ := ha j v hj
    exact ⟨c', t', by rw [List.getElem?_append_left (by omega)]; exact e1, e2, e3, Nat.lt_of_lt_of_le e4 h3⟩
  · rw [List.getElem?_append_right (by omega)] at hj
    have : j - vs.length = 0 := by
      rcases Nat.eq_zero_or_pos (j - vs.length) with e | e
      · exact e
      · rw [List.getElem?_eq_none (by simp; omega)] at hj; cases hj
    rw [this] at hj
    cases hj
    exact ⟨c, t, by rw [List.getElem?_append_right (by omega), ← hl, this]; rfl, rfl, h1, h2⟩
theorem tx_loop {R : Result → Shared → Prop} (hh : A.handled = none) {I S : Addr} {x : Sg} {t : Tok} {res : Value} {n0 : Nat} (hSI : S ≠ I) (hn : x.length ≤ sizeLine) (h0 : Heap) :
    ∀ (k i : Nat) (s : Shared) (acc : List Value) (c : Nat), x.length - i = k → i ≤ x.length → TxIt s.heap I (toS x) t i → n0 ≤ s.toks → s.heap.get? S = some { cls := .type "list", dict := none, data := .seq acc.toArray c, slots := #[] } →
    Signs n0 s.toks (x.take i) acc → (∀ b o, b ≠ S → b ≠ I → h0.get? b = some o → s.heap.get? b = some o) →
    (∀ h' t' acc' c', s.toks ≤ t' → h'.get? S = some { cls := .type "list", dict := none, data := .seq (List.toArray acc') c', slots := #[] } → Signs n0 t' x acc' → (∀ b o, b ≠ S → b ≠ I → h0.get? b = some o → h'.get? b = some o) → R (.ok (.ret res)) { s with heap := h', toks := t' }) →
    codeAny (model prog w) A (.builtin "list.extend.loop" ⟨[.ref S, .ref I, res], []⟩) R s := by
  intro k
  induction k with
  | zero =>
    intro i s acc c hk hi hst ht hS hacc hb hR
    have hin : i = x.length := by omega
    subst hin
    refine codeAny_builtin F.entry_extend_loop ?_
    rw [Around.under_plainId F.plain_extend_loop _]
    show wpAny _ A.in1 (pyNext (.ref I) >>= _) _ _ s
    refine wpAny_bind (tx_end (A := A.in1) hh hst (by simp [toS]) fun h' hs => ?_)
    rw [List.take_length] at hacc
    exact wpAny_pure (hR h' s.toks acc c (Nat.le_refl _) (hs S _ hSI hS) hacc fun b o h1 h2 e => hs b o h2 (hb b o h1 h2 e))
  | succ k ih =>
    intro i s acc c hk hi hst ht hS hacc hb hR
    have hlt : i < x.length := by omega
    have hal : acc.length = i := by rw [hacc.1, List.length_take]; omega
    refine codeAny_builtin F.entry_extend_loop ?_
    rw [Around.under_plainId F.plain_extend_loop _]
    show wpAny _ A.in1 (pyNext (.ref I) >>= _) _ _ s
    refine wpAny_bind (tx_item (c := x[i]) hst (by simp [toS, hlt]) fun h' hit hs => ?_)
    have hS' : h'.get? S = _ := (hs.2 S hSI).trans hS
    show wpAny _ A.in1 (updateSeq S (·.push (.str ⟨#[x[i]]⟩ s.toks)) >>= _) _ _ _
    refine wpAny_bind ?_
    obtain ⟨c2, hup⟩ : ∃ c2, (h'.update S (Obj.mapSeq (·.push (Value.str ⟨#[x[i]]⟩ s.toks)))).get? S = some { cls := .type "list", dict := none, data := .seq (acc ++ [Value.str ⟨#[x[i]]⟩ s.toks]).toArray c2, slots := #[] } :=
      ⟨_, (get?_update_seq hS' (·.push (Value.str ⟨#[x[i]]⟩ s.toks))).trans (by simp only [List.push_toArray]; rfl)⟩
    refine wpAny_updateSeq (s := { s with heap := h', toks := s.toks + 1 }) hS' rfl (wpAny_pure ⟨plainId_quiet F.plain_extend_loop _, ih (i + 1) _ (acc ++ [.str ⟨#[x[i]]⟩ s.toks]) c2 (by omega) hlt ?_ (Nat.le_succ_of_le ht) hup ?_ (fun b o h1 h2 e => ?_) fun h'' t' acc' c' a1 a2 a3 a4 => ?_⟩)
      (by rw [List.size_toArray]; omega) (by rw [Array.size_push, List.size_toArray]; omega)
    · exact hit.keep fun o e => (Heap.get?_update_other _ _ (fun h : S = I => hSI h)).trans e
    · rw [List.take_succ_eq_append_getElem hlt]
      exact hacc.snoc ht (Nat.lt_succ_self _) (Nat.le_succ _)
    · exact (Heap.get?_update_other _ _ (Ne.symm h1)).trans ((hs.2 b h2).trans (hb b o h1 h2 e))
    · exact hR h'' t' acc' c' (Nat.le_of_succ_le a1) a2 a3 a4
theorem tx_collect {x : Sg} {t : Tok} {Q : List Value → Shared → Prop} (hh : A.handled = none) (hn : x.length ≤ sizeLine)
    (hQ : ∀ h' t' vs, Kept s.heap h' → s.heap.objs.size ≤ h'.objs.size → s.toks ≤ t' → Signs s.toks t' x vs → Q vs { s with heap := h', toks := t' }) : wpAny (model prog w) A (collect (.str (toS x) t)) Q E s := by
  unfold collect
  refine wpAny_bind (wpAny_runValue (codeAny_builtin F.entry_proto_collect ?_))
  rw [Around.under_plainId F.plain_proto_collect _]
  show wpAny _ A.in1 (newList [] >>= fun l => again (.builtin "list.__iadd__" ⟨[l, .str (toS x) t], []⟩)) _ _ s
  refine wpAny_bind (wpAny_newObj_type ?_)
  refine wpAny_pure ⟨plainId_quiet F.plain_list_iadd _, codeAny_builtin F.entry_list_iadd ?_⟩
  rw [Around.under_plainId F.plain_list_iadd _]
  show wpAny _ A.in1 (Builtin.List.listExtendWith (.ref s.heap.objs.size) (.str (toS x) t) (.ref s.heap.objs.size)) _ _ _
  unfold Builtin.List.listExtendWith
  refine wpAny_bind (wpAny_typeOf (T := "str") (v := .str (toS x) t) rfl ?_)
  have h1 : Builtin.List.listSameRef (.ref s.heap.objs.size) (.str (toS x) t) = false := rfl
  have h2 : (Value.type "str" == Value.type "list") = false := by decide
  have h3 : (Value.type "str" == Value.type "tuple") = false := by decide
  simp only [h1, h2, h3, Bool.or_false, Bool.false_eq_true, if_false]
  refine wpAny_bind (tx_iter fun o hst => ?_)
  refine wpAny_bind (wpAny_holding ?_)
  unfold Builtin.List.listLengthHint
  refine wpAny_bind (wpAny_specialOf (T := "str") (v := .str (toS x) t) rfl F.str_len ?_)
  wp_delta
  refine wpAny_bind (wpAny_isInstance (T := "str") (v := .str (toS x) t) (b := true) rfl (by rw [isSubtype_type]; kernel_rfl) ?_)
  show wpAny _ A.in1 (typeOf (Value.str (toS x) t) >>= _) _ _ _
  refine wpAny_bind (wpAny_typeOf (T := "str") (v := .str (toS x) t) rfl ?_)
  refine wpAny_pure ?_
  rw [if_neg (by decide)]
  generalize hH : s.heap.push { cls := .type "list", data := .seq ([] : List Value).toArray } = H at hst ⊢
  have hHs : H.objs.size = s.heap.objs.size + 1 := by rw [← hH, Heap.size_push]
  have hne : s.heap.objs.size ≠ H.objs.size := by rw [hHs]; exact Nat.ne_of_lt (Nat.lt_succ_self _)
  have hS : (H.push o).get? s.heap.objs.size = some { cls := .type "list", data := .seq ([] : List Value).toArray } := Heap.get?_push_of_some _ (hH ▸ Heap.get?_push_size _ rfl)
  refine wpAny_pure ⟨plainId_quiet F.plain_extend_loop _, tx_loop hh (n0 := s.toks) (x := x) hne hn (H.push o) x.length 0 _ [] _ rfl (Nat.zero_le _) hst (Nat.le_refl _) hS (signs_nil _ _) (fun b o _ _ e => e) fun h' t' acc' c' a1 a2 a3 a4 => ?_⟩
  show wpAny _ A (load s.heap.objs.size >>= _) _ _ _
  refine wpAny_bind (wpAny_load a2 ?_)
  refine wpAny_pure ?_
  have kp : Kept s.heap h' := fun b ob e => a4 b ob (Nat.ne_of_lt (Heap.lt_size e)) (Nat.ne_of_lt (by show b < H.objs.size; rw [hHs]; exact Nat.lt_succ_of_lt (Heap.lt_size e))) (Heap.get?_push_of_some _ (hH ▸ Heap.get?_push_of_some _ e))
  have hsz : s.heap.objs.size < h'.objs.size := Heap.lt_size a2
  have := hQ h' t' acc' kp (by omega) a1 a3
  simpa using this
end
end Mini
/-! Mini, exact: builtins and methods. -/
namespace Mini
open PySem PySem.Spec PyProof.Rows L2

section
variable {prog : Program} {w : World} {A : Around} {E : Value → Shared → Prop} {O : Om} {s : Shared} {Q : Value → Shared → Prop}

/-! ### sorted(text) -/
theorem Signs.rep {lo hi : Nat} {vs : List Value} (h0 : 1 ≤ lo) : ∀ {cs : List Nat}, Signs lo hi cs vs → RepVs prog w O hi vs (cs.map fun c => .str [c]) := by
  induction vs with
  | nil => intro cs h; cases cs with
    | nil => exact .nil
    | cons c cs => exact absurd h.1 (by simp)
  | cons v vs ih =>
    intro cs h
    cases cs with
    | nil => exact absurd h.1 (by simp)
    | cons c cs =>
      obtain ⟨c', t, e1, e2, e3, e4⟩ := h.2 0 v rfl
      cases e1
      subst e2
      exact .cons (.str [c] t fun _ => ⟨Nat.one_le_iff_ne_zero.mp (Nat.le_trans h0 e3), e4⟩) (ih ⟨by simpa using h.1, fun j u hj => h.2 (j + 1) u (by simpa using hj)⟩)
theorem signs_strs {lo hi : Nat} {vs : List Value} {cs : List Nat} (h : Signs lo hi cs vs) : StrsAre vs (vs.map strOf) :=
  strsAre_map vs fun v hv => by
    obtain ⟨j, hj⟩ := List.mem_iff_getElem?.mp hv
    obtain ⟨c, t, _, e, _⟩ := h.2 j v hj
    exact ⟨_, t, e⟩
/-- the sign of a one-sign text -/
def sgOf : Value → Nat
  | .str x _ => x.cps.getD 0 0
  | _ => 0
def SgOk (lo hi : Nat) (v : Value) : Prop := ∃ c t, v = .str ⟨#[c]⟩ t ∧ lo ≤ t ∧ t < hi
theorem sgs_signs {lo hi : Nat} : ∀ (vs : List Value), (∀ v ∈ vs, SgOk lo hi v) → Signs lo hi (vs.map sgOf) vs := fun vs h =>
  ⟨by simp, fun j v hj => by
    obtain ⟨c, t, e, h1, h2⟩ := h v (List.mem_of_getElem? hj)
    exact ⟨c, t, by rw [List.getElem?_map, hj, e]; rfl, e, h1, h2⟩⟩
theorem signs_sgs {lo hi : Nat} {vs : List Value} : ∀ {cs : List Nat}, Signs lo hi cs vs → vs.map sgOf = cs ∧ ∀ v ∈ vs, SgOk lo hi v := fun {cs} h => by
  refine ⟨List.ext_getElem? fun j => ?_, fun v hv => ?_⟩
  · rw [List.getElem?_map]
    cases e : vs[j]? with
    | none =>
      have := List.getElem?_eq_none_iff.mp e
      rw [List.getElem?_eq_none (by rw [← h.1]; exact this)]; rfl
    | some v =>
      obtain ⟨c, t, e1, e2, _⟩ := h.2 j v e
      rw [e1, e2]; rfl
  · obtain ⟨j, hj⟩ := List.mem_iff_getElem?.mp hv
    obtain ⟨c, t, _, e, h1, h2⟩ := h.2 j v hj
    exact ⟨c, t, e, h1, h2⟩
theorem lt1 (a b : Nat) : ([b] < [a]) ↔ b < a := by
  constructor
  · intro h
    rcases List.cons_lt_cons_iff.mp h with h | h
    · exact h
    · exact absurd h.2 (List.lt_irrefl _)
  · intro h; exact List.cons_lt_cons_iff.mpr (.inl h)
theorem sorted_text {x : Sg} {t : Tok} (hh : A.handled = none) (hx : x.length < 64) (c : Cn O s) (q : ResL prog w O s ((sortN x).map fun c => .str [c]) Q) :
    wpAny (model prog w) A (call (.builtin "sorted") [.str (toS x) t]) Q E s := by
  refine Calls.call_function_entry kind_sorted plain_sorted entry_sorted (args_sorted1 _) ?_
  unfold Builtin.«sorted»
  refine wpAny_bind (m := checkCount "sorted" 1 1 _) (wpAny_pure ?_)
  have hsz : x.length ≤ sizeLine := small64 hx
  refine wpAny_bind (tx_collect (A := A.in1) hh hsz fun h' t' vs kp hsz' htk hs => ?_)
  have hvl : vs.length = x.length := hs.1
  refine wpAny_bind (wpAny_newList ?_ (by rw [hvl]; exact hsz))
  have hoL : (h'.push (seqObj "list" vs.toArray 0)).get? h'.objs.size = some (seqObj "list" vs.toArray 0) := Heap.get?_push_size _ rfl
  have hS := signs_strs hs
  refine wpAny_bind (wpAny_holding (wpAny_call_entry slot_list_sort ⟨_, hoL, rfl⟩ entry_list_sort (list_sort_treeK (s := { s with heap := h'.push (seqObj "list" vs.toArray 0), toks := t' }) strKind_oneLt hoL hS.keysOf (fun v₁ v₂ rest e => keyKind_strs (by rw [← e]; exact hS)) (by rw [hvl]; exact hx) fun st' hp hs' => ⟨_, rfl, ?_⟩) (args_list_sort _)))
  obtain ⟨ep, hc⟩ := sortedHeap_at (vs := vs) (out := (arrOf st').map (·.2)) hoL
  obtain ⟨e1, e2⟩ := signs_sgs hs
  have hpl : (arrOf st').toList.Perm (vs.zip vs) := by
    have := Array.perm_iff_toList_perm.mp hp
    rwa [pairsOf_toList] at this
  have hout : ((arrOf st').map (·.2)).toList = (arrOf st').toList.map (·.2) := by simp
  have hperm : ((arrOf st').toList.map (·.2)).Perm vs := by
    have := hpl.map Prod.snd
    rwa [List.map_snd_zip (Nat.le_refl _)] at this
  have hsgs : ∀ v ∈ (arrOf st').toList.map (·.2), SgOk s.toks t' v := fun v hv => e2 v (hperm.mem_iff.mp hv)
  have hsame : ∀ p ∈ (arrOf st').toList, p.1 = p.2 ∧ SgOk s.toks t' p.1 := fun p hp => by
    have hm := hpl.mem_iff.mp hp
    have := mem_zip_self hm
    exact ⟨this.1, e2 _ this.2⟩
  have hsort : (((arrOf st').toList.map (·.2)).map sgOf).Pairwise (· ≤ ·) := by
    rw [List.map_map, List.pairwise_iff_getElem]
    intro i j hi hj hij
    have hi' : i < (arrOf st').size := by simpa using hi
    have hj' : j < (arrOf st').size := by simpa using hj
    have h1 := hs' i j (Nat.le_of_lt hij) (by rw [← hp.size_eq]; exact hj')
    obtain ⟨a1, c1, t1, a2, _⟩ := hsame (arrOf st')[i] (by simp)
    obtain ⟨b1, c2, t2, b2, _⟩ := hsame (arrOf st')[j] (by simp)
    rw [KK_str hi' (x := ⟨#[c1]⟩) (t := t1) (q := (arrOf st')[i].2) (Prod.ext a2 rfl), KK_str hj' (x := ⟨#[c2]⟩) (t := t2) (q := (arrOf st')[j].2) (Prod.ext b2 rfl)] at h1
    change decide ([c2] < [c1]) = false at h1
    have h2 := of_decide_eq_false h1
    rw [lt1] at h2
    simp only [List.getElem_map, Array.getElem_toList, Function.comp]
    rw [← a1, ← b1, a2, b2]
    show c1 ≤ c2
    omega
  have hfin : ((arrOf st').toList.map (·.2)).map sgOf = sortN x := by
    refine sorted_eq _ _ ?_ hsort (sortN_sorted x)
    have := hperm.map sgOf
    rw [e1] at this
    exact this.trans (sortN_perm x).symm
  have hfs : Signs s.toks t' (sortN x) ((arrOf st').toList.map (·.2)) := by
    rw [← hfin]; exact sgs_signs _ hsgs
  have hrep : RepVs prog w O t' ((arrOf st').toList.map (·.2)) ((sortN x).map fun c => .str [c]) := hfs.rep c.tk
  refine wpAny_pure ⟨_, rfl, ?_⟩
  show Q (.ref h'.objs.size) { s with heap := sortedHeap (h'.push (seqObj "list" vs.toArray 0)) h'.objs.size vs ((arrOf st').map (·.2)), toks := t' }
  refine q ((arrOf st').toList.map (·.2)) _ _ _ ep (fun b ob e => ?_) hsz' ?_ (by rw [hfs.1, (sortN_perm x).length_eq]; exact hsz) htk hrep
  · have q := kp b ob e
    have hlt := Heap.lt_size q
    show (sortedHeap (h'.push (seqObj "list" vs.toArray 0)) h'.objs.size vs _).get? b = some ob
    rw [sortedHeap_old (Nat.ne_of_lt hlt) (by rw [size_push']; exact Nat.lt_succ_of_lt hlt)]
    exact Heap.get?_push_of_some _ q
  · rw [← hout]
    have : (((arrOf st').map (·.2)).toList).toArray = (arrOf st').map (·.2) := Array.toArray_toList
    rw [this]
    exact hc
end
end Mini
/-! Mini, exact: list(text). -/
namespace Mini
open PySem PySem.Spec PyProof.Rows L2

section
variable {prog : Program} {w : World} {A : Around} {E : Value → Shared → Prop} {O : Om} {s : Shared}
/-- an empty list takes in a text's signs -/
theorem tx_extend {R : Result → Shared → Prop} {x : Sg} {t : Tok} {S : Addr} {c₀ : Nat} {res : Value} (hh : A.handled = none) (hn : x.length ≤ sizeLine)
    (hS : s.heap.get? S = some { cls := .type "list", data := .seq (#[] : Array Value) c₀ })
    (hR : ∀ h' t' vs c', (∀ b o, b ≠ S → s.heap.get? b = some o → h'.get? b = some o) → s.toks ≤ t' → h'.get? S = some { cls := .type "list", dict := none, data := .seq (List.toArray vs) c', slots := #[] } → Signs s.toks t' x vs → R (.ok (.ret res)) { s with heap := h', toks := t' }) :
    wpAny (model prog w) A.in1 (Builtin.List.listExtendWith (.ref S) (.str (toS x) t) res)
      (fun fin s' => match fin with | .done f => R (.ok f) s' | .again c' => c'.quiet = true ∧ codeAny (model prog w) A c' R s') (fun e s' => R (.error e) s') s := by
  unfold Builtin.List.listExtendWith
  refine wpAny_bind (wpAny_typeOf (T := "str") (v := .str (toS x) t) rfl ?_)
  have h1 : Builtin.List.listSameRef (.ref S) (.str (toS x) t) = false := rfl
  have h2 : (Value.type "str" == Value.type "list") = false := by decide
  have h3 : (Value.type "str" == Value.type "tuple") = false := by decide
  simp only [h1, h2, h3, Bool.or_false, Bool.false_eq_true, if_false]
  refine wpAny_bind (tx_iter fun o hst => ?_)
  refine wpAny_bind (wpAny_holding ?_)
  unfold Builtin.List.listLengthHint
  refine wpAny_bind (wpAny_specialOf (T := "str") (v := .str (toS x) t) rfl F.str_len ?_)
  wp_delta
  refine wpAny_bind (wpAny_isInstance (T := "str") (v := .str (toS x) t) (b := true) rfl (by rw [isSubtype_type]; kernel_rfl) ?_)
  show wpAny _ A.in1 (typeOf (Value.str (toS x) t) >>= _) _ _ _
  refine wpAny_bind (wpAny_typeOf (T := "str") (v := .str (toS x) t) rfl ?_)
  refine wpAny_pure ?_
  rw [if_neg (by decide)]
  have hne : S ≠ s.heap.objs.size := Nat.ne_of_lt (Heap.lt_size hS)
  have hS' : (s.heap.push o).get? S = some { cls := .type "list", data := .seq ([] : List Value).toArray c₀ } := Heap.get?_push_of_some _ hS
  refine wpAny_pure ⟨plainId_quiet F.plain_extend_loop _, tx_loop hh (n0 := s.toks) (x := x) hne hn (s.heap.push o) x.length 0 _ [] _ rfl (Nat.zero_le _) hst (Nat.le_refl _) hS' (signs_nil _ _) (fun b o _ _ e => e) fun h' t' acc' c' a1 a2 a3 a4 => ?_⟩
  exact hR h' t' acc' c' (fun b ob hb e => a4 b ob hb (Nat.ne_of_lt (Heap.lt_size e)) (Heap.get?_push_of_some _ e)) a1 a2 a3
theorem list_init_text {R : Result → Shared → Prop} {x : Sg} {t : Tok} {S : Addr} (hh : A.handled = none) (hn : x.length ≤ sizeLine)
    (hS : s.heap.get? S = some { cls := .type "list", data := .seq #[] })
    (hR : ∀ h' t' vs c', (∀ b o, b ≠ S → s.heap.get? b = some o → h'.get? b = some o) → s.toks ≤ t' → h'.get? S = some { cls := .type "list", dict := none, data := .seq (List.toArray vs) c', slots := #[] } → Signs s.toks t' x vs → R (.ok (.ret .none)) { s with heap := h', toks := t' }) :
    wpAny (model prog w) A.in1 (Builtin.«list.__init__» ⟨[.ref S, .str (toS x) t], []⟩)
      (fun fin s' => match fin with | .done f => R (.ok f) s' | .again c' => c'.quiet = true ∧ codeAny (model prog w) A c' R s') (fun e s' => R (.error e) s') s := by
  show wpAny _ A.in1 (do let old ← Builtin.List.listItems (.ref S); Builtin.List.listUpdate (.ref S) (fun _ => #[]); letGo old.toList.reverse; Builtin.List.listExtendWith (.ref S) (.str (toS x) t) .none) _ _ s
  refine wpAny_bind ?_
  unfold Builtin.List.listItems
  refine wpAny_bind (wpAny_seqItems hS rfl (wpAny_pure ?_))
  show wpAny _ A.in1 (updateSeq S (fun _ => #[]) >>= fun _ => letGo (#[] : Array Value).toList.reverse >>= fun _ => Builtin.List.listExtendWith (.ref S) (.str (toS x) t) .none) _ _ s
  refine wpAny_bind (wpAny_updateSeq hS rfl ?_)
  have hS₂ := Heap.get?_update_self (Obj.mapSeq (fun _ => (#[] : Array Value))) hS rfl
  refine wpAny_bind (wpAny_letGo ?_)
  exact tx_extend (s := { s with heap := s.heap.update S (Obj.mapSeq (fun _ => (#[] : Array Value))) }) hh hn hS₂ fun h' t' vs c' a1 a2 a3 a4 => hR h' t' vs c' (fun b ob hb e => a1 b ob hb ((Heap.get?_update_other _ _ (Ne.symm hb)).trans e)) a2 a3 a4
theorem list_text {Q : Value → Shared → Prop} {x : Sg} {t : Tok} (hh : A.handled = none) (hn : x.length ≤ sizeLine) (c : Cn O s) (q : ResL prog w O s (x.map fun c => .str [c]) Q) :
    wpAny (model prog w) A (call (.type "list") [.str (toS x) t]) Q E s := by
  refine callType_codes (Q₁ := fun obj s₁ => obj = .ref s.heap.objs.size ∧ s₁ = { s with heap := s.heap.push { cls := .type "list", data := .seq #[] } }) F.called_list (F.typeCall_list_1 _) F.entry_list_init
    (code_list_new _ ⟨rfl, rfl⟩) fun obj s₁ h₁ => ?_
  obtain ⟨rfl, rfl⟩ := h₁
  have hS : (s.heap.push { cls := .type "list", data := .seq #[] }).get? s.heap.objs.size = some { cls := .type "list", data := .seq #[] } := Heap.get?_push_size _ rfl
  refine ⟨⟨_, hS, rfl⟩, F.args_list_init_2 _ _, list_init_text (s := { s with heap := s.heap.push { cls := .type "list", data := .seq #[] } }) hh hn hS fun h' t' vs c' a1 a2 a3 a4 => ⟨rfl, ?_⟩⟩
  have kp : ∀ b o, s.heap.get? b = some o → h'.get? b = some o := fun b o e => a1 b o (Nat.ne_of_lt (Heap.lt_size e)) (Heap.get?_push_of_some _ e)
  exact q _ _ _ _ _ kp (Nat.le_refl _) a3 (by rw [a4.1]; exact hn) a2 (a4.rep c.tk)
end
end Mini
/-! Mini, exact: a text's signs are collected from its iterator. -/
namespace Mini
open PySem PySem.Spec PyProof.Rows L2

section
variable {prog : Program} {w : World} {A : Around} {E : Value → Shared → Prop} {O : Om} {s : Shared}
theorem tx_collectI {x : Sg} {t : Tok} {I : Addr} {Q : List Value → Shared → Prop} (hh : A.handled = none) (hst : TxIt s.heap I (toS x) t 0) (hn : x.length ≤ sizeLine)
    (hQ : ∀ h' t' vs, (∀ b o, b ≠ I → s.heap.get? b = some o → h'.get? b = some o) → s.toks ≤ t' → Signs s.toks t' x vs → Q vs { s with heap := h', toks := t' }) : wpAny (model prog w) A (collect (.ref I)) Q E s := by
  have hI : I < s.heap.objs.size := by
    rcases hst with ⟨o, e, _⟩ | ⟨o, e, _⟩ <;> exact Heap.lt_size e
  have hSI : s.heap.objs.size ≠ I := (Nat.ne_of_lt hI).symm
  unfold collect
  refine wpAny_bind (wpAny_runValue (codeAny_builtin F.entry_proto_collect ?_))
  rw [Around.under_plainId F.plain_proto_collect _]
  show wpAny _ A.in1 (newList [] >>= fun l => again (.builtin "list.__iadd__" ⟨[l, .ref I], []⟩)) _ _ s
  refine wpAny_bind (wpAny_newObj_type ?_)
  refine wpAny_pure ⟨plainId_quiet F.plain_list_iadd _, codeAny_builtin F.entry_list_iadd ?_⟩
  rw [Around.under_plainId F.plain_list_iadd _]
  have hst₁ : TxIt (s.heap.push { cls := .type "list", data := .seq ([] : List Value).toArray }) I (toS x) t 0 := hst.keep fun o e => Heap.get?_push_of_some _ e
  have hS₁ : (s.heap.push { cls := .type "list", data := .seq ([] : List Value).toArray }).get? s.heap.objs.size = some { cls := .type "list", data := .seq ([] : List Value).toArray } := Heap.get?_push_size _ rfl
  have h1 : Builtin.List.listSameRef (.ref s.heap.objs.size) (.ref I) = false := by simp [Builtin.List.listSameRef, hSI]
  have last : ∀ {R : Result → Shared → Prop}, (∀ h' t' acc' c', (∀ b o, b ≠ I → s.heap.get? b = some o → h'.get? b = some o) → s.toks ≤ t' → h'.get? s.heap.objs.size = some { cls := .type "list", dict := none, data := .seq (List.toArray acc') c', slots := #[] } → Signs s.toks t' x acc' →
      R (.ok (.ret (.ref s.heap.objs.size))) { s with heap := h', toks := t' }) →
      codeAny (model prog w) A (.builtin "list.extend.loop" ⟨[.ref s.heap.objs.size, .ref I, .ref s.heap.objs.size], []⟩) R { s with heap := s.heap.push { cls := .type "list", data := .seq ([] : List Value).toArray } } := fun hR =>
    tx_loop (s := { s with heap := s.heap.push { cls := .type "list", data := .seq ([] : List Value).toArray } }) hh (n0 := s.toks) (x := x) hSI hn (s.heap.push { cls := .type "list", data := .seq ([] : List Value).toArray }) x.length 0 [] _ rfl (Nat.zero_le _) hst₁ (Nat.le_refl _) hS₁ (signs_nil _ _) (fun b o _ _ e => e) fun h' t' acc' c' a1 a2 a3 a4 =>
      hR h' t' acc' c' (fun b ob hb e => a4 b ob (Nat.ne_of_lt (Heap.lt_size e)) hb (Heap.get?_push_of_some _ e)) a1 a2 a3
  show wpAny _ A.in1 (Builtin.List.listExtendWith (.ref s.heap.objs.size) (.ref I) (.ref s.heap.objs.size)) _ _ _
  unfold Builtin.List.listExtendWith
  rcases hst₁ with hs | hs
  · have hT : ({ s with heap := s.heap.push { cls := .type "list", data := .seq ([] : List Value).toArray } } : Shared).TypeIs (.ref I) "str_ascii_iterator" := by obtain ⟨o, e, r, _⟩ := hs; exact ⟨o, e, r⟩
    refine wpAny_bind (wpAny_typeOf hT ?_)
    rw [if_neg (by rw [h1]; decide)]
    refine wpAny_bind ((Walks.strAscii (A := A.in1) hh I (toS x) t).toS.self 0 _ _ _ hs ?_)
    refine wpAny_bind (wpAny_holding ?_)
    unfold Builtin.List.listLengthHint
    refine wpAny_bind (wpAny_specialOf hT F.nolen_sa ?_)
    show wpAny _ A.in1 (specialOf (Value.ref I) (Str.ofString "__length_hint__") >>= _) _ _ _
    refine wpAny_bind (wpAny_specialOf hT F.hint_sa ?_)
    (generalize hid : ("str_ascii_iterator.__length_hint__" : String) = id0; (fail_if_success (clear hid id0)); wp_delta; rw [show splitId id0 = some ("str_ascii_iterator", "__length_hint__") from by subst hid; decide +kernel]; subst hid)
    refine wpAny_bind (wpAny_isInstance (b := true) hT (by rw [isSubtype_type]; kernel_rfl) ?_)
    refine wpAny_pure ?_
    rw [if_neg (by decide)]
    refine wpAny_pure ⟨plainId_quiet F.plain_extend_loop _, last fun h' t' acc' c' k1 k2 k3 k4 => ?_⟩
    show wpAny _ A (load s.heap.objs.size >>= _) _ _ _
    refine wpAny_bind (wpAny_load k3 ?_)
    have := hQ h' t' acc' k1 k2 k4
    exact wpAny_pure (by simpa using this)
  · have hT : ({ s with heap := s.heap.push { cls := .type "list", data := .seq ([] : List Value).toArray } } : Shared).TypeIs (.ref I) "str_iterator" := by obtain ⟨o, e, r, _⟩ := hs; exact ⟨o, e, r⟩
    refine wpAny_bind (wpAny_typeOf hT ?_)
    rw [if_neg (by rw [h1]; decide)]
    refine wpAny_bind ((Walks.strWide (A := A.in1) hh I (toS x) t).toS.self 0 _ _ _ hs ?_)
    refine wpAny_bind (wpAny_holding ?_)
    unfold Builtin.List.listLengthHint
    refine wpAny_bind (wpAny_specialOf hT F.nolen_sw ?_)
    show wpAny _ A.in1 (specialOf (Value.ref I) (Str.ofString "__length_hint__") >>= _) _ _ _
    refine wpAny_bind (wpAny_specialOf hT F.hint_sw ?_)
    (generalize hid : ("str_iterator.__length_hint__" : String) = id0; (fail_if_success (clear hid id0)); wp_delta; rw [show splitId id0 = some ("str_iterator", "__length_hint__") from by subst hid; decide +kernel]; subst hid)
    refine wpAny_bind (wpAny_isInstance (b := true) hT (by rw [isSubtype_type]; kernel_rfl) ?_)
    refine wpAny_pure ?_
    rw [if_neg (by decide)]
    refine wpAny_pure ⟨plainId_quiet F.plain_extend_loop _, last fun h' t' acc' c' k1 k2 k3 k4 => ?_⟩
    show wpAny _ A (load s.heap.objs.size >>= _) _ _ _
    refine wpAny_bind (wpAny_load k3 ?_)
    have := hQ h' t' acc' k1 k2 k4
    exact wpAny_pure (by simpa using this)
theorem lt_sign_ok {B : Around} {c b : Nat} {t u : Tok} {Q : Value → Shared → Prop} (h : Q (.bool (decide (c < b))) s) : wpAny (model prog w) B (richCompare .Lt (.str ⟨#[c]⟩ t) (.str ⟨#[b]⟩ u)) Q E s := by
  refine richCompare_gives (op := .Lt) (typeIs_str s _ t) (typeIs_str s _ u) PySem.F.slot_str_lt PySem.F.entry_str_lt (PySem.F.args_str_lt_2 _ _) (gives_str_lt _ _ t u) (fun x => nomatch x) ?_
  show Q (.bool (decide ([c] < [b]))) s
  have : decide ([c] < [b]) = decide (c < b) := by
    rw [Bool.eq_iff_iff, decide_eq_true_eq, decide_eq_true_eq]
    constructor
    · intro h
      rcases List.cons_lt_cons_iff.mp h with h | h
      · exact h
      · exact absurd h.2 (List.lt_irrefl _)
    · intro h; exact List.cons_lt_cons_iff.mpr (.inl h)
  rw [this]; exact h
theorem min_text_loop {R : Result → Shared → Prop} (hh : A.handled = none) {I S : Addr} (hSI : S ≠ I) {x : Sg} {t : Tok} :
    ∀ (k i : Nat) (s : Shared) (b : Nat) (tb : Tok) (c : Nat), x.length - i = k → i ≤ x.length → TxIt s.heap I (toS x) t i → tokOk s.toks tb →
    s.heap.get? S = some { cls := .type "list", dict := none, data := .seq #[Value.str ⟨#[b]⟩ tb, Value.str ⟨#[b]⟩ tb] c, slots := #[] } →
    (∀ h' t' tb', s.toks ≤ t' → tokOk t' tb' → (∀ a o, a ≠ S → a ≠ I → s.heap.get? a = some o → h'.get? a = some o) → R (.ok (.ret (.str ⟨#[(x.drop i).foldl min b]⟩ tb'))) { s with heap := h', toks := t' }) →
    codeAny (model prog w) A (.builtin "min.loop" ⟨[.ref I, .none, .ref S], []⟩) R s := by
  have hname : (toString "min" ++ toString ".loop" : String) = "min.loop" := by decide
  intro k
  induction k with
  | zero =>
    intro i s b tb c hk hi hst htb hS hR
    have hin : i = x.length := by omega
    subst hin
    refine codeAny_builtin F.entry_min_loop ?_
    rw [Around.under_plainId F.plain_min_loop _]
    show wpAny _ A.in1 (seqItems? (.ref S) >>= _) _ _ s
    refine wpAny_bind (wpAny_seqItems hS rfl ?_)
    show wpAny _ A.in1 (tryCatch (pyNext (.ref I)) _ >>= _) _ _ s
    refine wpAny_bind (wpAny_tryCatch (tx_end (A := A.in1) hh hst (by simp [toS]) fun h' hs => ?_))
    have hS' := hs S _ hSI hS
    show wpAny _ A.in1 (updateSeq S (fun _ => #[]) >>= _) _ _ _
    refine wpAny_bind ?_
    refine wpAny_updateSeq (s := { s with heap := h' }) hS' rfl (wpAny_bind (wpAny_letGo (wpAny_pure ?_)))
    have := hR (h'.update S (Obj.mapSeq fun _ => #[])) s.toks tb (Nat.le_refl _) htb fun a o h1 h2 e => (Heap.get?_update_other _ _ (Ne.symm h1)).trans (hs a o h2 e)
    rw [List.drop_length] at this
    exact this
  | succ k ih =>
    intro i s b tb c hk hi hst htb hS hR
    have hlt : i < x.length := by omega
    refine codeAny_builtin F.entry_min_loop ?_
    rw [Around.under_plainId F.plain_min_loop _]
    show wpAny _ A.in1 (seqItems? (.ref S) >>= _) _ _ s
    refine wpAny_bind (wpAny_seqItems hS rfl ?_)
    show wpAny _ A.in1 (tryCatch (pyNext (.ref I)) _ >>= _) _ _ s
    refine wpAny_bind (wpAny_tryCatch (tx_item (c := x[i]) hst (by simp [toS, hlt]) fun h' hit hs => ?_))
    have hS' : h'.get? S = _ := (hs.2 S hSI).trans hS
    have ht0 : tokOk (s.toks + 1) tb := ⟨htb.1, Nat.lt_succ_of_lt htb.2⟩
    have ht1 : tokOk (s.toks + 1) s.toks := ⟨fun e => Nat.not_lt_zero _ (e ▸ htb.2), Nat.lt_succ_self _⟩
    have hd : (x.drop i).foldl min b = (x.drop (i + 1)).foldl min (min b x[i]) := by
      rw [List.drop_eq_getElem_cons hlt, List.foldl_cons]
    show wpAny _ A.in1 (tryCatch (holding [Value.str ⟨#[x[i]]⟩ s.toks, Value.str ⟨#[x[i]]⟩ s.toks] (richCompare .Lt (Value.str ⟨#[x[i]]⟩ s.toks) (Value.str ⟨#[b]⟩ tb) >>= _)) _ >>= _) _ _ _
    refine wpAny_bind (wpAny_tryCatch (wpAny_holding (wpAny_bind (lt_sign_ok ?_))))
    refine wpAny_bind (wpAny_holding (wpAny_truthy_bool ?_))
    refine wpAny_bind (wpAny_letGo (wpAny_pure ?_))
    by_cases hb : x[i] < b
    · simp only [hb, decide_true, if_true]
      refine wpAny_bind ?_
      refine wpAny_updateSeq (s := { s with heap := h', toks := s.toks + 1 }) hS' rfl (wpAny_bind (wpAny_letGo ?_))
      rw [hname]
      have hm : min b x[i] = x[i] := Nat.min_eq_right (Nat.le_of_lt hb)
      rw [hd, hm] at hR
      refine wpAny_pure ⟨plainId_quiet F.plain_min_loop _, ih (i + 1) _ x[i] s.toks _ (by omega) hlt (hit.keep fun o e => (Heap.get?_update_other _ _ (fun h : S = I => hSI h)).trans e) ht1 (Heap.get?_update_self _ hS' rfl) fun h'' t' tb' a1 a2 a3 => ?_⟩
      exact hR h'' t' tb' (Nat.le_of_succ_le a1) a2 fun a o h1 h2 e => a3 a o h1 h2 ((Heap.get?_update_other _ _ (Ne.symm h1)).trans ((hs.2 a h2).trans e))
    · simp only [hb, decide_false, Bool.false_eq_true, if_false]
      refine wpAny_bind (wpAny_letGo ?_)
      rw [hname]
      have hm : min b x[i] = b := Nat.min_eq_left (by omega)
      rw [hd, hm] at hR
      refine wpAny_pure ⟨plainId_quiet F.plain_min_loop _, ih (i + 1) _ b tb c (by omega) hlt hit ht0 hS' fun h'' t' tb' a1 a2 a3 => ?_⟩
      exact hR h'' t' tb' (Nat.le_of_succ_le a1) a2 fun a o h1 h2 e => a3 a o h1 h2 ((hs.2 a h2).trans e)
theorem min_text {Q : Value → Shared → Prop} {c : Nat} {x : Sg} {t : Tok} (hh : A.handled = none) (h1 : 1 ≤ s.toks)
    (hQ : ∀ h' t' tb', Kept s.heap h' → s.toks ≤ t' → tokOk t' tb' → Q (.str ⟨#[x.foldl min c]⟩ tb') { s with heap := h', toks := t' }) :
    wpAny (model prog w) A (call (.builtin "min") [.str (toS (c :: x)) t]) Q E s := by
  have hname : (toString "min" ++ toString ".loop" : String) = "min.loop" := by decide
  refine call_function_tree F.kind_min F.plain_min F.entry_min (F.args_min1 _) ?_
  show wpAny _ A.in1 (Builtin.Builtins.bindParams "min" ["key", "default"] 0 ⟨[], []⟩ >>= _) _ _ s
  refine wpAny_bind (wpAny_of_eq (show Builtin.Builtins.bindParams "min" ["key", "default"] 0 ⟨[], []⟩ = pure [none, none] from rfl) ?_)
  refine wpAny_bind (wpAny_pure ?_)
  refine wpAny_bind (tx_iter fun o hst => ?_)
  refine wpAny_bind (wpAny_newObj_type ?_)
  generalize hH : s.heap.push o = H at hst ⊢
  have hHs : H.objs.size = s.heap.objs.size + 1 := by rw [← hH, Heap.size_push]
  have hSI : H.objs.size ≠ s.heap.objs.size := by rw [hHs]; exact Nat.succ_ne_self _
  have hS : (H.push { cls := .type "list", data := .seq #[] }).get? H.objs.size = some { cls := .type "list", data := .seq #[] } := Heap.get?_push_size _ rfl
  have hst1 : TxIt (H.push { cls := .type "list", data := .seq #[] }) s.heap.objs.size (toS (c :: x)) t 0 := hst.keep fun o e => Heap.get?_push_of_some _ e
  rw [hname]
  refine wpAny_pure ⟨plainId_quiet F.plain_min_loop _, codeAny_builtin F.entry_min_loop ?_⟩
  rw [Around.under_plainId F.plain_min_loop _]
  show wpAny _ A.in1 (seqItems? (.ref H.objs.size) >>= _) _ _ { s with heap := H.push { cls := .type "list", data := .seq #[] } }
  refine wpAny_bind (wpAny_seqItems hS rfl ?_)
  show wpAny _ A.in1 (tryCatch (pyNext (.ref s.heap.objs.size)) _ >>= _) _ _ { s with heap := H.push { cls := .type "list", data := .seq #[] } }
  refine wpAny_bind (wpAny_tryCatch (tx_item (s := { s with heap := H.push { cls := .type "list", data := .seq #[] } }) (c := c) hst1 (by simp [toS]) fun h' hit hs => ?_))
  have hS' : h'.get? H.objs.size = _ := (hs.2 _ hSI).trans hS
  show wpAny _ A.in1 (updateSeq H.objs.size (fun _ => #[Value.str ⟨#[c]⟩ s.toks, Value.str ⟨#[c]⟩ s.toks]) >>= _) _ _ _
  refine wpAny_bind ?_
  refine wpAny_updateSeq (s := { s with heap := h', toks := s.toks + 1 }) hS' rfl ?_
  rw [hname]
  refine wpAny_pure ⟨plainId_quiet F.plain_min_loop _, min_text_loop hh (x := c :: x) hSI _ 1 _ c s.toks _ rfl (by simp) (hit.keep fun o e => (Heap.get?_update_other _ _ (fun h : H.objs.size = s.heap.objs.size => hSI h)).trans e) ⟨Nat.one_le_iff_ne_zero.mp h1, Nat.lt_succ_self _⟩ (Heap.get?_update_self _ hS' rfl) fun h'' t' tb' a1 a2 a3 => ?_⟩
  refine hQ h'' t' tb' (fun b ob e => ?_) (Nat.le_of_succ_le a1) a2
  have lt := Heap.lt_size e
  have n1 : b ≠ H.objs.size := Nat.ne_of_lt (by rw [hHs]; exact Nat.lt_succ_of_lt lt)
  have n2 : b ≠ s.heap.objs.size := Nat.ne_of_lt lt
  have e1 : H.get? b = some ob := hH ▸ Heap.get?_push_of_some _ e
  exact a3 b ob n1 n2 ((Heap.get?_update_other _ _ (Ne.symm n1)).trans ((hs.2 b n2).trans (Heap.get?_push_of_some _ e1)))
end
end Mini
/-! Mini, exact: builtins and methods. -/
namespace Mini
open PySem PySem.Spec PyProof.Rows L2

section
variable {prog : Program} {w : World} {A : Around} {E : Value → Shared → Prop} {O : Om} {s : Shared} {Q : Value → Shared → Prop}

def bfV : Bf → Value
  | .len => .builtin "len" | .sorted => .builtin "sorted" | .sum => .builtin "sum" | .any => .builtin "any" | .all => .builtin "all"
  | .tuple => .type "tuple" | .list => .type "list" | .int => .type "int" | .max => .builtin "max" | .min => .builtin "min" | .abs => .builtin "abs"

/-- the values of arguments, the first maybe an own list -/
inductive Args (P : Program) (w : World) (O : Om) (s : Shared) : List Value → List D → Prop
  | nil : Args P w O s [] []
  | one {v : Value} {d : D} : Lk P w O s.heap s.toks v d → Args P w O s [v] [d]
  | cons {v v' : Value} {d d' : D} {vs : List Value} {ds : List D} : RepV P w O s.toks v d → RepV P w O s.toks v' d' → RepVs P w O s.toks vs ds → Args P w O s (v :: v' :: vs) (d :: d' :: ds)
theorem Args.rs {vs : List Value} {ds : List D} (a : Args prog w O s vs ds) (h : ds.length ≠ 1) : RepVs prog w O s.toks vs ds := by
  cases a with
  | nil => exact .nil
  | one l => exact absurd rfl h
  | cons r1 r2 rs => exact .cons r1 (.cons r2 rs)
theorem bls_of : ∀ {ds : List D} {bs : List Bool} {us : List Value} {n : Nat}, RepVs prog w O n us ds → bls ds = some bs → us = bs.map Value.bool
  | _, bs, _, _, .nil, h => by simp [bls] at h; subst h; rfl
  | _, bs, _, _, .cons r t, h => by
    cases r <;> simp only [bls] at h <;> try (cases h; done)
    rw [Option.map_eq_some_iff] at h
    obtain ⟨bs', h, rfl⟩ := h
    rw [bls_of t h, List.map_cons]
theorem ints_of' : ∀ {ds : List D} {bs : List Int} {us : List Value} {n : Nat}, RepVs prog w O n us ds → intsD ds = some bs → IntsAre us bs
  | _, bs, _, _, .nil, h => by simp [intsD] at h; subst h; exact .nil
  | _, bs, _, _, .cons r t, h => by
    cases r <;> simp only [intsD] at h <;> try (cases h; done)
    rw [Option.map_eq_some_iff] at h
    obtain ⟨bs', h, rfl⟩ := h
    exact .cons _ _ (ints_of' t h)
theorem strs_of : ∀ {ds : List D} {bs : List Sg} {us : List Value} {n : Nat}, RepVs prog w O n us ds → strsD ds = some bs → ∃ l : List (Str × Tok), us = strValues l ∧ l.map (·.1) = bs.map toS ∧ (∀ p ∈ l, p.1.length = 1 → tokOk n p.2)
  | _, bs, _, _, .nil, h => by simp [strsD] at h; subst h; exact ⟨[], rfl, rfl, fun p h => by simp at h⟩
  | _, bs, _, _, .cons r t, h => by
    cases r <;> simp only [strsD] at h <;> try (cases h; done)
    rename_i x tk hx
    rw [Option.map_eq_some_iff] at h
    obtain ⟨bs', h, rfl⟩ := h
    obtain ⟨l, e1, e2, e3⟩ := strs_of t h
    refine ⟨(toS x, tk) :: l, by rw [e1]; rfl, by simp [e2], fun p hp => ?_⟩
    rcases List.mem_cons.mp hp with e | hp
    · subst e; rw [toS_len]; exact hx
    · exact e3 p hp
theorem kept_new {h' : Heap} {o : Obj} {p : Addr} (hk : ∀ b ob, b ∉ [p] → (s.heap.push o).get? b = some ob → h'.get? b = some ob) (hp : p = s.heap.objs.size) : Kept s.heap h' := fun b ob e => by
  refine hk b ob (fun hm => ?_) (Heap.get?_push_of_some _ e)
  have := List.mem_singleton.mp hm
  exact absurd (Heap.lt_size e) (by rw [this, hp]; exact Nat.lt_irrefl _)
theorem iter_any' {l : Addr} {items : Array Value} (hl : s.heap.IsList l items)
    (h : ∀ s₂ : Shared, s₂ = { s with heap := s.heap.push { cls := .type "list_iterator", data := .fields #[.ref l, .int 0 0] } } →
      (s₂.heap.IsListIter s.heap.objs.size l 0 ∧ s₂.heap.IsList l items) → (∀ b ∈ [s.heap.objs.size, l], b < s₂.heap.objs.size) → l ≠ s.heap.objs.size → Q (.ref s.heap.objs.size) s₂) : wpAny (model prog w) A (pyIter (.ref l)) Q E s := by
  have hlt : l < s.heap.objs.size := by obtain ⟨_, e, _⟩ := hl; exact Heap.lt_size e
  refine wpAny_pyIter_list hl (h _ rfl ⟨⟨_, Heap.get?_push_size _ rfl, rfl, rfl⟩, hl.push _⟩ (fun b hb => ?_) (Nat.ne_of_lt hlt))
  show b < (s.heap.push _).objs.size
  rw [Heap.size_push]
  rcases List.mem_cons.mp hb with rfl | hb
  · exact Nat.lt_succ_self _
  · rcases List.mem_cons.mp hb with rfl | hb
    · exact Nat.lt_succ_of_lt hlt
    · cases hb
theorem ints_at {us : List Value} {ns : List Int} (h : IntsAre us ns) {i : Nat} {v : Value} (hv : us[i]? = some v) : ∃ t, v = .int (ns.getD i 0) t := by
  have hi : i < ns.length := by have := (List.getElem?_eq_some_iff.mp hv).1; rw [h.length] at this; exact this
  obtain ⟨t, ht⟩ := h.get i (ns.getD i 0) (by rw [List.getD_eq_getElem?_getD, List.getElem?_eq_getElem hi]; rfl)
  rw [hv] at ht
  exact ⟨t, Option.some.inj ht⟩
theorem strs_at : ∀ {ds : List D} {bs : List Sg} {us : List Value} {n : Nat}, RepVs prog w O n us ds → strsD ds = some bs → ∀ {i : Nat} {v : Value}, us[i]? = some v → ∃ t, v = .str (toS (bs.getD i [])) t
  | _, _, _, _, .nil, _, i, v, hv => by simp at hv
  | _, _, _, _, .cons r t, h, i, v, hv => by
    cases r <;> simp only [strsD] at h <;> try (cases h; done)
    rw [Option.map_eq_some_iff] at h
    obtain ⟨bs', h, rfl⟩ := h
    cases i with
    | zero => cases hv; exact ⟨_, rfl⟩
    | succ i => simpa using strs_at t h (i := i) (by simpa using hv)
theorem cmp_strs {B : Around} {P : Nat → Value → Prop} (val : Nat → Sg) (hval : ∀ i v, P i v → ∃ t, v = .str (toS (val i)) t) : CmpOf prog w B .Lt P (fun i j => decide (val i < val j)) := fun i j vi vj s Q E hi hj h => by
  obtain ⟨t, rfl⟩ := hval i vi hi
  obtain ⟨u, rfl⟩ := hval j vj hj
  refine richCompare_gives (op := .Lt) (typeIs_str s _ t) (typeIs_str s _ u) PySem.F.slot_str_lt PySem.F.entry_str_lt (PySem.F.args_str_lt_2 _ _) (gives_str_lt _ _ t u) (fun x => nomatch x) ?_
  show Q (.bool (decide ((toS (val i)).cps.toList < (toS (val j)).cps.toList))) s
  rw [toS_cps, toS_cps]; exact h
theorem fn1_ok {b : Bf} {a d : D} {v : Value} (hh : A.handled = none) (hd : fnD b [a] = some d) (c : Cn O s) (l : Lk prog w O s.heap s.toks v a) (q : Res prog w O s d Q) : wpAny (model prog w) A (call (bfV b) [v]) Q E s := by
  have hsl := sizeLine_eq
  have h63 := sz63
  refine wpAny_with_toks (Nat.le_refl _) ?_
  cases b with
  | len =>
    cases a with
    | str x =>
      simp only [fnD] at hd
      split at hd
      · rename_i hx
        cases hd
        obtain ⟨t, rfl, _⟩ := l.str
        have := lim63 hx
        refine PySem.P.len_str (by rw [toS_len]; omega) fun ht => ?_
        rw [toS_len]
        exact q.tk c ht (.int _ _)
      · cases hd
    | lst xs =>
      cases hd
      obtain ⟨p, us, k, rfl, e1, e2, r⟩ := l.list
      refine PySem.Calls.call_len_list (isL e1) (by rw [List.size_toArray]; omega) fun ht => ?_
      rw [List.size_toArray, r.length]
      exact q.tk c ht (.int _ _)
    | tup xs =>
      cases hd
      obtain ⟨p, o, us, k, rfl, e1, e2, e3, e4, r⟩ := l.tuple
      refine PyProof.Rows.len_tuple (items := us.toArray) ⟨o, e1, e2, k, e3⟩ (by rw [List.size_toArray]; omega) fun ht => ?_
      rw [List.size_toArray, r.length]
      exact q.tk c ht (.int _ _)
    | dic kvs =>
      cases hd
      obtain ⟨p, o, us, rfl, e1, e2, e3, e4, r⟩ := l.dict
      refine call_len_dict e2 (e4.at' e1) (by omega) fun ht => ?_
      rw [r.length]
      exact q.tk c ht (.int _ _)
    | _ => simp [fnD] at hd
  | sorted =>
    cases a with
    | str x =>
      simp only [fnD] at hd
      split at hd
      · rename_i hx
        cases hd
        obtain ⟨t, rfl, _⟩ := l.str
        exact wpAny_mono (sorted_text (E := E) hh hx c (q.toL c)) (fun _ _ h _ => h) fun _ _ h _ => h
      · cases hd
    | _ => simp [fnD] at hd
  | sum =>
    cases a with
    | lst xs =>
      simp only [fnD, Option.map_eq_some_iff] at hd
      obtain ⟨ns, h, rfl⟩ := hd
      obtain ⟨p, us, k, rfl, e1, e2, r⟩ := l.list
      exact sum_raw hh (isL e1) (ints_of' r h) fun h' tk t' hk ht => q.tok c hk ht (.int _ _)
    | tup xs =>
      simp only [fnD, Option.map_eq_some_iff] at hd
      obtain ⟨ns, h, rfl⟩ := hd
      obtain ⟨p, o, us, k, rfl, e1, e2, e3, e4, r⟩ := l.tuple
      have hi := ints_of' r h
      obtain ⟨xs, e⟩ := hi.allInts.items
      have hn : numsOf (intItems xs).toList = ns := by rw [← e]; exact hi.numsOf
      rw [nums_intItems] at hn
      refine PySem.W.ktm_sumG (xs := xs) hh ⟨o, e1, e2, k, by rw [e3, e]⟩ fun h' tk t' hk => ?_
      intro ht
      rw [preSum_eq, List.take_of_length_le (by simp), hn]
      exact q.tok c hk ht (.int _ _)
    | _ => simp [fnD] at hd
  | any =>
    cases a with
    | lst xs =>
      simp only [fnD, Option.map_eq_some_iff] at hd
      obtain ⟨bs, h, rfl⟩ := hd
      obtain ⟨p, us, k, rfl, e1, e2, r⟩ := l.list
      have hb := bls_of r h
      refine call_any_walk (iter_any (isL e1) fun s₂ e2 st hne => ?_)
      subst e2
      refine ⟨_, _, _, _, _, _, _, rfl, Walks.list (A := A.in1) hh _ p hne us.toArray, st, truth_bools hb, fun h' tk hk ht => ?_⟩
      have e : (List.range us.toArray.size).any (fun i => bs.getD i false) = bs.any id := by
        rw [← L2.any_range, hb, List.size_toArray, List.length_map]
      rw [e]
      exact q.tok c (kept_new hk rfl) ht (.bl _)
    | _ => simp [fnD] at hd
  | all =>
    cases a with
    | lst xs =>
      simp only [fnD, Option.map_eq_some_iff] at hd
      obtain ⟨bs, h, rfl⟩ := hd
      obtain ⟨p, us, k, rfl, e1, e2, r⟩ := l.list
      have hb := bls_of r h
      refine call_all_walk (iter_any (isL e1) fun s₂ e2 st hne => ?_)
      subst e2
      refine ⟨_, _, _, _, _, _, _, rfl, Walks.list (A := A.in1) hh _ p hne us.toArray, st, truth_bools hb, fun h' tk hk ht => ?_⟩
      have e : (List.range us.toArray.size).all (fun i => bs.getD i false) = bs.all id := by
        rw [← L2.all_range, hb, List.size_toArray, List.length_map]
      rw [e]
      exact q.tok c (kept_new hk rfl) ht (.bl _)
    | _ => simp [fnD] at hd
  | tuple =>
    cases a with
    | lst xs =>
      cases hd
      obtain ⟨p, us, k, rfl, e1, e2, r⟩ := l.list
      refine call_tuple_list (isL e1) (fun h' kp ht => ?_) (by rw [List.size_toArray]; exact e2)
      have no : s.heap.get? h'.objs.size = none := by
        cases e : s.heap.get? h'.objs.size with
        | none => rfl
        | some o => exact absurd (Heap.lt_size (kp _ _ e)) (Nat.lt_irrefl _)
      have kp' : Kept s.heap (h'.push { cls := .type "tuple", data := .seq us.toArray }) := fun b o e => Heap.get?_push_of_some _ (kp b o e)
      have g := Gr.laidN (t' := s.toks) c.sub c.bare kp' no (Heap.get?_push_size h' (o := { cls := .type "tuple", data := .seq us.toArray }) rfl) (Nat.le_refl _)
      exact q _ _ _ g (.tup oset_same rfl rfl e2 (r.mono g.le (Nat.le_refl _)))
    | tup xs =>
      cases hd
      obtain ⟨p, o, us, k, rfl, e1, e2, e3, e4, r⟩ := l.tuple
      cases l with
      | of s2 r2 => exact call_tuple_same (items := us.toArray) ⟨o, e1, e2, k, e3⟩ fun _ => q.now c r2
    | _ => simp [fnD] at hd
  | list =>
    have fin : ∀ (us : List Value) (xs : List D), us.length ≤ sizeLine → RepVs prog w O s.toks us xs → Res prog w O s (.lst xs) Q → ∀ h' c', (∀ b o', s.heap.get? b = some o' → h'.get? b = some o') → h'.get? s.heap.objs.size = some { cls := .type "list", dict := none, data := .seq us.toArray c', slots := #[] } → Q (.ref s.heap.objs.size) { s with heap := h' } :=
      fun us xs hz r q h' c' kp e => q.list (t' := s.toks) c kp (Nat.le_refl _) e hz (Nat.le_refl _) r
    cases a with
    | lst xs =>
      cases hd
      obtain ⟨p, us, k, rfl, e1, e2, r⟩ := l.list
      exact call_list_seq p (.inl rfl) e1 rfl rfl (fun h' c' kp e _ => fin us xs e2 r q h' c' kp e) (by rw [List.size_toArray]; exact e2)
    | tup xs =>
      cases hd
      obtain ⟨p, o, us, k, rfl, e1, e2, e3, e4, r⟩ := l.tuple
      exact call_list_seq p (.inr rfl) e1 e2 e3 (fun h' c' kp e _ => fin us xs e4 r q h' c' kp e) (by rw [List.size_toArray]; exact e4)
    | str x =>
      simp only [fnD] at hd
      split at hd
      · rename_i hx
        cases hd
        obtain ⟨t, rfl, _⟩ := l.str
        exact wpAny_mono (list_text (E := E) hh (Nat.le_trans hx lim) c (q.toL c)) (fun _ _ h _ => h) fun _ _ h _ => h
      · cases hd
    | _ => simp [fnD] at hd
  | int =>
    cases a with
    | int i => cases hd; obtain ⟨t, rfl⟩ := l.int; exact call_int_int fun _ => q.now c (.int _ _)
    | bl x => cases hd; cases l.bl; exact call_int_bool fun ht => q.tk c ht (.int _ _)
    | _ => simp [fnD] at hd
  | abs =>
    cases a with
    | int i => cases hd; obtain ⟨t, rfl⟩ := l.int; exact call_abs_int fun u tk ht => q.tk c ht (.int _ _)
    | _ => simp [fnD] at hd
  | max =>
    cases a with
    | lst xs =>
      obtain ⟨p, us, k, rfl, e1, e2, r⟩ := l.list
      have hd : bestD true xs = some d := hd
      unfold bestD at hd
      split at hd
      · cases hd
      · rename_i hne
        have hn : 0 < us.toArray.size := by rw [List.size_toArray, r.length]; cases xs with | nil => exact absurd rfl hne | cons _ _ => simp
        have hsz : us.toArray.size = xs.length := by rw [List.size_toArray, r.length]
        split at hd
        · cases hd
        · split at hd
          · rename_i ns hns
            obtain ⟨y, hy, ry⟩ := r.get hd
            have hi := ints_of' r hns
            refine call_max_walk (iter_any' (isL e1) fun s₂ e2 st hfp hne' => ?_)
            subst e2
            refine ⟨_, _, _, _, _, _, _, rfl, Walks.list (A := A.in1) hh _ p hne' us.toArray, st, hfp, hn, CmpOf.ints_gt (fun i => ns.getD i 0) (fun i v hv => ints_at hi (by simpa using hv)), fun v h' tk hP hk ht => ?_⟩
            rw [hsz] at hP
            have : v = y := by
              have hP' : us[argBest (fun i j => decide (ns.getD i 0 > ns.getD j 0)) (xs.length - 1)]? = some v := by simpa using hP
              have hy' : us[argBest (fun i j => decide (ns.getD i 0 > ns.getD j 0)) (xs.length - 1)]? = some y := by simpa using hy
              rw [hP'] at hy'; exact Option.some.inj hy'
            subst this
            exact q.tok c (kept_new hk rfl) ht (ry.mono (Le.refl _) ht)
          · cases hd
    | _ => simp [fnD] at hd
  | min =>
    cases a with
    | lst xs =>
      obtain ⟨p, us, k, rfl, e1, e2, r⟩ := l.list
      have hd : bestD false xs = some d := hd
      unfold bestD at hd
      split at hd
      · cases hd
      · rename_i hne
        have hn : 0 < us.toArray.size := by rw [List.size_toArray, r.length]; cases xs with | nil => exact absurd rfl hne | cons _ _ => simp
        have hsz : us.toArray.size = xs.length := by rw [List.size_toArray, r.length]
        split at hd
        · rename_i ns hns
          obtain ⟨y, hy, ry⟩ := r.get hd
          refine call_min_walk (iter_any' (isL e1) fun s₂ e2 st hfp hne' => ?_)
          subst e2
          refine ⟨_, _, _, _, _, _, _, rfl, Walks.list (A := A.in1) hh _ p hne' us.toArray, st, hfp, hn, cmp_strs (fun i => ns.getD i []) (fun i v hv => strs_at r hns (by simpa using hv)), fun v h' tk hP hk ht => ?_⟩
          rw [hsz] at hP
          have : v = y := by
            have hP' : us[argBest (fun i j => decide (ns.getD i [] < ns.getD j [])) (xs.length - 1)]? = some v := by simpa using hP
            have hy' : us[argBest (fun i j => decide (ns.getD i [] < ns.getD j [])) (xs.length - 1)]? = some y := by simpa using hy
            rw [hP'] at hy'; exact Option.some.inj hy'
          subst this
          exact q.tok c (kept_new hk rfl) ht (ry.mono (Le.refl _) ht)
        · split at hd
          · rename_i ns hns
            obtain ⟨y, hy, ry⟩ := r.get hd
            have hi := ints_of' r hns
            refine call_min_walk (iter_any' (isL e1) fun s₂ e2 st hfp hne' => ?_)
            subst e2
            refine ⟨_, _, _, _, _, _, _, rfl, Walks.list (A := A.in1) hh _ p hne' us.toArray, st, hfp, hn, CmpOf.ints_lt (fun i => ns.getD i 0) (fun i v hv => ints_at hi (by simpa using hv)), fun v h' tk hP hk ht => ?_⟩
            rw [hsz] at hP
            have : v = y := by
              have hP' : us[argBest (fun i j => decide (ns.getD i 0 < ns.getD j 0)) (xs.length - 1)]? = some v := by simpa using hP
              have hy' : us[argBest (fun i j => decide (ns.getD i 0 < ns.getD j 0)) (xs.length - 1)]? = some y := by simpa using hy
              rw [hP'] at hy'; exact Option.some.inj hy'
            subst this
            exact q.tok c (kept_new hk rfl) ht (ry.mono (Le.refl _) ht)
          · cases hd
    | str x =>
      obtain ⟨t, rfl, _⟩ := l.str
      match x, hd with
      | c0 :: x, hd =>
        cases hd
        exact min_text hh c.tk fun h' t' tb' kp ht htb _ => q.tok c kp ht (.str [x.foldl min c0] _ fun _ => htb)
    | _ => simp [fnD] at hd
theorem cmp_strs_gt {B : Around} {P : Nat → Value → Prop} (val : Nat → Sg) (hval : ∀ i v, P i v → ∃ t, v = .str (toS (val i)) t) : CmpOf prog w B .Gt P (fun i j => decide (val j < val i)) := fun i j vi vj s Q E hi hj h => by
  obtain ⟨t, rfl⟩ := hval i vi hi
  obtain ⟨u, rfl⟩ := hval j vj hj
  refine richCompare_gives (op := .Gt) (typeIs_str s _ t) (typeIs_str s _ u) PySem.F.slot_str_gt PySem.F.entry_str_gt (PySem.F.args_str_gt_2 _ _) (gives_str_gt _ _ t u) (fun x => nomatch x) ?_
  show Q (.bool (decide ((toS (val j)).cps.toList < (toS (val i)).cps.toList))) s
  rw [toS_cps, toS_cps]; exact h
theorem min_two_strs {a b : Sg} {t u : Tok} {Q : Value → Shared → Prop} (hh : A.handled = none)
    (h : ∀ h' tk, (∀ c o, s.heap.get? c = some o → h'.get? c = some o) → s.toks ≤ tk → Q (if b < a then Value.str (toS b) u else Value.str (toS a) t) { s with heap := h', toks := tk }) :
    wpAny (model prog w) A (call (.builtin "min") [.str (toS a) t, .str (toS b) u]) (fun a s' => s.toks ≤ s'.toks → Q a s') E s := by
  have hT : (s.heap.push { cls := .type "tuple", data := .seq #[Value.str (toS a) t, Value.str (toS b) u] }).IsTuple s.heap.objs.size #[Value.str (toS a) t, Value.str (toS b) u] := ⟨_, Heap.get?_push_size _ rfl, rfl, 0, rfl⟩
  refine call_min_two (wpAny_pyIter_tuple hT ?_)
  have hsz : (s.heap.push { cls := .type "tuple", data := .seq #[Value.str (toS a) t, Value.str (toS b) u] }).objs.size = s.heap.objs.size + 1 := Heap.size_push ..
  have hval : ∀ (i : Nat) (v : Value), (#[Value.str (toS a) t, Value.str (toS b) u])[i]? = some v → ∃ t, v = Value.str (toS ([a, b].getD i [])) t := fun i v hv => by
    match i, hv with
    | 0, hv => cases hv; exact ⟨_, rfl⟩
    | 1, hv => cases hv; exact ⟨_, rfl⟩
    | i + 2, hv => simp at hv
  refine ⟨_, [_, s.heap.objs.size], [_], _, _, _, _, rfl, Walks.tuple (A := A.in1) hh _ s.heap.objs.size (by rw [hsz]; exact Nat.ne_of_lt (Nat.lt_succ_self _)) #[Value.str (toS a) t, Value.str (toS b) u],
    ⟨⟨_, Heap.get?_push_size _ rfl, rfl, rfl⟩, hT.push _⟩, fun c hc => ?_, by simp, cmp_strs (fun i => [a, b].getD i []) hval, fun v h' tk hP hk => ?_⟩
  · show c < ((s.heap.push _).push _).objs.size
    rw [Heap.size_push, hsz]
    rcases List.mem_cons.mp hc with rfl | hc
    · rw [hsz]; exact Nat.lt_succ_self _
    · rcases List.mem_cons.mp hc with rfl | hc
      · exact Nat.lt_succ_of_lt (Nat.lt_succ_self _)
      · cases hc
  · intro ht
    have hold : ∀ c o, s.heap.get? c = some o → h'.get? c = some o := fun c o e => by
      refine hk c o (fun hm => ?_) (Heap.get?_push_of_some _ (Heap.get?_push_of_some _ e))
      rcases List.mem_cons.mp hm with e1 | hm
      · have := Heap.lt_size e; rw [e1, hsz] at this; exact Nat.lt_irrefl _ (Nat.lt_of_succ_lt this)
      · cases hm
    have := h h' tk hold ht
    have hv : v = if b < a then Value.str (toS b) u else Value.str (toS a) t := by
      have hP' : (#[Value.str (toS a) t, Value.str (toS b) u])[argBest (fun i j => decide ([a, b].getD i [] < [a, b].getD j [])) 1]? = some v := hP
      by_cases hba : b < a
      · have e : argBest (fun i j => decide ([a, b].getD i [] < [a, b].getD j [])) 1 = 1 := by simp [argBest, hba]
        rw [e] at hP'
        simpa [hba] using hP'.symm
      · have e : argBest (fun i j => decide ([a, b].getD i [] < [a, b].getD j [])) 1 = 0 := by simp [argBest, hba]
        rw [e] at hP'
        simpa [hba] using hP'.symm
    rw [hv]; exact this
theorem max_two_strs {a b : Sg} {t u : Tok} {Q : Value → Shared → Prop} (hh : A.handled = none)
    (h : ∀ h' tk, (∀ c o, s.heap.get? c = some o → h'.get? c = some o) → s.toks ≤ tk → Q (if a < b then Value.str (toS b) u else Value.str (toS a) t) { s with heap := h', toks := tk }) :
    wpAny (model prog w) A (call (.builtin "max") [.str (toS a) t, .str (toS b) u]) (fun a s' => s.toks ≤ s'.toks → Q a s') E s := by
  have hT : (s.heap.push { cls := .type "tuple", data := .seq #[Value.str (toS a) t, Value.str (toS b) u] }).IsTuple s.heap.objs.size #[Value.str (toS a) t, Value.str (toS b) u] := ⟨_, Heap.get?_push_size _ rfl, rfl, 0, rfl⟩
  refine call_max_two (wpAny_pyIter_tuple hT ?_)
  have hsz : (s.heap.push { cls := .type "tuple", data := .seq #[Value.str (toS a) t, Value.str (toS b) u] }).objs.size = s.heap.objs.size + 1 := Heap.size_push ..
  have hval : ∀ (i : Nat) (v : Value), (#[Value.str (toS a) t, Value.str (toS b) u])[i]? = some v → ∃ t, v = Value.str (toS ([a, b].getD i [])) t := fun i v hv => by
    match i, hv with
    | 0, hv => cases hv; exact ⟨_, rfl⟩
    | 1, hv => cases hv; exact ⟨_, rfl⟩
    | i + 2, hv => simp at hv
  refine ⟨_, [_, s.heap.objs.size], [_], _, _, _, _, rfl, Walks.tuple (A := A.in1) hh _ s.heap.objs.size (by rw [hsz]; exact Nat.ne_of_lt (Nat.lt_succ_self _)) #[Value.str (toS a) t, Value.str (toS b) u],
    ⟨⟨_, Heap.get?_push_size _ rfl, rfl, rfl⟩, hT.push _⟩, fun c hc => ?_, by simp, cmp_strs_gt (fun i => [a, b].getD i []) hval, fun v h' tk hP hk => ?_⟩
  · show c < ((s.heap.push _).push _).objs.size
    rw [Heap.size_push, hsz]
    rcases List.mem_cons.mp hc with rfl | hc
    · rw [hsz]; exact Nat.lt_succ_self _
    · rcases List.mem_cons.mp hc with rfl | hc
      · exact Nat.lt_succ_of_lt (Nat.lt_succ_self _)
      · cases hc
  · intro ht
    have hold : ∀ c o, s.heap.get? c = some o → h'.get? c = some o := fun c o e => by
      refine hk c o (fun hm => ?_) (Heap.get?_push_of_some _ (Heap.get?_push_of_some _ e))
      rcases List.mem_cons.mp hm with e1 | hm
      · have := Heap.lt_size e; rw [e1, hsz] at this; exact Nat.lt_irrefl _ (Nat.lt_of_succ_lt this)
      · cases hm
    have := h h' tk hold ht
    have hv : v = if a < b then Value.str (toS b) u else Value.str (toS a) t := by
      have hP' : (#[Value.str (toS a) t, Value.str (toS b) u])[argBest (fun i j => decide ([a, b].getD j [] < [a, b].getD i [])) 1]? = some v := hP
      by_cases hba : a < b
      · have e : argBest (fun i j => decide ([a, b].getD j [] < [a, b].getD i [])) 1 = 1 := by simp [argBest, hba]
        rw [e] at hP'
        simpa [hba] using hP'.symm
      · have e : argBest (fun i j => decide ([a, b].getD j [] < [a, b].getD i [])) 1 = 0 := by simp [argBest, hba]
        rw [e] at hP'
        simpa [hba] using hP'.symm
    rw [hv]; exact this
theorem fn_ok {b : Bf} {ds : List D} {d : D} {vs : List Value} (hh : A.handled = none) (hd : fnD b ds = some d) (c : Cn O s) (la : RepVs prog w O s.toks vs ds) (q : Res prog w O s d Q) : wpAny (model prog w) A (call (bfV b) vs) Q E s := by
  have two : ∀ {a : D} {us : List Value}, RepVs prog w O s.toks us [a] → ∃ u, us = [u] ∧ Lk prog w O s.heap s.toks u a := fun r => by
    cases r with | cons r1 r2 => cases r2; exact ⟨_, rfl, .of c.sub r1⟩
  match ds, la, hd with
  | [], la, hd => cases b <;> simp [fnD] at hd
  | [a], la, hd =>
    obtain ⟨u, rfl, l⟩ := two la
    exact fn1_ok hh hd c l q
  | [x, y], la, hd =>
    cases la with
    | cons r1 r2 =>
      obtain ⟨u2, rfl, l2⟩ := two r2
      have l1 : Lk prog w O s.heap s.toks _ _ := .of c.sub r1
      refine wpAny_with_toks (Nat.le_refl _) ?_
      cases b <;> cases x <;> simp only [fnD] at hd <;> (try (cases hd; done)) <;> cases y <;> simp only [fnD] at hd <;> (try (cases hd; done))
      · cases hd
        obtain ⟨t, rfl⟩ := l1.int
        obtain ⟨t', rfl⟩ := l2.int
        refine max_two_ints hh fun h' tk k ht => q.tok c k ht ?_
        split <;> exact .int _ _
      · cases hd
        obtain ⟨t, rfl, g1⟩ := l1.str
        obtain ⟨t', rfl, g2⟩ := l2.str
        refine wpAny_mono (max_two_strs (E := E) hh fun h' tk k ht => q.tok c k ht ?_) (fun _ _ h => h) fun _ _ h _ => h
        split
        · exact RepV.mono (Le.refl _) ht (.str _ _ g2)
        · exact RepV.mono (Le.refl _) ht (.str _ _ g1)
      · cases hd
        obtain ⟨t, rfl⟩ := l1.int
        obtain ⟨t', rfl⟩ := l2.int
        refine min_two_ints hh fun h' tk k ht => q.tok c k ht ?_
        split <;> exact .int _ _
      · cases hd
        obtain ⟨t, rfl, g1⟩ := l1.str
        obtain ⟨t', rfl, g2⟩ := l2.str
        refine wpAny_mono (min_two_strs (E := E) hh fun h' tk k ht => q.tok c k ht ?_) (fun _ _ h => h) fun _ _ h _ => h
        split
        · exact RepV.mono (Le.refl _) ht (.str _ _ g2)
        · exact RepV.mono (Le.refl _) ht (.str _ _ g1)
  | x :: y :: z :: r, la, hd => cases b <;> simp [fnD] at hd

/-- list(x), sorted(x): the new list, whoever then has it -/
theorem fnL_ok {b : Bf} {a : D} {ds : List D} {v : Value} (hb : b = .list ∨ b = .sorted) (hh : A.handled = none) (hd : fnD b [a] = some (.lst ds)) (c : Cn O s) (l : Lk prog w O s.heap s.toks v a) (q : ResL prog w O s ds Q) : wpAny (model prog w) A (call (bfV b) [v]) Q E s := by
  rcases hb with rfl | rfl
  · have fin : ∀ (us : List Value) (xs : List D), us.length ≤ sizeLine → RepVs prog w O s.toks us xs → ResL prog w O s xs Q → ∀ h' c', (∀ b o', s.heap.get? b = some o' → h'.get? b = some o') → h'.get? s.heap.objs.size = some { cls := .type "list", dict := none, data := .seq us.toArray c', slots := #[] } → Q (.ref s.heap.objs.size) { s with heap := h' } :=
      fun us xs hz r q h' c' kp e => q us h' s.toks _ c' kp (Nat.le_refl _) e hz (Nat.le_refl _) r
    cases a with
    | lst xs =>
      cases hd
      obtain ⟨p, us, k, rfl, e1, e2, r⟩ := l.list
      exact call_list_seq p (.inl rfl) e1 rfl rfl (fun h' c' kp e => fin us _ e2 r q h' c' kp e) (by rw [List.size_toArray]; exact e2)
    | tup xs =>
      cases hd
      obtain ⟨p, o, us, k, rfl, e1, e2, e3, e4, r⟩ := l.tuple
      exact call_list_seq p (.inr rfl) e1 e2 e3 (fun h' c' kp e => fin us _ e4 r q h' c' kp e) (by rw [List.size_toArray]; exact e4)
    | str x =>
      simp only [fnD] at hd
      split at hd
      · rename_i hx
        cases hd
        obtain ⟨t, rfl, _⟩ := l.str
        exact list_text hh (Nat.le_trans hx lim) c q
      · cases hd
    | _ => simp [fnD] at hd
  · cases a with
    | str x =>
      simp only [fnD] at hd
      split at hd
      · rename_i hx
        cases hd
        obtain ⟨t, rfl, _⟩ := l.str
        exact sorted_text hh hx c q
      · cases hd
    | _ => simp [fnD] at hd
theorem fnL_lst {b : Bf} {a d : D} (hb : b = .list ∨ b = .sorted) (hd : fnD b [a] = some d) : ∃ ds, d = .lst ds := by
  rcases hb with rfl | rfl
  · cases a <;> simp only [fnD] at hd <;> first | (cases hd; done) | (cases hd; exact ⟨_, rfl⟩) | (split at hd <;> cases hd; exact ⟨_, rfl⟩)
  · cases a <;> simp only [fnD] at hd <;> first | (cases hd; done) | (split at hd <;> cases hd; exact ⟨_, rfl⟩)

/-! ### isinstance -/
def tyN : Ty → String
  | .int => "int" | .bool => "bool" | .str => "str" | .tuple => "tuple" | .list => "list"
theorem isi_ok {K : PySem.W.Frag} {a : D} {v : Value} {T : Ty} (X : K.In s.heap) (c : Cn O s) (l : Lk prog w O s.heap s.toks v a) (q : Res prog w O s (.bl (isiD a T)) Q) : wpAny (model prog w) A (call (.builtin "isinstance") [v, .type (tyN T)]) Q E s := by
  refine wpAny_with_toks (Nat.le_refl _) ?_
  have go : ∀ {t : String} {H : Heap → Prop}, PySem.W.KitX K v (.type t) H → H s.heap → kitB t (tyN T) = some (isiD a T) → v ≠ .builtin "__main__.__loader__#opaque" →
      wpAny (model prog w) A (call (.builtin "isinstance") [v, .type (tyN T)]) (fun a s' => s.toks ≤ s'.toks → Q a s') (fun e s' => s.toks ≤ s'.toks → E e s') s := fun Z p e hx =>
    PySem.W.kia_one Z X p (kit_ty e) hx fun tk ht => q.tk c ht (.bl _)
  cases a with
  | non => cases l.non; exact go PySem.W.kitx_none True.intro (by cases T <;> decide +kernel) (fun z => nomatch z)
  | bl b => cases l.bl; exact go PySem.W.kitx_bool True.intro (by rw [show isiD (.bl b) T = isiD (.bl true) T by cases T <;> rfl]; cases T <;> decide +kernel) (fun z => nomatch z)
  | int i => obtain ⟨t, rfl⟩ := l.int; exact go PySem.W.kitx_int True.intro (by rw [show isiD (.int i) T = isiD (.int 0) T by cases T <;> rfl]; cases T <;> decide +kernel) (fun z => nomatch z)
  | str i => obtain ⟨t, rfl, _⟩ := l.str; exact go PySem.W.kitx_str True.intro (by rw [show isiD (.str i) T = isiD (.str []) T by cases T <;> rfl]; cases T <;> decide +kernel) (fun z => nomatch z)
  | tup xs => obtain ⟨p, o, us, k, rfl, e1, e2, e3, e4, r⟩ := l.tuple; exact go PySem.W.kitx_tuple ⟨o, e1, e2⟩ (by rw [show isiD (.tup xs) T = isiD (.tup []) T by cases T <;> rfl]; cases T <;> decide +kernel) (fun z => nomatch z)
  | lst xs => obtain ⟨p, us, k, rfl, e1, e2, r⟩ := l.list; exact go PySem.W.kitx_list ⟨_, e1, rfl⟩ (by rw [show isiD (.lst xs) T = isiD (.lst []) T by cases T <;> rfl]; cases T <;> decide +kernel) (fun z => nomatch z)
  | dic xs => obtain ⟨p, o, vs, rfl, e1, e2, e3, e4, r⟩ := l.dict; exact go PySem.W.kitx_dict ⟨o, e1, e4.1.1⟩ (by rw [show isiD (.dic xs) T = isiD (.dic []) T by cases T <;> rfl]; cases T <;> decide +kernel) (fun z => nomatch z)
theorem kit_two {K : PySem.W.Frag} {t a b : String} {x y : Bool} (h1 : kitB t a = some x) (h2 : kitB t b = some y) : PySem.W.kitAny K (.type t) [.type a, .type b] = some (x || y) := by
  refine kitAny_cons (kit_ty h1) (fun e => ?_) (fun e => by rw [e]; rfl)
  subst e
  exact kitAny_cons (kit_ty h2) (fun e => by rw [e]; exact kitAny_nil) (fun e => by rw [e]; rfl)
theorem isi2_ok {K : PySem.W.Frag} {a : D} {v : Value} {T U : Ty} {tp : Addr} {n : Nat} (X : K.In s.heap) (c : Cn O s) (l : Lk prog w O s.heap s.toks v a) (htp : s.heap.get? tp = some ⟨.type "tuple", none, .seq [Value.type (tyN T), .type (tyN U)].toArray n, #[]⟩) (q : Res prog w O s (.bl (isiD a T || isiD a U)) Q) : wpAny (model prog w) A (call (.builtin "isinstance") [v, .ref tp]) Q E s := by
  refine wpAny_with_toks (Nat.le_refl _) ?_
  have go : ∀ {t : String} {H : Heap → Prop}, PySem.W.KitX K v (.type t) H → H s.heap → (∀ T, kitB t (tyN T) = some (isiD a T)) → v ≠ .builtin "__main__.__loader__#opaque" →
      wpAny (model prog w) A (call (.builtin "isinstance") [v, .ref tp]) (fun a s' => s.toks ≤ s'.toks → Q a s') (fun e s' => s.toks ≤ s'.toks → E e s') s := fun Z p e hx =>
    PySem.W.kia_tup Z X p htp (kit_two (e T) (e U)) hx fun tk ht => q.tk c ht (.bl _)
  cases a with
  | non => cases l.non; exact go PySem.W.kitx_none True.intro (fun T => by cases T <;> decide +kernel) (fun z => nomatch z)
  | bl b => cases l.bl; exact go PySem.W.kitx_bool True.intro (fun T => by rw [show isiD (.bl b) T = isiD (.bl true) T by cases T <;> rfl]; cases T <;> decide +kernel) (fun z => nomatch z)
  | int i => obtain ⟨t, rfl⟩ := l.int; exact go PySem.W.kitx_int True.intro (fun T => by rw [show isiD (.int i) T = isiD (.int 0) T by cases T <;> rfl]; cases T <;> decide +kernel) (fun z => nomatch z)
  | str i => obtain ⟨t, rfl, _⟩ := l.str; exact go PySem.W.kitx_str True.intro (fun T => by rw [show isiD (.str i) T = isiD (.str []) T by cases T <;> rfl]; cases T <;> decide +kernel) (fun z => nomatch z)
  | tup xs => obtain ⟨p, o, us, k, rfl, e1, e2, e3, e4, r⟩ := l.tuple; exact go PySem.W.kitx_tuple ⟨o, e1, e2⟩ (fun T => by rw [show isiD (.tup xs) T = isiD (.tup []) T by cases T <;> rfl]; cases T <;> decide +kernel) (fun z => nomatch z)
  | lst xs => obtain ⟨p, us, k, rfl, e1, e2, r⟩ := l.list; exact go PySem.W.kitx_list ⟨_, e1, rfl⟩ (fun T => by rw [show isiD (.lst xs) T = isiD (.lst []) T by cases T <;> rfl]; cases T <;> decide +kernel) (fun z => nomatch z)
  | dic xs => obtain ⟨p, o, vs, rfl, e1, e2, e3, e4, r⟩ := l.dict; exact go PySem.W.kitx_dict ⟨o, e1, e4.1.1⟩ (fun T => by rw [show isiD (.dic xs) T = isiD (.dic []) T by cases T <;> rfl]; cases T <;> decide +kernel) (fun z => nomatch z)
end
end Mini
/-! Mini, exact: methods of texts. -/
namespace Mini
open PySem PySem.Spec PyProof.Rows L2

theorem replL_one (c : Nat) : ∀ l : Sg, StrLaws.replL [c] [] l = l.filter (· ≠ c)
  | [] => StrLaws.replL_nil
  | x :: r => by
    by_cases h : x = c
    · subst h
      rw [StrLaws.replL_hit (by simp) (by simp)]
      simp only [List.nil_append, List.length_singleton, List.drop_succ_cons, List.drop_zero]
      rw [replL_one x r]; simp
    · rw [StrLaws.replL_miss (by simpa using h), replL_one c r]
      simp [h]
theorem replace_sg (s : Sg) (c : Nat) : Txt.replace (toS s) ⟨#[c]⟩ ⟨#[]⟩ = toS (s.filter (· ≠ c)) := by
  have h := StrLaws.replace_list (x := toS s) (y := ⟨#[c]⟩) (z := ⟨#[]⟩) (by show 1 ≤ 1; exact Nat.le_refl _)
  have h2 : (Txt.replace (toS s) ⟨#[c]⟩ ⟨#[]⟩).cps.toList = s.filter (· ≠ c) := by
    rw [h, toS_cps]; exact replL_one c s
  have : ∀ a : Str, toS a.cps.toList = a := fun a => by unfold toS; simp
  rw [← h2, this]

open Builtin Builtin.Str StrLaws in
theorem occ_stay (s sub : Str) (hi a : Nat) : ∀ (l : List Nat) (f : Nat), (forIn l ((#[a] : Array Nat), f) (occBody s sub hi 1)).run.fst = #[a]
  | [], f => rfl
  | b :: l, f => by
    rw [List.forIn_cons]
    unfold occBody
    rw [if_neg (by rintro ⟨⟨⟨h, _⟩, _⟩, _⟩; exact absurd h (by simp))]
    exact occ_stay s sub hi a l f
open Builtin Builtin.Str StrLaws in
theorem occ_first (s sub : Str) (hi : Nat) (p : Nat → Bool) (hp : ∀ i, p i = true ↔ (i + sub.length ≤ hi ∧ subAt s sub i = true)) : ∀ (l : List Nat) (free : Nat), (∀ i ∈ l, free ≤ i) →
    (forIn l ((#[] : Array Nat), free) (occBody s sub hi 1)).run.fst.toList = (l.find? p).toList
  | [], free, _ => rfl
  | a :: l, free, hf => by
    rw [List.forIn_cons, List.find?_cons]
    unfold occBody
    have ha : free ≤ a := hf a (List.mem_cons_self ..)
    by_cases hc : a + sub.length ≤ hi ∧ subAt s sub a = true
    · rw [if_pos ⟨⟨⟨by simp, ha⟩, hc.1⟩, hc.2⟩, (hp a).mpr hc]
      have := occ_stay s sub hi a l (a + sub.length)
      show (forIn l ((#[].push a : Array Nat), a + sub.length) (occBody s sub hi 1)).run.fst.toList = [a]
      rw [show (#[] : Array Nat).push a = #[a] from rfl, this]
    · rw [if_neg (fun h => hc ⟨h.1.2, h.2⟩)]
      have : p a = false := by rw [← Bool.not_eq_true]; exact fun h => hc ((hp a).mp h)
      rw [this]
      exact occ_first s sub hi p hp l free fun i hi' => hf i (List.mem_cons_of_mem _ hi')
theorem place_find (c : Nat) : ∀ (l : Sg) (a : Nat) (p : Nat → Bool), (∀ k, p (a + k) = decide (l[k]? = some c)) → (List.range' a (l.length + 1)).find? p = (placeOf c l).map (· + a)
  | [], a, p, h => by
    have := h 0
    simp [List.range', placeOf] at this ⊢
    exact this
  | y :: r, a, p, h => by
    have h0 := h 0
    rw [List.length_cons, List.range'_succ, List.find?_cons]
    by_cases e : y = c
    · subst e
      have : p a = true := by simpa using h0
      rw [this]; simp [placeOf]
    · have : p a = false := by simpa [e] using h0
      rw [this]
      have ih := place_find c r (a + 1) p fun k => by
        have := h (k + 1)
        rw [show a + 1 + k = a + (k + 1) by omega, this]; simp
      show (List.range' (a + 1) (r.length + 1)).find? p = _
      rw [ih]
      simp only [placeOf, if_neg e, Option.map_map]
      congr 1
      funext k
      show k + (a + 1) = k + 1 + a
      omega
theorem occ_place (s : Sg) (c : Nat) : Builtin.Str.occurrences (toS s) ⟨#[c]⟩ 0 (toS s).length 1 = (placeOf c s).toList := by
  rw [StrLaws.occ_eq]
  have h := occ_first (toS s) ⟨#[c]⟩ (toS s).length (fun i => decide (s[i]? = some c)) (fun i => by
    rw [StrLaws.subAt_one, toS_cps, decide_eq_true_eq]) (List.range' 0 ((toS s).length + 1 - 0)) 0 (fun _ _ => Nat.zero_le _)
  rw [h, toS_len, Nat.sub_zero, place_find c s 0 _ (fun k => by rw [Nat.zero_add])]
  simp

theorem join_sg (sep : Sg) : ∀ xs : List Sg, Str.join (toS sep) (xs.map toS) = toS (joinS sep xs)
  | [] => rfl
  | [x] => rfl
  | x :: y :: r => by
    have ih := join_sg sep (y :: r)
    show toS x ++ toS sep ++ Str.join (toS sep) (toS y :: r.map toS) = _
    rw [show toS y :: r.map toS = (y :: r).map toS from rfl, ih, toS_app, toS_app]; rfl

section
variable {prog : Program} {w : World} {A : Around} {E : Value → Shared → Prop} {O : Om} {s : Shared} {Q : Value → Shared → Prop}
def mtN : Mt → String
  | .join => "str.join" | .index => "str.index" | .count => "str.count" | .get1 => "dict.get" | .get2 => "dict.get"
theorem join_post {sep : Sg} (lp : List (Str × Tok)) (bs : List Sg) (h2 : lp.map (·.1) = bs.map toS) (h3 : ∀ p ∈ lp, p.1.length = 1 → tokOk s.toks p.2) (c : Cn O s)
    (hfit : Builtin.Str.tooLong ((lp.map (·.1)).toArray.foldl (· + ·.length + (toS sep).length) 0) = false) (q : Res prog w O s (.str (joinS sep bs)) Q) : (joinMade (toS sep) lp).post (fun v s' => wants Q E (.ok (.ret v)) s') s := by
  match lp, bs, h2, h3, hfit, q with
  | [], [], _, _, _, q => exact ⟨by show 0 ≤ _; exact Nat.zero_le _, q.strNew c⟩
  | [], b :: bs, h2, _, _, _ => simp at h2
  | [p], [], h2, _, _, _ => simp at h2
  | [pr], [b], h2, h3, _, q =>
    have e : pr.1 = toS b := by simpa using h2
    have h3' := h3 pr (List.mem_cons_self ..)
    show Q (.str pr.1 pr.2) s
    rw [e] at h3' ⊢
    rw [toS_len] at h3'
    exact q.now c (.str _ _ h3')
  | [p], b :: b2 :: br, h2, _, _, _ => simp at h2
  | p1 :: p2 :: pr, [], h2, _, _, _ => simp at h2
  | p1 :: p2 :: pr, [b], h2, _, _, _ => simp at h2
  | p1 :: p2 :: pr, b1 :: b2 :: br, h2, h3, hfit, q =>
    have e : Builtin.Str.glued (toS sep) ((p1 :: p2 :: pr).map (·.1)) = toS (joinS sep (b1 :: b2 :: br)) := by
      rw [StrLaws.glued_eq_join, h2, join_sg]
    refine ⟨joinFit_length hfit, ?_⟩
    show Q (.str (Builtin.Str.glued (toS sep) ((p1 :: p2 :: pr).map (·.1))) s.toks) { s with toks := s.toks + 1 }
    rw [e]
    exact q.strNew c
theorem strs_signs : ∀ x : Sg, strsD (x.map fun c => D.str [c]) = some (x.map fun c => [c])
  | [] => rfl
  | c :: x => by simp only [List.map_cons, strsD, strs_signs x, Option.map]
theorem joinMade_gives (sep : Str) (l : List (Str × Tok)) (h : Builtin.Str.tooLong ((l.map (·.1)).toArray.foldl (· + ·.length + sep.length) 0) = false) : Gives (joinTail sep (strValues l)) (joinMade sep l) := by
  have g0 := gives_joinTail sep l h
  cases l with
  | nil => exact g0
  | cons p r => cases r with
    | nil => exact g0
    | cons q r' => exact g0
theorem mt_ok {m : Mt} {o d : D} {ds : List D} {v : Value} {vs : List Value} (hh : A.handled = none) (hd : mtD m o ds = some d) (c : Cn O s) (l : Lk prog w O s.heap s.toks v o) (la : RepVs prog w O s.toks vs ds) (q : Res prog w O s d Q) :
    wpAny (model prog w) A (call (.builtin (mtN m)) (v :: vs)) Q E s := by
  have hsl := sizeLine_eq
  cases m with
  | join =>
    cases o with
    | str sep =>
      match ds, la, hd with
      | [.lst xs], .cons r1 .nil, hd =>
        obtain ⟨t, rfl, _⟩ := l.str
        obtain ⟨p, us, k, rfl, e1, e2, r⟩ := (Lk.of c.sub r1).list
        simp only [mtD, Option.bind_eq_some_iff] at hd
        obtain ⟨bs, hb, hd⟩ := hd
        split at hd
        · rename_i hz
          cases hd
          obtain ⟨lp, h1, h2, h3⟩ := strs_of r hb
          subst h1
          have hz' : (bs.map List.length).sum + bs.length * sep.length ≤ 16777216 := Nat.le_trans hz (by decide)
          have hfit : Builtin.Str.tooLong ((lp.map (·.1)).toArray.foldl (· + ·.length + (toS sep).length) 0) = false := by
            rw [StrLaws.joinTotal, h2, toS_len, List.length_map, List.map_map]
            have : (fun x : Str => x.length) ∘ toS = List.length := by funext x; exact toS_len x
            rw [this]
            unfold Builtin.Str.tooLong sizeLine
            exact decide_eq_false (by omega)
          refine call_meets F.slot_str_join (typeIs_str _ _ _) F.entry_str_join (F.args_str_join_2 _ _) (meets_str_join_list (toS sep) t p lp hfit) ⟨isL e1, ?_⟩
          exact join_post lp bs h2 h3 c hfit q
        · cases hd
      | [.str x], .cons r1 .nil, hd =>
        obtain ⟨t, rfl, _⟩ := l.str
        obtain ⟨t', rfl, _⟩ := (Lk.of c.sub r1).str
        simp only [mtD] at hd
        split at hd
        · rename_i hz
          cases hd
          have hx : x.length ≤ sizeLine := Nat.le_trans (Nat.le_trans (Nat.le_add_right _ _) hz) lim
          refine wpAny_call (codeAny_call_builtin F.slot_str_join.plain F.entry_str_join (F.slot_str_join.check _ _ _ _ _ _ _ _ (typeIs_str _ _ _) (F.args_str_join_2 _ _) ?_))
          rw [join_tree_str]
          refine wpAny_bind (wpAny_typeOf (typeIs_str s (toS x) t') ?_)
          show wpAny _ _ ((pyIter (.str (toS x) t')).tryCatch _ >>= fun it => collect it >>= fun items => joinTail (toS sep) items) _ _ s
          refine wpAny_bind (wpAny_tryCatch (tx_iter fun o hst => ?_))
          refine wpAny_bind (tx_collectI (A := A.in1) hh hst hx fun h' t2 vs kp a1 a2 => ?_)
          have kp' : Kept s.heap h' := fun b ob e => kp b ob (Nat.ne_of_lt (Heap.lt_size e)) (Heap.get?_push_of_some _ e)
          have c' : Cn O { s with heap := h', toks := t2 } := ⟨fun b ob e => kp' b ob (c.sub b ob e), c.bare, Nat.le_trans c.tk a1⟩
          have q' : Res prog w O { s with heap := h', toks := t2 } (.str (joinS sep (x.map fun c => [c]))) Q := fun u O' s' g r => q u O' s' ((Gr.same c.sub c.bare kp' a1).trans g) r
          obtain ⟨lp, h1, h2, h3⟩ := strs_of (prog := prog) (w := w) (O := O) (a2.rep c.tk) (strs_signs x)
          subst h1
          have hz' : x.length + x.length * sep.length ≤ 16777216 := Nat.le_trans hz (by decide)
          have hfit : Builtin.Str.tooLong ((lp.map (·.1)).toArray.foldl (· + ·.length + (toS sep).length) 0) = false := by
            rw [StrLaws.joinTotal, h2, toS_len, List.length_map, List.length_map, List.map_map, List.map_map]
            have : (((fun x : Str => x.length) ∘ toS) ∘ fun c : Nat => [c]) = fun _ => 1 := by funext c; rfl
            rw [this]
            have s1 : ∀ x : Sg, (x.map fun _ => 1).sum = x.length := fun x => by induction x with
              | nil => rfl
              | cons a x ih => simp only [List.map_cons, List.sum_cons, List.length_cons, ih]; omega
            rw [s1]
            unfold Builtin.Str.tooLong sizeLine
            exact decide_eq_false (by omega)
          exact joinMade_gives (toS sep) lp hfit prog w A (wants Q E) _ (join_post lp _ h2 h3 c' hfit q')
        · cases hd
    | _ => simp [mtD] at hd
  | index =>
    cases o with
    | str x =>
      match ds, la, hd with
      | [.str [ch]], .cons r1 .nil, hd =>
        obtain ⟨t, rfl, _⟩ := l.str
        obtain ⟨t', rfl, _⟩ := (Lk.of c.sub r1).str
        simp only [mtD, Option.map_eq_some_iff] at hd
        obtain ⟨j, hj, rfl⟩ := hd
        exact call_gives F.slot_str_index (typeIs_str _ _ _) F.entry_str_index (F.args_str_index_2 _ _) (gives_str_index (toS x) ⟨#[ch]⟩ t t' j [] (by rw [occ_place, hj]; rfl)) (q.tk c (Nat.le_succ _) (.int _ _))
    | _ => simp [mtD] at hd
  | _ => simp [mtD] at hd
theorem strne (c : Nat) : ((⟨#[c]⟩ : Str) == (⟨#[]⟩ : Str)) = false := by
  rw [beq_eq_false_iff_ne]; intro h; cases h
theorem rep_ok {x y d : D} {v u : Value} {t0 : Nat} (hd : repD x y = some d) (c : Cn O s) (l : RepV prog w O t0 v x) (r : RepV prog w O t0 u y) (h0 : t0 ≤ s.toks) (q : Res prog w O { s with toks := s.toks + 1 } d Q) :
    wpAny (model prog w) A (call (.builtin "str.replace") [v, u, .str ⟨#[]⟩ s.toks]) Q E { s with toks := s.toks + 1 } := by
  cases l with
  | str sx t ht =>
    cases r with
    | str sy t1 h1 =>
      match sy, hd, h1 with
      | [ch], hd, h1 =>
        simp only [repD] at hd
        split at hd
        · rename_i hx
          cases hd
          obtain ⟨a1, a2⟩ := h1 rfl
          have c' : Cn O { s with toks := s.toks + 1 } := ⟨c.sub, c.bare, Nat.le_succ_of_le c.tk⟩
          have hne : t1 ≠ s.toks := Nat.ne_of_lt (Nat.lt_of_lt_of_le a2 h0)
          have hl : (toS (sx.filter (· ≠ ch))).length ≤ sizeLine := by
            rw [toS_len]; exact Nat.le_trans (List.length_filter_le ..) (Nat.le_trans hx lim)
          have hs0 : s.toks ≠ 0 := Nat.one_le_iff_ne_zero.mp c.tk
          refine call_gives F.slot_str_replace (typeIs_str _ _ _) F.entry_str_replace (F.args_str_replace_3 _ _ _) (gives_str_replace (toS sx) ⟨#[ch]⟩ ⟨#[]⟩ t t1 s.toks fun _ => ⟨by simp [a1, hs0], by simp [hne], strne ch, ?_⟩) ?_
          · unfold Builtin.Str.tooLong
            have hx' := Nat.le_trans hx lim
            refine decide_eq_false ?_
            rw [toS_len]
            show ¬ (sx.length + _ * 0 > sizeLine)
            omega
          · have e := replace_sg sx ch
            unfold Txt.replace at e
            by_cases cc : ((Builtin.Str.occurrences (toS sx) ⟨#[ch]⟩ 0 (toS sx).length ((toS sx).length + 1)).isEmpty || ((⟨#[ch]⟩ : Str).length == 0 && (⟨#[]⟩ : Str).length == 0)) = true
            · rw [if_pos cc] at e ⊢
              rw [← toS_inj e] at q
              exact q.now c' (.str _ _ fun h => ⟨(ht h).1, Nat.lt_of_lt_of_le (ht h).2 (Nat.le_succ_of_le h0)⟩)
            · rw [if_neg cc] at e ⊢
              rw [e]
              exact ⟨hl, q.strNew c'⟩
        · cases hd
      | [], hd, h1 => simp [repD] at hd
      | _ :: _ :: _, hd, h1 => simp [repD] at hd
    | _ => simp [repD] at hd
  | _ => simp [repD] at hd
end
end Mini
/-! Mini, exact: what an expression's run promises; the matcher of expressions. -/
namespace Mini
open PySem PySem.Spec PyProof.Rows L2

/-! ### frames -/
def ownA (ρ : En) (τ : List (Option Value)) (b : Addr) : Prop := ∃ (i : Nat) (x : Sl), ρ[i]? = some x ∧ ownS x = true ∧ τ[i]? = some (some (Value.ref b))
structure Ext (X : Addr → Prop) (ρ : En) (τ : List (Option Value)) (O : Om) (s : Shared) (ρ' : En) (τ' : List (Option Value)) (O' : Om) (s' : Shared) : Prop where
  le : Le O O'
  tk : s.toks ≤ s'.toks
  kept : ∀ b o, ¬ ownA ρ τ b → ¬ X b → s.heap.get? b = some o → s'.heap.get? b = some o
  nw : ∀ b o, ¬ ownA ρ τ b → ¬ X b → s.heap.get? b = some o → O' b = O b
  ow : ∀ b, ownA ρ' τ' b → ownA ρ τ b
  st : ∀ b o, ¬ X b → s.heap.get? b = some o → ∃ o', s'.heap.get? b = some o'
def NoX : Addr → Prop := fun _ => False
section
variable {X : Addr → Prop} {ρ ρ' ρ'' : En} {τ τ' τ'' : List (Option Value)} {O O' O'' : Om} {s s' s'' : Shared}
theorem Ext.refl : Ext X ρ τ O s ρ τ O s := ⟨Le.refl _, Nat.le_refl _, fun _ _ _ _ e => e, fun _ _ _ _ _ => rfl, fun _ h => h, fun _ o _ e => ⟨o, e⟩⟩
theorem Ext.trans (a : Ext X ρ τ O s ρ' τ' O' s') (b : Ext X ρ' τ' O' s' ρ'' τ'' O'' s'') : Ext X ρ τ O s ρ'' τ'' O'' s'' := by
  refine ⟨a.le.trans b.le, Nat.le_trans a.tk b.tk, fun c o n x e => ?_, fun c o n x e => ?_, fun c h => a.ow c (b.ow c h), fun c o x e => ?_⟩
  · exact b.kept c o (fun h => n (a.ow c h)) x (a.kept c o n x e)
  · obtain ⟨o', e'⟩ := a.st c o x e
    exact (b.nw c o' (fun h => n (a.ow c h)) x e').trans (a.nw c o n x e)
  · obtain ⟨o', e'⟩ := a.st c o x e
    exact b.st c o' x e'
theorem Ext.gr (g : Gr O s O' s') : Ext X ρ τ O s ρ τ O' s' := ⟨g.le, g.tk, fun b o _ _ e => g.kept b o e, fun b o _ _ e => g.nw b o e, fun _ h => h, fun b o _ e => ⟨o, g.kept b o e⟩⟩
theorem Ext.weak (a : Ext NoX ρ τ O s ρ' τ' O' s') : Ext X ρ τ O s ρ' τ' O' s' := ⟨a.le, a.tk, fun b o n _ e => a.kept b o n (fun h => h) e, fun b o n _ e => a.nw b o n (fun h => h) e, a.ow, fun b o _ e => a.st b o (fun h => h) e⟩
theorem Ext.st' (a : Ext NoX ρ τ O s ρ' τ' O' s') : ∀ b o, s.heap.get? b = some o → ∃ o', s'.heap.get? b = some o' := fun b o e => a.st b o (fun h => h) e
end

/-! ### what is known of the program -/
structure Tb where
  gn : Nat → Option Str
  fn : Nat → Option Str
  iop : Nat → Option Nat
def blts : List Str := ["len", "sorted", "sum", "any", "all", "tuple", "list", "int", "max", "min", "abs", "isinstance", "bool", "str", "range", "enumerate", "zip"]
/-- what a call may change -/
structure GrX (po : Option Addr) (O : Om) (s : Shared) (O' : Om) (s' : Shared) : Prop where
  kept : ∀ b o, po ≠ some b → s.heap.get? b = some o → s'.heap.get? b = some o
  le : Le O O'
  nw : ∀ b o, s.heap.get? b = some o → O' b = O b
  sub : ∀ b o, O' b = some o → s'.heap.get? b = some o
  tk : s.toks ≤ s'.toks
  bare : AllBare s'.gens
  os : s'.os = s.os
def ArgR (P : Program) (w : World) (O : Om) (n : Nat) (p : Option Addr) (q : Option Nat) (us : List Value) (ds : List D) : Prop :=
  match p, q with
  | none, none => RepVs P w O n us ds
  | some p, some q => us[q]? = some (.ref p) ∧ RepVs P w O n (us.eraseIdx q) ds
  | _, _ => False
def IoV (P : Program) (w : World) (O : Om) (n : Nat) (h : Heap) : Option Addr → Option D → Prop
  | none, none => True
  | some p, some d => O p = none ∧ OwnV P w O n p (h.get? p) d
  | _, _ => False
def CallZ (C : Cz) (Φ : Fn) (f : Nat) (a : Addr) (q : Option Nat) : Prop :=
  ∀ (O : Om) (s : Shared) (us : List Value) (ds : List D) (p : Option Addr) (io : Option D) (r : D) (io' : Option D) (Q E : Value → Shared → Prop),
    Kept C.base s.heap → AllBare s.gens → 1 ≤ s.toks → s.os = C.os → (∀ b o, O b = some o → s.heap.get? b = some o) → Le C.O0 O → (∀ b, p = some b → C.base.get? b = none) →
    ArgR C.prog C.w O s.toks p q us ds → IoV C.prog C.w O s.toks s.heap p io → Φ f ds io = some (r, io') →
    (∀ u O' s', GrX p O s O' s' → RepV C.prog C.w O' s'.toks u r → IoV C.prog C.w O' s'.toks s'.heap p io' → Q u s') →
    wpAny (model C.prog C.w) C.A (call (.ref a) us) Q E s
structure Hy (C : Cz) (T : Tb) (G : Nat → Option D) (Φ : Fn) : Prop where
  un : C.A.units + 65 < cLine
  t1 : 1 ≤ C.t1
  glob : ∀ g d x, G g = some d → T.gn g = some x → ∃ u, C.mg x = some u ∧ RepV C.prog C.w C.O0 0 u d
  blt : ∀ x, x ∈ blts → C.mg x = none
  call : ∀ f x, T.fn f = some x → ∃ a, C.mg x = some (.ref a) ∧ PySem.W.keepIn C.K (.ref a) = true ∧ CallZ C Φ f a (T.iop f)

/-! ### the matcher -/
def visB (sc : Scope) (x : Str) : Bool := match sc.names.lookup x with
  | some .local => true | some .cell => true | some .free => true | _ => false
theorem visB_ok {sc : Scope} {x : Str} (h : visB sc x = true) : Vis sc x := by
  unfold visB at h; unfold Vis
  split at h
  · exact .inl (by assumption)
  · exact .inr (.inl (by assumption))
  · exact .inr (.inr (by assumption))
  · cases h
def glB (sc : Scope) (x : Str) : Bool := decide (sc.names.lookup x = some .globalImplicit)
def okN (x : Str) : Bool := !(x == ("__debug__" : Str)) && !(x == ("__classdict__" : Str)) && decide (x ≠ "__name__")
def mN (N : List Str) (sc : Scope) (i : Nat) (x : Str) : Bool := decide (N[i]? = some x) && visB sc x && okN x
def noStar : Expr → Bool
  | .Starred _ _ => false
  | _ => true
def plainIx : Expr → Bool
  | .Slice _ _ _ _ => false
  | _ => true
def attrOk : Expr → Bool
  | .Call (.Name _ _) [] [] _ => false
  | _ => true
def bfS : Bf → Str
  | .len => "len" | .sorted => "sorted" | .sum => "sum" | .any => "any" | .all => "all" | .tuple => "tuple" | .list => "list" | .int => "int" | .max => "max" | .min => "min" | .abs => "abs"
def tyS : Ty → Str
  | .int => "int" | .bool => "bool" | .str => "str" | .tuple => "tuple" | .list => "list"
def mtS : Mt → Str
  | .join => "join" | .index => "index" | .count => "count" | .get1 => "get" | .get2 => "get"
def mtok : Mt → Bool
  | .join => true | .index => true | _ => false
def opB (a b : Operator) : Bool := decide (a = b)
def cpB (a b : CmpOp) : Bool := decide (a = b)
def mS (N : List Str) (sc : Scope) (fnB : Str → Bool) (i : Nat) (x : Str) : Bool := decide (N[i]? = some x) && (decide (sc.names.lookup x = some .local) || (decide (sc.names.lookup x = some .cell) && fnB x))
def mSs (N : List Str) (sc : Scope) (fnB : Str → Bool) : List Nat → List Expr → Bool
  | [], [] => true
  | i :: is, .Name x _ :: es => mS N sc fnB i x && mSs N sc fnB is es
  | _, _ => false
def mTg (N : List Str) (sc : Scope) (fnB : Str → Bool) : List Nat → Expr → Bool
  | [i], .Name x _ => mS N sc fnB i x
  | i :: j :: is, .Tuple es _ _ => mSs N sc fnB (i :: j :: is) es
  | _, _ => false
/-- the block's own names with their places -/
def ownP (N : List Str) (own : List Nat) : List (Str × Nat) := own.filterMap fun i => (N[i]?).map fun x => (x, i)
def noSet : Expr → Bool
  | .Set _ _ _ => false
  | _ => true
def blkB (N : List Str) (sc scope : Scope) (own tg : List Nat) (tgx : Expr) : Bool :=
  blkC N sc scope (ownP N own) && decide ((ownP N own).map (·.2) = own) && mTg N (relS scope sc) (fun x => scope.names.lookup x == some .cell) tg tgx && tg.all fun i => decide (i ∈ own)
mutual
def mE (N : List Str) (T : Tb) (sc : Scope) : E → Expr → Bool
  | .var i, .Name x _ => mN N sc i x
  | .brw i, .Name x _ => mN N sc i x
  | .mv i, .Name x _ => mN N sc i x
  | .int n, .Constant (.int m) _ _ => decide (n = m)
  | .str s, .Constant (.str x) _ _ => decide (x.cps.toList = s)
  | .bl b, .Constant (.bool c) _ _ => b == c
  | .non, .Constant .none _ _ => true
  | .glob g, .Name x _ => glB sc x && okN x && decide (T.gn g = some x)
  | .tup es, .Tuple xs _ _ => noIo es && mEs N T sc es xs
  | .lst es, .List xs _ => noIo es && mEs N T sc es xs
  | .dct0, .Dict [] [] _ => true
  | .bin op a b, .BinOp x o y _ => opB (mop op) o && mE N T sc a x && mE N T sc b y
  | .neg a, .UnaryOp .USub x _ => mE N T sc a x
  | .not a, .UnaryOp .Not x _ => mE N T sc a x
  | .cmp op a b, .Compare x [o] [y] _ => cpB (mcop op) o && mE N T sc a x && mE N T sc b y && !behindInMarks o y
  | .chain o1 o2 a b c, .Compare x [p, q] [y, z] _ => cpB (mcop o1) p && cpB (mcop o2) q && mE N T sc a x && mE N T sc b y && mE N T sc c z && !lastMarks [p, q] [y, z] && !isBrw a && !isBrw b && !isBrw c
  | .and a b, .BoolOp .And [x, y] _ => mE N T sc a x && mE N T sc b y
  | .and a b, .BoolOp .And (x :: y :: z :: r) p => mE N T sc a x && mE N T sc b (.BoolOp .And (y :: z :: r) p)
  | .or a b, .BoolOp .Or [x, y] _ => mE N T sc a x && mE N T sc b y
  | .or a b, .BoolOp .Or (x :: y :: z :: r) p => mE N T sc a x && mE N T sc b (.BoolOp .Or (y :: z :: r) p)
  | .ite c a b, .IfExp x y z _ => mE N T sc c x && mE N T sc a y && mE N T sc b z
  | .idx a i, .Subscript x y _ => mE N T sc a x && mE N T sc i y && plainIx y
  | .slc a lo hi, .Subscript x (.Slice l h none _) _ => (!isBrw a || (pureO lo && pureO hi)) && mE N T sc a x && mOe N T sc lo l && mOe N T sc hi h
  | .rev a, .Subscript x (.Slice none none (some (.UnaryOp .USub (.Constant (.int 1) _ _) _)) _) _ => mE N T sc a x
  | .call f es, .Call (.Name x _) xs [] _ => glB sc x && okN x && decide (T.fn f = some x) && decide (T.iop f = ioPos es) && oneIo es && mEs N T sc es xs
  | .fn b es, .Call (.Name x _) xs [] _ => glB sc x && okN x && decide (x = bfS b) && noIo es && mEs N T sc es xs && !xs.isEmpty
  | .isi a t, .Call (.Name x _) [y, .Name z _] [] _ => glB sc x && okN x && decide (x = "isinstance") && glB sc z && okN z && decide (z = tyS t) && noStar y && mE N T sc a y
  | .isi2 a t u, .Call (.Name x _) [y, .Tuple [.Name z _, .Name z2 _] _ _] [] _ => glB sc x && okN x && decide (x = "isinstance") && glB sc z && okN z && decide (z = tyS t) && glB sc z2 && okN z2 && decide (z2 = tyS u) && noStar y && mE N T sc a y
  | .popa i e, .Call (.Attribute (.Name nm _) an ap) [y] [] cp => mN N sc i nm && decide (an = "pop") && (ap.endLine == cp.line) && noStar y && mE N T sc e y
  | .popl i, .Call (.Attribute (.Name nm _) an ap) [] [] cp => mN N sc i nm && decide (an = "pop") && (ap.endLine == cp.line)
  | .mt m o es, .Call (.Attribute x nm ap) xs [] cp => mtok m && decide (nm = mtS m) && (ap.endLine == cp.line) && decide (xs.length < 29) && attrOk x && !isBrw o && mE N T sc o x && noIo es && mEs N T sc es xs && !xs.isEmpty
  | .rep o e, .Call (.Attribute x nm ap) [y, .Constant (.str z) _ _] [] cp => decide (nm = "replace") && (ap.endLine == cp.line) && attrOk x && !isBrw o && !isBrw e && mE N T sc o x && noStar y && mE N T sc e y && decide (z.cps.toList = [])
  | .comp own elt tg it c, .ListComp x [⟨tgx, ix, ifs, 0⟩] scope _ => blkB N sc scope own tg tgx && noSet ix && mI N T sc it tgx ix && mOc N T (relS scope sc) c ifs && mE N T (relS scope sc) elt x
  | .dcomp own k v tg it c, .DictComp x y [⟨tgx, ix, ifs, 0⟩] scope _ => blkB N sc scope own tg tgx && noSet ix && mI N T sc it tgx ix && mOc N T (relS scope sc) c ifs && mE N T (relS scope sc) k x && mE N T (relS scope sc) v y
  | _, _ => false
def mEs (N : List Str) (T : Tb) (sc : Scope) : Es → List Expr → Bool
  | .nil, [] => true
  | .cons e es, x :: xs => noStar x && mE N T sc e x && mEs N T sc es xs
  | .io i es, .Name x _ :: xs => mN N sc i x && noIo es && mEs N T sc es xs
  | .fr, [.Dict [] [] _] => true
  | _, _ => false
def mOe (N : List Str) (T : Tb) (sc : Scope) : Oe → Option Expr → Bool
  | .none, none => true
  | .some e, some x => mE N T sc e x
  | _, _ => false
def mOc (N : List Str) (T : Tb) (sc : Scope) : Oe → List Expr → Bool
  | .none, [] => true
  | .some e, [x] => mE N T sc e x
  | _, _ => false
def mI (N : List Str) (T : Tb) (sc : Scope) : It → Expr → Expr → Bool
  | .seq e, _, x => mE N T sc e x
  | .range1 a, _, .Call (.Name nm _) [x] [] _ => glB sc nm && okN nm && decide (nm = "range") && noStar x && mE N T sc a x
  | .range2 a b, _, .Call (.Name nm _) [x, y] [] _ => glB sc nm && okN nm && decide (nm = "range") && noStar x && noStar y && mE N T sc a x && mE N T sc b y
  | .enum a, .Tuple _ _ _, .Call (.Name nm _) [x] [] _ => glB sc nm && okN nm && decide (nm = "enumerate") && noStar x && mE N T sc a x
  | _, _, _ => false
end

/-! ### what is promised -/
/-- a value as an expression gives it: an own list as it stands -/
def Vl (C : Cz) (e : E) (ρ : En) (τ : List (Option Value)) (O : Om) (n : Nat) (u : Value) (d : D) : Prop := match e with
  | .brw i => getOwn ρ i = some d ∧ τ[i]? = some (some u)
  | _ => RepV C.prog C.w O n u d
theorem Vl.rep {C : Cz} {e : E} {ρ : En} {τ : List (Option Value)} {O : Om} {n : Nat} {u : Value} {d : D} (h : Vl C e ρ τ O n u d) (b : isBrw e = false) : RepV C.prog C.w O n u d := by
  cases e <;> first | exact h | (cases b)
theorem Vl.of {C : Cz} {e : E} {ρ : En} {τ : List (Option Value)} {O : Om} {n : Nat} {u : Value} {d : D} (h : RepV C.prog C.w O n u d) (b : isBrw e = false) : Vl C e ρ τ O n u d := by
  cases e <;> first | exact h | (cases b)
theorem Vl.lk {C : Cz} {B : Bk} {po : Option Addr} {e : E} {ρ : En} {τ : List (Option Value)} {O : Om} {s : Shared} {u : Value} {d : D} (S : Sz C B po ρ τ O s) (h : Vl C e ρ τ O s.toks u d) : Lk C.prog C.w O s.heap s.toks u d := by
  by_cases b : isBrw e = true
  · cases e <;> try (cases b)
    obtain ⟨h1, h2⟩ := h
    obtain ⟨p, a1, _, _, _, _, a6⟩ := S.own h1
    rw [h2] at a1; cases a1
    exact a6.lk
  · exact .of S.sub (h.rep (by simpa using b))
structure PEz (C : Cz) (G : Nat → Option D) (Φ : Fn) (e : E) (x : Expr) : Prop where
  run : ∀ (B : Bk) (po : Option Addr) (ρ : En) (τ : List (Option Value)) (O : Om) (s : Shared) (Q E : Value → Shared → Prop) (d : D) (ρ' : En), Sz C B po ρ τ O s → ev G Φ e ρ = some (d, ρ') →
    (∀ u O' s', Sz C B po ρ' τ O' s' → Ext NoX ρ τ O s ρ' τ O' s' → Vl C e ρ' τ O' s'.toks u d → Q u s') → wpAny (model C.prog C.w) C.A (eval x C.env) Q E s
structure PTz (C : Cz) (G : Nat → Option D) (Φ : Fn) (e : E) (x : Expr) : Prop where
  run : ∀ (wh : Sem Value) (B : Bk) (po : Option Addr) (ρ : En) (τ : List (Option Value)) (O : Om) (s : Shared) (Q : Bool → Shared → Prop) (E : Value → Shared → Prop) (b : Bool) (ρ' : En), Sz C B po ρ τ O s → ev G Φ e ρ = some (.bl b, ρ') →
    (wh = eval x C.env) → (∀ O' s', Sz C B po ρ' τ O' s' → Ext NoX ρ τ O s ρ' τ O' s' → Q b s') → wpAny (model C.prog C.w) C.A (isTrue x C.env wh) Q E s
/-- an argument list's values -/
def ArgP (C : Cz) (B : Bk) (ρ : En) (τ : List (Option Value)) (O : Om) (s : Shared) (h0 : Heap) : Es → List Value → List D → Prop
  | .nil, us, ds => us = [] ∧ ds = []
  | .cons _ es, us, ds => ∃ u us' d ds', us = u :: us' ∧ ds = d :: ds' ∧ RepV C.prog C.w O s.toks u d ∧ ArgP C B ρ τ O s h0 es us' ds'
  | .io i _, us, ds => ∃ p us', us = .ref p :: us' ∧ τ[i]? = some (some (Value.ref p)) ∧ RepVs C.prog C.w O s.toks us' ds
  | .fr, us, ds => ∃ p, us = [.ref p] ∧ ds = [] ∧ h0.get? p = none ∧ O p = none ∧ B p = none ∧ C.base.get? p = none ∧ ¬ C.St p ∧ ¬ ownA ρ τ p ∧ OwnV C.prog C.w O s.toks p (s.heap.get? p) (.dic [])
structure PAz (C : Cz) (G : Nat → Option D) (Φ : Fn) (es : Es) (xs : List Expr) : Prop where
  run : ∀ (pos : Pos) (B : Bk) (po : Option Addr) (ρ : En) (τ : List (Option Value)) (O : Om) (s : Shared) (Q : List Value → Shared → Prop) (E : Value → Shared → Prop) (ds : List D) (ρ' : En), Sz C B po ρ τ O s → evs G Φ es ρ = some (ds, ρ') →
    (∀ us O' s', Sz C B po ρ' τ O' s' → Ext NoX ρ τ O s ρ' τ O' s' → ArgP C B ρ' τ O' s' s.heap es us ds → Q us s') → wpAny (model C.prog C.w) C.A (spliced (backTo pos (starEach xs C.env))) Q E s
structure POz (C : Cz) (G : Nat → Option D) (Φ : Fn) (e : Oe) (x : Option Expr) : Prop where
  run : ∀ (B : Bk) (po : Option Addr) (ρ : En) (τ : List (Option Value)) (O : Om) (s : Shared) (Q E : Value → Shared → Prop) (d : Option Int) (ρ' : En), Sz C B po ρ τ O s → evo G Φ e ρ = some (d, ρ') →
    (∀ u O' s', Sz C B po ρ' τ O' s' → Ext NoX ρ τ O s ρ' τ O' s' → IsPart u d → Q u s') → wpAny (model C.prog C.w) C.A (evalPart x C.env) Q E s
end Mini
/-! Mini, exact: the rules of expressions. -/
namespace Mini
open PySem PySem.Spec PyProof.Rows L2

section
variable {C : Cz} {T : Tb} {G : Nat → Option D} {Φ : Fn} {B : Bk} {po : Option Addr} {ρ ρ' ρ1 ρ2 : En} {τ : List (Option Value)} {O O' : Om} {s s' : Shared}

theorem Sz.cn (S : Sz C B po ρ τ O s) (h1 : 1 ≤ C.t1) : Cn O s := ⟨S.sub, S.iz.bare, Nat.le_trans h1 S.iz.tk⟩
theorem GrX.none (g : GrX none O s O' s') : Gr O s O' s' := ⟨fun b o e => g.kept b o (by simp) e, g.le, g.nw, g.sub, g.tk, g.bare, g.os⟩

/-- a thing at p has changed, and others were made -/
theorem Sz.but {p : Addr} {d0 : D} (S : Sz C B po ρ τ O s) (g : GrX (some p) O s O' s') (hB : B p = none) (hS : ¬ C.St p) (hb : C.base.get? p = none) (hp : OwnV C.prog C.w O s.toks p (s.heap.get? p) d0) (hlen : ρ'.length = ρ.length)
    (rel : ∀ (j : Nat) (y' : Sl), ρ'[j]? = some y' → (∃ y, ρ[j]? = some y ∧ y' = y ∧ (ownS y = true → τ[j]? ≠ some (some (.ref p)))) ∨ (SlZ C B po O' s'.toks s'.heap τ[j]? y' ∧ ∃ y, ρ[j]? = some y ∧ ownS y = true)) : Sz C B po ρ' τ O' s' := by
  have k : ∀ b o, b ≠ p → s.heap.get? b = some o → s'.heap.get? b = some o := fun b o h e => g.kept b o (fun z => h (Option.some.inj z).symm) e
  obtain ⟨x2, e2⟩ := hp.some
  have cp : ∀ y c, C.env.cells.lookup y = some c → c ≠ p := fun y c ec z => by
    obtain ⟨v, o, h1, h2⟩ := S.iz.cell y c ec
    rw [z, e2] at h1; cases h1
    cases d0 <;> simp only [OwnV] at hp
    · obtain ⟨_, _, q, _⟩ := hp; rw [e2] at q; cases q; cases h2
    · obtain ⟨_, _, q, _, _, ⟨_, _, _, q2, _⟩, _⟩ := hp; rw [e2] at q; cases q; rw [h2] at q2; cases q2
  have kS : ∀ b o, C.St b → s.heap.get? b = some o → s'.heap.get? b = some o := fun b o st q => k b o (fun z => hS (by rw [← z]; exact st)) q
  have I : Iz C τ s' := by
    refine ⟨S.iz.ok, fun b o q => k b o (fun z => by rw [z, hb] at q; cases q) (S.iz.bk b o q), g.bare, Nat.le_trans S.iz.tk g.tk, g.os.trans S.iz.os, ?_, fun y c ec => ?_, S.iz.len⟩
    · obtain ⟨m, ⟨o, es, epp, h1, h2, h3⟩, hl⟩ := S.iz.loc
      refine ⟨m, ⟨o, es, epp, kS _ o (.inl rfl) h1, h2, h3⟩, fun j y v q1 q2 q3 => ?_⟩
      rcases hl j y v q1 q2 q3 with q | ⟨q4, c, q5, o, q6, q7⟩
      · exact .inl q
      · exact .inr ⟨q4, c, q5, o, k c o (cp y c q5) q6, q7⟩
    · obtain ⟨v, o, q6, q7⟩ := S.iz.cell y c ec
      exact ⟨v, o, k c o (cp y c ec) q6, q7⟩
  have back : ∀ {j : Nat} {y' : Sl}, ρ'[j]? = some y' → ownS y' = true → ∃ y, ρ[j]? = some y ∧ ownS y = true := fun {j y'} e o => by
    rcases rel j y' e with ⟨y, e1, e2, _⟩ | ⟨_, y, e1, e2⟩
    · subst e2; exact ⟨_, e1, o⟩
    · exact ⟨y, e1, e2⟩
  refine ⟨I, S.g0.trans g.le, g.sub, fun b o z e => ?_, fun b h => ?_, by rw [hlen]; exact S.len, fun j y' e => ?_, fun i j x y q hij e1 e2 o1 o2 e3 e4 => ?_⟩
  · obtain ⟨h1, h2⟩ := S.bk b o z e
    exact ⟨k b o (fun z => by rw [z, hB] at e; cases e) h1, (g.nw b o h1).trans h2⟩
  · obtain ⟨h1, h2⟩ := S.on b h
    obtain ⟨o, q⟩ := S.iz.stobj h
    exact ⟨(g.nw b o q).trans h1, h2⟩
  · rcases rel j y' e with ⟨y, e1, e2, e3⟩ | ⟨h, _⟩
    · subst e2
      have z := S.at_ j _ e1
      have other : ∀ p3, ownS y' = true → τ[j]? = some (some (.ref p3)) → O' p3 = none ∧ s'.heap.get? p3 = s.heap.get? p3 := fun p3 oy q3 => by
        obtain ⟨p4, d4, b1, b2, _, _, _, b6⟩ := S.ownP e1 oy
        rw [q3] at b1; cases b1
        obtain ⟨x4, e4⟩ := b6.some
        refine ⟨(g.nw p3 x4 e4).trans b2, ?_⟩
        rw [e4]
        exact k p3 x4 (fun z => e3 oy (by rw [q3, z])) e4
      cases y' with
      | un => trivial
      | fz d => obtain ⟨v, b1, b2⟩ := z; exact ⟨v, b1, b2.mono g.le g.tk⟩
      | own d => obtain ⟨p3, b1, b2, b3, b4, b5, b6, b7⟩ := z; obtain ⟨o1, o2⟩ := other p3 rfl b1; exact ⟨p3, b1, o1, b3, b4, b5, b6, by rw [o2]; exact b7.mono g.le g.tk⟩
      | io d => obtain ⟨p3, b1, b2, b3, b4, b5, b6, b7⟩ := z; obtain ⟨o1, o2⟩ := other p3 rfl b1; exact ⟨p3, b1, o1, b3, b4, b5, b6, by rw [o2]; exact b7.mono g.le g.tk⟩
    · exact h
  · obtain ⟨y1, f1, g1⟩ := back e1 o1
    obtain ⟨y2, f2, g2⟩ := back e2 o2
    exact S.ne i j y1 y2 q hij f1 f2 g1 g2 e3 e4
/-- a call changed what an own place holds -/
theorem Sz.callOwn {p : Addr} {i : Nat} {c c' : D} (S : Sz C B po ρ τ O s) (g : GrX (some p) O s O' s') (hi : getOwn ρ i = some c) (hp : τ[i]? = some (some (.ref p))) (new : OwnV C.prog C.w O' s'.toks p (s'.heap.get? p) c') (e : Mini.chg ρ i c' = some ρ') :
    Sz C B po ρ' τ O' s' ∧ Ext NoX ρ τ O s ρ' τ O' s' := by
  obtain ⟨x, ex, ox, er⟩ : ∃ x, ρ[i]? = some x ∧ ownS x = true ∧ ρ' = ρ.set i (chgS x c') := by
    unfold Mini.chg at e
    cases h : ρ[i]? with
    | none => rw [h] at e; cases e
    | some x => cases x <;> rw [h] at e <;> first | (cases e; done) | (cases e; exact ⟨_, rfl, rfl, rfl⟩)
  subst er
  obtain ⟨p2, d2, a1, a2, a3, a4, a5, a6⟩ := S.ownP ex ox
  rw [hp] at a1; cases a1
  have hil : i < ρ.length := (List.getElem?_eq_some_iff.mp ex).1
  have op : O' p = none := by obtain ⟨o, eo⟩ := a6.some; exact (g.nw p o eo).trans a2
  refine ⟨S.but g a3 a4 a5 a6 (by simp) fun j y' e => ?_, ⟨g.le, g.tk, fun b o n _ e => g.kept b o (fun z => n ⟨i, x, ex, ox, by rw [hp, Option.some.inj z]⟩) e, fun b o _ _ e => g.nw b o e, fun b ⟨j, y, e1, e2, e3⟩ => ?_, fun b o _ e => ?_⟩⟩
  · by_cases hj : j = i
    · subst hj
      rw [List.getElem?_set_self hil] at e; cases e
      refine .inr ⟨?_, x, ex, ox⟩
      have z := S.at_ j x ex
      cases x with
      | un => cases ox
      | fz _ => cases ox
      | own _ => obtain ⟨p3, b1, b2, b3, b4, b5, b6, b7⟩ := z; rw [hp] at b1; cases b1; exact ⟨_, hp, op, b3, b4, b5, b6, new⟩
      | io _ => obtain ⟨p3, b1, b2, b3, b4, b5, b6, b7⟩ := z; rw [hp] at b1; cases b1; exact ⟨_, hp, op, b3, b4, b5, b6, new⟩
    · rw [List.getElem?_set_ne (Ne.symm hj)] at e
      exact .inl ⟨y', e, rfl, fun oy q => S.ne i j x y' p (Ne.symm hj) ex e ox oy hp q⟩
  · by_cases hj : j = i
    · subst hj; exact ⟨j, x, ex, ox, e3⟩
    · rw [List.getElem?_set_ne (Ne.symm hj)] at e1; exact ⟨j, y, e1, e2, e3⟩
  · by_cases hb : b = p
    · subst hb
      obtain ⟨o', h⟩ := new.some
      exact ⟨o', h⟩
    · exact ⟨o, g.kept b o (fun z => hb (Option.some.inj z).symm) e⟩
/-- a call changed a thing that no place holds -/
theorem Sz.callNew {p : Addr} {d0 d1 : D} (S : Sz C B po ρ τ O s) (g : GrX (some p) O s O' s') (hB : B p = none) (hS : ¬ C.St p) (hb : C.base.get? p = none) (hn : ¬ ownA ρ τ p) (hp : OwnV C.prog C.w O s.toks p (s.heap.get? p) d0)
    (new : OwnV C.prog C.w O' s'.toks p (s'.heap.get? p) d1) : Sz C B po ρ τ O' s' ∧ Ext (· = p) ρ τ O s ρ τ O' s' := by
  refine ⟨S.but g hB hS hb hp rfl fun j y' e => .inl ⟨y', e, rfl, fun oy q => hn ⟨j, y', e, oy, q⟩⟩, ⟨g.le, g.tk, fun b o _ x e => g.kept b o (fun z => x (Option.some.inj z).symm) e, fun b o _ _ e => g.nw b o e, fun _ h => h, fun b o _ e => ?_⟩⟩
  by_cases hb : b = p
  · subst hb
    obtain ⟨o', h⟩ := new.some
    exact ⟨o', h⟩
  · exact ⟨o, g.kept b o (fun z => hb (Option.some.inj z).symm) e⟩
theorem Ext.drop {X : Addr → Prop} {τ' : List (Option Value)} (a : Ext X ρ τ O s ρ' τ' O' s') (h : ∀ b, X b → s.heap.get? b = none) : Ext NoX ρ τ O s ρ' τ' O' s' :=
  ⟨a.le, a.tk, fun b o n _ e => a.kept b o n (fun x => by rw [h b x] at e; cases e) e, fun b o n _ e => a.nw b o n (fun x => by rw [h b x] at e; cases e) e, a.ow, fun b o _ e => a.st b o (fun x => by rw [h b x] at e; cases e) e⟩

/-! ### names -/
theorem name_ok {N : List Str} {i : Nat} {x : Str} {u : Value} {pos : Pos} {Q E : Value → Shared → Prop} (S : Sz C B po ρ τ O s) (m : mN C.N C.env.scope i x = true) (e : τ[i]? = some (some u)) (h : Q u s) : wpAny (model C.prog C.w) C.A (eval (.Name x pos) C.env) Q E s := by
  unfold mN okN at m
  simp only [Bool.and_eq_true, decide_eq_true_eq, Bool.not_eq_true'] at m
  obtain ⟨⟨h1, h2⟩, ⟨h3, h4⟩, h5⟩ := m
  obtain ⟨m, hn, hl⟩ := S.iz.loc
  rcases hl i x u h1 e (visB_ok h2) with ⟨hk, hm⟩ | ⟨hk, c, hc, hcell⟩
  · exact wpAny_Name (wpAny_loadName_local S.iz.ok.kind hk hn hm h) h3
  · rcases hk with hk | hk
    · exact wpAny_Name (wpAny_loadName_cell S.iz.ok.kind hk hc hcell h) h3
    · exact wpAny_Name (wpAny_loadName_free S.iz.ok.kind hk hc hcell h h4) h3
theorem glb_ok {x : Str} {u : Value} {pos : Pos} {Q E : Value → Shared → Prop} (S : Sz C B po ρ τ O s) (g : glB C.env.scope x = true) (k : okN x = true) (hm : C.mg x = some u) (h : Q u s) : wpAny (model C.prog C.w) C.A (eval (.Name x pos) C.env) Q E s := by
  unfold okN at k
  simp only [Bool.and_eq_true, decide_eq_true_eq, Bool.not_eq_true'] at k
  exact Calls.Name_function_global S.iz.ok.kind (of_decide_eq_true g) (Calls.loadGlobal_global (by rw [S.iz.ok.glob]; exact S.iz.ok.mod.glob.keeps S.iz.bk) hm h) k.1.1
theorem blt_ok {x : Str} {u : Value} {pos : Pos} {Q E : Value → Shared → Prop} (S : Sz C B po ρ τ O s) (g : glB C.env.scope x = true) (k : okN x = true) (hm : C.mg x = none) (hv : bootBuiltins x = some u) (h : Q u s) : wpAny (model C.prog C.w) C.A (eval (.Name x pos) C.env) Q E s := by
  unfold okN at k
  simp only [Bool.and_eq_true, decide_eq_true_eq, Bool.not_eq_true'] at k
  obtain ⟨mb, h1, h2⟩ := S.iz.ok.mod.blt
  exact Calls.Name_function_global S.iz.ok.kind (of_decide_eq_true g) (Calls.loadGlobal_builtin (by rw [S.iz.ok.glob]; exact S.iz.ok.mod.glob.keeps S.iz.bk) hm (by rw [S.iz.ok.blt]; exact h1.keeps S.iz.bk) ((h2 x k.2).trans hv) h) k.1.1

/-! ### leaves -/
theorem ok_var {i : Nat} {x : Str} {pos : Pos} (m : mN C.N C.env.scope i x = true) : PEz C G Φ (.var i) (.Name x pos) := ⟨fun B po ρ τ O s Q E d ρ' S h q => by
  simp only [ev, Option.map_eq_some_iff] at h
  obtain ⟨d', h, e⟩ := h
  cases e
  obtain ⟨v, e1, r⟩ := S.get h
  exact name_ok (N := C.N) S m e1 (q v O s S Ext.refl r)⟩
theorem ok_brw {i : Nat} {x : Str} {pos : Pos} (m : mN C.N C.env.scope i x = true) : PEz C G Φ (.brw i) (.Name x pos) := ⟨fun B po ρ τ O s Q E d ρ' S h q => by
  simp only [ev, Option.map_eq_some_iff] at h
  obtain ⟨d', h, e⟩ := h
  cases e
  obtain ⟨p, e1, _⟩ := S.own h
  exact name_ok (N := C.N) S m e1 (q _ O s S Ext.refl ⟨h, e1⟩)⟩
theorem ok_mv {i : Nat} {x : Str} {pos : Pos} (m : mN C.N C.env.scope i x = true) : PEz C G Φ (.mv i) (.Name x pos) := ⟨fun B po ρ τ O s Q E d ρ' S h q => by
  simp only [ev] at h
  split at h
  · rename_i d' e
    cases h
    obtain ⟨p, o, e1, e2, e3, S', r⟩ := S.freeze e
    refine name_ok (N := C.N) S m e1 (q _ (oset O p o) s S' ⟨le_oset e3, Nat.le_refl _, fun _ _ _ _ e => e, fun b o' n _ e4 => oset_ne fun z => n ⟨i, _, e, rfl, by rw [z]; exact e1⟩, fun b ⟨j, y, h1, h2, h3⟩ => ?_, fun b o _ e => ⟨o, e⟩⟩ r)
    by_cases hj : j = i
    · subst hj
      rw [List.getElem?_set_self (List.getElem?_eq_some_iff.mp e).1] at h1; cases h1; cases h2
    · rw [List.getElem?_set_ne (Ne.symm hj)] at h1
      exact ⟨j, y, h1, h2, h3⟩
  · cases h⟩
theorem ok_int {n : Int} {k : Nat} {pos : Pos} (h1 : 1 ≤ C.t1) : PEz C G Φ (.int n) (.Constant (.int n) k pos) := ⟨fun B po ρ τ O s Q E d ρ' S h q => by
  simp only [ev] at h
  cases h
  have g : Gr O s O { s with toks := s.toks + 1 } := Gr.same (h' := s.heap) S.sub S.iz.bare (Kept.refl _) (Nat.le_succ _)
  exact wpAny_Constant_int (q _ O _ (S.grow g) (Ext.gr g) (.int _ _))⟩
theorem ok_bl {n : Bool} {k : Nat} {pos : Pos} : PEz C G Φ (.bl n) (.Constant (.bool n) k pos) := ⟨fun B po ρ τ O s Q E d ρ' S h q => by
  simp only [ev] at h
  cases h
  exact Constant_bool (q _ O _ S Ext.refl (.bl _))⟩
theorem ok_non {k : Nat} {pos : Pos} : PEz C G Φ .non (.Constant .none k pos) := ⟨fun B po ρ τ O s Q E d ρ' S h q => by
  simp only [ev] at h
  cases h
  exact Constant_none (q _ O _ S Ext.refl .non)⟩
theorem ok_str {x : Sg} {k : Nat} {pos : Pos} (h1 : 1 ≤ C.t1) : PEz C G Φ (.str x) (.Constant (.str (toS x)) k pos) := ⟨fun B po ρ τ O s Q E d ρ' S h q => by
  simp only [ev] at h
  cases h
  have g : Gr O s O { s with toks := s.toks + 1 } := Gr.same (h' := s.heap) S.sub S.iz.bare (Kept.refl _) (Nat.le_succ _)
  exact Calls.Constant_str (q _ O _ (S.grow g) (Ext.gr g) (.str _ _ fun _ => ⟨Nat.one_le_iff_ne_zero.mp (S.cn h1).tk, Nat.lt_succ_self _⟩))⟩
theorem ok_glob {g : Nat} {x : Str} {pos : Pos} (H : Hy C T G Φ) (m : (glB C.env.scope x && okN x && decide (T.gn g = some x)) = true) : PEz C G Φ (.glob g) (.Name x pos) := ⟨fun B po ρ τ O s Q E d ρ' S h q => by
  simp only [Bool.and_eq_true, decide_eq_true_eq] at m
  simp only [ev, Option.map_eq_some_iff] at h
  obtain ⟨d', h, e⟩ := h
  cases e
  obtain ⟨u, hu, r⟩ := H.glob g d x h m.2
  exact glb_ok S m.1.1 m.1.2 hu (q _ O _ S Ext.refl (r.mono S.g0 (Nat.zero_le _)))⟩
end
end Mini
/-! Mini, exact: the rules of operators, displays, calls. -/
namespace Mini
open PySem PySem.Spec PyProof.Rows L2

section
variable {G : Nat → Option D} {Φ : Fn}
mutual
theorem pure_ev : ∀ (e : E) {ρ ρ' : En} {d : D}, pureE e = true → ev G Φ e ρ = some (d, ρ') → ρ' = ρ
  | .var i, ρ, ρ', d, _, h => by simp only [ev, Option.map_eq_some_iff] at h; obtain ⟨_, _, e⟩ := h; cases e; rfl
  | .brw i, ρ, ρ', d, _, h => by simp only [ev, Option.map_eq_some_iff] at h; obtain ⟨_, _, e⟩ := h; cases e; rfl
  | .int _, ρ, ρ', d, _, h => by simp only [ev] at h; cases h; rfl
  | .str _, ρ, ρ', d, _, h => by simp only [ev] at h; cases h; rfl
  | .bl _, ρ, ρ', d, _, h => by simp only [ev] at h; cases h; rfl
  | .non, ρ, ρ', d, _, h => by simp only [ev] at h; cases h; rfl
  | .glob _, ρ, ρ', d, _, h => by simp only [ev, Option.map_eq_some_iff] at h; obtain ⟨_, _, e⟩ := h; cases e; rfl
  | .bin op a b, ρ, ρ', d, p, h => by
    simp only [pureE, Bool.and_eq_true] at p
    simp only [ev] at h
    split at h
    · cases h
    · split at h
      · rename_i x ρ1 h1
        split at h
        · rename_i y ρ2 h2
          rw [Option.map_eq_some_iff] at h
          obtain ⟨_, _, e⟩ := h
          cases e
          exact (pure_ev b p.2 h2).trans (pure_ev a p.1 h1)
        · cases h
      · cases h
  | .cmp op a b, ρ, ρ', d, p, h => by
    simp only [pureE, Bool.and_eq_true] at p
    simp only [ev] at h
    split at h
    · cases h
    · split at h
      · rename_i x ρ1 h1
        split at h
        · rename_i y ρ2 h2
          rw [Option.map_eq_some_iff] at h
          obtain ⟨_, _, e⟩ := h
          cases e
          exact (pure_ev b p.2 h2).trans (pure_ev a p.1 h1)
        · cases h
      · cases h
  | .idx a b, ρ, ρ', d, p, h => by
    simp only [pureE, Bool.and_eq_true] at p
    simp only [ev] at h
    split at h
    · cases h
    · split at h
      · rename_i x ρ1 h1
        split at h
        · rename_i y ρ2 h2
          rw [Option.map_eq_some_iff] at h
          obtain ⟨_, _, e⟩ := h
          cases e
          exact (pure_ev b p.2 h2).trans (pure_ev a p.1 h1)
        · cases h
      · cases h
  | .neg a, ρ, ρ', d, p, h => by
    simp only [pureE] at p
    simp only [ev] at h
    split at h
    · rename_i i ρ1 h1
      cases h
      exact pure_ev a p h1
    · cases h
  | .fn b es, ρ, ρ', d, p, h => by
    simp only [pureE] at p
    cases es with
    | cons a es' =>
      simp only [pureEs, Bool.and_eq_true] at p
      cases es' with
      | nil =>
        simp only [ev] at h
        split at h
        · rename_i x ρ1 h1
          rw [Option.map_eq_some_iff] at h
          obtain ⟨_, _, e⟩ := h
          cases e
          exact pure_ev a p.1 h1
        · cases h
      | cons a2 es2 =>
        simp only [ev] at h
        split at h
        · rename_i x ρ1 h1
          rw [Option.map_eq_some_iff] at h
          obtain ⟨_, _, e⟩ := h
          cases e
          exact pure_evs (.cons a (.cons a2 es2)) (by simp only [pureEs, Bool.and_eq_true] at p ⊢; exact p) h1
        · cases h
      | io i es2 => simp [pureEs] at p
      | fr => simp [pureEs] at p
    | nil =>
      simp only [ev] at h
      split at h
      · rename_i x ρ1 h1
        rw [Option.map_eq_some_iff] at h
        obtain ⟨_, _, e⟩ := h
        cases e
        simp only [evs] at h1
        cases h1; rfl
      · cases h
    | io i es2 => simp [pureEs] at p
    | fr => simp [pureEs] at p
  | .mv _, _, _, _, p, _ => by simp [pureE] at p
  | .tup es, ρ, ρ', d, p, h => by
    simp only [pureE] at p
    simp only [ev] at h
    split at h
    · rename_i ds ρ1 h1
      split at h
      · cases h
        exact pure_evs es p h1
      · cases h
    · cases h
  | .lst es, ρ, ρ', d, p, h => by
    simp only [pureE] at p
    simp only [ev] at h
    split at h
    · rename_i ds ρ1 h1
      split at h
      · cases h
        exact pure_evs es p h1
      · cases h
    · cases h
  | .dct0, _, _, _, p, _ => by simp [pureE] at p
  | .chain _ _ _ _ _, _, _, _, p, _ => by simp [pureE] at p
  | .and _ _, _, _, _, p, _ => by simp [pureE] at p
  | .or _ _, _, _, _, p, _ => by simp [pureE] at p
  | .not _, _, _, _, p, _ => by simp [pureE] at p
  | .ite _ _ _, _, _, _, p, _ => by simp [pureE] at p
  | .slc _ _ _, _, _, _, p, _ => by simp [pureE] at p
  | .rev _, _, _, _, p, _ => by simp [pureE] at p
  | .call _ _, _, _, _, p, _ => by simp [pureE] at p
  | .isi _ _, _, _, _, p, _ => by simp [pureE] at p
  | .isi2 _ _ _, _, _, _, p, _ => by simp [pureE] at p
  | .popa _ _, _, _, _, p, _ => by simp [pureE] at p
  | .popl _, _, _, _, p, _ => by simp [pureE] at p
  | .mt _ _ _, _, _, _, p, _ => by simp [pureE] at p
  | .rep _ _, _, _, _, p, _ => by simp [pureE] at p
  | .comp _ _ _ _ _, _, _, _, p, _ => by simp [pureE] at p
  | .dcomp _ _ _ _ _ _, _, _, _, p, _ => by simp [pureE] at p
theorem pure_evs : ∀ (es : Es) {ρ ρ' : En} {ds : List D}, pureEs es = true → evs G Φ es ρ = some (ds, ρ') → ρ' = ρ
  | .nil, ρ, ρ', d, _, h => by simp only [evs] at h; cases h; rfl
  | .cons e es, ρ, ρ', d, p, h => by
    simp only [pureEs, Bool.and_eq_true] at p
    simp only [evs] at h
    split at h
    · cases h
    · split at h
      · rename_i x ρ1 h1
        split at h
        · rename_i y ρ2 h2
          cases h
          exact (pure_evs es p.2 h2).trans (pure_ev e p.1 h1)
        · cases h
      · cases h
  | .io _ _, _, _, _, p, _ => by simp [pureEs] at p
  | .fr, _, _, _, p, _ => by simp [pureEs] at p
end
end

section
variable {C : Cz} {T : Tb} {G : Nat → Option D} {Φ : Fn} {B : Bk} {po : Option Addr} {ρ ρ' ρ1 ρ2 : En} {τ : List (Option Value)} {O O' : Om} {s s' : Shared}
variable {a b c : E} {x y z : Expr} {pos : Pos}

theorem Vl.go {n n' : Nat} {u : Value} {d : D} (h : Vl C a ρ1 τ O n u d) (le : Le O O') (tk : n ≤ n') (p : isBrw a = true → ρ2 = ρ1) : Vl C a ρ2 τ O' n' u d := by
  by_cases hb : isBrw a = true
  · rw [p hb]
    cases a <;> first | (cases hb; done) | exact h
  · have hb : isBrw a = false := by simpa using hb
    exact Vl.of ((h.rep hb).mono le tk) hb
/-- two operands, from the left -/
theorem two_ok {α : Type} {f : Value → Value → Sem α} {Q : α → Shared → Prop} {E : Value → Shared → Prop} {d1 d2 : D} (pa : PEz C G Φ a x) (pb : PEz C G Φ b y) (S : Sz C B po ρ τ O s) (g : (isBrw a && !pureE b) = false)
    (e1 : ev G Φ a ρ = some (d1, ρ1)) (e2 : ev G Φ b ρ1 = some (d2, ρ2))
    (h : ∀ v u O' s', Sz C B po ρ2 τ O' s' → Ext NoX ρ τ O s ρ2 τ O' s' → Lk C.prog C.w O' s'.heap s'.toks v d1 → Lk C.prog C.w O' s'.heap s'.toks u d2 → wpAny (model C.prog C.w) C.A (f v u) Q E s') :
    wpAny (model C.prog C.w) C.A (eval x C.env) (fun v s₁ => wpAny (model C.prog C.w) C.A (eval y C.env) (fun u s₂ => wpAny (model C.prog C.w) C.A (f v u) Q E s₂) E s₁) E s := by
  refine pa.run B po ρ τ O s _ E d1 ρ1 S e1 fun v O1 s1 S1 x1 l1 => ?_
  refine pb.run B po ρ1 τ O1 s1 _ E d2 ρ2 S1 e2 fun u O2 s2 S2 x2 l2 => ?_
  refine h v u O2 s2 S2 (x1.trans x2) (Vl.lk S2 (l1.go x2.le x2.tk fun hb => ?_)) (Vl.lk S2 l2)
  rw [hb, Bool.true_and, Bool.not_eq_false'] at g
  exact pure_ev b g e2
/-- behind a step that gives d -/
theorem Sz.res {d : D} {Q : Value → Shared → Prop} {ρ0 : En} {O0 : Om} {s0 : Shared} (e : E) (hb : isBrw e = false) (S : Sz C B po ρ τ O s) (x0 : Ext NoX ρ0 τ O0 s0 ρ τ O s)
    (q : ∀ u O' s', Sz C B po ρ τ O' s' → Ext NoX ρ0 τ O0 s0 ρ τ O' s' → Vl C e ρ τ O' s'.toks u d → Q u s') : Res C.prog C.w O s d Q := fun u O' s' g r => q u O' s' (S.grow g) (x0.trans (Ext.gr g)) (Vl.of r hb)

theorem ok_bin {op : Bop} (H : Hy C T G Φ) (pa : PEz C G Φ a x) (pb : PEz C G Φ b y) : PEz C G Φ (.bin op a b) (.BinOp x (mop op) y pos) := ⟨fun B po ρ τ O s Q E d ρ' S h q => by
  simp only [ev] at h
  split at h
  · cases h
  · rename_i g
    split at h
    · rename_i d1 ρ1 h1
      split at h
      · rename_i d2 ρ2 h2
        rw [Option.map_eq_some_iff] at h
        obtain ⟨d', hd, e⟩ := h
        cases e
        refine wpAny_BinOp (two_ok (f := fun v u => binaryOp (mop op) v u) pa pb S (by simpa using g) h1 h2 fun v u O1 s1 S1 x1 l1 l2 => ?_)
        exact bop_ok hd (S1.cn H.t1) l1 l2 (S1.res (.bin op a b) rfl x1 q)
      · cases h
    · cases h⟩
theorem ok_neg (H : Hy C T G Φ) (pa : PEz C G Φ a x) : PEz C G Φ (.neg a) (.UnaryOp .USub x pos) := ⟨fun B po ρ τ O s Q E d ρ' S h q => by
  simp only [ev] at h
  split at h
  · rename_i i ρ1 h1
    cases h
    refine UnaryOp_ (pa.run B po ρ τ O s _ E _ _ S h1 fun v O1 s1 S1 x1 l1 => ?_)
    obtain ⟨t, rfl⟩ := (Vl.lk S1 l1).int
    exact PyProof.Rows.neg_int ((S1.res (.neg a) rfl x1 q).int (S1.cn H.t1) _)
  · cases h⟩
theorem ok_cmp {op : Cop} (H : Hy C T G Φ) (pa : PEz C G Φ a x) (pb : PEz C G Φ b y) (hm : behindInMarks (mcop op) y = false) : PEz C G Φ (.cmp op a b) (.Compare x [mcop op] [y] pos) := ⟨fun B po ρ τ O s Q E d ρ' S h q => by
  simp only [ev] at h
  split at h
  · cases h
  · rename_i g
    split at h
    · rename_i d1 ρ1 h1
      split at h
      · rename_i d2 ρ2 h2
        rw [Option.map_eq_some_iff] at h
        obtain ⟨d', hd, e⟩ := h
        cases e
        refine wpAny_Compare1 (two_ok (f := fun v u => compareOp (mcop op) v u) pa pb S (by simpa using g) h1 h2 fun v u O1 s1 S1 x1 l1 l2 => ?_) hm
        exact cmp_ok H.un hd (S1.cn H.t1) l1 l2 (S1.res (.cmp op a b) rfl x1 q)
      · cases h
    · cases h⟩
theorem pt_cmp {op : Cop} (H : Hy C T G Φ) (pa : PEz C G Φ a x) (pb : PEz C G Φ b y) (hm : behindInMarks (mcop op) y = false) : PTz C G Φ (.cmp op a b) (.Compare x [mcop op] [y] pos) := ⟨fun wh B po ρ τ O s Q E d ρ' S h hw q => by
  simp only [ev] at h
  split at h
  · cases h
  · rename_i g
    split at h
    · rename_i d1 ρ1 h1
      split at h
      · rename_i d2 ρ2 h2
        rw [Option.map_eq_some_iff] at h
        obtain ⟨d', hd, e⟩ := h
        cases e
        refine wpAny_isTrue_Compare1 (pa.run B po ρ τ O s _ E d1 ρ1 S h1 fun v O1 s1 S1 x1 l1 => pb.run B po ρ1 τ O1 s1 _ E d2 _ S1 h2 fun u O2 s2 S2 x2 l2 => ?_) hm
        have l1' := Vl.lk S2 (l1.go x2.le x2.tk fun hb => by
          have g : (isBrw a && !pureE b) = false := by simpa using g
          rw [hb, Bool.true_and, Bool.not_eq_false'] at g
          exact pure_ev b g h2)
        refine cmp_ok (Q := fun c s₃ => wpAny _ _ (truthy c) Q E s₃) H.un hd (S2.cn H.t1) l1' (Vl.lk S2 l2) fun w O3 s3 g3 r3 => ?_
        cases r3
        exact wpAny_truthy_bool (q O3 s3 (S2.grow g3) ((x1.trans x2).trans (Ext.gr g3)))
      · cases h
    · cases h⟩
theorem lk_bl {e : E} {n : Nat} {u : Value} {b : Bool} (S : Sz C B po ρ τ O s) (h : Vl C e ρ τ O s.toks u (.bl b)) : u = .bool b := (Vl.lk S h).bl
theorem ok_not (pa : PEz C G Φ a x) : PEz C G Φ (.not a) (.UnaryOp .Not x pos) := ⟨fun B po ρ τ O s Q E d ρ' S h q => by
  simp only [ev] at h
  split at h
  · rename_i k ρ1 h1
    cases h
    refine UnaryOp_ (pa.run B po ρ τ O s _ E _ _ S h1 fun v O1 s1 S1 x1 l1 => ?_)
    cases (Vl.lk S1 l1).bl
    exact PyProof.Rows.not_of (wpAny_truthy_bool (q _ O1 s1 S1 x1 (.bl _)))
  · cases h⟩
theorem pt_not' (pa : PTz C G Φ a x) : PTz C G Φ (.not a) (.UnaryOp .Not x pos) := ⟨fun wh B po ρ τ O s Q E b ρ' S h hw q => by
  simp only [ev] at h
  split at h
  · rename_i k ρ1 h1
    cases h
    exact isTrue_not (pa.run _ B po ρ τ O s _ E _ _ S h1 rfl fun O1 s1 S1 x1 => q O1 s1 S1 x1)
  · cases h⟩
theorem ok_and {r : List Expr} (pa : PEz C G Φ a x) (pb : PEz C G Φ b (.BoolOp .And (y :: r) pos)) : PEz C G Φ (.and a b) (.BoolOp .And (x :: y :: r) pos) := ⟨fun B po ρ τ O s Q E d ρ' S h q => by
  simp only [ev] at h
  split at h
  · rename_i ρ1 h1
    split at h
    · rename_i k ρ2 h2
      cases h
      refine BoolOp_and (pa.run B po ρ τ O s _ E _ _ S h1 fun v O1 s1 S1 x1 l1 => ?_)
      cases (Vl.lk S1 l1).bl
      refine wpAny_truthy_bool ?_
      simp only [if_true]
      refine pb.run B po ρ1 τ O1 s1 _ E _ _ S1 h2 fun v O2 s2 S2 x2 l2 => ?_
      cases (Vl.lk S2 l2).bl
      exact q _ O2 s2 S2 (x1.trans x2) (.bl _)
    · cases h
  · rename_i ρ1 h1
    cases h
    refine BoolOp_and (pa.run B po ρ τ O s _ E _ _ S h1 fun v O1 s1 S1 x1 l1 => ?_)
    cases (Vl.lk S1 l1).bl
    refine wpAny_truthy_bool ?_
    simp only [Bool.false_eq_true, if_false]
    exact q _ O1 s1 S1 x1 (.bl _)
  · cases h⟩
theorem ok_or {r : List Expr} (pa : PEz C G Φ a x) (pb : PEz C G Φ b (.BoolOp .Or (y :: r) pos)) : PEz C G Φ (.or a b) (.BoolOp .Or (x :: y :: r) pos) := ⟨fun B po ρ τ O s Q E d ρ' S h q => by
  simp only [ev] at h
  split at h
  · rename_i ρ1 h1
    split at h
    · rename_i k ρ2 h2
      cases h
      refine BoolOp_or (pa.run B po ρ τ O s _ E _ _ S h1 fun v O1 s1 S1 x1 l1 => ?_)
      cases (Vl.lk S1 l1).bl
      refine wpAny_truthy_bool ?_
      simp only [Bool.false_eq_true, if_false]
      refine pb.run B po ρ1 τ O1 s1 _ E _ _ S1 h2 fun v O2 s2 S2 x2 l2 => ?_
      cases (Vl.lk S2 l2).bl
      exact q _ O2 s2 S2 (x1.trans x2) (.bl _)
    · cases h
  · rename_i ρ1 h1
    cases h
    refine BoolOp_or (pa.run B po ρ τ O s _ E _ _ S h1 fun v O1 s1 S1 x1 l1 => ?_)
    cases (Vl.lk S1 l1).bl
    refine wpAny_truthy_bool ?_
    simp only [if_true]
    exact q _ O1 s1 S1 x1 (.bl _)
  · cases h⟩
theorem ok_one {op : BoolOp} (pa : PEz C G Φ a x) : PEz C G Φ a (.BoolOp op [x] pos) := ⟨fun B po ρ τ O s Q E d ρ' S h q => BoolOp_one (pa.run B po ρ τ O s Q E d ρ' S h q)⟩
theorem pt_one_and (pa : PTz C G Φ a x) : PTz C G Φ a (.BoolOp .And [x] pos) := ⟨fun wh B po ρ τ O s Q E b ρ' S h hw q => by
  refine isTrue_and (pa.run _ B po ρ τ O s _ E b ρ' S h rfl fun O1 s1 S1 x1 => ?_)
  cases b with
  | true => exact isTrue_and_nil (q O1 s1 S1 x1)
  | false => exact q O1 s1 S1 x1⟩
theorem pt_one_or (pa : PTz C G Φ a x) : PTz C G Φ a (.BoolOp .Or [x] pos) := ⟨fun wh B po ρ τ O s Q E b ρ' S h hw q => by
  refine isTrue_or (pa.run _ B po ρ τ O s _ E b ρ' S h rfl fun O1 s1 S1 x1 => ?_)
  cases b with
  | true => exact q O1 s1 S1 x1
  | false => exact isTrue_or_nil (q O1 s1 S1 x1)⟩
/-- a test that does not look at its whole -/
structure PWz (C : Cz) (G : Nat → Option D) (Φ : Fn) (e : E) (x : Expr) : Prop where
  run : ∀ (wh : Sem Value) (B : Bk) (po : Option Addr) (ρ : En) (τ : List (Option Value)) (O : Om) (s : Shared) (Q : Bool → Shared → Prop) (E : Value → Shared → Prop) (b : Bool) (ρ' : En), Sz C B po ρ τ O s → ev G Φ e ρ = some (.bl b, ρ') →
    (∀ O' s', Sz C B po ρ' τ O' s' → Ext NoX ρ τ O s ρ' τ O' s' → Q b s') → wpAny (model C.prog C.w) C.A (isTrue x C.env wh) Q E s
theorem pw_one_and (pa : PTz C G Φ a x) : PWz C G Φ a (.BoolOp .And [x] pos) := ⟨fun wh B po ρ τ O s Q E b ρ' S h q => by
  refine isTrue_and (pa.run _ B po ρ τ O s _ E b ρ' S h rfl fun O1 s1 S1 x1 => ?_)
  cases b with
  | true => exact isTrue_and_nil (q O1 s1 S1 x1)
  | false => exact q O1 s1 S1 x1⟩
theorem pw_one_or (pa : PTz C G Φ a x) : PWz C G Φ a (.BoolOp .Or [x] pos) := ⟨fun wh B po ρ τ O s Q E b ρ' S h q => by
  refine isTrue_or (pa.run _ B po ρ τ O s _ E b ρ' S h rfl fun O1 s1 S1 x1 => ?_)
  cases b with
  | true => exact q O1 s1 S1 x1
  | false => exact isTrue_or_nil (q O1 s1 S1 x1)⟩
theorem pw_and' {r : List Expr} (pa : PTz C G Φ a x) (pb : PWz C G Φ b (.BoolOp .And (y :: r) pos)) : PWz C G Φ (.and a b) (.BoolOp .And (x :: y :: r) pos) := ⟨fun wh B po ρ τ O s Q E k ρ' S h q => by
  simp only [ev] at h
  split at h
  · rename_i ρ1 h1
    split at h
    · rename_i k ρ2 h2
      cases h
      refine isTrue_and (pa.run _ B po ρ τ O s _ E _ _ S h1 rfl fun O1 s1 S1 x1 => ?_)
      simp only [if_true]
      exact pb.run wh B po ρ1 τ O1 s1 _ E _ _ S1 h2 fun O2 s2 S2 x2 => q O2 s2 S2 (x1.trans x2)
    · cases h
  · rename_i ρ1 h1
    cases h
    refine isTrue_and (pa.run _ B po ρ τ O s _ E _ _ S h1 rfl fun O1 s1 S1 x1 => ?_)
    simp only [Bool.false_eq_true, if_false]
    exact q O1 s1 S1 x1
  · cases h⟩
theorem pw_or' {r : List Expr} (pa : PTz C G Φ a x) (pb : PWz C G Φ b (.BoolOp .Or (y :: r) pos)) : PWz C G Φ (.or a b) (.BoolOp .Or (x :: y :: r) pos) := ⟨fun wh B po ρ τ O s Q E k ρ' S h q => by
  simp only [ev] at h
  split at h
  · rename_i ρ1 h1
    split at h
    · rename_i k ρ2 h2
      cases h
      refine isTrue_or (pa.run _ B po ρ τ O s _ E _ _ S h1 rfl fun O1 s1 S1 x1 => ?_)
      simp only [Bool.false_eq_true, if_false]
      exact pb.run wh B po ρ1 τ O1 s1 _ E _ _ S1 h2 fun O2 s2 S2 x2 => q O2 s2 S2 (x1.trans x2)
    · cases h
  · rename_i ρ1 h1
    cases h
    refine isTrue_or (pa.run _ B po ρ τ O s _ E _ _ S h1 rfl fun O1 s1 S1 x1 => ?_)
    simp only [if_true]
    exact q O1 s1 S1 x1
  · cases h⟩
theorem PWz.pt (h : PWz C G Φ a x) : PTz C G Φ a x := ⟨fun wh B po ρ τ O s Q E b ρ' S e _ q => h.run wh B po ρ τ O s Q E b ρ' S e q⟩
theorem pt_plain (pa : PEz C G Φ a x) (he : ∀ wh, isTrue x C.env wh = (do let v ← wh; standAt x.pos; holding [v] (truthy v))) : PTz C G Φ a x := ⟨fun wh B po ρ τ O s Q E b ρ' S h hw q => by
  subst hw
  refine isTrue_plain (pa.run B po ρ τ O s _ E _ _ S h fun v O1 s1 S1 x1 l1 => ?_) (he _)
  cases (Vl.lk S1 l1).bl
  exact wpAny_truthy_bool (q O1 s1 S1 x1)⟩
theorem ok_ite (pc : PTz C G Φ c z) (pa : PEz C G Φ a x) (pb : PEz C G Φ b y) : PEz C G Φ (.ite c a b) (.IfExp z x y pos) := ⟨fun B po ρ τ O s Q E d ρ' S h q => by
  simp only [ev] at h
  split at h
  · rename_i ρ1 h1
    split at h
    · cases h
    · rename_i hb
      refine wpAny_IfExp (pc.run _ B po ρ τ O s _ E _ _ S h1 rfl fun O1 s1 S1 x1 => ?_)
      simp only [if_true]
      exact pa.run B po ρ1 τ O1 s1 _ E _ _ S1 h fun v O2 s2 S2 x2 l2 => q v O2 s2 S2 (x1.trans x2) (l2.rep (by simpa using hb))
  · rename_i ρ1 h1
    split at h
    · cases h
    · rename_i hb
      refine wpAny_IfExp (pc.run _ B po ρ τ O s _ E _ _ S h1 rfl fun O1 s1 S1 x1 => ?_)
      simp only [Bool.false_eq_true, if_false]
      exact pb.run B po ρ1 τ O1 s1 _ E _ _ S1 h fun v O2 s2 S2 x2 l2 => q v O2 s2 S2 (x1.trans x2) (l2.rep (by simpa using hb))
  · cases h⟩
end
end Mini
/-! Mini, exact: displays, subscripts, calls. -/
namespace Mini
open PySem PySem.Spec PyProof.Rows L2

section
variable {C : Cz} {T : Tb} {G : Nat → Option D} {Φ : Fn} {B : Bk} {po : Option Addr} {ρ ρ' ρ1 ρ2 : En} {τ : List (Option Value)} {O O' : Om} {s s' : Shared}
variable {a b c : E} {es : Es} {x y z : Expr} {xs : List Expr} {pos : Pos}

/-! ### argument lists -/
theorem star_of {env : Env} (h : noStar x = true) : starEach (x :: xs) env = (false, eval x env) :: starEach xs env := by
  cases x <;> first | rfl | (cases h)
theorem RepVs.bump {n n' : Nat} {us : List Value} {ds : List D} (h : RepVs C.prog C.w O n us ds) (le : Le O O') (tk : n ≤ n') : RepVs C.prog C.w O' n' us ds := h.mono le tk
theorem ArgP.h0 {h0 h1 : Heap} (hh : ∀ b o, h1.get? b = some o → ∃ o', h0.get? b = some o') : ∀ {es : Es} {us : List Value} {ds : List D}, ArgP C B ρ τ O s h0 es us ds → ArgP C B ρ τ O s h1 es us ds
  | .nil, _, _, h => h
  | .cons _ es, _, _, h => by obtain ⟨u, us', d, ds', e1, e2, r, h⟩ := h; exact ⟨u, us', d, ds', e1, e2, r, ArgP.h0 hh h⟩
  | .io _ _, _, _, h => h
  | .fr, _, _, h => by
    obtain ⟨p, e1, e2, e3, h⟩ := h
    refine ⟨p, e1, e2, ?_, h⟩
    cases q : h1.get? p with
    | none => rfl
    | some o => obtain ⟨o', e⟩ := hh p o q; rw [e3] at e; cases e
theorem pa_nil' : PAz C G Φ .nil [] := ⟨fun pos B po ρ τ O s Q E ds ρ' S h q => by
  simp only [evs] at h
  cases h
  exact Calls.spliced_nil (q [] O s S Ext.refl ⟨rfl, rfl⟩)⟩
theorem pa_cons' (pe : PEz C G Φ a x) (pa : PAz C G Φ es xs) (hs : noStar x = true) : PAz C G Φ (.cons a es) (x :: xs) := ⟨fun pos B po ρ τ O s Q E ds ρ' S h q => by
  simp only [evs] at h
  split at h
  · cases h
  · rename_i hb
    split at h
    · rename_i d1 ρ1 h1
      split at h
      · rename_i ds1 ρ2 h2
        cases h
        rw [star_of hs]
        show wpAny _ _ (spliced ((false, eval x C.env) :: backTo pos (starEach xs C.env))) _ _ s
        refine Calls.spliced_cons (pe.run B po ρ τ O s _ E d1 ρ1 S h1 fun u O1 s1 S1 x1 l1 => ?_)
        refine pa.run pos B po ρ1 τ O1 s1 _ E ds1 _ S1 h2 fun us O2 s2 S2 x2 l2 => ?_
        exact q _ O2 s2 S2 (x1.trans x2) ⟨u, us, d1, ds1, rfl, rfl, (l1.rep (by simpa using hb)).mono x2.le x2.tk, l2.h0 fun b o e => x1.st' b o e⟩
      · cases h
    · cases h⟩
theorem ArgP.plain : ∀ {es : Es} {us : List Value} {ds : List D} {h0 : Heap}, noIo es = true → ArgP C B ρ τ O s h0 es us ds → RepVs C.prog C.w O s.toks us ds
  | .nil, _, _, _, _, h => by obtain ⟨rfl, rfl⟩ := h; exact .nil
  | .cons _ es, _, _, _, n, h => by obtain ⟨u, us', d, ds', rfl, rfl, r, h⟩ := h; exact .cons r (ArgP.plain (by simpa [noIo] using n) h)
  | .io _ _, _, _, _, n, _ => by simp [noIo] at n
  | .fr, _, _, _, n, _ => by simp [noIo] at n
theorem pa_io {i : Nat} {nm : Str} {p : Pos} (m : mN C.N C.env.scope i nm = true) (n : noIo es = true) (pa : PAz C G Φ es xs) : PAz C G Φ (.io i es) (.Name nm p :: xs) := ⟨fun pos B po ρ τ O s Q E ds ρ' S h q => by
  simp only [evs] at h
  split at h
  · rename_i ho
    obtain ⟨c, hc⟩ := Option.isSome_iff_exists.mp ho
    obtain ⟨a, hp, _⟩ := S.own hc
    show wpAny _ _ (spliced ((false, eval (.Name nm p) C.env) :: backTo pos (starEach xs C.env))) _ _ s
    refine Calls.spliced_cons (name_ok (N := C.N) S m hp ?_)
    exact pa.run pos B po ρ τ O s _ E ds ρ' S h fun us O1 s1 S1 x1 l1 => q _ O1 s1 S1 x1 ⟨a, us, rfl, hp, l1.plain n⟩
  · cases h⟩

/-! ### displays -/
theorem ok_tup {k : Nat} (H : Hy C T G Φ) (n : noIo es = true) (pa : PAz C G Φ es xs) : PEz C G Φ (.tup es) (.Tuple xs k pos) := ⟨fun B po ρ τ O s Q E d ρ' S h q => by
  simp only [ev] at h
  split at h
  · rename_i ds ρ1 h1
    split at h
    · rename_i hz
      cases h
      refine wpAny_Tuple_spliced (pa.run pos B po ρ τ O s _ E _ _ S h1 fun us O1 s1 S1 x1 l1 => ?_)
      have r := l1.plain n
      have hl : us.length ≤ sizeLine := by rw [r.length]; exact Nat.le_trans hz lim
      exact ⟨hl, Res.tup (t' := s1.toks) (S1.res (.tup es) rfl x1 q) (S1.cn H.t1) (Kept.push _ _) (Nat.le_refl _) (Heap.get?_push_size _ rfl) rfl rfl hl (Nat.le_refl _) r⟩
    · cases h
  · cases h⟩
theorem ok_lst (H : Hy C T G Φ) (n : noIo es = true) (pa : PAz C G Φ es xs) : PEz C G Φ (.lst es) (.List xs pos) := ⟨fun B po ρ τ O s Q E d ρ' S h q => by
  simp only [ev] at h
  split at h
  · rename_i ds ρ1 h1
    split at h
    · rename_i hz
      cases h
      refine wpAny_List_spliced (pa.run pos B po ρ τ O s _ E _ _ S h1 fun us O1 s1 S1 x1 l1 => ?_)
      have r := l1.plain n
      have hl : us.length ≤ sizeLine := by rw [r.length]; exact Nat.le_trans hz lim
      exact ⟨hl, Res.list (t' := s1.toks) (S1.res (.lst es) rfl x1 q) (S1.cn H.t1) (Kept.push _ _) (Nat.le_refl _) (Heap.get?_push_size _ rfl) hl (Nat.le_refl _) r⟩
    · cases h
  · cases h⟩

/-! ### subscripts -/
theorem plain_of (h : plainIx y = true) (v u : Value) : subscripted y false v u = operate [v, u] (getItem v u) := by
  cases y <;> first | rfl | (cases h)
theorem ok_idx (H : Hy C T G Φ) (pa : PEz C G Φ a x) (pb : PEz C G Φ b y) (hp : plainIx y = true) : PEz C G Φ (.idx a b) (.Subscript x y pos) := ⟨fun B po ρ τ O s Q E d ρ' S h q => by
  simp only [ev] at h
  split at h
  · cases h
  · rename_i g
    split at h
    · rename_i d1 ρ1 h1
      split at h
      · rename_i d2 ρ2 h2
        rw [Option.map_eq_some_iff] at h
        obtain ⟨d', hd, e⟩ := h
        cases e
        refine Subscript_ (two_ok (f := fun v u => subscriptTail x y v u) pa pb S (by simpa using g) h1 h2 fun v u O1 s1 S1 x1 l1 l2 => ?_)
        exact idx_ok hd (S1.cn H.t1) l1 l2 (S1.res (.idx a b) rfl x1 q) (plain_of hp _ _)
      · cases h
    · cases h⟩
theorem po_none' : POz C G Φ .none none := ⟨fun B po ρ τ O s Q E d ρ' S h q => by
  simp only [evo] at h
  cases h
  rw [evalPart_none]
  exact wpAny_pure (q _ O s S Ext.refl .none)⟩
theorem po_some' (pa : PEz C G Φ a x) : POz C G Φ (.some a) (some x) := ⟨fun B po ρ τ O s Q E d ρ' S h q => by
  simp only [evo] at h
  split at h
  · rename_i i ρ1 h1
    cases h
    refine wpAny_evalPart_some (pa.run B po ρ τ O s _ E _ _ S h1 fun v O1 s1 S1 x1 l1 => ?_)
    obtain ⟨t, rfl⟩ := (Vl.lk S1 l1).int
    exact q _ O1 s1 S1 x1 (.int i t)
  · cases h⟩
theorem mid {lo hi : Oe} {l h : Option Expr} {lz hz : Option Int} {Q : Value → Shared → Prop} {E : Value → Shared → Prop} {ρ0 ρ3 : En} {st : Option Expr} {O0 : Om} {s0 : Shared} (pl : POz C G Φ lo l) (ph : POz C G Φ hi h) (S : Sz C B po ρ1 τ O s)
    (h2 : evo G Φ lo ρ1 = some (lz, ρ2)) (h3 : evo G Φ hi ρ2 = some (hz, ρ3)) (e : Ext NoX ρ0 τ O0 s0 ρ1 τ O s)
    (k : ∀ vl vu O' s', Sz C B po ρ3 τ O' s' → Ext NoX ρ0 τ O0 s0 ρ3 τ O' s' → Ext NoX ρ1 τ O s ρ3 τ O' s' → IsPart vl lz → IsPart vu hz → wpAny (model C.prog C.w) C.A (evalPart st C.env) (fun vs s₃ => Q (.ref s₃.heap.objs.size) { s₃ with heap := s₃.heap.push { cls := .type "slice", data := .fields #[vl, vu, vs] } }) E s') :
    wpAny (model C.prog C.w) C.A (eval (.Slice l h st pos) C.env) Q E s := by
  refine wpAny_Slice (pl.run B po ρ1 τ O s _ E _ _ S h2 fun vl O1 s1 S1 x1 i1 => ph.run B po ρ2 τ O1 s1 _ E _ _ S1 h3 fun vu O2 s2 S2 x2 i2 => ?_)
  exact k vl vu O2 s2 S2 (e.trans (x1.trans x2)) (x1.trans x2) i1 i2
theorem pureO_ev {o : Oe} {d : Option Int} (p : pureO o = true) (h : evo G Φ o ρ = some (d, ρ')) : ρ' = ρ := by
  cases o with
  | none => simp only [evo] at h; cases h; rfl
  | some e =>
    simp only [evo] at h
    split at h
    · rename_i i ρ1 h1
      cases h
      exact pure_ev e p h1
    · cases h
theorem ok_slc {lo hi : Oe} {l h : Option Expr} {p2 : Pos} (H : Hy C T G Φ) (pa : PEz C G Φ a x) (pl : POz C G Φ lo l) (ph : POz C G Φ hi h) (hb : (!isBrw a || (pureO lo && pureO hi)) = true) : PEz C G Φ (.slc a lo hi) (.Subscript x (.Slice l h none p2) pos) := ⟨fun B po ρ τ O s Q E d ρ' S hh q => by
  simp only [ev] at hh
  split at hh
  · rename_i d1 ρ1 h1
    split at hh
    · rename_i lz ρ2 h2
      split at hh
      · rename_i hz ρ3 h3
        rw [Option.map_eq_some_iff] at hh
        obtain ⟨d', hd, e⟩ := hh
        cases e
        refine Subscript_ (pa.run B po ρ τ O s _ E _ _ S h1 fun v O1 s1 S1 x1 l1 => ?_)
        refine mid pl ph S1 h2 h3 x1 fun vl vu O2 s2 S2 x2 x12 i1 i2 => ?_
        rw [evalPart_none]
        refine wpAny_pure ?_
        have kp : Kept s2.heap (s2.heap.push { cls := .type "slice", data := .fields #[vl, vu, .none] }) := Kept.push _ _
        have g : Gr O2 s2 O2 { s2 with heap := s2.heap.push { cls := .type "slice", data := .fields #[vl, vu, .none] } } := Gr.same (t' := s2.toks) S2.sub S2.iz.bare kp (Nat.le_refl _)
        have S3 := S2.grow g
        have hq : isBrw a = true → ρ' = ρ1 := fun hbr => by
          rw [hbr, Bool.not_true, Bool.false_or, Bool.and_eq_true] at hb
          exact (pureO_ev hb.2 h3).trans (pureO_ev hb.1 h2)
        have lk : Lk C.prog C.w O2 (s2.heap.push { cls := .type "slice", data := .fields #[vl, vu, .none] }) s2.toks v d1 := Vl.lk S3 (l1.go x12.le x12.tk hq)
        have sl := Heap.IsSliceOf.new s2.heap vl vu .none
        have rq := S3.res (.slc a lo hi) rfl (x2.trans (Ext.gr g)) q
        have cn := S3.cn H.t1
        cases d1 with
        | lst ds =>
          simp only [slcD] at hd
          cases hd
          obtain ⟨p, us, k, rfl, e1, e2, r⟩ := lk.list
          exact tail_any (ops := [.ref s2.heap.objs.size, .ref p]) (isL (s := { s2 with heap := s2.heap.push { cls := .type "slice", data := .fields #[vl, vu, .none] } }) e1).typeIs (PySem.slot_list_getitem.lookup) (slcL_ok cn e1 e2 r sl i1 i2 rq) (by with_unfolding_all rfl)
        | tup ds =>
          simp only [slcD] at hd
          cases hd
          have lk' := lk
          obtain ⟨p, o, us, k, rfl, e1, e2, e3, e4, r⟩ := lk.tuple
          have ty : Shared.TypeIs { s2 with heap := s2.heap.push { cls := .type "slice", data := .fields #[vl, vu, .none] } } (.ref p) "tuple" := ⟨o, e1, e2⟩
          exact tail_any (ops := [.ref s2.heap.objs.size, .ref p]) ty (PyProof.Rows.slot_tuple_getitem.lookup) (slcT_ok cn lk' sl i1 i2 rq) (by with_unfolding_all rfl)
        | str sx =>
          simp only [slcD] at hd
          split at hd
          · rename_i hx
            cases hd
            obtain ⟨t, rfl, ht⟩ := lk.str
            exact tail_any (ops := [.ref s2.heap.objs.size, .str (toS sx) t]) (typeIs_str _ _ _) (PySem.F.slot_str_getitem.lookup) (slcS_ok cn ht hx sl i1 i2 rq) (by with_unfolding_all rfl)
          · cases hd
        | _ => simp [slcD] at hd
      · cases hh
    · cases hh
  · cases hh⟩
end
end Mini
/-! Mini, exact: calls. -/
namespace Mini
open PySem PySem.Spec PyProof.Rows L2

section
variable {C : Cz} {T : Tb} {G : Nat → Option D} {Φ : Fn} {B : Bk} {po : Option Addr} {ρ ρ' ρ1 ρ2 : En} {τ : List (Option Value)} {O O' : Om} {s s' : Shared}
variable {a b c : E} {es : Es} {x y z : Expr} {xs : List Expr} {pos : Pos}

theorem noStar_any {env : Env} : ∀ {xs : List Expr}, xs.all noStar = true → (backTo pos (starEach xs env)).any (·.1) = false
  | [], _ => rfl
  | x :: xs, h => by
    rw [List.all_cons, Bool.and_eq_true] at h
    rw [star_of h.1]
    show (false || (backTo pos (starEach xs env)).any (·.1)) = false
    rw [noStar_any h.2]; rfl
theorem noStar_all {env : Env} : ∀ {xs : List Expr}, xs.all noStar = true → (backTo pos (starEach xs env)).all (fun x => !x.1) = true
  | [], _ => rfl
  | x :: xs, h => by
    rw [List.all_cons, Bool.and_eq_true] at h
    rw [star_of h.1]
    show (true && (backTo pos (starEach xs env)).all (fun x => !x.1)) = true
    rw [noStar_all h.2]; rfl
theorem mEs_star {N : List Str} {sc : Scope} : ∀ {es : Es} {xs : List Expr}, mEs N T sc es xs = true → xs.all noStar = true
  | .nil, [], _ => rfl
  | .nil, _ :: _, h => by simp [mEs] at h
  | .cons e es, [], h => by simp [mEs] at h
  | .cons e es, x :: xs, h => by
    simp only [mEs, Bool.and_eq_true] at h
    rw [List.all_cons, h.1.1, mEs_star h.2]; rfl
  | .io i es, xs, h => by
    unfold mEs at h
    split at h <;> try (cases h; done)
    all_goals (try (rename_i q; cases q))
    all_goals (simp only [Bool.and_eq_true] at h; rw [List.all_cons, mEs_star h.2]; rfl)
  | .fr, xs, h => by
    unfold mEs at h
    split at h <;> first | rfl | (cases h; done) | (rename_i q; cases q; done) | skip

/-! ### dicts, reversed -/
theorem dkNew {P : Program} {w : World} : DkObj P w { cls := .type "dict", data := .dict #[] } [] := by
  refine ⟨⟨rfl, rfl, rfl⟩, #[], 0, rfl, fun e h => by simp at h, .nil, List.nodup_nil⟩
theorem sys_ne {h : Heap} (n : h.NoLimit) : (h.objs.size == sysModules) = false ∨ True := .inr trivial
theorem revS_ok {P : Program} {w : World} {A : Around} {E Q : Value → Shared → Prop} {O : Om} {s : Shared} {x : Sg} {t t1 : Tok} {sl : Addr} (c : Cn O s) (hx : x.length ≤ LIM) (hs : s.heap.IsSliceOf sl .none .none (.int (-1) t1)) (q : Res P w O s (.str x.reverse) Q) :
    wpAny (model P w) A (getItem (.str (toS x) t) (.ref sl)) Q E s := by
  obtain ⟨os, hos, hcs, hds⟩ := hs
  refine wpAny_getItem_str_slice (l := none) (u := none) (st := some (-1, t1)) ⟨os, hos, hcs, hds⟩ rfl ?_
  have e1 : slicePicked (toS x) none none (some (-1, t1)) = (List.range x.length).reverse := by
    show Builtin.Str.strSliceIndices none none (-1) (toS x).length = _
    rw [toS_len]
    have e : Builtin.Str.strSliceIndices none none (-1) x.length = sliceRange ((x.length : Int) - 1) (-1) (-1) := by
      unfold Builtin.Str.strSliceIndices
      simp
    rw [e, PySem.W.krv_sliceRange, PySem.W.krv_range]
  have e2 : sliceMade (toS x) t none none (some (-1, t1)) = .str (toS x.reverse) := by
    unfold sliceMade
    have h1 : (((some ((-1 : Int), t1)).map (·.1)).getD 1 == 1 && (slicePicked (toS x) none none (some (-1, t1))).length == (toS x).length) = false := by
      show ((-1 : Int) == 1 && _) = false
      rfl
    rw [h1, e1]
    simp only [Bool.false_eq_true, if_false]
    rw [List.filterMap_reverse]
    have := PySem.W.krv_all (toS x).cps
    rw [show (toS x).cps.size = x.length from by simp [toS]] at this
    rw [this, toS_cps]
    rfl
  rw [e2]
  exact ⟨by rw [toS_len, List.length_reverse]; exact Nat.le_trans hx lim, q.strNew c⟩
theorem ok_rev {k : Nat} {p1 p2 p3 : Pos} (H : Hy C T G Φ) (pa : PEz C G Φ a x) : PEz C G Φ (.rev a) (.Subscript x (.Slice none none (some (.UnaryOp .USub (.Constant (.int 1) k p1) p2)) p3) pos) := ⟨fun B po ρ τ O s Q E d ρ' S hh q => by
  simp only [ev] at hh
  split at hh
  · rename_i d1 ρ1 h1
    rw [Option.map_eq_some_iff] at hh
    obtain ⟨d', hd, e⟩ := hh
    cases e
    refine Subscript_ (pa.run B po ρ τ O s _ E _ _ S h1 fun v O1 s1 S1 x1 l1 => ?_)
    refine mid (G := G) (Φ := Φ) (ρ2 := ρ') (ρ3 := ρ') (lo := .none) (hi := .none) (lz := none) (hz := none) po_none' po_none' S1 rfl rfl x1 fun vl vu O2 s2 S2 x2 x12 i1 i2 => ?_
    cases i1
    cases i2
    have pn : PEz C G Φ (.neg (.int 1)) (.UnaryOp .USub (.Constant (.int 1) k p1) p2) := ok_neg H (ok_int H.t1)
    refine wpAny_evalPart_some (pn.run B po ρ' τ O2 s2 _ E (.int (-1)) ρ' S2 rfl fun vs O3 s3 S3 x3 l3 => ?_)
    obtain ⟨t, rfl⟩ := (Vl.lk S3 l3).int
    have g : Gr O3 s3 O3 { s3 with heap := s3.heap.push { cls := .type "slice", data := .fields #[.none, .none, .int (-1) t] } } := Gr.same (t' := s3.toks) S3.sub S3.iz.bare (Kept.push _ _) (Nat.le_refl _)
    have S4 := S3.grow g
    have lk : Lk C.prog C.w O3 (s3.heap.push { cls := .type "slice", data := .fields #[.none, .none, .int (-1) t] }) s3.toks v d1 := Vl.lk S4 (l1.go (x12.le.trans x3.le) (Nat.le_trans x12.tk x3.tk) fun _ => rfl)
    have sl := Heap.IsSliceOf.new s3.heap .none .none (.int (-1) t)
    have rq := S4.res (.rev a) rfl ((x2.trans x3).trans (Ext.gr g)) q
    have cn := S4.cn H.t1
    cases d1 with
    | lst ds =>
      cases hd
      obtain ⟨p, us, k, rfl, e1, e2, r⟩ := lk.list
      exact tail_any (ops := [.ref p, .ref s3.heap.objs.size]) (isL (s := { s3 with heap := s3.heap.push { cls := .type "slice", data := .fields #[.none, .none, .int (-1) t] } }) e1).typeIs (PySem.slot_list_getitem.lookup) (revL_ok cn e1 e2 r sl rq) (by with_unfolding_all rfl)
    | str sx =>
      simp only [revD] at hd
      split at hd
      · rename_i hx
        cases hd
        obtain ⟨t', rfl, ht⟩ := lk.str
        exact tail_any (ops := [.str (toS sx) t', .ref s3.heap.objs.size]) (typeIs_str _ _ _) (PySem.F.slot_str_getitem.lookup) (revS_ok cn hx sl rq) (by with_unfolding_all rfl)
      · cases hd
    | _ => simp [revD] at hd
  · cases hh⟩

/-! ### builtins -/
theorem boot_bf (b : Bf) : bootBuiltins (bfS b) = some (bfV b) := by
  cases b <;> kernel_rfl
theorem mem_blts (b : Bf) : bfS b ∈ blts := by cases b <;> decide +kernel
theorem bfV_two (b : Bf) : (∃ id, bfV b = .builtin id) ∨ ∃ T, bfV b = .type T := by
  cases b <;> first | exact .inl ⟨_, rfl⟩ | exact .inr ⟨_, rfl⟩
theorem ok_fn {f : Bf} {nm : Str} {p : Pos} (H : Hy C T G Φ) (g : glB C.env.scope nm = true) (k : okN nm = true) (hn : nm = bfS f) (n : noIo es = true) (pa : PAz C G Φ es (x :: xs)) (p1 : ∀ a, es = .cons a .nil → PEz C G Φ a x ∧ xs = []) (hst : (x :: xs).all noStar = true) :
    PEz C G Φ (.fn f es) (.Call (.Name nm p) (x :: xs) [] pos) := ⟨fun B po ρ τ O s Q E d ρ' S h q => by
  subst hn
  have hd := S.iz.ok.hd
  have hs1 : noStar x = true := by rw [List.all_cons, Bool.and_eq_true] at hst; exact hst.1
  have hs2 : xs.all noStar = true := by rw [List.all_cons, Bool.and_eq_true] at hst; exact hst.2
  refine wpAny_Call_Name_kw (blt_ok S g k (H.blt _ (mem_blts f)) (boot_bf f) ?_)
  have go : wpAny (model C.prog C.w) C.A (spliced (backTo pos (starEach (x :: xs) C.env))) (fun vs s₁ => wpAny (model C.prog C.w) C.A (call (bfV f) vs) Q E s₁) E s := by
    have gen : (match evs G Φ es ρ with
        | some (ds, ρ1) => (fnD f ds).map fun d => (d, ρ1)
        | none => none) = some (d, ρ') → wpAny (model C.prog C.w) C.A (spliced (backTo pos (starEach (x :: xs) C.env))) (fun vs s₁ => wpAny (model C.prog C.w) C.A (call (bfV f) vs) Q E s₁) E s := fun h => by
      split at h
      · rename_i ds ρ1 h1
        rw [Option.map_eq_some_iff] at h
        obtain ⟨d', hd', e⟩ := h
        cases e
        exact pa.run pos B po ρ τ O s _ E _ _ S h1 fun us O1 s1 S1 x1 l1 => fn_ok hd hd' (S1.cn H.t1) (l1.plain n) (S1.res (.fn f es) rfl x1 q)
      · cases h
    cases es with
    | cons a es' =>
      cases es' with
      | nil =>
        obtain ⟨pe, hx⟩ := p1 a rfl
        subst hx
        simp only [ev] at h
        split at h
        · rename_i d1 ρ1 h1
          rw [Option.map_eq_some_iff] at h
          obtain ⟨d', hd', e⟩ := h
          cases e
          rw [star_of hs1]
          show wpAny _ _ (spliced ((false, eval x C.env) :: backTo pos (starEach [] C.env))) _ _ s
          refine Calls.spliced_cons (pe.run B po ρ τ O s _ E d1 _ S h1 fun u O1 s1 S1 x1 l1 => ?_)
          exact Calls.spliced_nil (fn1_ok hd hd' (S1.cn H.t1) (Vl.lk S1 l1) (S1.res (.fn f (.cons a .nil)) rfl x1 q))
        · cases h
      | cons _ _ => simp only [ev] at h; exact gen h
      | io _ _ => simp only [ev] at h; exact gen h
      | fr => simp only [ev] at h; exact gen h
    | nil => simp only [ev] at h; exact gen h
    | io _ _ => simp only [ev] at h; exact gen h
    | fr => simp only [ev] at h; exact gen h
  rcases bfV_two f with ⟨id, e⟩ | ⟨T', e⟩
  · rw [e] at go ⊢
    exact PyProof.Rows.callWith_builtin1 go (star_of hs1) (noStar_any hs2)
  · rw [e] at go ⊢
    exact PyProof.Rows.callWith_type1 go (star_of hs1) (noStar_any hs2)⟩
end
end Mini
/-! Mini, exact: isinstance, methods, the program's own functions. -/
namespace Mini
open PySem PySem.Spec PyProof.Rows L2

section
variable {C : Cz} {T : Tb} {G : Nat → Option D} {Φ : Fn} {B : Bk} {po : Option Addr} {ρ ρ' ρ1 ρ2 : En} {τ : List (Option Value)} {O O' : Om} {s s' : Shared}
variable {a b c : E} {es : Es} {x y z : Expr} {xs : List Expr} {pos : Pos}

theorem boot_ty (t : Ty) : bootBuiltins (tyS t) = some (.type (tyN t)) := by cases t <;> kernel_rfl
theorem mem_ty (t : Ty) : tyS t ∈ blts := by cases t <;> decide +kernel
theorem ok_isi {t : Ty} {nm nz : Str} {p p2 : Pos} (H : Hy C T G Φ) (g : glB C.env.scope nm = true) (k : okN nm = true) (hn : nm = "isinstance") (g2 : glB C.env.scope nz = true) (k2 : okN nz = true) (hz : nz = tyS t) (hs : noStar y = true) (pa : PEz C G Φ a y) :
    PEz C G Φ (.isi a t) (.Call (.Name nm p) [y, .Name nz p2] [] pos) := ⟨fun B po ρ τ O s Q E d ρ' S h q => by
  subst hn
  subst hz
  simp only [ev] at h
  split at h
  · rename_i d1 ρ1 h1
    cases h
    refine wpAny_Call_Name_kw (blt_ok (u := .builtin "isinstance") S g k (H.blt _ (by decide +kernel)) (by kernel_rfl) ?_)
    refine PyProof.Rows.callWith_builtin1 ?_ (star_of hs) rfl
    rw [star_of hs]
    show wpAny _ _ (spliced ((false, eval y C.env) :: backTo pos (starEach [.Name (tyS t) p2] C.env))) _ _ s
    refine Calls.spliced_cons (pa.run B po ρ τ O s _ E d1 _ S h1 fun u O1 s1 S1 x1 l1 => ?_)
    show wpAny _ _ (spliced ((false, eval (.Name (tyS t) p2) C.env) :: backTo pos (starEach [] C.env))) _ _ s1
    refine Calls.spliced_cons (blt_ok S1 g2 k2 (H.blt _ (mem_ty t)) (boot_ty t) (Calls.spliced_nil ?_))
    exact isi_ok S1.iz.kin (S1.cn H.t1) (Vl.lk S1 l1) (S1.res (.isi a t) rfl x1 q)
  · cases h⟩
theorem ok_isi2 {t u : Ty} {nm nz nz2 : Str} {p p2 p3 p4 : Pos} {k : Nat} (H : Hy C T G Φ) (g : glB C.env.scope nm = true) (k1 : okN nm = true) (hn : nm = "isinstance") (g2 : glB C.env.scope nz = true) (k2 : okN nz = true) (hz : nz = tyS t)
    (g3 : glB C.env.scope nz2 = true) (k3 : okN nz2 = true) (hz2 : nz2 = tyS u) (hs : noStar y = true) (pa : PEz C G Φ a y) :
    PEz C G Φ (.isi2 a t u) (.Call (.Name nm p) [y, .Tuple [.Name nz p2, .Name nz2 p3] k p4] [] pos) := ⟨fun B po ρ τ O s Q E d ρ' S h q => by
  subst hn
  subst hz
  subst hz2
  simp only [ev] at h
  split at h
  · rename_i d1 ρ1 h1
    cases h
    refine wpAny_Call_Name_kw (blt_ok (u := .builtin "isinstance") S g k1 (H.blt _ (by decide +kernel)) (by kernel_rfl) ?_)
    refine PyProof.Rows.callWith_builtin1 ?_ (star_of hs) rfl
    rw [star_of hs]
    show wpAny _ _ (spliced ((false, eval y C.env) :: backTo pos (starEach [.Tuple [.Name (tyS t) p2, .Name (tyS u) p3] k p4] C.env))) _ _ s
    refine Calls.spliced_cons (pa.run B po ρ τ O s _ E d1 _ S h1 fun v O1 s1 S1 x1 l1 => ?_)
    show wpAny _ _ (spliced ((false, eval (.Tuple [.Name (tyS t) p2, .Name (tyS u) p3] k p4) C.env) :: backTo pos (starEach [] C.env))) _ _ s1
    refine Calls.spliced_cons (wpAny_Tuple_spliced ?_)
    show wpAny _ _ (spliced ((false, eval (.Name (tyS t) p2) C.env) :: backTo p4 (starEach [.Name (tyS u) p3] C.env))) _ _ s1
    refine Calls.spliced_cons (blt_ok S1 g2 k2 (H.blt _ (mem_ty t)) (boot_ty t) ?_)
    show wpAny _ _ (spliced ((false, eval (.Name (tyS u) p3) C.env) :: backTo p4 (starEach [] C.env))) _ _ s1
    refine Calls.spliced_cons (blt_ok S1 g3 k3 (H.blt _ (mem_ty u)) (boot_ty u) (Calls.spliced_nil ?_))
    refine ⟨by show 2 ≤ sizeLine; rw [sizeLine_eq]; omega, Calls.spliced_nil ?_⟩
    have g : Gr O1 s1 O1 { s1 with heap := s1.heap.push { cls := .type "tuple", data := .seq [Value.type (tyN t), .type (tyN u)].toArray } } := Gr.same (t' := s1.toks) S1.sub S1.iz.bare (Kept.push _ _) (Nat.le_refl _)
    have S2 := S1.grow g
    have lk : Lk C.prog C.w O1 (s1.heap.push { cls := .type "tuple", data := .seq [Value.type (tyN t), .type (tyN u)].toArray }) s1.toks v d1 := Vl.lk S2 (l1.go (Le.refl _) (Nat.le_refl _) fun _ => rfl)
    exact isi2_ok S2.iz.kin (S2.cn H.t1) lk (Heap.get?_push_size _ rfl) (S2.res (.isi2 a t u) rfl (x1.trans (Ext.gr g)) q)
  · cases h⟩
theorem mt_slot {m : Mt} (h : mtok m = true) : Slot "str" (mtS m) (mtN m) ∧ typeOf (.builtin (mtN m)) = pure (.type "method_descriptor") := by
  cases m <;> first
    | exact ⟨PySem.F.slot_str_join, PySem.F.type_str_join⟩
    | exact ⟨PySem.F.slot_str_index, PySem.F.type_str_index⟩
    | (cases h)
theorem attr_of {nm : Str} (h : attrOk x = true) : attributeBase x nm C.env (eval x C.env) = eval x C.env := by
  unfold attrOk at h
  unfold attributeBase
  split at h
  · cases h
  · rename_i hne
    split
    · rename_i id p pos
      exact absurd rfl (hne id p pos)
    · rfl
theorem few_of {n : Nat} (h : xs.all noStar = true) (hl : xs.length < 29) : ((backTo pos (starEach xs C.env)).all (fun x => !x.1) && (backToKw pos (keywordEach [] C.env)).all (fun x => x.1.isSome)
      && decide (xs.length + ([] : List Keyword).length + (if ([] : List Keyword).isEmpty then 0 else 1) < 30)) = true := by
  rw [noStar_all h, Bool.true_and]
  show (true && decide (xs.length + 0 + 0 < 30)) = true
  rw [Bool.true_and, decide_eq_true_eq]; omega
theorem ok_mt {m : Mt} {o : E} {nm : Str} {ap : Pos} (H : Hy C T G Φ) (hm : mtok m = true) (hn : nm = mtS m) (hl : (ap.endLine == pos.line) = true) (hx : (y :: xs).length < 29) (ha : attrOk x = true) (hb : isBrw o = false) (pe : PEz C G Φ o x) (n : noIo es = true) (pa : PAz C G Φ es (y :: xs)) (hst : (y :: xs).all noStar = true) :
    PEz C G Φ (.mt m o es) (.Call (.Attribute x nm ap) (y :: xs) [] pos) := ⟨fun B po ρ τ O s Q E d ρ' S h q => by
  subst hn
  simp only [ev] at h
  split at h
  · rename_i d1 ρ1 h1
    split at h
    · rename_i ds ρ2 h2
      rw [Option.map_eq_some_iff] at h
      obtain ⟨d', hd', e⟩ := h
      cases e
      have hs1 : noStar y = true := by rw [List.all_cons, Bool.and_eq_true] at hst; exact hst.1
      have hs2 : xs.all noStar = true := by rw [List.all_cons, Bool.and_eq_true] at hst; exact hst.2
      refine wpAny_Call_method_late (attr_of ha) (few_of (n := 0) hst hx) hl rfl (pe.run B po ρ τ O s _ E d1 _ S h1 fun u O1 s1 S1 x1 l1 => ?_)
      have r1 := l1.rep hb
      obtain ⟨sg, rfl⟩ : ∃ sg, d1 = .str sg := by
        cases m <;> first | (cases hm; done) | skip
        all_goals (cases d1 <;> first | exact ⟨_, rfl⟩ | (simp [mtD] at hd'))
      obtain ⟨t, rfl, _⟩ := (Lk.of S1.sub r1).str
      refine ⟨"str", mtN m, PySem.F.plainAttrs_str, (mt_slot hm).1, (mt_slot hm).2, typeIs_str _ _ _, fun _ e => (nomatch e), ?_⟩
      have hA : wpAny (model C.prog C.w) C.A (spliced (backTo pos (starEach (y :: xs) C.env))) (fun vs s' => wpAny (model C.prog C.w) C.A (call (.builtin (mtN m)) ([.str (toS sg) t] ++ vs)) Q E s') E s1 :=
        pa.run pos B po ρ1 τ O1 s1 _ E _ _ S1 h2 fun us O2 s2 S2 x2 l2 => mt_ok S2.iz.ok.hd hd' (S2.cn H.t1) (.of S2.sub (r1.mono x2.le x2.tk)) (l2.plain n) (S2.res (.mt m o es) rfl (x1.trans x2) q)
      rw [star_of hs1] at hA ⊢
      exact Calls.callWith_builtin (by show (false || (backTo pos (starEach xs C.env)).any (·.1)) = false; rw [noStar_any hs2] <;> rfl) (Calls.evalArgs_plain hA)
    · cases h
  · cases h⟩
theorem ok_rep {o e : E} {nm zs : Str} {k : Nat} {ap p3 : Pos} (H : Hy C T G Φ) (hn : nm = "replace") (hl : (ap.endLine == pos.line) = true) (ha : attrOk x = true) (hb : isBrw o = false) (hb2 : isBrw e = false) (pe : PEz C G Φ o x) (pf : PEz C G Φ e y) (hs1 : noStar y = true) (hz : zs.cps.toList = []) :
    PEz C G Φ (.rep o e) (.Call (.Attribute x nm ap) [y, .Constant (.str zs) k p3] [] pos) := ⟨fun B po ρ τ O s Q E d ρ' S h q => by
  subst hn
  have hz' : zs = ⟨#[]⟩ := by
    cases zs with | mk c => simp at hz; rw [hz]
  subst hz'
  simp only [ev] at h
  split at h
  · rename_i d1 ρ1 h1
    split at h
    · rename_i d2 ρ2 h2
      rw [Option.map_eq_some_iff] at h
      obtain ⟨d', hd', e'⟩ := h
      cases e'
      have hst : [y, Expr.Constant (.str ⟨#[]⟩) k p3].all noStar = true := by rw [List.all_cons, hs1]; rfl
      refine wpAny_Call_method_late (attr_of ha) (few_of (n := 0) hst (by show 2 < 29; decide)) hl rfl (pe.run B po ρ τ O s _ E d1 _ S h1 fun u O1 s1 S1 x1 l1 => ?_)
      have r1 := l1.rep hb
      obtain ⟨sg, rfl⟩ : ∃ sg, d1 = .str sg := by cases d1 <;> first | exact ⟨_, rfl⟩ | (simp [repD] at hd')
      obtain ⟨t, rfl, _⟩ := (Lk.of S1.sub r1).str
      refine ⟨"str", "str.replace", PySem.F.plainAttrs_str, PySem.F.slot_str_replace, PySem.F.type_str_replace, typeIs_str _ _ _, fun _ e => (nomatch e), ?_⟩
      rw [star_of hs1]
      refine Calls.callWith_builtin rfl (Calls.evalArgs_plain ?_)
      refine Calls.spliced_cons (pf.run B po ρ1 τ O1 s1 _ E d2 _ S1 h2 fun v O2 s2 S2 x2 l2 => ?_)
      show wpAny _ _ (spliced ((false, eval (.Constant (.str ⟨#[]⟩) k p3) C.env) :: backTo pos (starEach [] C.env))) _ _ s2
      refine Calls.spliced_cons (Calls.Constant_str (Calls.spliced_nil ?_))
      have g : Gr O2 s2 O2 { s2 with toks := s2.toks + 1 } := Gr.same (h' := s2.heap) S2.sub S2.iz.bare (Kept.refl _) (Nat.le_succ _)
      exact rep_ok hd' (S2.cn H.t1) (r1.mono x2.le x2.tk) (l2.rep hb2) (Nat.le_refl _) ((S2.grow g).res (.rep o e) rfl ((x1.trans x2).trans (Ext.gr g)) q)
    · cases h
  · cases h⟩

/-! ### the program's own functions -/
theorem ArgP.at' : ∀ {es : Es} {us : List Value} {ds : List D} {h0 : Heap} {i : Nat}, oneIo es = true → ioOf es = .at i → ArgP C B ρ τ O s h0 es us ds →
    ∃ p q, ioPos es = some q ∧ τ[i]? = some (some (Value.ref p)) ∧ ArgR C.prog C.w O s.toks (some p) (some q) us ds
  | .nil, _, _, _, _, _, e, _ => by simp [ioOf] at e
  | .cons _ es, _, _, _, i, o, e, h => by
    obtain ⟨u, us', d, ds', rfl, rfl, r, h⟩ := h
    obtain ⟨p, q, e1, e2, e3⟩ := ArgP.at' (i := i) (by simpa [oneIo] using o) (by simpa [ioOf] using e) h
    exact ⟨p, q + 1, by simp [ioPos, e1], e2, by simpa using e3.1, by simpa using RepVs.cons r e3.2⟩
  | .io j es, _, _, _, i, o, e, h => by
    obtain ⟨p, us', rfl, e2, r⟩ := h
    simp only [ioOf] at e
    cases e
    exact ⟨p, 0, rfl, e2, rfl, by simpa using r⟩
  | .fr, _, _, _, _, _, e, _ => by simp [ioOf] at e
theorem ArgP.new' : ∀ {es : Es} {us : List Value} {ds : List D} {h0 : Heap}, oneIo es = true → ioOf es = .new → ArgP C B ρ τ O s h0 es us ds →
    ∃ p q, ioPos es = some q ∧ (h0.get? p = none ∧ O p = none ∧ B p = none ∧ C.base.get? p = none ∧ ¬ C.St p ∧ ¬ ownA ρ τ p ∧ OwnV C.prog C.w O s.toks p (s.heap.get? p) (.dic [])) ∧ ArgR C.prog C.w O s.toks (some p) (some q) us ds
  | .nil, _, _, _, _, e, _ => by simp [ioOf] at e
  | .cons _ es, _, _, _, o, e, h => by
    obtain ⟨u, us', d, ds', rfl, rfl, r, h⟩ := h
    obtain ⟨p, q, e1, e2, e3⟩ := ArgP.new' (by simpa [oneIo] using o) (by simpa [ioOf] using e) h
    exact ⟨p, q + 1, by simp [ioPos, e1], e2, by simpa using e3.1, by simpa using RepVs.cons r e3.2⟩
  | .io j es, _, _, _, o, e, h => by simp [ioOf] at e
  | .fr, _, _, _, _, e, h => by
    obtain ⟨p, rfl, rfl, e3⟩ := h
    exact ⟨p, 0, rfl, e3, rfl, by simpa using RepVs.nil⟩
theorem noIo_of : ∀ {es : Es}, oneIo es = true → ioOf es = .no → noIo es = true ∧ ioPos es = none
  | .nil, _, _ => ⟨rfl, rfl⟩
  | .cons _ es, o, e => by
    obtain ⟨h1, h2⟩ := noIo_of (es := es) (by simpa [oneIo] using o) (by simpa [ioOf] using e)
    exact ⟨by simpa [noIo] using h1, by simp [ioPos, h2]⟩
  | .io _ _, _, e => by simp [ioOf] at e
  | .fr, _, e => by simp [ioOf] at e
theorem run_call {f : Nat} {fa : Addr} {Q E : Value → Shared → Prop} {d : D} {ds : List D} {us : List Value} {ρ0 : En} {O0 : Om} {s0 : Shared} (H : Hy C T G Φ) (hc : CallZ C Φ f fa (T.iop f)) (hio : T.iop f = ioPos es) (ho : oneIo es = true)
    (S : Sz C B po ρ1 τ O s) (x0 : Ext NoX ρ0 τ O0 s0 ρ1 τ O s) (l : ArgP C B ρ1 τ O s s0.heap es us ds)
    (h : (match ioOf es with
      | .no => match Φ f ds none with
        | some (d, none) => some (d, ρ1)
        | _ => none
      | .at i => match getOwn ρ1 i with
        | some c => match Φ f ds (some c) with
          | some (d, some c') => (chg ρ1 i c').map fun ρ2 => (d, ρ2)
          | _ => none
        | none => none
      | .new => match Φ f ds (some (.dic [])) with
        | some (d, some _) => some (d, ρ1)
        | _ => none) = some (d, ρ'))
    (q : ∀ u O' s', Sz C B po ρ' τ O' s' → Ext NoX ρ0 τ O0 s0 ρ' τ O' s' → RepV C.prog C.w O' s'.toks u d → Q u s') : wpAny (model C.prog C.w) C.A (call (.ref fa) us) Q E s := by
  have cn := S.cn H.t1
  cases hk : ioOf es with
  | no =>
    rw [hk] at h
    simp only at h
    split at h
    · rename_i d' e
      cases h
      obtain ⟨n1, n2⟩ := noIo_of ho hk
      refine hc O s us ds none none d none Q E S.iz.bk S.iz.bare cn.tk S.iz.os S.sub S.g0 (fun b e => by cases e) ?_ trivial e fun u O' s' g r _ => ?_
      · rw [hio, n2]; exact l.plain n1
      · exact q u O' s' (S.grow g.none) (x0.trans (Ext.gr g.none)) r
    · cases h
  | «at» i =>
    rw [hk] at h
    simp only at h
    split at h
    · rename_i c hg
      split at h
      · rename_i d' c' e
        rw [Option.map_eq_some_iff] at h
        obtain ⟨ρ2, e2, e3⟩ := h
        cases e3
        obtain ⟨p, qn, e4, e5, e6⟩ := l.at' ho hk
        obtain ⟨p2, b1, b2, b3, b4, b5, b6⟩ := S.own hg
        rw [e5] at b1; cases b1
        refine hc O s us ds (some p) (some c) d (some c') Q E S.iz.bk S.iz.bare cn.tk S.iz.os S.sub S.g0 (fun b e => by cases e; exact b5) (by rw [hio, e4]; exact e6) ⟨b2, b6⟩ e fun u O' s' g r io => ?_
        obtain ⟨S', x'⟩ := S.callOwn g hg e5 io.2 e2
        exact q u O' s' S' (x0.trans x') r
      · cases h
    · cases h
  | new =>
    rw [hk] at h
    simp only at h
    split at h
    · rename_i d' c' e
      cases h
      obtain ⟨p, qn, e4, ⟨f1, f2, f3, f4, f5, f6, f7⟩, e6⟩ := l.new' ho hk
      refine hc O s us ds (some p) (some (.dic [])) d (some c') Q E S.iz.bk S.iz.bare cn.tk S.iz.os S.sub S.g0 (fun b e => by cases e; exact f4) (by rw [hio, e4]; exact e6) ⟨f2, f7⟩ e fun u O' s' g r io => ?_
      obtain ⟨S', x'⟩ := S.callNew g f3 f5 f4 f6 f7 io.2
      exact q u O' s' S' ((x0.weak.trans x').drop fun b hb => by subst hb; exact f1) r
    · cases h
end
end Mini
/-! Mini, exact: every expression (comprehensions by a given rule). -/
namespace Mini
open PySem PySem.Spec PyProof.Rows L2

section
variable {C : Cz} {T : Tb} {G : Nat → Option D} {Φ : Fn} {B : Bk} {po : Option Addr} {ρ ρ' ρ1 ρ2 : En} {τ : List (Option Value)} {O O' : Om} {s s' : Shared}
variable {a b c : E} {es : Es} {x y z : Expr} {xs : List Expr} {pos : Pos}

theorem Sz.big (S : Sz C B po ρ τ O s) : sysModules < s.heap.objs.size := by
  have h : mainGlobals < s.heap.objs.size := (S.iz.ok.mod.glob.keeps S.iz.bk).lt
  exact Nat.lt_trans (by decide) h
theorem Sz.newDict (S : Sz C B po ρ τ O s) : (s.heap.objs.size == sysModules) = false := beq_eq_false_iff_ne.mpr (Nat.ne_of_gt S.big)
theorem ok_dct0 : PEz C G Φ .dct0 (.Dict [] [] pos) := ⟨fun B po ρ τ O s Q E d ρ' S h q => by
  simp only [ev] at h
  cases h
  have g := Gr.laid (h' := s.heap.push { cls := .type "dict", data := .dict #[] }) (t' := s.toks) S.sub S.iz.bare (Kept.push _ _) (Nat.le_refl _) (Heap.get?_push_size _ rfl) (Nat.le_refl _)
  exact wpAny_Dict_empty (q _ _ _ (S.grow g) (Ext.gr g) (.dic oset_same S.newDict (Nat.zero_le _) dkNew .nil))⟩
theorem pa_fr : PAz C G Φ .fr [.Dict [] [] pos] := ⟨fun pos' B po ρ τ O s Q E ds ρ' S h q => by
  simp only [evs] at h
  cases h
  have no : s.heap.get? s.heap.objs.size = none := Heap.get?_none_of_le (Nat.le_refl _)
  have g : Gr O s O { s with heap := s.heap.push { cls := .type "dict", data := .dict #[] } } := Gr.same (t' := s.toks) S.sub S.iz.bare (Kept.push _ _) (Nat.le_refl _)
  show wpAny _ _ (spliced ((false, eval (.Dict [] [] pos) C.env) :: backTo pos' (starEach [] C.env))) _ _ s
  refine Calls.spliced_cons (wpAny_Dict_empty (Calls.spliced_nil (q _ O _ (S.grow g) (Ext.gr g) ⟨s.heap.objs.size, rfl, rfl, no, ?_, ?_, ?_, fun h => ?_, fun ⟨i, x, h1, h2, h3⟩ => ?_, ?_⟩)))
  · cases e : O s.heap.objs.size with
    | none => rfl
    | some o => rw [S.sub _ _ e] at no; cases no
  · cases e : B s.heap.objs.size with
    | none => rfl
    | some o => rw [(S.bk _ o.1 o.2 e).1] at no; cases no
  · cases e : C.base.get? s.heap.objs.size with
    | none => rfl
    | some o => rw [S.iz.bk _ _ e] at no; cases no
  · obtain ⟨o, e⟩ := S.iz.stobj h
    rw [no] at e; cases e
  · obtain ⟨p, d, a1, _, _, _, _, a6⟩ := S.ownP h1 h2
    rw [h3] at a1; cases a1
    obtain ⟨o, e⟩ := a6.some
    rw [no] at e; cases e
  · exact ⟨_, [], Heap.get?_push_size _ rfl, S.newDict, Nat.zero_le _, dkNew, .nil⟩⟩
theorem ok_call {f : Nat} {nm : Str} {p : Pos} (H : Hy C T G Φ) (g : glB C.env.scope nm = true) (k : okN nm = true) (hf : T.fn f = some nm) (hio : T.iop f = ioPos es) (ho : oneIo es = true) (pa : PAz C G Φ es xs) (hst : xs.all noStar = true) (h0 : xs = [] → es = .nil) :
    PEz C G Φ (.call f es) (.Call (.Name nm p) xs [] pos) := ⟨fun B po ρ τ O s Q E d ρ' S h q => by
  obtain ⟨fa, hm, hk, hc⟩ := H.call f nm hf
  simp only [ev] at h
  split at h
  · rename_i ds ρ1 h1
    refine wpAny_Call_Name_kw (glb_ok S g k hm ?_)
    have go : wpAny (model C.prog C.w) C.A (spliced (backTo pos (starEach xs C.env))) (fun vs s₁ => C.K.In s₁.heap ∧ wpAny (model C.prog C.w) C.A (call (.ref fa) ([] ++ vs)) Q E s₁) E s :=
      pa.run pos B po ρ τ O s _ E _ _ S h1 fun us O1 s1 S1 x1 l1 => ⟨S1.iz.kin, run_call H hc hio ho S1 x1 l1 h fun u O' s' S' x' r => q u O' s' S' x' r⟩
    cases xs with
    | nil =>
      refine PySem.W.callWith_K0 S.iz.kin hk ?_
      have e0 := h0 rfl
      subst e0
      simp only [evs] at h1
      cases h1
      exact run_call (es := .nil) (us := []) H hc hio ho S Ext.refl ⟨rfl, rfl⟩ h fun u O' s' S' x' r => q u O' s' S' x' r
    | cons x xs =>
      have hs1 : noStar x = true := by rw [List.all_cons, Bool.and_eq_true] at hst; exact hst.1
      have hs2 : xs.all noStar = true := by rw [List.all_cons, Bool.and_eq_true] at hst; exact hst.2
      exact PySem.W.callWith_K (h₀ := s.heap) S.iz.kin hk go (star_of hs1) (noStar_any hs2)
  · cases h⟩
end

/-! ### all of them -/
def PB (C : Cz) (G : Nat → Option D) (Φ : Fn) (e : E) (x : Expr) : Prop := PEz C G Φ e x ∧ PTz C G Φ e x ∧ ∀ op xs p, x = .BoolOp op xs p → PWz C G Φ e x
section
variable {T : Tb} {G : Nat → Option D} {Φ : Fn}
theorem PEz.both {C : Cz} {e : E} {x : Expr} (p : PEz C G Φ e x) (he : ∀ wh, isTrue x C.env wh = (do let v ← wh; standAt x.pos; holding [v] (truthy v))) (hb : ∀ op xs p, x ≠ .BoolOp op xs p := by intros; intro h; cases h) : PB C G Φ e x := ⟨p, pt_plain p he, fun op xs p e => absurd e (hb op xs p)⟩
theorem toS_of {x : Str} {s : Sg} (h : x.cps.toList = s) : x = toS s := by
  subst h; cases x with | mk c => simp [toS]
section
variable {N : List Str} {sc : Scope} {C : Cz} {a b c : E} {x y z : Expr} {pos : Pos}
theorem fr_inv {xs : List Expr} (h : mEs N T sc .fr xs = true) : ∃ p, xs = [.Dict [] [] p] := by
  unfold mEs at h
  split at h <;> first | exact ⟨_, rfl⟩ | (cases h; done) | (rename_i q; cases q; done)
theorem rev_inv (h : mE N T sc (.rev a) x = true) : ∃ y k p1 p2 p3 pos, x = .Subscript y (.Slice none none (some (.UnaryOp .USub (.Constant (.int 1) k p1) p2)) p3) pos ∧ mE N T sc a y = true := by
  unfold mE at h
  split at h <;> first | (cases h; done) | (rename_i q; cases q; done) | skip
  all_goals (rename_i q; cases q; exact ⟨_, _, _, _, _, _, rfl, h⟩)
theorem isi_inv {t : Ty} (h : mE N T sc (.isi a t) x = true) : ∃ nm p y z p2 pos, x = .Call (.Name nm p) [y, .Name z p2] [] pos ∧
    (glB sc nm && okN nm && decide (nm = "isinstance") && glB sc z && okN z && decide (z = tyS t) && noStar y && mE N T sc a y) = true := by
  unfold mE at h
  split at h <;> first | (cases h; done) | (rename_i q; cases q; done) | skip
  all_goals (rename_i q; cases q; exact ⟨_, _, _, _, _, _, rfl, h⟩)
theorem isi2_inv {t u : Ty} (h : mE N T sc (.isi2 a t u) x = true) : ∃ nm p y z p2 z2 p3 k p4 pos, x = .Call (.Name nm p) [y, .Tuple [.Name z p2, .Name z2 p3] k p4] [] pos ∧
    (glB sc nm && okN nm && decide (nm = "isinstance") && glB sc z && okN z && decide (z = tyS t) && glB sc z2 && okN z2 && decide (z2 = tyS u) && noStar y && mE N T sc a y) = true := by
  unfold mE at h
  split at h <;> first | (cases h; done) | (rename_i q; cases q; done) | skip
  all_goals (rename_i q; cases q; exact ⟨_, _, _, _, _, _, _, _, _, _, rfl, h⟩)
theorem popa_inv {i : Nat} (h : mE N T sc (.popa i a) x = true) : ∃ nm p an ap y pos, x = .Call (.Attribute (.Name nm p) an ap) [y] [] pos ∧
    (mN N sc i nm && decide (an = "pop") && (ap.endLine == pos.line) && noStar y && mE N T sc a y) = true := by
  unfold mE at h
  split at h <;> first | (cases h; done) | (rename_i q; cases q; done) | skip
  all_goals (rename_i q; cases q; exact ⟨_, _, _, _, _, _, rfl, h⟩)
theorem popl_inv {i : Nat} (h : mE N T sc (.popl i) x = true) : ∃ nm p an ap pos, x = .Call (.Attribute (.Name nm p) an ap) [] [] pos ∧
    (mN N sc i nm && decide (an = "pop") && (ap.endLine == pos.line)) = true := by
  unfold mE at h
  split at h <;> first | (cases h; done) | (rename_i q; cases q; done) | skip
  all_goals (rename_i q; cases q; exact ⟨_, _, _, _, _, rfl, h⟩)
theorem rep_inv {o e : E} (h : mE N T sc (.rep o e) x = true) : ∃ y nm ap z zs k p3 pos, x = .Call (.Attribute y nm ap) [z, .Constant (.str zs) k p3] [] pos ∧
    (decide (nm = "replace") && (ap.endLine == pos.line) && attrOk y && !isBrw o && !isBrw e && mE N T sc o y && noStar z && mE N T sc e z && decide (zs.cps.toList = [])) = true := by
  unfold mE at h
  split at h <;> first | (cases h; done) | (rename_i q; cases q; done) | skip
  all_goals (rename_i q; cases q; exact ⟨_, _, _, _, _, _, _, _, rfl, h⟩)
theorem ok_chain {o1 o2 : Cop} (H : Hy C T G Φ) (pa : PEz C G Φ a x) (pb : PEz C G Φ b y) (pc : PEz C G Φ c z) (hm : lastMarks [mcop o1, mcop o2] [y, z] = false) (ba : isBrw a = false) (bb : isBrw b = false) (bc : isBrw c = false) : PEz C G Φ (.chain o1 o2 a b c) (.Compare x [mcop o1, mcop o2] [y, z] pos) := ⟨fun B po ρ τ O s Q E d ρ' S h q => by
  simp only [ev] at h
  split at h
  · rename_i d1 ρ1 h1
    split at h
    · rename_i d2 ρ2 h2
      refine Compare_chain (pa.run B po ρ τ O s _ E d1 ρ1 S h1 fun v O1 s1 S1 x1 l1 => chain_link (pb.run B po ρ1 τ O1 s1 _ E d2 ρ2 S1 h2 fun u O2 s2 S2 x2 l2 => ?_)) hm
      have r1 := (l1.rep ba).mono x2.le x2.tk
      have r2 := l2.rep bb
      split at h
      · rename_i hc
        split at h
        · rename_i d3 ρ3 h3
          rw [Option.map_eq_some_iff] at h
          obtain ⟨d', hd, e⟩ := h
          cases e
          refine cmp_ok H.un hc (S2.cn H.t1) (.of S2.sub r1) (.of S2.sub r2) fun w O3 s3 g3 r3 => ?_
          cases r3
          refine wpAny_truthy_bool ?_
          simp only [if_true]
          have S3 := S2.grow g3
          refine chain_last (pc.run B po ρ2 τ O3 s3 _ E d3 _ S3 h3 fun w O4 s4 S4 x4 l4 => ?_)
          exact cmp_ok H.un hd (S4.cn H.t1) (.of S4.sub ((r2.mono g3.le g3.tk).mono x4.le x4.tk)) (.of S4.sub (l4.rep bc)) (S4.res (.chain o1 o2 a b c) rfl (((x1.trans x2).trans (Ext.gr g3)).trans x4) q)
        · cases h
      · rename_i hc
        cases h
        refine cmp_ok H.un hc (S2.cn H.t1) (.of S2.sub r1) (.of S2.sub r2) fun w O3 s3 g3 r3 => ?_
        cases r3
        refine wpAny_truthy_bool ?_
        simp only [Bool.false_eq_true, if_false]
        exact q _ O3 s3 (S2.grow g3) ((x1.trans x2).trans (Ext.gr g3)) (.bl _)
      · cases h
    · cases h
  · cases h⟩
theorem pt_chain' {o1 o2 : Cop} (H : Hy C T G Φ) (pa : PEz C G Φ a x) (pb : PEz C G Φ b y) (pc : PEz C G Φ c z) (hm : lastMarks [mcop o1, mcop o2] [y, z] = false) (ba : isBrw a = false) (bb : isBrw b = false) (bc : isBrw c = false) : PTz C G Φ (.chain o1 o2 a b c) (.Compare x [mcop o1, mcop o2] [y, z] pos) := ⟨fun wh B po ρ τ O s Q E k ρ' S h hw q => by
  simp only [ev] at h
  split at h
  · rename_i d1 ρ1 h1
    split at h
    · rename_i d2 ρ2 h2
      refine isTrue_chain (pa.run B po ρ τ O s _ E d1 ρ1 S h1 fun v O1 s1 S1 x1 l1 => test_link (pb.run B po ρ1 τ O1 s1 _ E d2 ρ2 S1 h2 fun u O2 s2 S2 x2 l2 => ?_)) hm
      have r1 := (l1.rep ba).mono x2.le x2.tk
      have r2 := l2.rep bb
      split at h
      · rename_i hc
        split at h
        · rename_i d3 ρ3 h3
          rw [Option.map_eq_some_iff] at h
          obtain ⟨d', hd, e⟩ := h
          cases e
          refine cmp_ok H.un hc (S2.cn H.t1) (.of S2.sub r1) (.of S2.sub r2) fun w O3 s3 g3 r3 => ?_
          cases r3
          refine wpAny_truthy_bool ?_
          simp only [if_true]
          have S3 := S2.grow g3
          refine test_last (pc.run B po ρ2 τ O3 s3 _ E d3 _ S3 h3 fun w O4 s4 S4 x4 l4 => ?_)
          refine cmp_ok H.un hd (S4.cn H.t1) (.of S4.sub ((r2.mono g3.le g3.tk).mono x4.le x4.tk)) (.of S4.sub (l4.rep bc)) fun w O5 s5 g5 r5 => ?_
          cases r5
          exact wpAny_truthy_bool (q O5 s5 (S4.grow g5) ((((x1.trans x2).trans (Ext.gr g3)).trans x4).trans (Ext.gr g5)))
        · cases h
      · rename_i hc
        cases h
        refine cmp_ok H.un hc (S2.cn H.t1) (.of S2.sub r1) (.of S2.sub r2) fun w O3 s3 g3 r3 => ?_
        cases r3
        refine wpAny_truthy_bool ?_
        simp only [Bool.false_eq_true, if_false]
        exact q O3 s3 (S2.grow g3) ((x1.trans x2).trans (Ext.gr g3))
      · cases h
    · cases h
  · cases h⟩
theorem pt_ite (pc : PTz C G Φ c z) (pa : PTz C G Φ a x) (pb : PTz C G Φ b y) : PTz C G Φ (.ite c a b) (.IfExp z x y pos) := ⟨fun wh B po ρ τ O s Q E k ρ' S h hw q => by
  simp only [ev] at h
  split at h
  · rename_i ρ1 h1
    split at h
    · cases h
    · refine isTrue_IfExp (pc.run _ B po ρ τ O s _ E _ _ S h1 rfl fun O1 s1 S1 x1 => ?_)
      simp only [if_true]
      exact pa.run _ B po ρ1 τ O1 s1 _ E _ _ S1 h rfl fun O2 s2 S2 x2 => q O2 s2 S2 (x1.trans x2)
  · rename_i ρ1 h1
    split at h
    · cases h
    · refine isTrue_IfExp (pc.run _ B po ρ τ O s _ E _ _ S h1 rfl fun O1 s1 S1 x1 => ?_)
      simp only [Bool.false_eq_true, if_false]
      exact pb.run _ B po ρ1 τ O1 s1 _ E _ _ S1 h rfl fun O2 s2 S2 x2 => q O2 s2 S2 (x1.trans x2)
  · cases h⟩
end
theorem opB_of {a b : Operator} (h : opB a b = true) : a = b := of_decide_eq_true h
theorem cpB_of {a b : CmpOp} (h : cpB a b = true) : a = b := of_decide_eq_true h
end
end Mini
/-! Mini, exact: what is walked. -/
namespace Mini
open PySem PySem.Spec PyProof.Rows L2

/-- an iterator at I gives the data ds; its records are at fp -/
structure Wk (P : Program) (w : World) (O : Om) (n : Nat) (tg : Expr) (I : Addr) (fp : List Addr) (ds : List D) (St : Nat → Heap → Prop) : Prop where
  mem : I ∈ fp
  obj : ∀ i h, St i h → ∀ b ∈ fp, ∃ o, h.get? b = some o
  keep : ∀ i h h', St i h → (∀ b ∈ fp, ∀ o, h.get? b = some o → h'.get? b = some o) → St i h'
  item : ∀ (A : Around) (i : Nat) (d : D) (s : Shared) (O1 : Om) (Q : Value → Shared → Prop) (E : Value → Shared → Prop), A.handled = none → ds[i]? = some d → St i s.heap → Cn O1 s → Le O O1 → n ≤ s.toks → (∀ b ∈ fp, O1 b = none) →
    (∀ u O2 h' t', (∀ b o, b ∉ fp → s.heap.get? b = some o → h'.get? b = some o) → Le O1 O2 → (∀ b o, s.heap.get? b = some o → O2 b = O1 b) → (∀ b o, O2 b = some o → h'.get? b = some o) → s.toks ≤ t' → RepV P w O2 t' u d → St (i + 1) h' → Q u { s with heap := h', toks := t' }) →
    wpAny (model P w) A (pyNext (.ref I)) (fun r s1 => ∃ u, r = some u ∧ wpAny (model P w) A (letOwnedTupleGo tg (.ref I) u) (fun _ s2 => Q u s2) E s1) E s
  done : ∀ (A : Around) (i : Nat) (s : Shared) (O1 : Om) (Q : Shared → Prop) (E : Value → Shared → Prop), A.handled = none → ds.length ≤ i → St i s.heap → Cn O1 s → Le O O1 → (∀ b ∈ fp, O1 b = none) →
    (∀ h' t', (∀ b o, b ∉ fp → s.heap.get? b = some o → h'.get? b = some o) → (∀ b o, O1 b = some o → h'.get? b = some o) → s.toks ≤ t' → Q { s with heap := h', toks := t' }) →
    wpAny (model P w) A (pyNext (.ref I)) (fun r s1 => r = none ∧ Q s1) E s
  self : ∀ (A : Around) (i : Nat) (s : Shared) (Q : Value → Shared → Prop) (E : Value → Shared → Prop), St i s.heap → Q (.ref I) s → wpAny (model P w) A (pyIter (.ref I)) Q E s

section
variable {P : Program} {w : World} {O : Om} {tg : Expr} {I : Addr} {ds : List D} {n : Nat}
theorem subO {O1 : Om} {s : Shared} {fp : List Addr} {h' : Heap} (c : Cn O1 s) (n : ∀ b ∈ fp, O1 b = none) (k : ∀ b o, b ∉ fp → s.heap.get? b = some o → h'.get? b = some o) : ∀ b o, O1 b = some o → h'.get? b = some o := fun b o e =>
  k b o (fun hb => by rw [n b hb] at e; cases e) (c.sub b o e)
theorem one_mem {b : Addr} (h : b ∈ [I]) : b = I := List.mem_singleton.mp h
theorem sb_kept {h h' : Heap} (sb : Heap.SameBut I h h') : ∀ b o, b ∉ [I] → h.get? b = some o → h'.get? b = some o := fun b o hb e => (sb.2 b fun z => hb (by rw [z]; exact List.mem_singleton.mpr rfl)).trans e
theorem eb_kept {h h' : Heap} (sb : Heap.ExtBut I h h') : ∀ b o, b ∉ [I] → h.get? b = some o → h'.get? b = some o := fun b o hb e => sb b o (fun z => hb (by rw [z]; exact List.mem_singleton.mpr rfl)) e
theorem wk_list {l : Addr} {us : List Value} {k : Nat} (ho : O l = some { cls := .type "list", data := .seq us.toArray k }) (r : RepVs P w O n us ds) : Wk P w O n tg I [I] ds (fun i h => h.IsListIter I l i) := by
  refine ⟨List.mem_singleton.mpr rfl, fun i h st b hb => ?_, fun i h h' st k => st.at fun o e => k I (List.mem_singleton.mpr rfl) o e, ?_, ?_, ?_⟩
  · rw [one_mem hb]; obtain ⟨o, e, _⟩ := st; exact ⟨o, e⟩
  · intro A i d s O1 Q E hh hd st c le tk nn q
    obtain ⟨u, hu, ru⟩ := r.get hd
    have pl : s.heap.IsList l us.toArray := isL (c.sub _ _ (le _ _ ho))
    refine wpAny_pyNext_list_item st pl (x := u) (by simpa using hu) fun h' st' sb => ?_
    obtain ⟨o, e, cc, dd⟩ := id st'
    exact ⟨u, rfl, go_of (s := { s with heap := h' }) e cc dd (by decide) (q u O1 h' s.toks (sb_kept sb) (Le.refl _) (fun _ _ _ => rfl) (subO c nn (sb_kept sb)) (Nat.le_refl _) (ru.mono le tk) st')⟩
  · intro A i s O1 Q E hh hd st c le nn q
    have pl : s.heap.IsList l us.toArray := isL (c.sub _ _ (le _ _ ho))
    have hl := r.length
    exact wpAny_pyNext_list_end hh st pl (by simp; omega) fun h' eb => ⟨rfl, q h' s.toks (eb_kept eb) (subO c nn (eb_kept eb)) (Nat.le_refl _)⟩
  · exact fun A i s Q E st h => wpAny_pyIter_listiter st h
theorem wk_tuple {l : Addr} {o : Obj} {us : List Value} {k : Nat} (ho : O l = some o) (h1 : o.cls = .type "tuple") (h2 : o.data = .seq us.toArray k) (r : RepVs P w O n us ds) : Wk P w O n tg I [I] ds (fun i h => h.IsTupleIter I l i) := by
  refine ⟨List.mem_singleton.mpr rfl, fun i h st b hb => ?_, fun i h h' st k => st.at fun o e => k I (List.mem_singleton.mpr rfl) o e, ?_, ?_, ?_⟩
  · rw [one_mem hb]; obtain ⟨o, e, _⟩ := st; exact ⟨o, e⟩
  · intro A i d s O1 Q E hh hd st c le tk nn q
    obtain ⟨u, hu, ru⟩ := r.get hd
    have pl : s.heap.IsTuple l us.toArray := ⟨o, c.sub _ _ (le _ _ ho), h1, k, h2⟩
    refine wpAny_pyNext_tuple_item st pl (x := u) (by simpa using hu) fun h' st' sb => ?_
    obtain ⟨o, e, cc, dd⟩ := id st'
    exact ⟨u, rfl, go_of (s := { s with heap := h' }) e cc dd (by decide) (q u O1 h' s.toks (sb_kept sb) (Le.refl _) (fun _ _ _ => rfl) (subO c nn (sb_kept sb)) (Nat.le_refl _) (ru.mono le tk) st')⟩
  · intro A i s O1 Q E hh hd st c le nn q
    have pl : s.heap.IsTuple l us.toArray := ⟨o, c.sub _ _ (le _ _ ho), h1, k, h2⟩
    have hl := r.length
    exact wpAny_pyNext_tuple_end hh st pl (by simp; omega) fun h' eb => ⟨rfl, q h' s.toks (eb_kept eb) (subO c nn (eb_kept eb)) (Nat.le_refl _)⟩
  · exact fun A i s Q E st h => wpAny_pyIter_tupleiter st h
theorem wk_text {x : Sg} {t : Tok} : Wk P w O n tg I [I] (x.map fun c => .str [c]) (fun i h => TxIt h I (toS x) t i) := by
  refine ⟨List.mem_singleton.mpr rfl, fun i h st b hb => ?_, fun i h h' st k => st.keep fun o e => k I (List.mem_singleton.mpr rfl) o e, ?_, ?_, ?_⟩
  · rw [one_mem hb]; rcases st with ⟨o, e, _⟩ | ⟨o, e, _⟩ <;> exact ⟨o, e⟩
  · intro A i d s O1 Q E hh hd st c le tk nn q
    rw [List.getElem?_map, Option.map_eq_some_iff] at hd
    obtain ⟨ch, hc, rfl⟩ := hd
    refine tx_item (c := ch) st (by simpa [toS] using hc) fun h' st' sb => ?_
    have fin := q (.str (toS [ch]) s.toks) O1 h' (s.toks + 1) (sb_kept sb) (Le.refl _) (fun _ _ _ => rfl) (subO c nn (sb_kept sb)) (Nat.le_succ _) (.str [ch] _ fun _ => ⟨Nat.one_le_iff_ne_zero.mp c.tk, Nat.lt_succ_self _⟩) st'
    refine ⟨_, rfl, ?_⟩
    rcases id st' with ⟨o, e, cc, dd⟩ | ⟨o, e, cc, dd⟩
    · exact go_of (s := { s with heap := h', toks := s.toks + 1 }) e cc dd (by decide) fin
    · exact go_of (s := { s with heap := h', toks := s.toks + 1 }) e cc dd (by decide) fin
  · intro A i s O1 Q E hh hd st c le nn q
    rw [List.length_map] at hd
    exact tx_end hh st (by simp [toS]; omega) fun h' eb => ⟨rfl, q h' s.toks (eb_kept eb) (subO c nn (eb_kept eb)) (Nat.le_refl _)⟩
  · intro A i s Q E st h
    rcases st with st | st
    · exact PySem.wpAny_pyIter_striter_ascii st h
    · exact PySem.wpAny_pyIter_striter_wide st h
theorem wk_range {a b : Int} : Wk P w O n tg I [I] (rangeD a b) (fun i h => IsRangeIter h I (a + (i : Nat) * 1) (((b - a).toNat : Int) - (i : Nat)) 1) := by
  refine ⟨List.mem_singleton.mpr rfl, fun i h st c hb => ?_, fun i h h' st k => k I (List.mem_singleton.mpr rfl) _ st, ?_, ?_, ?_⟩
  · rw [one_mem hb]; exact ⟨_, st⟩
  · intro A i d s O1 Q E hh hd st c le tk nn q
    unfold rangeD at hd
    rw [List.getElem?_map, Option.map_eq_some_iff] at hd
    obtain ⟨j, hj, rfl⟩ := hd
    obtain ⟨hlt, hj⟩ := List.getElem?_eq_some_iff.mp hj
    rw [List.getElem_range] at hj
    subst hj
    have W := Walks.range (prog := P) (w := w) hh I a 1 (b - a).toNat
    refine wpAny_with_toks (Nat.le_refl s.toks) (W.item i s _ _ (by simpa using hlt) st fun v h' tk' hv st' kk => ?_)
    obtain ⟨t, rfl⟩ := hv
    intro ht
    have e1 : a + (i : Int) * 1 = a + (i : Int) := by rw [Int.mul_one]
    refine ⟨_, rfl, go_of (s := { s with heap := h', toks := tk' }) (n := "range_iterator") st' rfl rfl (by decide) ?_⟩
    exact q _ O1 h' tk' kk (Le.refl _) (fun _ _ _ => rfl) (subO c nn kk) ht (by rw [e1]; exact .int _ _) st'
  · intro A i s O1 Q E hh hd st c le nn q
    unfold rangeD at hd
    rw [List.length_map, List.length_range] at hd
    exact wpAny_pyNext_range_end hh st (by omega) fun h' eb => ⟨rfl, q h' s.toks (eb_kept eb) (subO c nn (eb_kept eb)) (Nat.le_refl _)⟩
  · exact fun _ _ _ _ _ st h => wpAny_pyIter_rangeiter st h
end
end Mini
/-! Mini, exact: iterables. -/
namespace Mini
open PySem PySem.Spec PyProof.Rows L2

section
variable {C : Cz} {T : Tb} {G : Nat → Option D} {Φ : Fn} {B : Bk} {po : Option Addr} {ρ ρ' ρ1 ρ2 : En} {τ : List (Option Value)} {O O' : Om} {s s' : Shared}
variable {a b c : E} {es : Es} {x y z tg : Expr} {xs : List Expr} {pos : Pos}

/-- an address that was not there at h0 -/
structure Fre (C : Cz) (B : Bk) (ρ : En) (τ : List (Option Value)) (O : Om) (h0 : Heap) (b : Addr) : Prop where
  nw : h0.get? b = none
  o : O b = none
  bk : B b = none
  bs : C.base.get? b = none
  st : ¬ C.St b
  ow : ¬ ownA ρ τ b
theorem Sz.fre {h0 : Heap} {b : Addr} (S : Sz C B po ρ τ O s) (no : s.heap.get? b = none) (old : ∀ b o, h0.get? b = some o → ∃ o', s.heap.get? b = some o') : Fre C B ρ τ O h0 b := by
  refine ⟨?_, ?_, ?_, ?_, fun h => ?_, fun ⟨i, x, h1, h2, h3⟩ => ?_⟩
  · cases e : h0.get? b with
    | none => rfl
    | some o => obtain ⟨o', e'⟩ := old b o e; rw [no] at e'; cases e'
  · cases e : O b with
    | none => rfl
    | some o => rw [S.sub _ _ e] at no; cases no
  · cases e : B b with
    | none => rfl
    | some o => rw [(S.bk _ o.1 o.2 e).1] at no; cases no
  · cases e : C.base.get? b with
    | none => rfl
    | some o => rw [S.iz.bk _ _ e] at no; cases no
  · obtain ⟨o, e⟩ := S.iz.stobj h
    rw [no] at e; cases e
  · obtain ⟨p, d, a1, _, _, _, _, a6⟩ := S.ownP h1 h2
    rw [h3] at a1; cases a1
    obtain ⟨o, e⟩ := a6.some
    rw [no] at e; cases e
/-- an expression that makes a new list or dict -/
structure PNz (C : Cz) (G : Nat → Option D) (Φ : Fn) (e : E) (x : Expr) : Prop where
  run : ∀ (B : Bk) (po : Option Addr) (ρ : En) (τ : List (Option Value)) (O : Om) (s : Shared) (Q E : Value → Shared → Prop) (d : D) (ρ' : En), Sz C B po ρ τ O s → ev G Φ e ρ = some (d, ρ') →
    (∀ p O' s', Sz C B po ρ' τ O' s' → Ext NoX ρ τ O s ρ' τ O' s' → Fre C B ρ' τ O' s.heap p → OwnV C.prog C.w O' s'.toks p (s'.heap.get? p) d → Q (.ref p) s') → wpAny (model C.prog C.w) C.A (eval x C.env) Q E s
structure PIz (C : Cz) (G : Nat → Option D) (Φ : Fn) (it : It) (tg x : Expr) : Prop where
  run : ∀ (B : Bk) (po : Option Addr) (ρ : En) (τ : List (Option Value)) (O : Om) (s : Shared) (Q E : Value → Shared → Prop) (ds : List D) (ρ' : En), Sz C B po ρ τ O s → evi G Φ it ρ = some (ds, ρ') →
    (∀ I fp St n O' s', Sz C B po ρ' τ O' s' → Ext NoX ρ τ O s ρ' τ O' s' → Wk C.prog C.w O' n tg I fp ds St → n ≤ s'.toks → St 0 s'.heap → (∀ b ∈ fp, Fre C B ρ' τ O' s.heap b) → Q (.ref I) s') →
    wpAny (model C.prog C.w) C.A (eval x C.env) (fun v s1 => wpAny (model C.prog C.w) C.A (pyIter v) Q E s1) E s
theorem pi_seq (pa : PEz C G Φ a x) : PIz C G Φ (.seq a) tg x := ⟨fun B po ρ τ O s Q E ds ρ' S h q => by
  simp only [evi] at h
  split at h
  · cases h
  · rename_i hb
    split at h
    · rename_i d1 ρ1 h1
      rw [Option.map_eq_some_iff] at h
      obtain ⟨xs, hs, e⟩ := h
      cases e
      refine pa.run B po ρ τ O s _ E d1 _ S h1 fun v O1 s1 S1 x1 l1 => ?_
      have r1 := l1.rep (by simpa using hb)
      have no : s1.heap.get? s1.heap.objs.size = none := Heap.get?_none_of_le (Nat.le_refl _)
      have fin : ∀ (o : Obj) (St : Nat → Heap → Prop), Wk C.prog C.w O1 s1.toks tg s1.heap.objs.size [s1.heap.objs.size] ds St → St 0 (s1.heap.push o) → Q (.ref s1.heap.objs.size) { s1 with heap := s1.heap.push o } := fun o St W st => by
        have g : Gr O1 s1 O1 { s1 with heap := s1.heap.push o } := Gr.same (t' := s1.toks) S1.sub S1.iz.bare (Kept.push _ _) (Nat.le_refl _)
        refine q _ _ St s1.toks O1 _ (S1.grow g) (x1.trans (Ext.gr g)) W (Nat.le_refl _) st fun b hb => ?_
        rw [one_mem hb]
        exact S1.fre no x1.st'
      cases d1 with
      | lst es =>
        cases hs
        cases r1 with
        | lst e1 e2 r => exact wpAny_pyIter_list (isL (S1.sub _ _ e1)) (fin _ _ (wk_list e1 r) ⟨_, Heap.get?_push_size _ rfl, rfl, rfl⟩)
      | tup es =>
        cases hs
        cases r1 with
        | tup e1 e2 e3 e4 r => exact wpAny_pyIter_tuple (items := Array.mk _) ⟨_, S1.sub _ _ e1, e2, _, e3⟩ (fin _ _ (wk_tuple e1 e2 e3 r) ⟨_, Heap.get?_push_size _ rfl, rfl, rfl⟩)
      | str sx =>
        cases hs
        cases r1 with
        | str _ t ht => exact tx_iter fun o st => fin o _ wk_text st
      | _ => simp [seqD] at hs
    · cases h⟩
theorem range_go {lo hi : Int} {t u v : Tok} {tk : Nat} {Q E : Value → Shared → Prop} {ρ0 : En} {O0 : Om} {s0 : Shared} (S : Sz C B po ρ τ O s) (x0 : Ext NoX ρ0 τ O0 s0 ρ τ O s) (ht : s.toks ≤ tk) (h1 : -(2 ^ 62) ≤ lo) (h2 : lo < 2 ^ 62) (h3 : -(2 ^ 62) ≤ hi) (h4 : hi < 2 ^ 62)
    (q : ∀ I fp St n O' s', Sz C B po ρ τ O' s' → Ext NoX ρ0 τ O0 s0 ρ τ O' s' → Wk C.prog C.w O' n tg I fp (rangeD lo hi) St → n ≤ s'.toks → St 0 s'.heap → (∀ b ∈ fp, Fre C B ρ τ O' s0.heap b) → Q (.ref I) s') :
    wpAny (model C.prog C.w) C.A (pyIter (.ref s.heap.objs.size)) Q E { s with heap := s.heap.push { cls := .type "range", data := .fields #[.int lo t, .int hi u, .int 1 v] }, toks := tk } := by
  refine wpAny_pyIter_range (IsRange.new ..) (small_one h1 h2 h3 h4) ?_
  generalize ho : ({ cls := .type "range", data := .fields #[.int lo t, .int hi u, .int 1 v] } : Obj) = o1
  have g : Gr O s O { s with heap := s.heap.push o1, toks := tk } := Gr.same S.sub S.iz.bare (Kept.push _ _) ht
  have S1 := S.grow g
  have no : (s.heap.push o1).get? (s.heap.push o1).objs.size = none := Heap.get?_none_of_le (Nat.le_refl _)
  generalize ho2 : ({ cls := .type "range_iterator", data := _ } : Obj) = o2
  have g2 : Gr O { s with heap := s.heap.push o1, toks := tk } O { s with heap := (s.heap.push o1).push o2, toks := tk } := Gr.same (s := { s with heap := s.heap.push o1, toks := tk }) (t' := tk) S1.sub S1.iz.bare (Kept.push _ _) (Nat.le_refl _)
  refine q _ _ _ 0 O _ (S1.grow g2) ((x0.trans (Ext.gr g)).trans (Ext.gr g2)) (wk_range (a := lo) (b := hi)) (Nat.zero_le _) ?_ fun b hb => ?_
  · have e1 : lo + ((0 : Nat) : Int) * 1 = lo := by simp
    have e2 : (((hi - lo).toNat : Nat) : Int) - ((0 : Nat) : Int) = Builtin.Range.rangeSize lo hi 1 := by rw [rangeSize_one]; split <;> omega
    show IsRangeIter _ _ (lo + ((0 : Nat) : Int) * 1) ((((hi - lo).toNat : Nat) : Int) - ((0 : Nat) : Int)) 1
    rw [e1, e2, ← ho2]
    exact Heap.get?_push_size _ rfl
  · rw [one_mem hb]
    exact S1.fre no ((x0.trans (Ext.gr g))).st'
theorem pi_range1 {p : Pos} {nm : Str} (H : Hy C T G Φ) (g : glB C.env.scope nm = true) (k : okN nm = true) (hn : nm = "range") (hs : noStar x = true) (pa : PEz C G Φ a x) : PIz C G Φ (.range1 a) tg (.Call (.Name nm p) [x] [] pos) := ⟨fun B po ρ τ O s Q E ds ρ' S h q => by
  subst hn
  simp only [evi] at h
  split at h
  · rename_i i ρ1 h1
    split at h
    · rename_i hb
      cases h
      refine Call_ (blt_ok (u := .type "range") S g k (H.blt _ (by decide +kernel)) boot_range ?_)
      refine PyProof.Rows.callWith_type1 ?_ (star_of hs) rfl
      rw [star_of hs]
      show wpAny _ _ (spliced ((false, eval x C.env) :: backTo pos (starEach [] C.env))) _ _ s
      refine Calls.spliced_cons (pa.run B po ρ τ O s _ E _ _ S h1 fun v O1 s1 S1 x1 l1 => Calls.spliced_nil ?_)
      obtain ⟨t, rfl⟩ := (Vl.lk S1 l1).int
      exact call_range_1 (range_go S1 x1 (Nat.le_succ_of_le (Nat.le_succ _)) (by omega) (by omega) (by omega) (by omega) q)
    · cases h
  · cases h⟩
theorem pi_range2 {p : Pos} {nm : Str} (H : Hy C T G Φ) (g : glB C.env.scope nm = true) (k : okN nm = true) (hn : nm = "range") (hs : noStar x = true) (hs2 : noStar y = true) (pa : PEz C G Φ a x) (pb : PEz C G Φ b y) : PIz C G Φ (.range2 a b) tg (.Call (.Name nm p) [x, y] [] pos) := ⟨fun B po ρ τ O s Q E ds ρ' S h q => by
  subst hn
  simp only [evi] at h
  split at h
  · rename_i i ρ1 h1
    split at h
    · rename_i j ρ2 h2
      split at h
      · rename_i hb
        cases h
        refine Call_ (blt_ok (u := .type "range") S g k (H.blt _ (by decide +kernel)) boot_range ?_)
        have hst : [y].all noStar = true := by simp [hs2]
        refine PyProof.Rows.callWith_type1 ?_ (star_of hs) (noStar_any hst)
        rw [star_of hs]
        show wpAny _ _ (spliced ((false, eval x C.env) :: backTo pos (starEach [y] C.env))) _ _ s
        refine Calls.spliced_cons (pa.run B po ρ τ O s _ E _ _ S h1 fun v O1 s1 S1 x1 l1 => ?_)
        rw [star_of hs2]
        show wpAny _ _ (spliced ((false, eval y C.env) :: backTo pos (starEach [] C.env))) _ _ s1
        refine Calls.spliced_cons (pb.run B po ρ1 τ O1 s1 _ E _ _ S1 h2 fun v2 O2 s2 S2 x2 l2 => Calls.spliced_nil ?_)
        obtain ⟨t, rfl⟩ := (Vl.lk S1 l1).int
        obtain ⟨t', rfl⟩ := (Vl.lk S2 l2).int
        exact call_range_2 (range_go S2 (x1.trans x2) (Nat.le_succ _) (by omega) (by omega) (by omega) (by omega) q)
      · cases h
    · cases h
  · cases h⟩
end
end Mini
/-! Mini, exact: names are stored. -/
namespace Mini
open PySem PySem.Spec PyProof.Rows L2

def setT (τ : List (Option Value)) : List Nat → List Value → List (Option Value)
  | i :: is, u :: us => setT (τ.set i (some u)) is us
  | _, _ => τ
section
variable {C : Cz} {B : Bk} {po : Option Addr} {ρ ρ' ρ1 ρ2 : En} {τ : List (Option Value)} {O O' : Om} {s s' : Shared} {pos : Pos}

theorem mS_ok {i : Nat} {x : Str} (h : mS C.N C.env.scope C.fn i x = true) : C.N[i]? = some x ∧ Loc C.env.scope x ∧ (C.fn x = true ∨ C.env.scope.names.lookup x = some .local) := by
  unfold mS at h
  simp only [Bool.and_eq_true, Bool.or_eq_true, decide_eq_true_eq] at h
  obtain ⟨h1, h2 | ⟨h2, h3⟩⟩ := h
  · exact ⟨h1, .inl h2, .inr h2⟩
  · exact ⟨h1, .inr h2, .inl h3⟩
/-- one name is stored -/
theorem store_ok {M : Model} {A : Around} {E : Value → Shared → Prop} {i : Nat} {x : Str} {u : Value} {y : Sl} {Q : Unit → Shared → Prop} (S : Sz C B po ρ τ O s) (m : mS C.N C.env.scope C.fn i x = true) (hi : i < ρ.length)
    (ok : SlZ C B po O s.toks s.heap (some (some u)) y) (ne : ownS y = true → ∀ (j : Nat) (x : Sl), j ≠ i → ρ[j]? = some x → ownS x = true → τ[j]? ≠ some (some u))
    (q : ∀ h' t', Sz C B po (ρ.set i y) (τ.set i (some u)) O { s with heap := h', toks := t' } → s.toks ≤ t' → (∀ b o, ¬ C.St b → s.heap.get? b = some o → h'.get? b = some o) → Q () { s with heap := h', toks := t' }) : wpAny M A (storeName C.env x u) Q E s := by
  obtain ⟨m1, m2, m3⟩ := mS_ok m
  exact S.iz.store m1 m2 m3 fun h' t' tk I ⟨a, ha, hs⟩ => q h' t' (S.stored tk I ha hs hi ok ne) tk fun b o n e => (hs.2 b fun z => n (by rw [z]; exact ha)).trans e
theorem set_fz {i : Nat} {d : D} (h : setFz ρ i d = some ρ') : i < ρ.length ∧ ρ' = ρ.set i (.fz d) := by
  unfold setFz at h
  split at h
  · cases h
  · rename_i x e _
    cases h
    exact ⟨(List.getElem?_eq_some_iff.mp (by assumption)).1, rfl⟩
  · cases h
theorem ext_fz {i : Nat} {d : D} {u : Value} {h' : Heap} {t' : Nat} (S' : Sz C B po (ρ.set i (.fz d)) (τ.set i (some u)) O { s with heap := h', toks := t' }) (hi : i < ρ.length) (tk : s.toks ≤ t') (k : ∀ b o, ¬ C.St b → s.heap.get? b = some o → h'.get? b = some o) :
    Ext C.St ρ τ O s (ρ.set i (.fz d)) (τ.set i (some u)) O { s with heap := h', toks := t' } := by
  refine ⟨Le.refl _, tk, fun b o _ n e => k b o n e, fun _ _ _ _ _ => rfl, fun b ⟨j, y, h1, h2, h3⟩ => ?_, fun b o hb e => ⟨o, k b o hb e⟩⟩
  · by_cases hj : j = i
    · subst hj
      rw [List.getElem?_set_self hi] at h1; cases h1; cases h2
    · rw [List.getElem?_set_ne (Ne.symm hj)] at h1 h3
      exact ⟨j, y, h1, h2, h3⟩
theorem asg_name {M : Model} {A : Around} {E : Value → Shared → Prop} {i : Nat} {x : Str} {u : Value} {d : D} {Q : Unit → Shared → Prop} (S : Sz C B po ρ τ O s) (m : mS C.N C.env.scope C.fn i x = true) (h : setFz ρ i d = some ρ') (r : RepV C.prog C.w O s.toks u d)
    (q : ∀ s', Sz C B po ρ' (τ.set i (some u)) O s' → Ext C.St ρ τ O s ρ' (τ.set i (some u)) O s' → Q () s') : wpAny M A (storeName C.env x u) Q E s := by
  obtain ⟨hi, rfl⟩ := set_fz h
  exact store_ok S m hi (y := .fz d) ⟨u, rfl, r⟩ (fun z => nomatch z) fun h' t' S' tk k => q _ S' (ext_fz S' hi tk k)
theorem mSs_inv {N : List Str} {sc : Scope} {fnB : Str → Bool} {i : Nat} {is : List Nat} {es : List Expr} (h : mSs N sc fnB (i :: is) es = true) : ∃ x p es', es = .Name x p :: es' ∧ mS N sc fnB i x = true ∧ mSs N sc fnB is es' = true := by
  cases es with
  | nil => simp [mSs] at h
  | cons e es =>
    cases e <;> simp only [mSs, Bool.false_eq_true, Bool.and_eq_true] at h
    exact ⟨_, _, _, rfl, h.1, h.2⟩
theorem mSs_nil {N : List Str} {sc : Scope} {fnB : Str → Bool} {es : List Expr} (h : mSs N sc fnB [] es = true) : es = [] := by
  cases es with
  | nil => rfl
  | cons e es => simp [mSs] at h
theorem asg_all {E : Value → Shared → Prop} (is : List Nat) : ∀ (es : List Expr) (us : List Value) (ds : List D) (ρ : En) (τ : List (Option Value)) (s : Shared) (Q : Unit → Shared → Prop), Sz C B po ρ τ O s → mSs C.N C.env.scope C.fn is es = true → setAll ρ is ds = some ρ' → RepVs C.prog C.w O s.toks us ds →
    (∀ s', Sz C B po ρ' (setT τ is us) O s' → Ext C.St ρ τ O s ρ' (setT τ is us) O s' → Q () s') → wpAny (model C.prog C.w) C.A (assignInOrder ((assignEach es C.env).map (·.2)) us) Q E s := by
  induction is with
  | nil =>
    intro es us ds ρ τ s Q S m h r q
    have := mSs_nil m
    subst this
    cases r with
    | nil => simp only [setAll] at h; cases h; exact assignInOrder_nil (q s S Ext.refl)
    | cons _ _ => simp [setAll] at h
  | cons i is ih =>
    intro es us ds ρ τ s Q S m h r q
    obtain ⟨x, p, es', rfl, m1, m2⟩ := mSs_inv m
    cases r with
    | nil => simp [setAll] at h
    | cons r1 r2 =>
      simp only [setAll, Option.bind_eq_some_iff] at h
      obtain ⟨ρ1, h1, h2⟩ := h
      show wpAny _ _ (assignInOrder (assign (.Name x p) C.env :: (assignEach es' C.env).map (·.2)) _) _ _ _
      refine assignInOrder_cons (wpAny_assign_Name (asg_name S m1 h1 r1 fun s1 S1 x1 => ?_))
      exact ih es' _ _ ρ1 _ s1 Q S1 m2 h2 (r2.mono (Le.refl _) x1.tk) fun s2 S2 x2 => q s2 S2 (x1.trans x2)
theorem mSs_len {fnB : Str → Bool} {N : List Str} {sc : Scope} (is : List Nat) : ∀ (es : List Expr), mSs N sc fnB is es = true → es.length = is.length ∧ ∀ env, (assignEach es env).length = is.length ∧ (assignEach es env).findIdx? (·.1) = none := by
  induction is with
  | nil => intro es m; have := mSs_nil m; subst this; exact ⟨rfl, fun _ => ⟨rfl, rfl⟩⟩
  | cons i is ih =>
    intro es m
    obtain ⟨x, p, es', rfl, m1, m2⟩ := mSs_inv m
    obtain ⟨h1, h2⟩ := ih es' m2
    refine ⟨by simp [h1], fun env => ⟨?_, ?_⟩⟩
    · show ((false, assign (.Name x p) env) :: assignEach es' env).length = _
      rw [List.length_cons, (h2 env).1]; rfl
    · show ((false, assign (.Name x p) env) :: assignEach es' env).findIdx? (·.1) = none
      rw [List.findIdx?_cons]
      simp [(h2 env).2]
theorem setAll_len : ∀ {is : List Nat} {ds : List D} {ρ : En}, setAll ρ is ds = some ρ' → ds.length = is.length
  | [], [], _, _ => rfl
  | [], _ :: _, _, h => by simp [setAll] at h
  | _ :: _, [], _, h => by simp [setAll] at h
  | i :: is, d :: ds, ρ, h => by
    simp only [setAll, Option.bind_eq_some_iff] at h
    obtain ⟨ρ1, _, h2⟩ := h
    simp [setAll_len h2]
/-- a target is stored: the names at tg -/
theorem asg_tg {E : Value → Shared → Prop} {tg : List Nat} {t : Expr} {u : Value} {d : D} {Q : Unit → Shared → Prop} (S : Sz C B po ρ τ O s) (m : mTg C.N C.env.scope C.fn tg t = true) (h : setTg ρ tg d = some ρ') (r : RepV C.prog C.w O s.toks u d)
    (q : ∀ us s', us.length = tg.length → Sz C B po ρ' (setT τ tg us) O s' → Ext C.St ρ τ O s ρ' (setT τ tg us) O s' → Q () s') : wpAny (model C.prog C.w) C.A (assign t C.env u) Q E s := by
  match tg, t, m with
  | [i], .Name x p, m =>
    simp only [mTg] at m
    simp only [setTg] at h
    exact wpAny_assign_Name (asg_name S m h r fun s1 S1 x1 => q [u] s1 rfl S1 x1)
  | i :: j :: is, .Tuple es k p, m =>
    simp only [mTg] at m
    cases d with
    | tup ds =>
      simp only [setTg] at h
      obtain ⟨p, o, us, k, rfl, e1, e2, e3, e4, rr⟩ := (Lk.of S.sub r).tuple
      obtain ⟨m1, m2⟩ := mSs_len _ _ m
      have hl := setAll_len h
      refine assign_Tuple_tuple S.iz.ok.hd (items := us.toArray) ⟨o, e1, e2, k, e3⟩ (by rw [(m2 _).1, List.size_toArray, rr.length, hl]) (m2 _).2 fun h' hx => ?_
      have g : Gr O s O { s with heap := h' } := Gr.same (t' := s.toks) S.sub S.iz.bare (fun b o e => hx b o (Nat.ne_of_lt (Heap.lt_size e)) e) (Nat.le_refl _)
      have := asg_all (E := E) _ _ _ _ _ _ _ Q (S.grow g) m h rr fun s2 S2 x2 => q us s2 (by rw [rr.length, hl]) S2 ((Ext.gr g).trans x2)
      simpa using this
    | _ => simp [setTg] at h
end
end Mini
/-! Mini, exact: the block of a comprehension. -/
namespace Mini
open PySem PySem.Spec PyProof.Rows L2

def wipeT (τ : List (Option Value)) : List Nat → List (Option Value)
  | [] => τ
  | v :: vs => (wipeT τ vs).set v none
theorem wipeT_len (τ : List (Option Value)) : ∀ vs, (wipeT τ vs).length = τ.length
  | [] => rfl
  | v :: vs => by unfold wipeT; rw [List.length_set, wipeT_len τ vs]
theorem wipeE_len (ρ : En) : ∀ vs, (wipeE ρ vs).length = ρ.length
  | [] => rfl
  | v :: vs => by unfold wipeE; rw [List.length_set, wipeE_len ρ vs]
theorem wipeT_at (τ : List (Option Value)) (i : Nat) : ∀ vs, (i ∉ vs ∧ (wipeT τ vs)[i]? = τ[i]?) ∨ (i ∈ vs ∧ ∀ u, (wipeT τ vs)[i]? ≠ some (some u))
  | [] => .inl ⟨by simp, rfl⟩
  | v :: vs => by
    by_cases h : v = i
    · subst h
      refine .inr ⟨List.mem_cons_self .., fun u e => ?_⟩
      unfold wipeT at e
      by_cases hl : v < (wipeT τ vs).length
      · rw [List.getElem?_set_self hl] at e; cases e
      · rw [List.getElem?_eq_none (by rw [List.length_set]; omega)] at e; cases e
    · unfold wipeT
      rw [List.getElem?_set_ne h]
      rcases wipeT_at τ i vs with ⟨a, b⟩ | ⟨a, b⟩
      · exact .inl ⟨by simp only [List.mem_cons, not_or]; exact ⟨fun e => h e.symm, a⟩, b⟩
      · exact .inr ⟨List.mem_cons_of_mem _ a, b⟩
theorem wipeE_at (ρ : En) (i : Nat) : ∀ vs, (i ∉ vs ∧ (wipeE ρ vs)[i]? = ρ[i]?) ∨ (i ∈ vs ∧ ((wipeE ρ vs)[i]? = some .un ∨ (wipeE ρ vs)[i]? = none))
  | [] => .inl ⟨by simp, rfl⟩
  | v :: vs => by
    by_cases h : v = i
    · subst h
      refine .inr ⟨List.mem_cons_self .., ?_⟩
      unfold wipeE
      by_cases hl : v < (wipeE ρ vs).length
      · exact .inl (List.getElem?_set_self hl)
      · exact .inr (List.getElem?_eq_none (by rw [List.length_set]; omega))
    · unfold wipeE
      rw [List.getElem?_set_ne h]
      rcases wipeE_at ρ i vs with ⟨a, b⟩ | ⟨a, b⟩
      · exact .inl ⟨by simp only [List.mem_cons, not_or]; exact ⟨fun e => h e.symm, a⟩, b⟩
      · exact .inr ⟨List.mem_cons_of_mem _ a, b⟩
theorem wipe_own {ρ : En} {τ : List (Option Value)} {vs : List Nat} {b : Addr} (h : ownA (wipeE ρ vs) (wipeT τ vs) b) : ownA ρ τ b := by
  obtain ⟨i, x, h1, h2, h3⟩ := h
  rcases wipeE_at ρ i vs with ⟨_, e⟩ | ⟨_, e | e⟩
  · rcases wipeT_at τ i vs with ⟨_, e'⟩ | ⟨_, e'⟩
    · rw [e] at h1; rw [e'] at h3; exact ⟨i, x, h1, h2, h3⟩
    · exact absurd h3 (e' _)
  · rw [e] at h1; cases h1; cases h2
  · rw [e] at h1; cases h1

section
variable {C : Cz} {B B' : Bk} {po : Option Addr} {ρ ρ' ρ1 ρ2 : En} {τ : List (Option Value)} {O O' : Om} {s s' : Shared}

theorem Sz.wipe (S : Sz C B po ρ τ O s) (vs : List Nat) : Sz C B po (wipeE ρ vs) (wipeT τ vs) O s := by
  obtain ⟨m, hn, hl⟩ := S.iz.loc
  refine ⟨⟨S.iz.ok, S.iz.bk, S.iz.bare, S.iz.tk, S.iz.os, ⟨m, hn, fun i x u e1 e2 e3 => ?_⟩, S.iz.cell, by rw [wipeT_len]; exact S.iz.len⟩, S.g0, S.sub, S.bk, S.on, by rw [wipeE_len, wipeT_len]; exact S.len, fun i x e => ?_, fun i j x y p hij e1 e2 o1 o2 e3 e4 => ?_⟩
  · rcases wipeT_at τ i vs with ⟨_, e'⟩ | ⟨_, e'⟩
    · rw [e'] at e2; exact hl i x u e1 e2 e3
    · exact absurd e2 (e' _)
  · rcases wipeE_at ρ i vs with ⟨h, e'⟩ | ⟨h, e' | e'⟩
    · rw [e'] at e
      rcases wipeT_at τ i vs with ⟨_, e2⟩ | ⟨h2, _⟩
      · rw [e2]; exact S.at_ i x e
      · exact absurd h2 h
    · rw [e'] at e; cases e; trivial
    · rw [e'] at e; cases e
  · have back : ∀ {i : Nat} {x : Sl} {p : Addr}, (wipeE ρ vs)[i]? = some x → ownS x = true → (wipeT τ vs)[i]? = some (some (.ref p)) → ρ[i]? = some x ∧ τ[i]? = some (some (.ref p)) := fun {i x p} e o e' => by
      rcases wipeE_at ρ i vs with ⟨h, q⟩ | ⟨h, q | q⟩
      · rcases wipeT_at τ i vs with ⟨_, q2⟩ | ⟨_, q2⟩
        · rw [q] at e; rw [q2] at e'; exact ⟨e, e'⟩
        · exact absurd e' (q2 _)
      · rw [q] at e; cases e; cases o
      · rw [q] at e; cases e
    obtain ⟨a1, a2⟩ := back e1 o1 e3
    obtain ⟨b1, b2⟩ := back e2 o2 e4
    exact S.ne i j x y p hij a1 b1 o1 o2 a2 b2
theorem Ext.wipe {X : Addr → Prop} (S : Sz C B po ρ τ O s) (vs : List Nat) : Ext X ρ τ O s (wipeE ρ vs) (wipeT τ vs) O s :=
  ⟨Le.refl _, Nat.le_refl _, fun _ _ _ _ e => e, fun _ _ _ _ _ => rfl, fun _ h => wipe_own h, fun _ o _ e => ⟨o, e⟩⟩
/-- other pins -/
theorem Sz.rebk (S : Sz C B po ρ τ O s) (h : ∀ b o z, B' b = some (o, z) → s.heap.get? b = some o ∧ O b = z ∧ ¬ C.St b ∧ ¬ ownA ρ τ b) : Sz C B' po ρ τ O s := by
  have nb : ∀ {i : Nat} {x : Sl} {p : Addr}, ρ[i]? = some x → ownS x = true → τ[i]? = some (some (.ref p)) → B' p = none := fun {i x p} e o e' => by
    cases q : B' p with
    | none => rfl
    | some z => exact absurd ⟨i, x, e, o, e'⟩ (h p z.1 z.2 q).2.2.2
  refine ⟨S.iz, S.g0, S.sub, fun b o z e => ⟨(h b o z e).1, (h b o z e).2.1⟩, fun b st => ⟨(S.on b st).1, ?_⟩, S.len, fun i x e => ?_, S.ne⟩
  · cases q : B' b with
    | none => rfl
    | some z => exact absurd st (h b z.1 z.2 q).2.2.1
  · have z := S.at_ i x e
    cases x with
    | un => trivial
    | fz d => exact z
    | own d => obtain ⟨p, b1, b2, b3, b4, b5, b6, b7⟩ := z; exact ⟨p, b1, b2, nb e rfl b1, b4, b5, b6, b7⟩
    | io d => obtain ⟨p, b1, b2, b3, b4, b5, b6, b7⟩ := z; exact ⟨p, b1, b2, nb e rfl b1, b4, b5, b6, b7⟩
/-- records of ours have changed, data were made -/
theorem Sz.turn {fp : List Addr} {h' : Heap} {t' : Nat} (S : Sz C B po ρ τ O s) (k : ∀ b o, b ∉ fp → s.heap.get? b = some o → h'.get? b = some o) (le : Le O O') (nw : ∀ b o, s.heap.get? b = some o → O' b = O b) (sub : ∀ b o, O' b = some o → h'.get? b = some o) (tk : s.toks ≤ t')
    (ap : ∀ b ∈ fp, ¬ C.St b ∧ ¬ ownA ρ τ b ∧ C.base.get? b = none ∧ B b = none ∧ ∀ x c, C.env.cells.lookup x = some c → c ≠ b) : Sz C B po ρ τ O' { s with heap := h', toks := t' } := by
  have kS : ∀ b o, C.St b → s.heap.get? b = some o → h'.get? b = some o := fun b o st e => k b o (fun z => (ap b z).1 st) e
  have I : Iz C τ { s with heap := h', toks := t' } := by
    refine ⟨S.iz.ok, fun b o e => k b o (fun z => by rw [(ap b z).2.2.1] at e; cases e) (S.iz.bk b o e), S.iz.bare, Nat.le_trans S.iz.tk tk, S.iz.os, ?_, fun y c ec => ?_, S.iz.len⟩
    · obtain ⟨m, ⟨o, es, epp, h1, h2, h3⟩, hl⟩ := S.iz.loc
      refine ⟨m, ⟨o, es, epp, kS _ o (.inl rfl) h1, h2, h3⟩, fun j y v q1 q2 q3 => ?_⟩
      rcases hl j y v q1 q2 q3 with q | ⟨q4, c, q5, o, q6, q7⟩
      · exact .inl q
      · exact .inr ⟨q4, c, q5, o, k c o (fun z => (ap c z).2.2.2.2 y c q5 rfl) q6, q7⟩
    · obtain ⟨v, o, q6, q7⟩ := S.iz.cell y c ec
      exact ⟨v, o, k c o (fun z => (ap c z).2.2.2.2 y c ec rfl) q6, q7⟩
  refine S.at' I le tk sub (fun b o z e => ?_) (fun b st => ?_) fun i x p e ox et => ?_
  · obtain ⟨h1, h2⟩ := S.bk b o z e
    exact ⟨k b o (fun q => by rw [(ap b q).2.2.2.1] at e; cases e) h1, (nw b o h1).trans h2⟩
  · obtain ⟨h1, h2⟩ := S.on b st
    obtain ⟨o, q⟩ := S.iz.stobj st
    exact ⟨(nw b o q).trans h1, h2⟩
  · obtain ⟨p2, d2, a1, a2, _, _, _, a6⟩ := S.ownP e ox
    rw [et] at a1; cases a1
    obtain ⟨o, eo⟩ := a6.some
    refine ⟨(nw p o eo).trans a2, ?_⟩
    rw [eo]
    exact k p o (fun z => (ap p z).2.1 ⟨i, x, e, ox, et⟩) eo
theorem Ext.turn {fp : List Addr} {h' : Heap} {t' : Nat} (k : ∀ b o, b ∉ fp → s.heap.get? b = some o → h'.get? b = some o) (le : Le O O') (nw : ∀ b o, s.heap.get? b = some o → O' b = O b) (tk : s.toks ≤ t') :
    Ext (· ∈ fp) ρ τ O s ρ τ O' { s with heap := h', toks := t' } :=
  ⟨le, tk, fun b o _ x e => k b o x e, fun b o _ _ e => nw b o e, fun _ h => h, fun b o x e => ⟨o, k b o x e⟩⟩
theorem Ext.imp {X Y : Addr → Prop} {τ' : List (Option Value)} (a : Ext X ρ τ O s ρ' τ' O' s') (h : ∀ b, X b → Y b) : Ext Y ρ τ O s ρ' τ' O' s' :=
  ⟨a.le, a.tk, fun b o n y e => a.kept b o n (fun x => y (h b x)) e, fun b o n y e => a.nw b o n (fun x => y (h b x)) e, a.ow, fun b o y e => a.st b o (fun x => y (h b x)) e⟩
/-- a thing that stands is known from here on -/
theorem Sz.know {p : Addr} {o : Obj} (S : Sz C B po ρ τ O s) (e : s.heap.get? p = some o) (n : O p = none) (nB : B p = none) (st : ¬ C.St p) (ow : ¬ ownA ρ τ p) : Sz C B po ρ τ (oset O p o) s := by
  have le : Le O (oset O p o) := le_oset n
  refine ⟨S.iz, S.g0.trans le, fun b x q => ?_, fun b x z q => ?_, fun b h => ?_, S.len, fun i x q => ?_, S.ne⟩
  · by_cases hb : b = p
    · subst hb; rw [oset_same] at q; cases q; exact e
    · rw [oset_ne hb] at q; exact S.sub b x q
  · obtain ⟨h1, h2⟩ := S.bk b x z q
    exact ⟨h1, by rw [oset_ne fun z => by rw [z, nB] at q; cases q]; exact h2⟩
  · obtain ⟨h1, h2⟩ := S.on b h
    exact ⟨by rw [oset_ne fun z => st (by rw [← z]; exact h)]; exact h1, h2⟩
  · have z := S.at_ i x q
    cases x with
    | un => trivial
    | fz d => obtain ⟨v, b1, b2⟩ := z; exact ⟨v, b1, b2.mono le (Nat.le_refl _)⟩
    | own d => obtain ⟨p3, b1, b2, b3, b4, b5, b6, b7⟩ := z; exact ⟨p3, b1, by rw [oset_ne fun z => ow ⟨i, _, q, rfl, by rw [← z]; exact b1⟩]; exact b2, b3, b4, b5, b6, b7.mono le (Nat.le_refl _)⟩
    | io d => obtain ⟨p3, b1, b2, b3, b4, b5, b6, b7⟩ := z; exact ⟨p3, b1, by rw [oset_ne fun z => ow ⟨i, _, q, rfl, by rw [← z]; exact b1⟩]; exact b2, b3, b4, b5, b6, b7.mono le (Nat.le_refl _)⟩
theorem PNz.pe {G : Nat → Option D} {Φ : Fn} {e : E} {x : Expr} (h : PNz C G Φ e x) (hb : isBrw e = false) : PEz C G Φ e x := ⟨fun B po ρ τ O s Q E d ρ' S hv q => by
  refine h.run B po ρ τ O s Q E d ρ' S hv fun p O' s' S' x' f ow => ?_
  obtain ⟨o, eo⟩ := ow.some
  rw [eo] at ow
  have r := OwnV.freeze f.o ow
  refine q _ _ _ (S'.know eo f.o f.bk f.st f.ow) ⟨x'.le.trans (le_oset f.o), x'.tk, x'.kept, fun b o' n y e => (oset_ne fun z => ?_).trans (x'.nw b o' n y e), x'.ow, x'.st⟩ (Vl.of r hb)
  rw [z, f.nw] at e; cases e⟩
end
end Mini
/-! Mini, exact: a comprehension's block starts and ends. -/
namespace Mini
open PySem PySem.Spec PyProof.Rows L2

abbrev blkCz (C : Cz) (scope : Scope) (cenv : PySem.Env) : Cz := { C with env := cenv, fn := fun x => scope.names.lookup x == some .cell }
section
variable {C : Cz} {B B' : Bk} {po : Option Addr} {ρ ρ' ρ1 ρ2 : En} {τ : List (Option Value)} {O O' : Om} {s s' : Shared}

theorem blk_start {scope : Scope} {own : List (Str × Nat)} {cenv : PySem.Env} (S : Sz C (fun _ => none) po ρ τ O s) (ok : BlkOk C.N C.env.scope scope own)
    (hcenv : cenv = compEnvC scope (cellsFrom (s.heap.objs.size + 1) scope.names (cloFrom C.env.cells scope.names [])) s.heap.objs.size C.env) :
    Sz (blkCz C scope cenv) (fun _ => none) po (wipeE ρ (own.map (·.2))) (wipeT τ (own.map (·.2))) O { s with heap := pushCells (s.heap.push { cls := .type "dict", data := .dict #[] }) scope.names } ∧
      (∀ b, (blkCz C scope cenv).St b → s.heap.get? b = none) ∧ (∀ y c, cenv.cells.lookup y = some c → C.env.cells.lookup y = some c ∨ s.heap.get? c = none) := by
  have I := S.iz
  have hfree : ∀ y ∈ scope.names, y.2 = .free → ∃ c, C.env.cells.lookup y.1 = some c := fun y hy e => by
    rcases ok.free y hy e with k | k
    · exact I.ok.has _ (.inl k)
    · exact I.ok.has _ (.inr k)
  have kp : ∀ b o, s.heap.get? b = some o → (pushCells (s.heap.push { cls := .type "dict", data := .dict #[] }) scope.names).get? b = some o := fun b o e => pushCells_keeps _ _ _ _ (Heap.get?_push_of_some _ e)
  have hL : cenv.locals = s.heap.objs.size := by rw [hcenv]; rfl
  have hcl : cenv.cells = cellsFrom (s.heap.objs.size + 1) scope.names (cloFrom C.env.cells scope.names []) := by rw [hcenv]; rfl
  have hsc : cenv.scope = relS scope C.env.scope := by rw [hcenv]; rfl
  have hgl : cenv.globals = C.env.globals := by rw [hcenv]; rfl
  have hbl : cenv.builtins = C.env.builtins := by rw [hcenv]; rfl
  rw [← Heap.size_push s.heap { cls := .type "dict", data := .dict #[] }] at hcl
  have cm : ∀ {y c}, (y, c) ∈ cloFrom C.env.cells scope.names [] → C.env.cells.lookup y = some c ∧ c < s.heap.objs.size := fun {y c} hm => by
    rcases cloFrom_mem hm with hm | ⟨h1, rfl⟩
    · cases hm
    · obtain ⟨c, hc⟩ := hfree _ h1 rfl
      rw [hc]
      obtain ⟨w, z⟩ := I.cell _ _ hc
      exact ⟨rfl, z.lt⟩
  have mem : ∀ {y c}, cenv.cells.lookup y = some c → (C.env.cells.lookup y = some c ∧ c < s.heap.objs.size) ∨ (s.heap.objs.size + 1 ≤ c ∧ CellAt (pushCells (s.heap.push { cls := .type "dict", data := .dict #[] }) scope.names) c none) := fun {y c} e => by
    rw [hcl] at e
    rcases cells_mem (PySem.mem_of_lookup e) with hm | ⟨_, h2, h3⟩
    · exact .inl (cm hm)
    · rw [Heap.size_push] at h2; exact .inr ⟨h2, h3⟩
  have look : ∀ {y}, scope.names.lookup y = some .free → ∃ c, cenv.cells.lookup y = some c ∧ C.env.cells.lookup y = some c := fun {y} hl => by
    have hy : (y, NameKind.free) ∈ scope.names := PySem.mem_of_lookup hl
    obtain ⟨c', e'⟩ := mem_lookup (cells_acc (names := scope.names) (n := (s.heap.push { cls := .type "dict", data := .dict #[] }).objs.size) (cloFrom_has (cells := C.env.cells) (acc := []) hy))
    rw [← hcl] at e'
    refine ⟨c', e', ?_⟩
    rw [hcl] at e'
    rcases cells_mem (PySem.mem_of_lookup e') with hm | ⟨h1, _, _⟩
    · exact (cm hm).1
    · have := ok.uniq _ h1
      rw [hl] at this; cases this
  have fnNew : ∀ y c, (scope.names.lookup y == some NameKind.cell) = true → cenv.cells.lookup y = some c → s.heap.objs.size + 1 ≤ c := fun y c z e => by
    have z : scope.names.lookup y = some .cell := by simpa using z
    rw [hcl] at e
    rcases cells_mem (PySem.mem_of_lookup e) with hm | ⟨_, h2, _⟩
    · rcases cloFrom_mem hm with hm | ⟨h1, _⟩
      · cases hm
      · have q := ok.uniq _ h1
        rw [z] at q; cases q
    · rw [Heap.size_push] at h2; exact h2
  have stNew : ∀ b, (blkCz C scope cenv).St b → s.heap.objs.size ≤ b := fun b h => by
    rcases h with h | ⟨y, z, e⟩
    · rw [h]; exact Nat.le_of_eq hL.symm
    · exact Nat.le_of_succ_le (fnNew y b z e)
  have baseN : ∀ b, s.heap.objs.size ≤ b → C.base.get? b = none := fun b h => by
    cases e : C.base.get? b with
    | none => rfl
    | some o => exact absurd (Nat.lt_of_lt_of_le (Heap.lt_size (I.bk b o e)) h) (Nat.lt_irrefl _)
  have okB : (blkCz C scope cenv).Ok := by
    refine ⟨I.ok.mod, by show cenv.scope.kind = _; rw [hsc]; exact ok.kind, by show cenv.globals = _; rw [hgl]; exact I.ok.glob, by show cenv.builtins = _; rw [hbl]; exact I.ok.blt, fun y z c e1 e2 => ?_, fun y hy => ?_, I.ok.hd, I.ok.nd, ?_, fun y c z e => baseN c (Nat.le_of_succ_le (fnNew y c z e))⟩
    · have e1 : cenv.cells.lookup y = some c := e1
      have e2 : cenv.cells.lookup z = some c := e2
      rw [hcl] at e1 e2
      refine cells_inj (fun p hp => ?_) (fun y z c a b => I.ok.inj y z c (cm a).1 (cm b).1) (PySem.mem_of_lookup e1) (PySem.mem_of_lookup e2)
      rw [Heap.size_push]
      exact Nat.lt_succ_of_lt (cm (y := p.1) (c := p.2) hp).2
    · show ∃ c, cenv.cells.lookup y = some c
      have key : ∀ k, cenv.kindOf y = some k → (k = .cell ∨ k = .free) → ∃ c, cenv.cells.lookup y = some c := fun k hk hk' => by
        unfold Env.kindOf at hk
        rw [hsc] at hk
        obtain ⟨k', e, r⟩ := lookup_relS hk
        have : k' = .cell ∨ k' = .free := by
          rcases r with rfl | ⟨rfl, _⟩
          · exact hk'
          · exact .inr rfl
        rcases this with rfl | rfl
        · obtain ⟨c, hm⟩ := cells_has (n := (s.heap.push { cls := .type "dict", data := .dict #[] }).objs.size) (acc := cloFrom C.env.cells scope.names []) (PySem.mem_of_lookup e)
          obtain ⟨c', e'⟩ := mem_lookup hm
          exact ⟨c', by rw [hcl]; exact e'⟩
        · obtain ⟨c, h1, _⟩ := look e
          exact ⟨c, h1⟩
      rcases hy with hy | hy
      · exact key _ hy (.inl rfl)
      · exact key _ hy (.inr rfl)
    · show C.base.get? cenv.locals = none
      rw [hL]; exact baseN _ (Nat.le_refl _)
  have Sw := S.wipe (own.map (·.2))
  have iz : Iz (blkCz C scope cenv) (wipeT τ (own.map (·.2))) { s with heap := pushCells (s.heap.push { cls := .type "dict", data := .dict #[] }) scope.names } := by
    refine ⟨okB, fun b o e => kp b o (I.bk b o e), I.bare, I.tk, I.os, ⟨fun _ => none, ?_, fun i y av e1 e2 e3 => ?_⟩, fun y c e => ?_, by rw [wipeT_len]; exact I.len⟩
    · show Heap.Ns _ cenv.locals _
      rw [hL]
      exact Heap.Ns.keeps (Heap.Ns.new ..) fun b o e => pushCells_keeps _ _ _ _ e
    · have hne : i ∉ own.map (·.2) := by
        rcases wipeT_at τ i (own.map (·.2)) with ⟨h, _⟩ | ⟨_, h⟩
        · exact h
        · exact absurd e2 (h _)
      have e2 : τ[i]? = some (some av) := by
        rcases wipeT_at τ i (own.map (·.2)) with ⟨_, h⟩ | ⟨_, h⟩
        · rw [← h]; exact e2
        · exact absurd e2 (h _)
      have hfr : scope.names.lookup y = some .free ∧ (cenv.kindOf y = some .cell ∨ cenv.kindOf y = some .free) := by
        have key : ∀ k, cenv.scope.names.lookup y = some k → k = .local ∨ k = .cell ∨ k = .free → scope.names.lookup y = some .free ∧ (cenv.kindOf y = some .cell ∨ cenv.kindOf y = some .free) := fun k hk hk' => by
          have hk0 := hk
          rw [hsc] at hk
          obtain ⟨k', e, r⟩ := lookup_relS hk
          have no : ¬ (k' = .local ∨ k' = .cell) := fun hh => by
            rcases ok.own _ (PySem.mem_of_lookup e) hh with e' | e'
            · obtain ⟨p, hp, hpy⟩ := List.mem_map.mp e'
              have e3 := ok.ix p hp
              have : p.1 = y := hpy
              rw [this] at e3
              exact hne (List.mem_map.mpr ⟨p, hp, nodup_ix I.ok.nd e3 e1⟩)
            · exact e' (List.mem_of_getElem? e1)
          rcases r with rfl | ⟨rfl, rfl⟩
          · rcases hk' with rfl | rfl | rfl
            · exact absurd (.inl rfl) no
            · exact absurd (.inr rfl) no
            · exact ⟨e, .inr hk0⟩
          · exact ⟨e, .inl hk0⟩
        have e3 : Vis cenv.scope y := e3
        rcases e3 with e3 | e3 | e3
        · exact key _ e3 (.inl rfl)
        · exact key _ e3 (.inr (.inl rfl))
        · exact key _ e3 (.inr (.inr rfl))
      obtain ⟨m, hn, hl⟩ := I.loc
      have hvis : Vis C.env.scope y := (ok.free _ (PySem.mem_of_lookup hfr.1) rfl).elim (fun k => .inr (.inl k)) (fun k => .inr (.inr k))
      have q := hl i y av e1 e2 hvis
      refine .inr ⟨hfr.2, ?_⟩
      obtain ⟨c, h1, h2⟩ := look hfr.1
      rcases q with ⟨k, _⟩ | ⟨_, c', e', z⟩
      · have k : C.env.scope.names.lookup y = some .local := k
        rcases ok.free _ (PySem.mem_of_lookup hfr.1) rfl with k' | k' <;> rw [show C.env.scope.names.lookup y = _ from k'] at k <;> cases k
      · rw [h2] at e'; cases e'
        exact ⟨c, h1, z.keeps kp⟩
    · have e : cenv.cells.lookup y = some c := e
      rcases mem e with ⟨h1, _⟩ | ⟨_, z⟩
      · obtain ⟨w, z⟩ := I.cell y c h1
        exact ⟨w, z.keeps kp⟩
      · exact ⟨_, z⟩
  refine ⟨⟨iz, S.g0, fun b o e => kp b o (S.sub b o e), (fun b o z e => by cases e), fun b h => ⟨?_, rfl⟩, Sw.len, fun i x e => ?_, Sw.ne⟩, fun b h => Heap.get?_none_of_le (stNew b h), fun y c e => ?_⟩
  · cases q : O b with
    | none => rfl
    | some o => exact absurd (Nat.lt_of_lt_of_le (Heap.lt_size (S.sub b o q)) (stNew b h)) (Nat.lt_irrefl _)
  · have z := Sw.at_ i x e
    have own2 : ∀ p d, O p = none → OwnV C.prog C.w O s.toks p (s.heap.get? p) d → ¬ (blkCz C scope cenv).St p ∧ OwnV C.prog C.w O s.toks p ((pushCells (s.heap.push { cls := .type "dict", data := .dict #[] }) scope.names).get? p) d := fun p d _ h => by
      obtain ⟨o, eo⟩ := h.some
      refine ⟨fun st => absurd (Nat.lt_of_lt_of_le (Heap.lt_size eo) (stNew p st)) (Nat.lt_irrefl _), ?_⟩
      rw [kp p o eo]; rw [eo] at h; exact h
    cases x with
    | un => trivial
    | fz d => exact z
    | own d => obtain ⟨p, b1, b2, b3, b4, b5, b6, b7⟩ := z; obtain ⟨c1, c2⟩ := own2 p d b2 b7; exact ⟨p, b1, b2, b3, c1, b5, b6, c2⟩
    | io d => obtain ⟨p, b1, b2, b3, b4, b5, b6, b7⟩ := z; obtain ⟨c1, c2⟩ := own2 p d b2 b7; exact ⟨p, b1, b2, b3, c1, b5, b6, c2⟩
  · rcases mem e with ⟨h1, _⟩ | ⟨h1, _⟩
    · exact .inl h1
    · exact .inr (Heap.get?_none_of_le (Nat.le_of_succ_le h1))
end
end Mini
/-! Mini, exact: a list comprehension. -/
namespace Mini
open PySem PySem.Spec PyProof.Rows L2

theorem backE_len (ρ ρ' : En) : ∀ vs, (backE ρ ρ' vs).length = ρ'.length
  | [] => rfl
  | v :: vs => by
    unfold backE
    split
    · rw [List.length_set, backE_len ρ ρ' vs]
    · exact backE_len ρ ρ' vs
theorem backE_at {ρ ρ' : En} (hl : ρ'.length = ρ.length) (i : Nat) : ∀ {vs : List Nat}, (∀ v ∈ vs, v < ρ.length) → (i ∉ vs ∧ (backE ρ ρ' vs)[i]? = ρ'[i]?) ∨ (i ∈ vs ∧ (backE ρ ρ' vs)[i]? = ρ[i]?)
  | [], _ => .inl ⟨by simp, rfl⟩
  | v :: vs, h => by
    have hv := h v (List.mem_cons_self ..)
    have e : ρ[v]? = some ρ[v] := List.getElem?_eq_getElem hv
    unfold backE
    rw [e]
    simp only
    by_cases hi : v = i
    · subst hi
      refine .inr ⟨List.mem_cons_self .., ?_⟩
      rw [List.getElem?_set_self (by rw [backE_len, hl]; exact hv), e]
    · rw [List.getElem?_set_ne hi]
      rcases backE_at hl i (vs := vs) (fun u hu => h u (List.mem_cons_of_mem _ hu)) with ⟨a, b⟩ | ⟨a, b⟩
      · exact .inl ⟨by simp only [List.mem_cons, not_or]; exact ⟨fun e => hi e.symm, a⟩, b⟩
      · exact .inr ⟨List.mem_cons_of_mem _ a, b⟩
theorem clean_at {ρ : En} {vs : List Nat} (h : clean ρ vs = true) : ∀ v ∈ vs, ∃ x, ρ[v]? = some x ∧ ownS x = false := fun v hv => by
  have := List.all_eq_true.mp h v hv
  simp only at this
  split at this
  · cases this
  · cases this
  · rename_i x h1 h2 e
    exact ⟨x, e, by cases x <;> first | rfl | exact absurd rfl (h1 _) | exact absurd rfl (h2 _)⟩
  · cases this
theorem setT_wipe (τ : List (Option Value)) (own : List Nat) : ∀ (tg : List Nat) (us : List Value), (∀ i ∈ tg, i ∈ own) → us.length = tg.length → wipeT (setT (wipeT τ own) tg us) own = wipeT τ own := by
  have one : ∀ (τ : List (Option Value)) (i : Nat) (u : Value) (vs : List Nat), i ∈ vs → wipeT (τ.set i (some u)) vs = wipeT τ vs := by
    intro τ i u vs
    induction vs with
    | nil => intro h; cases h
    | cons v vs ih =>
      intro h
      unfold wipeT
      by_cases hv : i ∈ vs
      · rw [ih hv]
      · have e : i = v := by rcases List.mem_cons.mp h with e | e; exact e; exact absurd e hv
        subst e
        have : ∀ (vs : List Nat), i ∉ vs → wipeT (τ.set i (some u)) vs = (wipeT τ vs).set i (some u) := by
          intro vs
          induction vs with
          | nil => intro _; rfl
          | cons w ws ih2 =>
            intro h
            simp only [List.mem_cons, not_or] at h
            unfold wipeT
            rw [ih2 h.2, List.set_comm _ _ h.1]
        rw [this vs hv, List.set_set]
  have idem : ∀ (vs : List Nat), wipeT (wipeT τ own) vs = wipeT (wipeT τ own) vs := fun _ => rfl
  have wi : ∀ (τ : List (Option Value)) (tg : List Nat) (us : List Value), (∀ i ∈ tg, i ∈ own) → us.length = tg.length → wipeT (setT τ tg us) own = wipeT τ own := by
    intro τ tg
    induction tg generalizing τ with
    | nil => intro us _ h; cases us with | nil => rfl | cons _ _ => simp at h
    | cons i is ih =>
      intro us hm hl
      cases us with
      | nil => simp at hl
      | cons u us =>
        show wipeT (setT (τ.set i (some u)) is us) own = _
        rw [ih _ us (fun j hj => hm j (List.mem_cons_of_mem _ hj)) (by simpa using hl), one τ i u own (hm i (List.mem_cons_self ..))]
  intro tg us hm hl
  rw [wi _ tg us hm hl]
  have : ∀ (τ : List (Option Value)) (vs : List Nat), (∀ v ∈ vs, ∀ u, τ[v]? ≠ some (some u)) → wipeT τ vs = τ := by
    intro τ vs
    induction vs with
    | nil => intro _; rfl
    | cons v vs ih =>
      intro h
      unfold wipeT
      rw [ih fun w hw => h w (List.mem_cons_of_mem _ hw)]
      have hv := h v (List.mem_cons_self ..)
      apply List.ext_getElem?
      intro j
      by_cases hj : v = j
      · subst hj
        by_cases hl : v < τ.length
        · rw [List.getElem?_set_self hl, List.getElem?_eq_getElem hl]
          rw [List.getElem?_eq_getElem hl] at hv
          cases e : τ[v] with
          | none => rfl
          | some u => exact absurd (by rw [e]) (hv u)
        · rw [List.getElem?_eq_none (by rw [List.length_set]; omega), List.getElem?_eq_none (by omega)]
      · rw [List.getElem?_set_ne hj]
  refine this _ _ fun v hv u => ?_
  rcases wipeT_at τ v own with ⟨h, _⟩ | ⟨_, h⟩
  · exact absurd hv h
  · exact h u

section
variable {C : Cz} {B B' : Bk} {po : Option Addr} {ρ ρ' ρ1 ρ2 ρ5 : En} {τ : List (Option Value)} {O O' : Om} {s s' : Shared}
theorem Sz.cellNo (S : Sz C B po ρ τ O s) {y : Str} {c : Addr} (ec : C.env.cells.lookup y = some c) : ¬ ownA ρ τ c := fun ⟨i, x, h1, h2, h3⟩ => by
  obtain ⟨p, d, a1, _, _, _, _, hp⟩ := S.ownP h1 h2
  rw [h3] at a1; cases a1
  obtain ⟨v, o, h4, h5⟩ := S.iz.cell y c ec
  cases d <;> simp only [OwnV] at hp
  · obtain ⟨_, _, q, _⟩ := hp; rw [h4] at q; cases q; cases h5
  · obtain ⟨_, _, q, _, _, ⟨_, _, _, q2, _⟩, _⟩ := hp; rw [h4] at q; cases q; rw [h5] at q2; cases q2
theorem Sz.ownNo (S : Sz C B po ρ τ O s) {b : Addr} (h : ownA ρ τ b) : O b = none ∧ B b = none ∧ ¬ C.St b ∧ C.base.get? b = none := by
  obtain ⟨i, x, h1, h2, h3⟩ := h
  obtain ⟨p, d, a1, a2, a3, a4, a5, _⟩ := S.ownP h1 h2
  rw [h3] at a1; cases a1
  exact ⟨a2, a3, a4, a5⟩
/-- from the block back -/
theorem Sz.back {scope : Scope} {cenv : PySem.Env} {own : List Nat} {X : Addr → Prop} (S : Sz C B po ρ1 τ O s) (S' : Sz (blkCz C scope cenv) (fun _ => none) po ρ5 (wipeT τ own) O' s') (x : Ext X (wipeE ρ1 own) (wipeT τ own) O s ρ5 (wipeT τ own) O' s') (hc : clean ρ1 own = true)
    (hX : ∀ b, X b → ¬ C.St b ∧ ¬ ownA ρ1 τ b ∧ C.base.get? b = none ∧ B b = none ∧ ∀ y c, C.env.cells.lookup y = some c → c ≠ b) :
    Sz C B po (backE ρ1 ρ5 own) τ O' s' ∧ Ext X ρ1 τ O s (backE ρ1 ρ5 own) τ O' s' := by
  have k : ∀ b o, ¬ ownA ρ1 τ b → ¬ X b → s.heap.get? b = some o → s'.heap.get? b = some o := fun b o n nx e => x.kept b o (fun h => n (wipe_own h)) nx e
  have nw : ∀ b o, ¬ ownA ρ1 τ b → ¬ X b → s.heap.get? b = some o → O' b = O b := fun b o n nx e => x.nw b o (fun h => n (wipe_own h)) nx e
  have kS : ∀ b o, C.St b → s.heap.get? b = some o → s'.heap.get? b = some o := fun b o st e => k b o (fun h => (S.ownNo h).2.2.1 st) (fun h => (hX b h).1 st) e
  have kC : ∀ y c o, C.env.cells.lookup y = some c → s.heap.get? c = some o → s'.heap.get? c = some o := fun y c o ec e => k c o (S.cellNo ec) (fun h => (hX c h).2.2.2.2 y c ec rfl) e
  have I : Iz C τ s' := by
    refine ⟨S.iz.ok, fun b o e => k b o (fun h => by rw [(S.ownNo h).2.2.2] at e; cases e) (fun h => by rw [(hX b h).2.2.1] at e; cases e) (S.iz.bk b o e), S'.iz.bare, Nat.le_trans S.iz.tk x.tk, S'.iz.os, ?_, fun y c ec => ?_, S.iz.len⟩
    · obtain ⟨m, ⟨o, es, epp, h1, h2, h3⟩, hl⟩ := S.iz.loc
      refine ⟨m, ⟨o, es, epp, kS _ o (.inl rfl) h1, h2, h3⟩, fun j y v q1 q2 q3 => ?_⟩
      rcases hl j y v q1 q2 q3 with q | ⟨q4, c, q5, o, q6, q7⟩
      · exact .inl q
      · exact .inr ⟨q4, c, q5, o, kC y c o q5 q6, q7⟩
    · obtain ⟨v, o, q6, q7⟩ := S.iz.cell y c ec
      exact ⟨v, o, kC y c o ec q6, q7⟩
  have cl := clean_at hc
  have hl5 : ρ5.length = ρ1.length := by rw [S'.len, wipeT_len, S.len]
  have hb : ∀ v ∈ own, v < ρ1.length := fun v hv => by obtain ⟨x, e, _⟩ := cl v hv; exact (List.getElem?_eq_some_iff.mp e).1
  have ownBack : ∀ {j : Nat} {y : Sl}, (backE ρ1 ρ5 own)[j]? = some y → ownS y = true → j ∉ own ∧ ρ5[j]? = some y ∧ (wipeT τ own)[j]? = τ[j]? := fun {j y} e o => by
    rcases backE_at hl5 j hb with ⟨h1, h2⟩ | ⟨h1, h2⟩
    · rw [h2] at e
      rcases wipeT_at τ j own with ⟨_, h4⟩ | ⟨h3, _⟩
      · exact ⟨h1, e, h4⟩
      · exact absurd h3 h1
    · rw [h2] at e
      obtain ⟨x, e2, o2⟩ := cl j h1
      rw [e] at e2; cases e2; rw [o] at o2; cases o2
  have ownOld : ∀ b, ownA (backE ρ1 ρ5 own) τ b → ownA ρ1 τ b := fun b ⟨j, y, e, o, e2⟩ => by
    obtain ⟨_, h2, h3⟩ := ownBack e o
    exact wipe_own (x.ow b ⟨j, y, h2, o, by rw [h3]; exact e2⟩)
  refine ⟨⟨I, S.g0.trans x.le, S'.sub, fun b o z e => ?_, fun b st => ?_, by rw [backE_len, hl5, S.len], fun j y e => ?_, fun i j y z p hij e1 e2 o1 o2 e3 e4 => ?_⟩, ⟨x.le, x.tk, k, nw, ownOld, x.st⟩⟩
  · obtain ⟨h1, h2⟩ := S.bk b o z e
    have n : ¬ ownA ρ1 τ b := fun h => by rw [(S.ownNo h).2.1] at e; cases e
    exact ⟨k b o n (fun h => by rw [(hX b h).2.2.2.1] at e; cases e) h1, (nw b o n (fun h => by rw [(hX b h).2.2.2.1] at e; cases e) h1).trans h2⟩
  · obtain ⟨h1, h2⟩ := S.on b st
    obtain ⟨o, q⟩ := S.iz.stobj st
    exact ⟨(nw b o (fun h => (S.ownNo h).2.2.1 st) (fun h => (hX b h).1 st) q).trans h1, h2⟩
  · rcases backE_at hl5 j hb with ⟨h1, h2⟩ | ⟨h1, h2⟩
    · rw [h2] at e
      have et : (wipeT τ own)[j]? = τ[j]? := by
        rcases wipeT_at τ j own with ⟨_, h4⟩ | ⟨h3, _⟩
        · exact h4
        · exact absurd h3 h1
      have z := S'.at_ j y e
      rw [et] at z
      have old : ∀ p, ownS y = true → τ[j]? = some (some (.ref p)) → B p = none ∧ ¬ C.St p := fun p oy q => by
        have := S.ownNo (wipe_own (x.ow p ⟨j, y, e, oy, by rw [et]; exact q⟩))
        exact ⟨this.2.1, this.2.2.1⟩
      cases y with
      | un => trivial
      | fz d => exact z
      | own d => obtain ⟨p, b1, b2, b3, b4, b5, b6, b7⟩ := z; obtain ⟨c1, c2⟩ := old p rfl b1; exact ⟨p, b1, b2, c1, c2, b5, b6, b7⟩
      | io d => obtain ⟨p, b1, b2, b3, b4, b5, b6, b7⟩ := z; obtain ⟨c1, c2⟩ := old p rfl b1; exact ⟨p, b1, b2, c1, c2, b5, b6, b7⟩
    · rw [h2] at e
      obtain ⟨x2, e2, o2⟩ := cl j h1
      rw [e] at e2; cases e2
      have z := S.at_ j y e
      cases y with
      | un => trivial
      | fz d => obtain ⟨v, b1, b2⟩ := z; exact ⟨v, b1, b2.mono x.le x.tk⟩
      | own d => cases o2
      | io d => cases o2
  · obtain ⟨_, a2, a3⟩ := ownBack e1 o1
    obtain ⟨_, b2, b3⟩ := ownBack e2 o2
    have := S'.ne i j y z p hij a2 b2 o1 o2 (by rw [a3]; exact e3)
    rw [b3] at this
    exact this e4
end
end Mini
/-! Mini, exact: the rule of a list comprehension. -/
namespace Mini
open PySem PySem.Spec PyProof.Rows L2

section
variable {C : Cz} {T : Tb} {G : Nat → Option D} {Φ : Fn} {B B' : Bk} {po : Option Addr} {ρ ρ' ρ1 ρ2 ρ5 : En} {τ : List (Option Value)} {O O' : Om} {s s' : Shared}
/-- a clause's tests -/
structure PCz (C : Cz) (G : Nat → Option D) (Φ : Fn) (c : Oe) (ifs : List Expr) : Prop where
  run : ∀ (B : Bk) (po : Option Addr) (ρ : En) (τ : List (Option Value)) (O : Om) (s : Shared) (Q : Bool → Shared → Prop) (E : Value → Shared → Prop) (b : Bool) (ρ' : En), Sz C B po ρ τ O s → evo' G Φ c ρ = some (b, ρ') →
    (∀ O' s', Sz C B po ρ' τ O' s' → Ext NoX ρ τ O s ρ' τ O' s' → Q b s') →
    wpAny (model C.prog C.w) C.A (forIn ifs true fun c r => if r = true then do let ok ← isTrue c C.env (eval c C.env); pure (ForInStep.yield ok) else pure (ForInStep.yield r)) Q E s
theorem pc_none : PCz C G Φ .none [] := ⟨fun B po ρ τ O s Q E b ρ' S h q => by
  simp only [evo'] at h
  cases h
  exact wpAny_tests_nil (q O s S Ext.refl)⟩
theorem pc_some {c : E} {x : Expr} (p : PTz C G Φ c x) : PCz C G Φ (.some c) [x] := ⟨fun B po ρ τ O s Q E b ρ' S h q => by
  simp only [evo'] at h
  split at h
  · rename_i k ρ1 h1
    cases h
    exact wpAny_tests_one (p.run _ B po ρ τ O s _ E _ _ S h1 rfl q)
  · cases h⟩
def pinB (fp : List Addr) (h : Heap) : Bk := fun b => if b ∈ fp then (h.get? b).map fun o => (o, none) else none
theorem pin_inv {fp : List Addr} {h : Heap} {b : Addr} {o : Obj} {z : Option Obj} (e : pinB fp h b = some (o, z)) : b ∈ fp ∧ h.get? b = some o ∧ z = none := by
  unfold pinB at e
  split at e
  · rename_i hb
    rw [Option.map_eq_some_iff] at e
    obtain ⟨o', h1, h2⟩ := e
    cases h2
    exact ⟨hb, h1, rfl⟩
  · cases e
theorem pin_of {fp : List Addr} {h : Heap} {b : Addr} {o : Obj} (hb : b ∈ fp) (e : h.get? b = some o) : pinB fp h b = some (o, none) := by
  unfold pinB; rw [if_pos hb, e]; rfl
theorem Hy.blk {scope : Scope} {cenv : PySem.Env} (H : Hy C T G Φ) : Hy (blkCz C scope cenv) T G Φ := ⟨H.un, H.t1, H.glob, H.blt, H.call⟩

/-- one turn of a list comprehension, in the evaluator -/
def lcTurn (G : Nat → Option D) (Φ : Fn) (own : List Nat) (elt : E) (tg : List Nat) (c : Oe) (x : D) (ρ : En) : Option (Option D × En) := match setTg ρ tg x with
          | some ρ2 => match evo' G Φ c ρ2 with
            | some (true, ρ3) => if isBrw elt then none else match ev G Φ elt ρ3 with
              | some (y, ρ4) => some (some y, wipeE ρ4 own)
              | none => none
            | some (false, ρ3) => some (none, wipeE ρ3 own)
            | none => none
          | none => none

theorem comp_core {own tg : List Nat} {ownP : List (Str × Nat)} {it : It} {c : Oe} {elt : E} {x tgx ix : Expr} {ifs : List Expr} {scope : Scope} {pos : Pos} (H : Hy C T G Φ) (hi : PIz C G Φ it tgx ix) (bo : BlkOk C.N C.env.scope scope ownP) (ho : ownP.map (·.2) = own)
    (mt : mTg C.N (relS scope C.env.scope) (fun x => scope.names.lookup x == some .cell) tg tgx = true) (tgs : ∀ i ∈ tg, i ∈ own)
    (hcd : ∀ C', Hy C' T G Φ → C'.N = C.N → C'.env.scope = relS scope C.env.scope → PCz C' G Φ c ifs) (he : ∀ C', Hy C' T G Φ → C'.N = C.N → C'.env.scope = relS scope C.env.scope → PEz C' G Φ elt x)
    (hs : ∀ v, foldedSetIterable ix C.env v = pure v) (use : Option (Value → Sem Unit)) (pos' : Pos) {E Q : Value → Shared → Prop} {d : D} (S : Sz C B po ρ τ O s) (h : ev G Φ (.comp own elt tg it c) ρ = some (d, ρ'))
    (q : ∀ p O' s' L m, Sz C B po ρ' τ O' s' → Ext NoX ρ τ O s ρ' τ O' s' → Fre C B ρ' τ O' s.heap p → OwnV C.prog C.w O' s'.toks p (s'.heap.get? p) d → Fre C B ρ' τ O' s.heap L → p ≠ L → s'.heap.Ns L m → compPost (model C.prog C.w) C.A E use Q (.ref p) L (.ok .next) s') :
    wpAny (model C.prog C.w) C.A (comprehension (.ListComp x [⟨tgx, ix, ifs, 0⟩] scope pos) scope C.env pos' (newList []) false (eval ix C.env) use) Q E s := by
  simp only [ev] at h
  split at h
  case h_2 => cases h
  rename_i xs ρ1 h1
  split at h
  case isFalse => cases h
  rename_i hcl
  split at h
  case h_2 => cases h
  rename_i ds ρ5 h5
  cases h
  have h5 : compGo (lcTurn G Φ own elt tg c) xs (wipeE ρ1 own) [] = some (ds, ρ5) := h5
  have hd := S.iz.ok.hd
  have hfree : ∀ y ∈ scope.names, y.2 = .free → ∃ c, C.env.cells.lookup y.1 = some c := fun y hy e => by
    rcases bo.free y hy e with k | k
    · exact S.iz.ok.has _ (.inl k)
    · exact S.iz.ok.has _ (.inr k)
  refine wpAny_comprehension_free (use := use) rfl hs (closure_ok hfree) bo.kind (fun y hy e => by rw [bo.uniq y hy, e]) (hi.run B po ρ τ O s _ E xs ρ1 S h1 fun I fp St n O2 s2 S2 x2 W hn st2 f2 => ?_)
  refine wpAny_newObj_type (newEnv_comp ?_) (by show 0 ≤ sizeLine; decide)
  generalize hD : s2.heap.objs.size = Dl
  generalize hs3 : ({ s2 with heap := s2.heap.push { cls := .type "list", data := .seq ([] : List Value).toArray } } : Shared) = s3
  have h3 : s3.heap = s2.heap.push { cls := .type "list", data := .seq ([] : List Value).toArray } := by rw [← hs3]
  have g3 : Gr O2 s2 O2 s3 := by rw [← hs3]; exact Gr.same (t' := s2.toks) S2.sub S2.iz.bare (Kept.push _ _) (Nat.le_refl _)
  have S3 := S2.grow g3
  have x3 := x2.trans (Ext.gr (X := NoX) (ρ := ρ1) (τ := τ) g3)
  have S3n : Sz C (fun _ => none) po ρ1 τ O2 s3 := S3.rebk fun b o z e => by cases e
  show codeAny _ _ (.compStart (.ListComp x [⟨tgx, ix, ifs, 0⟩] scope pos) 0 (.ref I) (.ref Dl) (compEnvC scope (cellsFrom (s3.heap.objs.size + 1) scope.names (cloFrom C.env.cells scope.names [])) s3.heap.objs.size C.env)) (compPost (model C.prog C.w) C.A E use Q (.ref Dl) s3.heap.objs.size) { s3 with heap := pushCells (s3.heap.push { cls := .type "dict", data := .dict #[] }) scope.names }
  generalize hce : compEnvC scope (cellsFrom (s3.heap.objs.size + 1) scope.names (cloFrom C.env.cells scope.names [])) s3.heap.objs.size C.env = ce
  have cL : ce.locals = s3.heap.objs.size := by subst hce; rfl
  have csc : ce.scope = relS scope C.env.scope := by subst hce; rfl
  obtain ⟨S4, stN, clN⟩ := blk_start S3n bo hce.symm
  rw [ho] at S4
  generalize hs4 : ({ s3 with heap := pushCells (s3.heap.push { cls := .type "dict", data := .dict #[] }) scope.names } : Shared) = s4 at S4 ⊢
  have H' : Hy (blkCz C scope ce) T G Φ := H.blk
  have pc := hcd (blkCz C scope ce) H' rfl csc
  have pe := he (blkCz C scope ce) H' rfl csc
  have g4 : Gr O2 s3 O2 s4 := by
    rw [← hs4]
    exact Gr.same (t' := s3.toks) S3.sub S3.iz.bare (fun b o e => pushCells_keeps _ _ _ _ (Heap.get?_push_of_some _ e)) (Nat.le_refl _)
  have D2 : s2.heap.get? Dl = none := by rw [← hD]; exact Heap.get?_none_of_le (Nat.le_refl _)
  have D3 : s3.heap.get? Dl = some { cls := .type "list", data := .seq ([] : List Value).toArray } := by rw [h3, ← hD]; exact Heap.get?_push_size _ rfl
  have fD : Fre C B ρ1 τ O2 s.heap Dl := S2.fre D2 x2.st'
  have fpThere : ∀ b ∈ fp, ∃ o, s2.heap.get? b = some o := W.obj _ _ st2
  have Dfp : Dl ∉ fp := fun hb => by obtain ⟨o, e⟩ := fpThere _ hb; rw [D2] at e; cases e
  have there : ∀ b, (∃ o, s2.heap.get? b = some o) → ∃ o, s3.heap.get? b = some o := fun b ⟨o, e⟩ => ⟨o, g3.kept b o e⟩
  have ap : ∀ b, Fre C B ρ1 τ O2 s.heap b → (∃ o, s3.heap.get? b = some o) → ¬ (blkCz C scope ce).St b ∧ ¬ ownA ρ1 τ b ∧ C.base.get? b = none ∧ ∀ y c, ce.cells.lookup y = some c → c ≠ b := fun b f ⟨o, e⟩ => by
    refine ⟨fun h => (by rw [stN b h] at e; cases e), f.ow, f.bs, fun y c ec z => ?_⟩
    subst z
    rcases clN y c ec with q | q
    · obtain ⟨v, o', h4, _⟩ := S.iz.cell y c q
      rw [f.nw] at h4; cases h4
    · rw [q] at e; cases e
  have apF : ∀ b ∈ fp, ¬ (blkCz C scope ce).St b ∧ ¬ ownA ρ1 τ b ∧ C.base.get? b = none ∧ ∀ y c, ce.cells.lookup y = some c → c ≠ b := fun b hb => ap b (f2 b hb) (there b (fpThere b hb))
  have apD := ap Dl fD ⟨_, D3⟩
  generalize hXX : (fun b => (blkCz C scope ce).St b ∨ b ∈ fp ∨ b = Dl) = XX
  have inF : ∀ b ∈ fp, XX b := fun b hb => by rw [← hXX]; exact .inr (.inl hb)
  have inD : XX Dl := by rw [← hXX]; exact .inr (.inr rfl)
  have inS : ∀ b, (blkCz C scope ce).St b → XX b := fun b hb => by rw [← hXX]; exact .inl hb
  have XXn : ∀ b, XX b → Fre C B ρ1 τ O2 s.heap b ∨ (s3.heap.get? b = none) := fun b hb => by
    rw [← hXX] at hb
    rcases hb with h | h | h
    · exact .inr (stN b h)
    · exact .inl (f2 b h)
    · rw [h]; exact .inl fD
  have st4 : St 0 s4.heap := W.keep _ _ _ st2 fun b _ o e => g4.kept b o (g3.kept b o e)
  have D4 : s4.heap.get? Dl = some { cls := .type "list", data := .seq ([] : List Value).toArray } := g4.kept _ _ D3
  have tk4 : s2.toks ≤ s4.toks := Nat.le_trans g3.tk g4.tk
  let LI : Nat → Shared → Prop := fun k s5 => ∃ (i : Nat) (ρi : En) (Oi : Om) (acc : List D) (us : List Value) (kk : Nat), k = xs.length - i ∧ i ≤ xs.length ∧ Sz (blkCz C scope ce) (fun _ => none) po ρi (wipeT τ own) Oi s5 ∧ Ext XX (wipeE ρ1 own) (wipeT τ own) O2 s4 ρi (wipeT τ own) Oi s5 ∧
    St i s5.heap ∧ (∀ b ∈ fp, Oi b = none) ∧ Oi Dl = none ∧ s5.heap.get? Dl = some { cls := .type "list", data := .seq us.toArray kk } ∧ RepVs C.prog C.w Oi s5.toks us acc ∧ us.length ≤ sizeLine ∧ compGo (lcTurn G Φ own elt tg c) (xs.drop i) ρi acc = some (ds, ρ5)
  have loop : codeAny (model C.prog C.w) C.A (.compLoop (.ListComp x [⟨tgx, ix, ifs, 0⟩] scope pos) 0 (.ref I) (.ref Dl) ce) (compPost (model C.prog C.w) C.A E use Q (.ref Dl) s3.heap.objs.size) s4 := by
    refine compLoop_any LI ?_ xs.length ⟨0, _, O2, [], [], 0, rfl, Nat.zero_le _, S4, Ext.refl, st4, fun b hb => (f2 b hb).o, fD.o, D4, .nil, Nat.zero_le _, by rw [List.drop_zero]; exact h5⟩
    rintro k s5 ⟨i, ρi, Oi, acc, us, kk, rfl, hi5, S5, x5, st5, nf5, nD5, D5, r5, z5, c5⟩
    by_cases hlt : i < xs.length
    · have hx : xs[i]? = some xs[i] := List.getElem?_eq_getElem hlt
      rw [List.drop_eq_getElem_cons hlt] at c5
      simp only [compGo] at c5
      have apF5 : ∀ b ∈ fp, ¬ (blkCz C scope ce).St b ∧ ¬ ownA ρi (wipeT τ own) b ∧ (blkCz C scope ce).base.get? b = none ∧ (fun _ => none : Bk) b = none ∧ ∀ y c, (blkCz C scope ce).env.cells.lookup y = some c → c ≠ b := fun b hb =>
        ⟨(apF b hb).1, fun h => (apF b hb).2.1 (wipe_own (x5.ow b h)), (apF b hb).2.2.1, rfl, (apF b hb).2.2.2⟩
      refine wpAny_mono (W.item C.A i xs[i] s5 Oi (fun u s6 => wpAny (model C.prog C.w) C.A (assign tgx ce u) (fun _ s₂ =>
          wpAny (model C.prog C.w) C.A (forIn ifs true fun c r => if r = true then do let ok ← isTrue c ce (eval c ce); pure (ForInStep.yield ok) else pure (ForInStep.yield r)) (fun ok s₃ =>
            if ok = true then wpAny (model C.prog C.w) C.A (eval x ce) (fun x s₄ =>
              wpAny (model C.prog C.w) C.A (call (.builtin "list.append") [.ref Dl, x]) (fun _ s₅ => ∃ m, m < xs.length - i ∧ LI m s₅) (notedBy (model C.prog C.w) C.A ce fun e s' => compPost (model C.prog C.w) C.A E use Q (.ref Dl) s3.heap.objs.size (.error e) s') s₄) (notedBy (model C.prog C.w) C.A ce fun e s' => compPost (model C.prog C.w) C.A E use Q (.ref Dl) s3.heap.objs.size (.error e) s') s₃
            else ∃ m, m < xs.length - i ∧ LI m s₃) (notedBy (model C.prog C.w) C.A ce fun e s' => compPost (model C.prog C.w) C.A E use Q (.ref Dl) s3.heap.objs.size (.error e) s') s₂) (notedBy (model C.prog C.w) C.A ce fun e s' => compPost (model C.prog C.w) C.A E use Q (.ref Dl) s3.heap.objs.size (.error e) s') s6) _ hd hx st5 (S5.cn H.t1) x5.le (Nat.le_trans hn (Nat.le_trans tk4 x5.tk)) nf5 fun u O6 h6 t6 k6 le6 nw6 sub6 tk6 r6 st6 => ?_) (fun r s6 hr => ?_) fun _ _ z => z
      · have S6 := S5.turn k6 le6 nw6 sub6 tk6 apF5
        have D6 : h6.get? Dl = some { cls := .type "list", data := .seq us.toArray kk } := k6 _ _ Dfp D5
        have x6 : Ext XX (wipeE ρ1 own) (wipeT τ own) O2 s4 ρi (wipeT τ own) O6 { s5 with heap := h6, toks := t6 } := x5.trans ((Ext.turn k6 le6 nw6 tk6).imp inF)
        have nf6 : ∀ b ∈ fp, O6 b = none := fun b hb => by
          obtain ⟨o, e⟩ := W.obj _ _ st5 b hb
          rw [nw6 b o e]; exact nf5 b hb
        have nD6 : O6 Dl = none := by rw [nw6 _ _ D5]; exact nD5
        -- pinned
        have pinOk : ∀ b ∈ Dl :: fp, ¬ (blkCz C scope ce).St b ∧ ¬ ownA ρi (wipeT τ own) b ∧ O6 b = none := fun b hb => by
          rcases List.mem_cons.mp hb with z | hb
          · rw [z]; exact ⟨apD.1, fun h => apD.2.1 (wipe_own (x6.ow _ h)), nD6⟩
          · exact ⟨(apF b hb).1, fun h => (apF b hb).2.1 (wipe_own (x6.ow b h)), nf6 b hb⟩
        have S6p : Sz (blkCz C scope ce) (pinB (Dl :: fp) h6) po ρi (wipeT τ own) O6 { s5 with heap := h6, toks := t6 } := S6.rebk fun b o z e => by
          obtain ⟨e1, e2, e3⟩ := pin_inv e
          obtain ⟨c1, c2, c3⟩ := pinOk b e1
          exact ⟨e2, by rw [e3]; exact c3, c1, c2⟩
        -- the turn in the evaluator
        have hfx : ∀ z r, lcTurn G Φ own elt tg c z r = lcTurn G Φ own elt tg c z r := fun _ _ => rfl
        generalize hf : lcTurn G Φ own elt tg c = f at c5
        have hfx : f xs[i] ρi = lcTurn G Φ own elt tg c xs[i] ρi := by rw [hf]
        rw [hfx] at c5
        unfold lcTurn at c5
        cases ht : setTg ρi tg xs[i] with
        | none => rw [ht] at c5; simp at c5
        | some ρ7 =>
          rw [ht] at c5
          simp only at c5
          refine asg_tg (C := blkCz C scope ce) S6p (by rw [show (blkCz C scope ce).env.scope = relS scope C.env.scope from csc]; exact mt) ht r6 fun uu s7 hul S7 x7 => ?_
          cases hc : evo' G Φ c ρ7 with
          | none => rw [hc] at c5; simp at c5
          | some bρ =>
            obtain ⟨bb, ρ8⟩ := bρ
            rw [hc] at c5
            refine pc.run _ po ρ7 _ O6 s7 _ _ bb ρ8 S7 hc fun O8 s8 S8 x8 => ?_
            have xx8 : Ext XX (wipeE ρ1 own) (wipeT τ own) O2 s4 ρ8 (setT (wipeT τ own) tg uu) O8 s8 := (x6.trans (x7.imp inS)).trans x8.weak
            have sw : wipeT (setT (wipeT τ own) tg uu) own = wipeT τ own := setT_wipe τ own tg uu tgs hul
            have rr8 : RepVs C.prog C.w O8 s8.toks us acc := r5.mono (le6.trans (x7.le.trans x8.le)) (Nat.le_trans tk6 (Nat.le_trans x7.tk x8.tk))
            cases bb with
            | false =>
              simp only [Bool.false_eq_true, if_false]
              simp only at c5
              have S9 := (S8.rebk (B' := fun _ => none) fun b o z e => by cases e).wipe own
              have keep8 : ∀ b ∈ Dl :: fp, ∀ o, h6.get? b = some o → s8.heap.get? b = some o ∧ O8 b = none := fun b hb o e => S8.bk b o none (pin_of hb e)
              rw [sw] at S9
              refine ⟨xs.length - (i + 1), by omega, i + 1, wipeE ρ8 own, O8, acc, us, kk, rfl, hlt, S9, ?_, ?_, ?_, (keep8 Dl (List.mem_cons_self ..) _ D6).2, (keep8 Dl (List.mem_cons_self ..) _ D6).1, rr8, z5, by rw [hf]; exact c5⟩
              · have := xx8.trans (Ext.wipe (X := XX) S8 own)
                rw [sw] at this; exact this
              · exact W.keep _ _ _ st6 fun b hb o e => (keep8 b (List.mem_cons_of_mem _ hb) o e).1
              · intro b hb
                obtain ⟨o, e⟩ := W.obj _ _ st6 b hb
                exact (keep8 b (List.mem_cons_of_mem _ hb) o e).2
            | true =>
              simp only [if_true]
              simp only at c5
              cases hbr : isBrw elt with
              | true => rw [hbr] at c5; simp at c5
              | false =>
                rw [hbr] at c5
                simp only [Bool.false_eq_true, if_false] at c5
                cases hev : ev G Φ elt ρ8 with
                | none => rw [hev] at c5; simp at c5
                | some yρ =>
                  obtain ⟨y, ρ9⟩ := yρ
                  rw [hev] at c5
                  simp only at c5
                  split at c5
                  · rename_i hlim
                    refine pe.run _ po ρ8 _ O8 s8 _ _ y ρ9 S8 hev fun v O9 s9 S9 x9 l9 => ?_
                    have ry := l9.rep hbr
                    have xx9 : Ext XX (wipeE ρ1 own) (wipeT τ own) O2 s4 ρ9 (setT (wipeT τ own) tg uu) O9 s9 := xx8.trans x9.weak
                    have keep9 : ∀ b ∈ Dl :: fp, ∀ o, h6.get? b = some o → s9.heap.get? b = some o ∧ O9 b = none := fun b hb o e => S9.bk b o none (pin_of hb e)
                    obtain ⟨D9, nD9⟩ := keep9 Dl (List.mem_cons_self ..) _ D6
                    have rr9 : RepVs C.prog C.w O9 s9.toks us acc := rr8.mono x9.le x9.tk
                    have hul' := rr9.length
                    have hz' : us.length + 1 ≤ sizeLine := by have := lim; omega
                    refine append_at (hsz := by rw [List.size_toArray]; omega) D9 fun h10 sb ho' => ?_
                    have kD : ∀ b o, b ∉ [Dl] → s9.heap.get? b = some o → h10.get? b = some o := fun b o hb e => (sb.2 b fun z => hb (by rw [z]; exact List.mem_singleton.mpr rfl)).trans e
                    have S9n := S9.rebk (B' := fun _ => none) fun b o z e => by cases e
                    have S10 := S9n.turn (fp := [Dl]) (h' := h10) (t' := s9.toks) kD (Le.refl _) (fun _ _ _ => rfl) (fun b o e => kD b o (fun hb => by rw [one_mem hb, nD9] at e; cases e) (S9.sub b o e)) (Nat.le_refl _) fun b hb => by
                      rw [one_mem hb]
                      exact ⟨apD.1, fun h => apD.2.1 (wipe_own (xx9.ow _ h)), apD.2.2.1, rfl, apD.2.2.2⟩
                    have S11 := S10.wipe own
                    rw [sw] at S11
                    have xx10 : Ext XX (wipeE ρ1 own) (wipeT τ own) O2 s4 ρ9 (setT (wipeT τ own) tg uu) O9 { s9 with heap := h10, toks := s9.toks } := xx9.trans ((Ext.turn kD (Le.refl _) (fun _ _ _ => rfl) (Nat.le_refl _)).imp fun b hb => by rw [one_mem hb]; exact inD)
                    refine ⟨xs.length - (i + 1), by omega, i + 1, wipeE ρ9 own, O9, acc ++ [y], us ++ [v], kk + 1, rfl, hlt, S11, ?_, ?_, ?_, nD9, ?_, rr9.append (.cons ry .nil), by rw [List.length_append]; exact hz', by rw [hf]; exact c5⟩
                    · have := xx10.trans (Ext.wipe (X := XX) S10 own)
                      rw [sw] at this; exact this
                    · exact W.keep _ _ _ st6 fun b hb o e => kD b o (fun hD => Dfp (by rw [← one_mem hD]; exact hb)) (keep9 b (List.mem_cons_of_mem _ hb) o e).1
                    · intro b hb
                      obtain ⟨o, e⟩ := W.obj _ _ st6 b hb
                      exact (keep9 b (List.mem_cons_of_mem _ hb) o e).2
                    · show h10.get? Dl = _
                      rw [ho']; simp
                  · cases c5
      · obtain ⟨u, rfl, hr⟩ := hr
        exact hr
    · have hie : i = xs.length := by omega
      subst hie
      rw [List.drop_length] at c5
      simp only [compGo] at c5
      cases c5
      refine wpAny_mono (W.done C.A _ s5 Oi (fun s6 => compPost (model C.prog C.w) C.A E use Q (.ref Dl) s3.heap.objs.size (.ok .next) s6) _ hd (Nat.le_refl _) st5 (S5.cn H.t1) x5.le nf5 fun h6 t6 k6 sub6 tk6 => ?_) (fun r s6 hr => ?_) fun _ _ z => z
      · have apF5 : ∀ b ∈ fp, ¬ (blkCz C scope ce).St b ∧ ¬ ownA ρ5 (wipeT τ own) b ∧ (blkCz C scope ce).base.get? b = none ∧ (fun _ => none : Bk) b = none ∧ ∀ y c, (blkCz C scope ce).env.cells.lookup y = some c → c ≠ b := fun b hb =>
          ⟨(apF b hb).1, fun h => (apF b hb).2.1 (wipe_own (x5.ow b h)), (apF b hb).2.2.1, rfl, (apF b hb).2.2.2⟩
        have S6 := S5.turn k6 (Le.refl _) (fun _ _ _ => rfl) sub6 tk6 apF5
        have D6 : h6.get? Dl = some { cls := .type "list", data := .seq us.toArray kk } := k6 _ _ Dfp D5
        obtain ⟨m, hn6, _⟩ := S6.iz.loc
        have hn6 : h6.Ns ce.locals m := hn6
        rw [cL] at hn6
        -- back in the def's context
        have x6 : Ext XX (wipeE ρ1 own) (wipeT τ own) O2 s3 ρ5 (wipeT τ own) Oi { s5 with heap := h6, toks := t6 } :=
          ((Ext.gr g4).trans x5).trans ((Ext.turn k6 (Le.refl _) (fun _ _ _ => rfl) tk6).imp inF)
        have S3' : Sz C B po ρ1 τ O2 s3 := S3
        have hX3 : ∀ b, XX b → ¬ C.St b ∧ ¬ ownA ρ1 τ b ∧ C.base.get? b = none ∧ B b = none ∧ ∀ y c, C.env.cells.lookup y = some c → c ≠ b := fun b hb => by
          have f : Fre C B ρ1 τ O2 s.heap b := by
            rcases XXn b hb with f | no
            · exact f
            · exact S3.fre no x3.st'
          refine ⟨f.st, f.ow, f.bs, f.bk, fun y c ec z => ?_⟩
          subst z
          obtain ⟨v, o', h4, _⟩ := S.iz.cell y c ec
          rw [f.nw] at h4; cases h4
        obtain ⟨S6b, x6b⟩ := S3'.back S6 x6 hcl hX3
        have stL : (blkCz C scope ce).St s3.heap.objs.size := .inl cL.symm
        have nL : s3.heap.get? s3.heap.objs.size = none := Heap.get?_none_of_le (Nat.le_refl _)
        have fL : Fre C B ρ1 τ O2 s.heap s3.heap.objs.size := S3.fre nL x3.st'
        have oL : Oi s3.heap.objs.size = none := (S6.on _ stL).1
        have own6 : ∀ b, ownA (backE ρ1 ρ5 own) τ b → ownA ρ1 τ b := x6b.ow
        have x8 : Ext NoX ρ τ O s (backE ρ1 ρ5 own) τ Oi { s5 with heap := h6, toks := t6 } :=
          ((x3.weak (X := XX)).trans x6b).drop fun b hb => by
            rcases XXn b hb with f | no
            · exact f.nw
            · cases e : s.heap.get? b with
              | none => rfl
              | some o => obtain ⟨o', e'⟩ := x3.st' b o e; rw [no] at e'; cases e'
        exact q Dl Oi _ _ m S6b x8 ⟨fD.nw, nD5, fD.bk, fD.bs, fD.st, fun h => fD.ow (own6 _ h)⟩ ⟨us, kk, D6, z5, r5.mono (Le.refl _) tk6⟩ ⟨fL.nw, oL, fL.bk, fL.bs, fL.st, fun h => fL.ow (own6 _ h)⟩ (fun z => by rw [z, nL] at D3; cases D3) hn6
      · obtain ⟨rfl, hr⟩ := hr
        exact hr
  exact codeAny_compStart_list loop (W.self C.A 0 _ _ _ st4 loop)
/-- the frame of a block that has ended goes -/
theorem Sz.gone {h0 h' : Heap} {L : Addr} (S : Sz C B po ρ τ O s) (f : Fre C B ρ τ O h0 L) (hc : ∀ x c, C.env.cells.lookup x = some c → ∃ o, h0.get? c = some o) (sb : Heap.SameBut L s.heap h') : Sz C B po ρ τ O { s with heap := h' } ∧ Ext (· = L) ρ τ O s ρ τ O { s with heap := h' } := by
  have kL : ∀ b o, b ∉ [L] → s.heap.get? b = some o → h'.get? b = some o := fun b o hb e => (sb.2 b fun z => hb (by rw [z]; exact List.mem_singleton.mpr rfl)).trans e
  refine ⟨S.turn (fp := [L]) (h' := h') (t' := s.toks) kL (Le.refl _) (fun _ _ _ => rfl) (fun b o e => kL b o (fun hb => by rw [one_mem hb, f.o] at e; cases e) (S.sub b o e)) (Nat.le_refl _) fun b hb => ?_, (Ext.turn kL (Le.refl _) (fun _ _ _ => rfl) (Nat.le_refl _)).imp fun b hb => one_mem hb⟩
  rw [one_mem hb]
  exact ⟨f.st, f.ow, f.bs, f.bk, fun x c e z => by subst z; obtain ⟨o, e'⟩ := hc x c e; rw [f.nw] at e'; cases e'⟩
theorem Sz.cellOld (S : Sz C B po ρ τ O s) : ∀ x c, C.env.cells.lookup x = some c → ∃ o, s.heap.get? c = some o := fun x c e => by
  obtain ⟨v, o, h, _⟩ := S.iz.cell x c e
  exact ⟨o, h⟩
theorem ok_comp {own tg : List Nat} {ownP : List (Str × Nat)} {it : It} {c : Oe} {elt : E} {x tgx ix : Expr} {ifs : List Expr} {scope : Scope} {pos : Pos} (H : Hy C T G Φ) (hi : PIz C G Φ it tgx ix) (bo : BlkOk C.N C.env.scope scope ownP) (ho : ownP.map (·.2) = own)
    (mt : mTg C.N (relS scope C.env.scope) (fun x => scope.names.lookup x == some .cell) tg tgx = true) (tgs : ∀ i ∈ tg, i ∈ own)
    (hcd : ∀ C', Hy C' T G Φ → C'.N = C.N → C'.env.scope = relS scope C.env.scope → PCz C' G Φ c ifs) (he : ∀ C', Hy C' T G Φ → C'.N = C.N → C'.env.scope = relS scope C.env.scope → PEz C' G Φ elt x)
    (hs : ∀ v, foldedSetIterable ix C.env v = pure v) : PNz C G Φ (.comp own elt tg it c) (.ListComp x [⟨tgx, ix, ifs, 0⟩] scope pos) := ⟨fun B po ρ τ O s Q E d ρ' S h q => by
  rw [eval_ListComp]
  refine comp_core H hi bo ho mt tgs hcd he hs none _ S h fun p O' s' L m S' x' f ow fL ne hn => ⟨m, hn, fun h' sb => ?_⟩
  obtain ⟨S7, x7⟩ := S'.gone fL S.cellOld sb
  exact q p O' _ S7 ((x'.weak.trans x7).drop fun b hb => by subst hb; exact fL.nw) f (by rw [show ({ s' with heap := h' } : Shared).heap.get? p = s'.heap.get? p from sb.2 p ne]; exact ow)⟩
end
end Mini
/-! Mini, exact: the rule of a dict comprehension. -/
namespace Mini
open PySem PySem.Spec PyProof.Rows L2

section
variable {C : Cz} {T : Tb} {G : Nat → Option D} {Φ : Fn} {B B' : Bk} {po : Option Addr} {ρ ρ' ρ1 ρ2 ρ5 : En} {τ : List (Option Value)} {O O' : Om} {s s' : Shared}
section
variable {O : Om}
theorem RepVk.stored {P : Program} {w : World} {n : Nat} {u : Value} {d : D} (y : Ky) (r : RepV P w O n u d) : ∀ {vs : List (Key × Value)} {kvs : List (Ky × D)}, RepVk P w O n vs kvs →
    RepVk P w O n (vs.map fun kv => if kv.1 = kyK y then (kv.1, u) else kv) (kvs.map fun p => if p.1 = y then (p.1, d) else p)
  | _, _, .nil => .nil
  | _, _, .cons (k := k') (v := v) (ws := ws) (d := d') (kvs := kvs) h t => by
    have ih := RepVk.stored y r t
    rw [List.map_cons, List.map_cons]
    by_cases e : k' = y
    · subst e
      rw [if_pos rfl, if_pos rfl]
      exact .cons r ih
    · have : ¬ kyK k' = kyK y := fun q => e (kyK_inj q)
      rw [if_neg this, if_neg e]
      exact .cons h ih
theorem RepVk.app {P : Program} {w : World} {n : Nat} : ∀ {v v' : List (Key × Value)} {d d' : List (Ky × D)}, RepVk P w O n v d → RepVk P w O n v' d' → RepVk P w O n (v ++ v') (d ++ d')
  | _, _, _, _, .nil, s => s
  | _, _, _, _, .cons h r, s => .cons h (RepVk.app r s)
theorem RepVk.any {P : Program} {w : World} {n : Nat} (y : Ky) : ∀ {vs : List (Key × Value)} {kvs : List (Ky × D)}, RepVk P w O n vs kvs → (vs.any fun kv => decide (kv.1 = kyK y)) = kvs.any fun p => decide (p.1 = y)
  | _, _, .nil => rfl
  | _, _, .cons h t => by rw [List.any_cons, List.any_cons, RepVk.any y t, kyK_dec]
theorem RepVk.put {P : Program} {w : World} {n : Nat} {u : Value} {d : D} (y : Ky) (r : RepV P w O n u d) {vs : List (Key × Value)} {kvs : List (Ky × D)} (h : RepVk P w O n vs kvs) : RepVk P w O n (PySem.stored vs (kyK y) u) (dput kvs y d) := by
  unfold PySem.stored dput
  rw [h.any y]
  split
  · exact h.stored y r
  · exact h.app (.cons r .nil)
end
/-- one turn of a dict comprehension, in the evaluator -/
def dcTurn (G : Nat → Option D) (Φ : Fn) (own : List Nat) (k v : E) (tg : List Nat) (c : Oe) (x : D) (ρ : En) : Option (Option (Ky × D) × En) := match setTg ρ tg x with
          | some ρ2 => match evo' G Φ c ρ2 with
            | some (true, ρ3) => if isBrw k || isBrw v then none else match ev G Φ k ρ3 with
              | some (y, ρ4) => match kyOf y with
                | some y' => match ev G Φ v ρ4 with
                  | some (z, ρ5) => some (some (y', z), wipeE ρ5 own)
                  | none => none
                | none => none
              | none => none
            | some (false, ρ3) => some (none, wipeE ρ3 own)
            | none => none
          | none => none
theorem dcomp_core {own tg : List Nat} {ownP : List (Str × Nat)} {it : It} {c : Oe} {ke ve : E} {kx vx tgx ix : Expr} {ifs : List Expr} {scope : Scope} {pos : Pos} (H : Hy C T G Φ) (hi : PIz C G Φ it tgx ix) (bo : BlkOk C.N C.env.scope scope ownP) (ho : ownP.map (·.2) = own)
    (mt : mTg C.N (relS scope C.env.scope) (fun x => scope.names.lookup x == some .cell) tg tgx = true) (tgs : ∀ i ∈ tg, i ∈ own)
    (hcd : ∀ C', Hy C' T G Φ → C'.N = C.N → C'.env.scope = relS scope C.env.scope → PCz C' G Φ c ifs) (hke : ∀ C', Hy C' T G Φ → C'.N = C.N → C'.env.scope = relS scope C.env.scope → PEz C' G Φ ke kx) (he : ∀ C', Hy C' T G Φ → C'.N = C.N → C'.env.scope = relS scope C.env.scope → PEz C' G Φ ve vx)
    (hs : ∀ v, foldedSetIterable ix C.env v = pure v) (use : Option (Value → Sem Unit)) (pos' : Pos) {E Q : Value → Shared → Prop} {d : D} (S : Sz C B po ρ τ O s) (h : ev G Φ (.dcomp own ke ve tg it c) ρ = some (d, ρ'))
    (q : ∀ p O' s' L m, Sz C B po ρ' τ O' s' → Ext NoX ρ τ O s ρ' τ O' s' → Fre C B ρ' τ O' s.heap p → OwnV C.prog C.w O' s'.toks p (s'.heap.get? p) d → Fre C B ρ' τ O' s.heap L → p ≠ L → s'.heap.Ns L m → compPost (model C.prog C.w) C.A E use Q (.ref p) L (.ok .next) s') :
    wpAny (model C.prog C.w) C.A (comprehension (.DictComp kx vx [⟨tgx, ix, ifs, 0⟩] scope pos) scope C.env pos' newDict false (eval ix C.env) use) Q E s := by
  simp only [ev] at h
  split at h
  case h_2 => cases h
  rename_i xs ρ1 h1
  split at h
  case isFalse => cases h
  rename_i hcl
  split at h
  case h_2 => cases h
  rename_i ds ρ5 h5
  cases h
  have h5 : dcompGo (dcTurn G Φ own ke ve tg c) xs (wipeE ρ1 own) [] = some (ds, ρ5) := h5
  have hd := S.iz.ok.hd
  have hfree : ∀ y ∈ scope.names, y.2 = .free → ∃ c, C.env.cells.lookup y.1 = some c := fun y hy e => by
    rcases bo.free y hy e with k | k
    · exact S.iz.ok.has _ (.inl k)
    · exact S.iz.ok.has _ (.inr k)
  refine wpAny_comprehension_free (use := use) rfl hs (closure_ok hfree) bo.kind (fun y hy e => by rw [bo.uniq y hy, e]) (hi.run B po ρ τ O s _ E xs ρ1 S h1 fun I fp St n O2 s2 S2 x2 W hn st2 f2 => ?_)
  refine wpAny_newObj_type (newEnv_comp ?_)
  have nsys := S2.newDict
  generalize hD : s2.heap.objs.size = Dl at nsys ⊢
  generalize hs3 : ({ s2 with heap := s2.heap.push { cls := .type "dict", data := .dict #[] } } : Shared) = s3
  have h3 : s3.heap = s2.heap.push { cls := .type "dict", data := .dict #[] } := by rw [← hs3]
  have g3 : Gr O2 s2 O2 s3 := by rw [← hs3]; exact Gr.same (t' := s2.toks) S2.sub S2.iz.bare (Kept.push _ _) (Nat.le_refl _)
  have S3 := S2.grow g3
  have x3 := x2.trans (Ext.gr (X := NoX) (ρ := ρ1) (τ := τ) g3)
  have S3n : Sz C (fun _ => none) po ρ1 τ O2 s3 := S3.rebk fun b o z e => by cases e
  show codeAny _ _ (.compStart (.DictComp kx vx [⟨tgx, ix, ifs, 0⟩] scope pos) 0 (.ref I) (.ref Dl) (compEnvC scope (cellsFrom (s3.heap.objs.size + 1) scope.names (cloFrom C.env.cells scope.names [])) s3.heap.objs.size C.env)) (compPost (model C.prog C.w) C.A E use Q (.ref Dl) s3.heap.objs.size) { s3 with heap := pushCells (s3.heap.push { cls := .type "dict", data := .dict #[] }) scope.names }
  generalize hce : compEnvC scope (cellsFrom (s3.heap.objs.size + 1) scope.names (cloFrom C.env.cells scope.names [])) s3.heap.objs.size C.env = ce
  have cL : ce.locals = s3.heap.objs.size := by subst hce; rfl
  have csc : ce.scope = relS scope C.env.scope := by subst hce; rfl
  obtain ⟨S4, stN, clN⟩ := blk_start S3n bo hce.symm
  rw [ho] at S4
  generalize hs4 : ({ s3 with heap := pushCells (s3.heap.push { cls := .type "dict", data := .dict #[] }) scope.names } : Shared) = s4 at S4 ⊢
  have H' : Hy (blkCz C scope ce) T G Φ := H.blk
  have pc := hcd (blkCz C scope ce) H' rfl csc
  have pk := hke (blkCz C scope ce) H' rfl csc
  have pe := he (blkCz C scope ce) H' rfl csc
  have g4 : Gr O2 s3 O2 s4 := by
    rw [← hs4]
    exact Gr.same (t' := s3.toks) S3.sub S3.iz.bare (fun b o e => pushCells_keeps _ _ _ _ (Heap.get?_push_of_some _ e)) (Nat.le_refl _)
  have D2 : s2.heap.get? Dl = none := by rw [← hD]; exact Heap.get?_none_of_le (Nat.le_refl _)
  have D3 : s3.heap.get? Dl = some { cls := .type "dict", data := .dict #[] } := by rw [h3, ← hD]; exact Heap.get?_push_size _ rfl
  have fD : Fre C B ρ1 τ O2 s.heap Dl := S2.fre D2 x2.st'
  have fpThere : ∀ b ∈ fp, ∃ o, s2.heap.get? b = some o := W.obj _ _ st2
  have Dfp : Dl ∉ fp := fun hb => by obtain ⟨o, e⟩ := fpThere _ hb; rw [D2] at e; cases e
  have there : ∀ b, (∃ o, s2.heap.get? b = some o) → ∃ o, s3.heap.get? b = some o := fun b ⟨o, e⟩ => ⟨o, g3.kept b o e⟩
  have ap : ∀ b, Fre C B ρ1 τ O2 s.heap b → (∃ o, s3.heap.get? b = some o) → ¬ (blkCz C scope ce).St b ∧ ¬ ownA ρ1 τ b ∧ C.base.get? b = none ∧ ∀ y c, ce.cells.lookup y = some c → c ≠ b := fun b f ⟨o, e⟩ => by
    refine ⟨fun h => (by rw [stN b h] at e; cases e), f.ow, f.bs, fun y c ec z => ?_⟩
    subst z
    rcases clN y c ec with q | q
    · obtain ⟨v, o', h4, _⟩ := S.iz.cell y c q
      rw [f.nw] at h4; cases h4
    · rw [q] at e; cases e
  have apF : ∀ b ∈ fp, ¬ (blkCz C scope ce).St b ∧ ¬ ownA ρ1 τ b ∧ C.base.get? b = none ∧ ∀ y c, ce.cells.lookup y = some c → c ≠ b := fun b hb => ap b (f2 b hb) (there b (fpThere b hb))
  have apD := ap Dl fD ⟨_, D3⟩
  generalize hXX : (fun b => (blkCz C scope ce).St b ∨ b ∈ fp ∨ b = Dl) = XX
  have inF : ∀ b ∈ fp, XX b := fun b hb => by rw [← hXX]; exact .inr (.inl hb)
  have inD : XX Dl := by rw [← hXX]; exact .inr (.inr rfl)
  have inS : ∀ b, (blkCz C scope ce).St b → XX b := fun b hb => by rw [← hXX]; exact .inl hb
  have XXn : ∀ b, XX b → Fre C B ρ1 τ O2 s.heap b ∨ (s3.heap.get? b = none) := fun b hb => by
    rw [← hXX] at hb
    rcases hb with h | h | h
    · exact .inr (stN b h)
    · exact .inl (f2 b h)
    · rw [h]; exact .inl fD
  have st4 : St 0 s4.heap := W.keep _ _ _ st2 fun b _ o e => g4.kept b o (g3.kept b o e)
  have D4 : s4.heap.get? Dl = some { cls := .type "dict", data := .dict #[] } := g4.kept _ _ D3
  have tk4 : s2.toks ≤ s4.toks := Nat.le_trans g3.tk g4.tk
  let LI : Nat → Shared → Prop := fun k s5 => ∃ (i : Nat) (ρi : En) (Oi : Om) (acc : List (Ky × D)) (ob : Obj) (us : List (Key × Value)), k = xs.length - i ∧ i ≤ xs.length ∧ Sz (blkCz C scope ce) (fun _ => none) po ρi (wipeT τ own) Oi s5 ∧ Ext XX (wipeE ρ1 own) (wipeT τ own) O2 s4 ρi (wipeT τ own) Oi s5 ∧
    St i s5.heap ∧ (∀ b ∈ fp, Oi b = none) ∧ Oi Dl = none ∧ s5.heap.get? Dl = some ob ∧ DkObj C.prog C.w ob us ∧ RepVk C.prog C.w Oi s5.toks us acc ∧ us.length ≤ sizeLine ∧ dcompGo (dcTurn G Φ own ke ve tg c) (xs.drop i) ρi acc = some (ds, ρ5)
  have loop : codeAny (model C.prog C.w) C.A (.compLoop (.DictComp kx vx [⟨tgx, ix, ifs, 0⟩] scope pos) 0 (.ref I) (.ref Dl) ce) (compPost (model C.prog C.w) C.A E use Q (.ref Dl) s3.heap.objs.size) s4 := by
    refine compLoop_anyD LI ?_ xs.length ⟨0, _, O2, [], _, [], rfl, Nat.zero_le _, S4, Ext.refl, st4, fun b hb => (f2 b hb).o, fD.o, D4, dkNew, .nil, Nat.zero_le _, by rw [List.drop_zero]; exact h5⟩
    rintro k s5 ⟨i, ρi, Oi, acc, ob, us, rfl, hi5, S5, x5, st5, nf5, nD5, D5, dk5, r5, z5, c5⟩
    by_cases hlt : i < xs.length
    · have hx : xs[i]? = some xs[i] := List.getElem?_eq_getElem hlt
      rw [List.drop_eq_getElem_cons hlt] at c5
      simp only [dcompGo] at c5
      have apF5 : ∀ b ∈ fp, ¬ (blkCz C scope ce).St b ∧ ¬ ownA ρi (wipeT τ own) b ∧ (blkCz C scope ce).base.get? b = none ∧ (fun _ => none : Bk) b = none ∧ ∀ y c, (blkCz C scope ce).env.cells.lookup y = some c → c ≠ b := fun b hb =>
        ⟨(apF b hb).1, fun h => (apF b hb).2.1 (wipe_own (x5.ow b h)), (apF b hb).2.2.1, rfl, (apF b hb).2.2.2⟩
      refine wpAny_mono (W.item C.A i xs[i] s5 Oi (fun u s6 => wpAny (model C.prog C.w) C.A (assign tgx ce u) (fun _ s₂ =>
          wpAny (model C.prog C.w) C.A (forIn ifs true fun c r => if r = true then do let ok ← isTrue c ce (eval c ce); pure (ForInStep.yield ok) else pure (ForInStep.yield r)) (fun ok s₃ =>
            if ok = true then wpAny (model C.prog C.w) C.A (eval kx ce) (fun kv s₄ => wpAny (model C.prog C.w) C.A (eval vx ce) (fun vv s₅ =>
              wpAny (model C.prog C.w) C.A (dictSet Dl kv vv) (fun _ s₆ => ∃ m, m < xs.length - i ∧ LI m s₆) (notedBy (model C.prog C.w) C.A ce fun e s' => compPost (model C.prog C.w) C.A E use Q (.ref Dl) s3.heap.objs.size (.error e) s') s₅) (notedBy (model C.prog C.w) C.A ce fun e s' => compPost (model C.prog C.w) C.A E use Q (.ref Dl) s3.heap.objs.size (.error e) s') s₄) (notedBy (model C.prog C.w) C.A ce fun e s' => compPost (model C.prog C.w) C.A E use Q (.ref Dl) s3.heap.objs.size (.error e) s') s₃
            else ∃ m, m < xs.length - i ∧ LI m s₃) (notedBy (model C.prog C.w) C.A ce fun e s' => compPost (model C.prog C.w) C.A E use Q (.ref Dl) s3.heap.objs.size (.error e) s') s₂) (notedBy (model C.prog C.w) C.A ce fun e s' => compPost (model C.prog C.w) C.A E use Q (.ref Dl) s3.heap.objs.size (.error e) s') s6) _ hd hx st5 (S5.cn H.t1) x5.le (Nat.le_trans hn (Nat.le_trans tk4 x5.tk)) nf5 fun u O6 h6 t6 k6 le6 nw6 sub6 tk6 r6 st6 => ?_) (fun r s6 hr => ?_) fun _ _ z => z
      · have S6 := S5.turn k6 le6 nw6 sub6 tk6 apF5
        have D6 : h6.get? Dl = some ob := k6 _ _ Dfp D5
        have x6 : Ext XX (wipeE ρ1 own) (wipeT τ own) O2 s4 ρi (wipeT τ own) O6 { s5 with heap := h6, toks := t6 } := x5.trans ((Ext.turn k6 le6 nw6 tk6).imp inF)
        have nf6 : ∀ b ∈ fp, O6 b = none := fun b hb => by
          obtain ⟨o, e⟩ := W.obj _ _ st5 b hb
          rw [nw6 b o e]; exact nf5 b hb
        have nD6 : O6 Dl = none := by rw [nw6 _ _ D5]; exact nD5
        -- pinned
        have pinOk : ∀ b ∈ Dl :: fp, ¬ (blkCz C scope ce).St b ∧ ¬ ownA ρi (wipeT τ own) b ∧ O6 b = none := fun b hb => by
          rcases List.mem_cons.mp hb with z | hb
          · rw [z]; exact ⟨apD.1, fun h => apD.2.1 (wipe_own (x6.ow _ h)), nD6⟩
          · exact ⟨(apF b hb).1, fun h => (apF b hb).2.1 (wipe_own (x6.ow b h)), nf6 b hb⟩
        have S6p : Sz (blkCz C scope ce) (pinB (Dl :: fp) h6) po ρi (wipeT τ own) O6 { s5 with heap := h6, toks := t6 } := S6.rebk fun b o z e => by
          obtain ⟨e1, e2, e3⟩ := pin_inv e
          obtain ⟨c1, c2, c3⟩ := pinOk b e1
          exact ⟨e2, by rw [e3]; exact c3, c1, c2⟩
        -- the turn in the evaluator
        have hfx : ∀ z r, dcTurn G Φ own ke ve tg c z r = dcTurn G Φ own ke ve tg c z r := fun _ _ => rfl
        generalize hf : dcTurn G Φ own ke ve tg c = f at c5
        have hfx : f xs[i] ρi = dcTurn G Φ own ke ve tg c xs[i] ρi := by rw [hf]
        rw [hfx] at c5
        unfold dcTurn at c5
        cases ht : setTg ρi tg xs[i] with
        | none => rw [ht] at c5; simp at c5
        | some ρ7 =>
          rw [ht] at c5
          simp only at c5
          refine asg_tg (C := blkCz C scope ce) S6p (by rw [show (blkCz C scope ce).env.scope = relS scope C.env.scope from csc]; exact mt) ht r6 fun uu s7 hul S7 x7 => ?_
          cases hc : evo' G Φ c ρ7 with
          | none => rw [hc] at c5; simp at c5
          | some bρ =>
            obtain ⟨bb, ρ8⟩ := bρ
            rw [hc] at c5
            refine pc.run _ po ρ7 _ O6 s7 _ _ bb ρ8 S7 hc fun O8 s8 S8 x8 => ?_
            have xx8 : Ext XX (wipeE ρ1 own) (wipeT τ own) O2 s4 ρ8 (setT (wipeT τ own) tg uu) O8 s8 := (x6.trans (x7.imp inS)).trans x8.weak
            have sw : wipeT (setT (wipeT τ own) tg uu) own = wipeT τ own := setT_wipe τ own tg uu tgs hul
            have rr8 : RepVk C.prog C.w O8 s8.toks us acc := r5.mono (le6.trans (x7.le.trans x8.le)) (Nat.le_trans tk6 (Nat.le_trans x7.tk x8.tk))
            cases bb with
            | false =>
              simp only [Bool.false_eq_true, if_false]
              simp only at c5
              have S9 := (S8.rebk (B' := fun _ => none) fun b o z e => by cases e).wipe own
              have keep8 : ∀ b ∈ Dl :: fp, ∀ o, h6.get? b = some o → s8.heap.get? b = some o ∧ O8 b = none := fun b hb o e => S8.bk b o none (pin_of hb e)
              rw [sw] at S9
              refine ⟨xs.length - (i + 1), by omega, i + 1, wipeE ρ8 own, O8, acc, ob, us, rfl, hlt, S9, ?_, ?_, ?_, (keep8 Dl (List.mem_cons_self ..) _ D6).2, (keep8 Dl (List.mem_cons_self ..) _ D6).1, dk5, rr8, z5, by rw [hf]; exact c5⟩
              · have := xx8.trans (Ext.wipe (X := XX) S8 own)
                rw [sw] at this; exact this
              · exact W.keep _ _ _ st6 fun b hb o e => (keep8 b (List.mem_cons_of_mem _ hb) o e).1
              · intro b hb
                obtain ⟨o, e⟩ := W.obj _ _ st6 b hb
                exact (keep8 b (List.mem_cons_of_mem _ hb) o e).2
            | true =>
              simp only [if_true]
              simp only at c5
              cases hbr : (isBrw ke || isBrw ve) with
              | true => rw [hbr] at c5; simp at c5
              | false =>
                rw [hbr] at c5
                simp only [Bool.false_eq_true, if_false] at c5
                rw [Bool.or_eq_false_iff] at hbr
                cases hevk : ev G Φ ke ρ8 with
                | none => rw [hevk] at c5; simp at c5
                | some yρ =>
                obtain ⟨y, ρ8b⟩ := yρ
                rw [hevk] at c5
                simp only at c5
                cases hy : kyOf y with
                | none => rw [hy] at c5; simp at c5
                | some y' =>
                rw [hy] at c5
                simp only at c5
                cases hev : ev G Φ ve ρ8b with
                | none => rw [hev] at c5; simp at c5
                | some yρ =>
                  obtain ⟨z, ρ9⟩ := yρ
                  rw [hev] at c5
                  simp only at c5
                  split at c5
                  · rename_i hlim
                    refine pk.run _ po ρ8 _ O8 s8 _ _ y ρ8b S8 hevk fun kv O8b s8b S8b x8b lk8 => ?_
                    refine pe.run _ po ρ8b _ O8b s8b _ _ z ρ9 S8b hev fun v O9 s9 S9 x9 l9 => ?_
                    have rk9 := (lk8.rep hbr.1).mono x9.le x9.tk
                    have lu := Lk.of S9.sub rk9
                    have ry := l9.rep hbr.2
                    have xx9 : Ext XX (wipeE ρ1 own) (wipeT τ own) O2 s4 ρ9 (setT (wipeT τ own) tg uu) O9 s9 := (xx8.trans x8b.weak).trans x9.weak
                    have keep9 : ∀ b ∈ Dl :: fp, ∀ o, h6.get? b = some o → s9.heap.get? b = some o ∧ O9 b = none := fun b hb o e => S9.bk b o none (pin_of hb e)
                    obtain ⟨D9, nD9⟩ := keep9 Dl (List.mem_cons_self ..) _ D6
                    have rr9 : RepVk C.prog C.w O9 s9.toks us acc := rr8.mono (x8b.le.trans x9.le) (Nat.le_trans x8b.tk x9.tk)
                    have hul' := rr9.length
                    have hsz := lim
                    refine wpAny_dictSet_pairs (ky_is lu hy) (dk5.at' D9) (fun h10 dd sb => ?_) (by omega)
                    obtain ⟨o', es', ep', w1, w2, w3, w4, w5, w6⟩ := dd
                    have rk := (rr9.mono (Le.refl _) (Nat.le_succ _)).put y' (ry.mono (Le.refl O9) (Nat.le_succ _))
                    have hl2 : (PySem.stored us (kyK y') v).length ≤ sizeLine := by
                      rw [rk.length]
                      unfold dput
                      split
                      · rw [List.length_map]; omega
                      · rw [List.length_append]; simp; omega
                    have kD : ∀ b o, b ∉ [Dl] → s9.heap.get? b = some o → h10.get? b = some o := fun b o hb e => (sb.2 b fun z => hb (by rw [z]; exact List.mem_singleton.mpr rfl)).trans e
                    have S9n := S9.rebk (B' := fun _ => none) fun b o z e => by cases e
                    have S10 := S9n.turn (fp := [Dl]) (h' := h10) (t' := s9.toks + 1) kD (Le.refl _) (fun _ _ _ => rfl) (fun b o e => kD b o (fun hb => by rw [one_mem hb, nD9] at e; cases e) (S9.sub b o e)) (Nat.le_succ _) fun b hb => by
                      rw [one_mem hb]
                      exact ⟨apD.1, fun h => apD.2.1 (wipe_own (xx9.ow _ h)), apD.2.2.1, rfl, apD.2.2.2⟩
                    have S11 := S10.wipe own
                    rw [sw] at S11
                    have xx10 : Ext XX (wipeE ρ1 own) (wipeT τ own) O2 s4 ρ9 (setT (wipeT τ own) tg uu) O9 { s9 with heap := h10, toks := s9.toks + 1 } := xx9.trans ((Ext.turn kD (Le.refl _) (fun _ _ _ => rfl) (Nat.le_succ _)).imp fun b hb => by rw [one_mem hb]; exact inD)
                    refine ⟨xs.length - (i + 1), by omega, i + 1, wipeE ρ9 own, O9, dput acc y' z, o', PySem.stored us (kyK y') v, rfl, hlt, S11, ?_, ?_, ?_, nD9, w1, ⟨w2, es', ep', w3, w4, w5, w6⟩, rk, hl2, by rw [hf]; exact c5⟩
                    · have := xx10.trans (Ext.wipe (X := XX) S10 own)
                      rw [sw] at this; exact this
                    · exact W.keep _ _ _ st6 fun b hb o e => kD b o (fun hD => Dfp (by rw [← one_mem hD]; exact hb)) (keep9 b (List.mem_cons_of_mem _ hb) o e).1
                    · intro b hb
                      obtain ⟨o, e⟩ := W.obj _ _ st6 b hb
                      exact (keep9 b (List.mem_cons_of_mem _ hb) o e).2
                  · cases c5
      · obtain ⟨u, rfl, hr⟩ := hr
        exact hr
    · have hie : i = xs.length := by omega
      subst hie
      rw [List.drop_length] at c5
      simp only [dcompGo] at c5
      cases c5
      refine wpAny_mono (W.done C.A _ s5 Oi (fun s6 => compPost (model C.prog C.w) C.A E use Q (.ref Dl) s3.heap.objs.size (.ok .next) s6) _ hd (Nat.le_refl _) st5 (S5.cn H.t1) x5.le nf5 fun h6 t6 k6 sub6 tk6 => ?_) (fun r s6 hr => ?_) fun _ _ z => z
      · have apF5 : ∀ b ∈ fp, ¬ (blkCz C scope ce).St b ∧ ¬ ownA ρ5 (wipeT τ own) b ∧ (blkCz C scope ce).base.get? b = none ∧ (fun _ => none : Bk) b = none ∧ ∀ y c, (blkCz C scope ce).env.cells.lookup y = some c → c ≠ b := fun b hb =>
          ⟨(apF b hb).1, fun h => (apF b hb).2.1 (wipe_own (x5.ow b h)), (apF b hb).2.2.1, rfl, (apF b hb).2.2.2⟩
        have S6 := S5.turn k6 (Le.refl _) (fun _ _ _ => rfl) sub6 tk6 apF5
        have D6 : h6.get? Dl = some ob := k6 _ _ Dfp D5
        obtain ⟨m, hn6, _⟩ := S6.iz.loc
        have hn6 : h6.Ns ce.locals m := hn6
        rw [cL] at hn6
        -- back in the def's context
        have x6 : Ext XX (wipeE ρ1 own) (wipeT τ own) O2 s3 ρ5 (wipeT τ own) Oi { s5 with heap := h6, toks := t6 } :=
          ((Ext.gr g4).trans x5).trans ((Ext.turn k6 (Le.refl _) (fun _ _ _ => rfl) tk6).imp inF)
        have S3' : Sz C B po ρ1 τ O2 s3 := S3
        have hX3 : ∀ b, XX b → ¬ C.St b ∧ ¬ ownA ρ1 τ b ∧ C.base.get? b = none ∧ B b = none ∧ ∀ y c, C.env.cells.lookup y = some c → c ≠ b := fun b hb => by
          have f : Fre C B ρ1 τ O2 s.heap b := by
            rcases XXn b hb with f | no
            · exact f
            · exact S3.fre no x3.st'
          refine ⟨f.st, f.ow, f.bs, f.bk, fun y c ec z => ?_⟩
          subst z
          obtain ⟨v, o', h4, _⟩ := S.iz.cell y c ec
          rw [f.nw] at h4; cases h4
        obtain ⟨S6b, x6b⟩ := S3'.back S6 x6 hcl hX3
        have stL : (blkCz C scope ce).St s3.heap.objs.size := .inl cL.symm
        have nL : s3.heap.get? s3.heap.objs.size = none := Heap.get?_none_of_le (Nat.le_refl _)
        have fL : Fre C B ρ1 τ O2 s.heap s3.heap.objs.size := S3.fre nL x3.st'
        have oL : Oi s3.heap.objs.size = none := (S6.on _ stL).1
        have own6 : ∀ b, ownA (backE ρ1 ρ5 own) τ b → ownA ρ1 τ b := x6b.ow
        have x8 : Ext NoX ρ τ O s (backE ρ1 ρ5 own) τ Oi { s5 with heap := h6, toks := t6 } :=
          ((x3.weak (X := XX)).trans x6b).drop fun b hb => by
            rcases XXn b hb with f | no
            · exact f.nw
            · cases e : s.heap.get? b with
              | none => rfl
              | some o => obtain ⟨o', e'⟩ := x3.st' b o e; rw [no] at e'; cases e'
        exact q Dl Oi _ _ m S6b x8 ⟨fD.nw, nD5, fD.bk, fD.bs, fD.st, fun h => fD.ow (own6 _ h)⟩ ⟨ob, us, D6, nsys, z5, dk5, r5.mono (Le.refl _) tk6⟩ ⟨fL.nw, oL, fL.bk, fL.bs, fL.st, fun h => fL.ow (own6 _ h)⟩ (fun z => by rw [z, nL] at D3; cases D3) hn6
      · obtain ⟨rfl, hr⟩ := hr
        exact hr
  exact codeAny_compStart_dict loop (W.self C.A 0 _ _ _ st4 loop)
theorem ok_dcomp {own tg : List Nat} {ownP : List (Str × Nat)} {it : It} {c : Oe} {ke ve : E} {kx vx tgx ix : Expr} {ifs : List Expr} {scope : Scope} {pos : Pos} (H : Hy C T G Φ) (hi : PIz C G Φ it tgx ix) (bo : BlkOk C.N C.env.scope scope ownP) (ho : ownP.map (·.2) = own)
    (mt : mTg C.N (relS scope C.env.scope) (fun x => scope.names.lookup x == some .cell) tg tgx = true) (tgs : ∀ i ∈ tg, i ∈ own)
    (hcd : ∀ C', Hy C' T G Φ → C'.N = C.N → C'.env.scope = relS scope C.env.scope → PCz C' G Φ c ifs) (hke : ∀ C', Hy C' T G Φ → C'.N = C.N → C'.env.scope = relS scope C.env.scope → PEz C' G Φ ke kx) (he : ∀ C', Hy C' T G Φ → C'.N = C.N → C'.env.scope = relS scope C.env.scope → PEz C' G Φ ve vx)
    (hs : ∀ v, foldedSetIterable ix C.env v = pure v) : PNz C G Φ (.dcomp own ke ve tg it c) (.DictComp kx vx [⟨tgx, ix, ifs, 0⟩] scope pos) := ⟨fun B po ρ τ O s Q E d ρ' S h q => by
  rw [arm_eval_DictComp]
  refine dcomp_core H hi bo ho mt tgs hcd hke he hs none _ S h fun p O' s' L m S' x' f ow fL ne hn => ⟨m, hn, fun h' sb => ?_⟩
  obtain ⟨S7, x7⟩ := S'.gone fL S.cellOld sb
  exact q p O' _ S7 ((x'.weak.trans x7).drop fun b hb => by subst hb; exact fL.nw) f (by rw [show ({ s' with heap := h' } : Shared).heap.get? p = s'.heap.get? p from sb.2 p ne]; exact ow)⟩
end
end Mini
/-! Mini, exact: enumerate over a list, a tuple, a text. -/
namespace Mini
open PySem PySem.Spec PyProof.Rows L2

/-- an inner iterator at it gives the data ds by its own step -/
structure Inn (P : Program) (w : World) (O : Om) (n : Nat) (it : Addr) (ds : List D) (StI : Nat → Heap → Prop) : Prop where
  obj : ∀ i h, StI i h → ∃ o, h.get? it = some o
  keep : ∀ i h h', StI i h → (∀ o, h.get? it = some o → h'.get? it = some o) → StI i h'
  item : ∀ (A : Around) (i : Nat) (d : D) (s : Shared) (O1 : Om) (Q : Value → Shared → Prop) (E : Value → Shared → Prop), A.handled = none → ds[i]? = some d → StI i s.heap → Cn O1 s → Le O O1 → n ≤ s.toks → O1 it = none →
    (∀ u h' t', Heap.SameBut it s.heap h' → s.toks ≤ t' → RepV P w O1 t' u d → StI (i + 1) h' → Q u { s with heap := h', toks := t' }) → wpAny (model P w) A (Builtin.SmallTypes.nextOf (.ref it)) Q E s
  done : ∀ (A : Around) (i : Nat) (s : Shared) (O1 : Om) (Q : Value → Shared → Prop) (E : Value → Shared → Prop), A.handled = none → ds.length ≤ i → StI i s.heap → Cn O1 s → Le O O1 →
    (∀ h' x, Heap.ExtBut it s.heap h' → (∃ o, h'.get? x = some o ∧ o.cls = .type "StopIteration") → E (.ref x) { s with heap := h' }) → wpAny (model P w) A (Builtin.SmallTypes.nextOf (.ref it)) Q E s
section
variable {P : Program} {w : World} {O : Om} {it : Addr} {ds : List D} {n : Nat}
theorem inn_list {l : Addr} {us : List Value} {k : Nat} (ho : O l = some { cls := .type "list", data := .seq us.toArray k }) (r : RepVs P w O n us ds) : Inn P w O n it ds (fun i h => h.IsListIter it l i) := by
  refine ⟨fun i h st => ?_, fun i h h' st k => st.at k, ?_, ?_⟩
  · obtain ⟨o, e, _⟩ := st; exact ⟨o, e⟩
  · intro A i d s O1 Q E hh hd st c le tk nn q
    obtain ⟨u, hu, ru⟩ := r.get hd
    exact wpAny_nextOf_list_item st (isL (c.sub _ _ (le _ _ ho))) (x := u) (by simpa using hu) fun h' st' sb => q u h' s.toks sb (Nat.le_refl _) (ru.mono le tk) st'
  · intro A i s O1 Q E hh hd st c le q
    have hl := r.length
    exact wpAny_nextOf_list_end hh st (isL (c.sub _ _ (le _ _ ho))) (by simp; omega) q
theorem inn_tuple {l : Addr} {o : Obj} {us : List Value} {k : Nat} (ho : O l = some o) (h1 : o.cls = .type "tuple") (h2 : o.data = .seq us.toArray k) (r : RepVs P w O n us ds) : Inn P w O n it ds (fun i h => h.IsTupleIter it l i) := by
  refine ⟨fun i h st => ?_, fun i h h' st k => st.at k, ?_, ?_⟩
  · obtain ⟨o, e, _⟩ := st; exact ⟨o, e⟩
  · intro A i d s O1 Q E hh hd st c le tk nn q
    obtain ⟨u, hu, ru⟩ := r.get hd
    have pl : s.heap.IsTuple l us.toArray := ⟨o, c.sub _ _ (le _ _ ho), h1, k, h2⟩
    exact wpAny_nextOf_tuple_item st pl (x := u) (by simpa using hu) fun h' st' sb => q u h' s.toks sb (Nat.le_refl _) (ru.mono le tk) st'
  · intro A i s O1 Q E hh hd st c le q
    have pl : s.heap.IsTuple l us.toArray := ⟨o, c.sub _ _ (le _ _ ho), h1, k, h2⟩
    have hl := r.length
    exact wpAny_nextOf_tuple_end hh st pl (by simp; omega) q
theorem inn_text {x : Sg} {t : Tok} : Inn P w O n it (x.map fun c => .str [c]) (fun i h => TxIt h it (toS x) t i) := by
  refine ⟨fun i h st => ?_, fun i h h' st k => st.keep k, ?_, ?_⟩
  · rcases st with ⟨o, e, _⟩ | ⟨o, e, _⟩ <;> exact ⟨o, e⟩
  · intro A i d s O1 Q E hh hd st c le tk nn q
    rw [List.getElem?_map, Option.map_eq_some_iff] at hd
    obtain ⟨ch, hc, rfl⟩ := hd
    have rep : RepV P w O1 (s.toks + 1) (.str (toS [ch]) s.toks) (.str [ch]) := .str [ch] _ fun _ => ⟨Nat.one_le_iff_ne_zero.mp c.tk, Nat.lt_succ_self _⟩
    rcases st with st | st
    · exact wpAny_nextOf_ascii_item (c := ch) st (by simpa [toS] using hc) fun h' st' sb => q _ h' (s.toks + 1) sb (Nat.le_succ _) rep (.inl st')
    · exact wpAny_nextOf_wide_item (c := ch) st (by simpa [toS] using hc) fun h' st' sb => q _ h' (s.toks + 1) sb (Nat.le_succ _) rep (.inr st')
  · intro A i s O1 Q E hh hd st c le q
    rw [List.length_map] at hd
    rcases st with st | st
    · exact wpAny_nextOf_ascii_end hh st (by simp [toS]; omega) q
    · exact wpAny_nextOf_wide_end hh st (by simp [toS]; omega) q

/-- e's record holds vs; from h1 on nothing else was touched -/
structure Ec (h1 : Heap) (e : Addr) (vs : List Value) (h : Heap) : Prop where
  at_ : h.get? e = some { cls := .type "enumerate", dict := none, data := .fields vs.toArray, slots := #[] }
  keep : ∀ b o, b ≠ e → h1.get? b = some o → h.get? b = some o
  size : h1.objs.size ≤ h.objs.size
section
variable {prog : Program} {A : Around} {E : Value → Shared → Prop} {s : Shared} {h1 : Heap} {e T : Addr} {vs : List Value}
theorem Ec.read {k : Nat} {x : Value} {Q : Value → Shared → Prop} (c : Ec h1 e vs s.heap) (hx : vs[k]? = some x) (q : Q x s) : wpAny (model prog w) A (field (.ref e) k) Q E s :=
  wpAny_field c.at_ rfl (x := x) (by simpa using hx) q
theorem Ec.store {k : Nat} {x : Value} {Q : Unit → Shared → Prop} (c : Ec h1 e vs s.heap) (hk : k < vs.length) (q : ∀ h', Ec h1 e (vs.set k x) h' → (∀ b, b ≠ e → h'.get? b = s.heap.get? b) → h'.objs.size = s.heap.objs.size → Q () { s with heap := h' }) : wpAny (model prog w) A (setField (.ref e) k x) Q E s := by
  refine wpAny_setField_rec c.at_ (by simpa using hk) fun h' at' sb => q h' ⟨by simpa using at', fun b o hb z => (sb.2 b hb).trans (c.keep b o hb z), by rw [sb.1]; exact c.size⟩ (fun b hb => sb.2 b hb) sb.1
/-- the step of an enumerator over what its inner iterator gives -/
theorem enum_next {i : Nat} {old : Value} {Y : Value → Heap → Nat → Prop} {Q : Value → Shared → Prop} (he : IsEnum s.heap e it i old) (hne : e ≠ it)
    (inner : ∀ Q : Value → Shared → Prop, (∀ x h1 t1, Y x h1 t1 → Heap.SameBut it s.heap h1 → Q x { s with heap := h1, toks := t1 }) → wpAny (model prog w) A (Builtin.SmallTypes.nextOf (.ref it)) Q E s)
    (hQ : ∀ x h1 t1 h', Y x h1 t1 → IsEnumOut h' e it ((i : Int) + 1) x s.heap.objs.size → (∀ b o, b ≠ e → h1.get? b = some o → h'.get? b = some o) →
      h'.get? s.heap.objs.size = some { cls := .type "tuple", data := .seq #[.int i t1, x] } → Q (.ref s.heap.objs.size) { s with heap := h', toks := t1 + 1 }) :
    wpAny (model prog w) A (Builtin.«enumerate.__next__» ⟨[.ref e], []⟩) (fun fin s' => ∃ v, fin = .done (.ret v) ∧ Q v s') E s := by
  have c0 : Ec s.heap e [.none, .bool false, .ref it, rawInt i, .none, old] s.heap := ⟨he, fun _ _ _ z => z, Nat.le_refl _⟩
  have big : e < s.heap.objs.size := Heap.lt_size he
  show wpAny (model prog w) A (field (.ref e) 2 >>= _) _ E s
  refine wpAny_bind (c0.read (k := 2) rfl (wpAny_bind (inner _ fun x g t y sb => ?_)))
  have zg : g.objs.size = s.heap.objs.size := sb.1
  have c1 : Ec g e [.none, .bool false, .ref it, rawInt i, .none, old] g := ⟨(sb.2 e hne).trans he, fun _ _ _ z => z, Nat.le_refl _⟩
  refine wpAny_bind (Ec.read (s := { s with heap := g, toks := t }) c1 (k := 3) rfl ?_)
  show wpAny (model prog w) A (field (.ref e) 4 >>= _) _ E { s with heap := g, toks := t }
  refine wpAny_bind (Ec.read (s := { s with heap := g, toks := t }) c1 (k := 4) rfl ?_)
  show wpAny (model prog w) A (mkInt i >>= _) _ E { s with heap := g, toks := t }
  refine wpAny_bind (wpAny_mkInt ?_)
  show wpAny (model prog w) A (setField (.ref e) 3 (rawInt ((i : Int) + 1)) >>= _) _ E { s with heap := g, toks := t + 1 }
  refine wpAny_bind (Ec.store (s := { s with heap := g, toks := t + 1 }) c1 (k := 3) (by simp) fun g2 c2 _ z2 => ?_)
  show wpAny (model prog w) A (setField (.ref e) 4 .none >>= _) _ E { s with heap := g2, toks := t + 1 }
  refine wpAny_bind (Ec.store (s := { s with heap := g2, toks := t + 1 }) c2 (k := 4) (by simp) fun g3 c3 _ z3 => ?_)
  show wpAny (model prog w) A (newTuple [.int i t, x] >>= _) _ E { s with heap := g3, toks := t + 1 }
  refine wpAny_bind (wpAny_newTuple ?_)
  have z3 : g3.objs.size = s.heap.objs.size := (z3.trans z2).trans zg
  generalize hg4 : Heap.push g3 { cls := .type "tuple", data := .seq #[.int i t, x] } = g4
  have c4 : Ec g e [.none, .bool false, .ref it, rawInt ((i : Int) + 1), .none, old] g4 := by
    rw [← hg4]
    exact ⟨Heap.get?_push_of_some _ c3.at_, fun b o hb z => Heap.get?_push_of_some _ (c3.keep b o hb z), Nat.le_trans c3.size (by rw [Heap.size_push]; exact Nat.le_succ _)⟩
  have tup : g4.get? s.heap.objs.size = some { cls := .type "tuple", data := .seq #[.int i t, x] } := by
    rw [← hg4, ← z3]
    exact Heap.get?_push_size g3 rfl
  have ez : g3.objs.size = s.heap.objs.size := z3
  have nT : s.heap.objs.size ≠ e := Nat.ne_of_gt big
  show wpAny (model prog w) A (Builtin.SmallTypes.ownedTupleIsFree (.ref e) >>= _) _ E { s with heap := g4, toks := t + 1 }
  rw [show ({ s with heap := g3, toks := t + 1 } : Shared).heap.objs.size = s.heap.objs.size from ez]
  have free : wpAny (model prog w) A (Builtin.SmallTypes.ownedTupleIsFree (.ref e)) (fun b s' => b = true ∧ s' = { s with heap := g4, toks := t + 1 }) E { s with heap := g4, toks := t + 1 } := by
    unfold Builtin.SmallTypes.ownedTupleIsFree
    exact wpAny_bind (Ec.read (s := { s with heap := g4, toks := t + 1 }) c4 (k := 0) rfl (wpAny_pure ⟨rfl, rfl⟩))
  refine wpAny_bind (wpAny_mono free (fun b s' hb => ?_) fun _ _ z => z)
  obtain ⟨rfl, rfl⟩ := hb
  rw [if_pos rfl]
  refine wpAny_bind (wpAny_rule (wpAny_bind (Ec.read (s := { s with heap := g4, toks := t + 1 }) c4 (k := 5) rfl (wpAny_bind ?_))))
  refine Ec.store (s := { s with heap := g4, toks := t + 1 }) c4 (k := 5) (by simp) fun g5 c5 k5 _ => ?_
  have hand : wpAny (model prog w) A (Builtin.SmallTypes.ownedTupleHandOut (.ref e) (.ref s.heap.objs.size)) (fun _ s' => ∃ g7, s' = { s with heap := g7, toks := t + 1 } ∧ Ec g e [rawInt s.heap.objs.size, .bool false, .ref it, rawInt ((i : Int) + 1), .none, x] g7 ∧ g7.get? s.heap.objs.size = g5.get? s.heap.objs.size) E { s with heap := g5, toks := t + 1 } := by
    unfold Builtin.SmallTypes.ownedTupleHandOut
    refine wpAny_bind (Ec.store (s := { s with heap := g5, toks := t + 1 }) c5 (k := 0) (by simp) fun g6 c6 k6 _ => ?_)
    exact Ec.store (s := { s with heap := g6, toks := t + 1 }) c6 (k := 1) (by simp) fun g7 c7 k7 _ => ⟨g7, rfl, c7, (k7 _ nT).trans (k6 _ nT)⟩
  refine wpAny_bind (wpAny_mono hand (fun _ s' hs => ?_) fun _ _ z => z)
  obtain ⟨g7, rfl, c7, k7⟩ := hs
  refine wpAny_bind (wpAny_letGo (wpAny_pure ⟨_, rfl, hQ x g t g7 y c7.at_ c7.keep ?_⟩))
  exact k7.trans ((k5 _ nT).trans tup)
  -- (k7 _ nT).trans ((k6 _ nT).trans ((k5 _ nT).trans tup))
end
theorem enumD_len : ∀ (ds : List D) (k : Nat), (enumD k ds).length = ds.length
  | [], _ => rfl
  | _ :: ds, k => by simp [enumD, enumD_len ds (k + 1)]
theorem enumD_get : ∀ (ds : List D) (k i : Nat) (d : D), (enumD k ds)[i]? = some d → ∃ d0, ds[i]? = some d0 ∧ d = .tup [.int ((k + i : Nat) : Int), d0]
  | [], _, _, _, h => by simp [enumD] at h
  | x :: ds, k, 0, d, h => by
    simp [enumD] at h
    exact ⟨x, rfl, by rw [← h]; rfl⟩
  | x :: ds, k, i + 1, d, h => by
    simp only [enumD, List.getElem?_cons_succ] at h
    obtain ⟨d0, h1, h2⟩ := enumD_get ds (k + 1) i d h
    exact ⟨d0, by simpa using h1, by rw [h2]; congr 3; omega⟩
theorem two_mem {a b c : Addr} : c ∈ [a, b] ↔ c = a ∨ c = b := by simp
theorem wk_enum {e : Addr} {elts : List Expr} {k : Nat} {pos : Pos} {StI : Nat → Heap → Prop} (N : Inn P w O n it ds StI) (hei : e ≠ it) : Wk P w O n (.Tuple elts k pos) e [e, it] (enumD 0 ds) (fun i h => (∃ old, IsEnum h e it i old) ∧ StI i h) := by
  refine ⟨by simp, fun i h st b hb => ?_, fun i h h' st k => ?_, ?_, ?_, ?_⟩
  · rcases two_mem.mp hb with rfl | rfl
    · obtain ⟨old, he⟩ := st.1; exact ⟨_, he⟩
    · exact N.obj _ _ st.2
  · obtain ⟨⟨old, he⟩, si⟩ := st
    exact ⟨⟨old, k e (by simp) _ he⟩, N.keep _ _ _ si fun o q => k it (by simp) o q⟩
  · intro A i d s O1 Q E hh hd st c le tk nn q
    obtain ⟨d0, hd0, rfl⟩ := enumD_get ds 0 i d hd
    obtain ⟨⟨old, he⟩, si⟩ := st
    have hT : s.TypeIs (.ref e) "enumerate" := ⟨_, he, rfl⟩
    have hA : A.in1.handled = none := hh
    unfold pyNext
    refine wpAny_bind (wpAny_attempt (wpAny_callSpecial?_slot (name := Str.ofString "__next__") hT F.slot_enumerate_next
      (wpAny_call_entry F.slot_enumerate_next hT F.entry_enumerate_next ?_ (F.args_enumerate_next_1 _))))
    refine enum_next (Y := fun x h1 t1 => Heap.SameBut it s.heap h1 ∧ s.toks ≤ t1 ∧ RepV P w O1 t1 x d0 ∧ StI (i + 1) h1) he hei (fun Q' hq => N.item A.in1 i d0 s O1 Q' _ hA hd0 si c le tk (nn it (by simp)) fun u h' t' sb ht ru st' => hq u h' t' ⟨sb, ht, ru, st'⟩ sb) fun x h1 t1 h' hY hout hk ht => wpAny_pure ?_
    obtain ⟨sb, ht1, ru, st1⟩ := hY
    refine ⟨_, rfl, wpAny_letOwnedTupleGo_enum hout fun h'' he'' sb'' => ?_⟩
    have sb'' : Heap.SameBut e h' h'' := sb''
    have hel : e < s.heap.objs.size := Heap.lt_size he
    have noT : s.heap.get? s.heap.objs.size = none := Heap.get?_none_of_le (Nat.le_refl _)
    have oT : O1 s.heap.objs.size = none := by
      cases z : O1 s.heap.objs.size with
      | none => rfl
      | some o => rw [c.sub _ _ z] at noT; cases noT
    have kp : ∀ b o, b ∉ [e, it] → s.heap.get? b = some o → h''.get? b = some o := fun b o hb z => by
      have hb' : b ≠ e ∧ b ≠ it := ⟨fun y => hb (by simp [y]), fun y => hb (by simp [y])⟩
      exact (sb''.2 b hb'.1).trans (hk b o hb'.1 ((sb.2 b hb'.2).trans z))
    have tT : h''.get? s.heap.objs.size = some { cls := .type "tuple", data := .seq #[.int i t1, x] } := (sb''.2 _ (Nat.ne_of_gt hel)).trans ht
    have leT : Le O1 (oset O1 s.heap.objs.size { cls := .type "tuple", data := .seq #[.int i t1, x] }) := le_oset oT
    refine q (.ref s.heap.objs.size) _ h'' (t1 + 1) kp leT (fun b o z => oset_ne fun y => ?_) (fun b o z => ?_) (Nat.le_succ_of_le ht1) ?_ ⟨⟨_, he''⟩, N.keep _ _ _ st1 fun o z => (sb''.2 it (Ne.symm hei)).trans (hk it o (Ne.symm hei) z)⟩
    · rw [y, noT] at z; cases z
    · by_cases hb : b = s.heap.objs.size
      · subst hb; rw [oset_same] at z; cases z; exact tT
      · rw [oset_ne hb] at z
        refine kp b o (fun hm => ?_) (c.sub _ _ z)
        rw [nn b hm] at z; cases z
    · refine .tup (us := [.int i t1, x]) oset_same rfl rfl (by show 2 ≤ sizeLine; decide) (.cons ?_ (.cons (ru.mono leT (Nat.le_succ _)) .nil))
      rw [Nat.zero_add]; exact .int _ _
  · intro A i s O1 Q E hh hd st c le nn q
    obtain ⟨⟨old, he⟩, si⟩ := st
    rw [enumD_len] at hd
    have hT : s.TypeIs (.ref e) "enumerate" := ⟨_, he, rfl⟩
    have hA : A.in1.handled = none := hh
    unfold pyNext
    refine wpAny_bind (wpAny_attempt (wpAny_callSpecial?_slot (name := Str.ofString "__next__") hT F.slot_enumerate_next
      (wpAny_call_entry F.slot_enumerate_next hT F.entry_enumerate_next ?_ (F.args_enumerate_next_1 _))))
    show wpAny _ _ (field (.ref e) 2 >>= _) _ _ _
    refine wpAny_bind (wpAny_field he rfl (x := .ref it) rfl ?_)
    refine wpAny_bind (N.done _ i _ O1 _ _ hA hd si c le fun h' x he' hx' => ?_)
    obtain ⟨o, ho, hc⟩ := hx'
    refine wpAny_bind (wpAny_isInstance (T := "StopIteration") (b := true) ⟨o, ho, hc⟩ isSubtype_stop ?_)
    have kp : ∀ b o, b ∉ [e, it] → s.heap.get? b = some o → h'.get? b = some o := fun b o hb z => he' b o (fun y => hb (by simp [y])) z
    exact wpAny_pure ⟨rfl, q h' s.toks kp (fun b o z => kp b o (fun hm => by rw [nn b hm] at z; cases z) (c.sub _ _ z)) (Nat.le_refl _)⟩
  · intro A i s Q E st h
    obtain ⟨⟨old, he⟩, _⟩ := st
    exact wpAny_pyIter_enum he h

/-- enumerate(v) -/
theorem meets_enum1 {v : Value} {o : Obj} {H : Heap → Prop} (B : Begins v o H) :
    Meets (Builtin.«enumerate.__new__» ⟨[.type "enumerate", v], []⟩) (fun _ R s => H s.heap ∧
      R (.ok (.ret (.ref (s.heap.push o).objs.size))) { s with heap := (s.heap.push o).push { cls := .type "enumerate", data := .fields #[.none, .bool false, .ref s.heap.objs.size, rawInt 0, .none, .none] } }) :=
  .of_wp fun prog w A R s h => by
    obtain ⟨hp, g, d, tk, os⟩ := s; obtain ⟨h1, h⟩ := h
    have hsub := sub_enumerate
    have q1 : ∀ {A' : Around} {E : Value → Shared → Prop} {Q : Value → Shared → Prop}, Q (.ref hp.objs.size) ⟨hp.push o, g, d, tk, os⟩ → wpAny (model prog w) A' (pyIter v) Q E ⟨hp, g, d, tk, os⟩ :=
      fun q => B.iter prog w _ _ ⟨hp, g, d, tk, os⟩ _ h1 q
    wp_walk using q1
    refine wpAny_stack_any fun st => wpAny_pure ?_
    split
    · rename_i c _ _ _ _ _
      cases (c == Value.type "enumerate")
      · wp_walk using q1
        exact ⟨_, rfl, h⟩
      · wp_walk using q1
        exact ⟨_, rfl, h⟩
    · wp_walk using q1
      exact ⟨_, rfl, h⟩
theorem call_enum1 {prog : Program} {A : Around} {E : Value → Shared → Prop} {s : Shared} {v : Value} {o : Obj} {H : Heap → Prop} {Q : Value → Shared → Prop} (B : Begins v o H) (h1 : H s.heap)
    (h : IsEnum ((s.heap.push o).push { cls := .type "enumerate", data := .fields #[.none, .bool false, .ref s.heap.objs.size, rawInt 0, .none, .none] }) (s.heap.push o).objs.size s.heap.objs.size 0 .none →
      Q (.ref (s.heap.push o).objs.size) { s with heap := (s.heap.push o).push { cls := .type "enumerate", data := .fields #[.none, .bool false, .ref s.heap.objs.size, rawInt 0, .none, .none] } }) :
    wpAny (model prog w) A (call (.type "enumerate") [v]) Q E s := by
  refine callType_new F.called_enumerate (by decide) (F.typeCall_enumerate_1 _) (F.newCall_enumerate_1 _) (fun obj => F.args_object_init_2 obj _) F.entry_enumerate_new (meets_enum1 B) ⟨h1, ?_⟩
  have he : IsEnum ((s.heap.push o).push { cls := .type "enumerate", data := .fields #[.none, .bool false, .ref s.heap.objs.size, rawInt 0, .none, .none] }) (s.heap.push o).objs.size s.heap.objs.size 0 .none := Heap.get?_push_size (s.heap.push o) rfl
  exact ⟨⟨_, he, rfl⟩, h he⟩
end
section
variable {C : Cz} {T : Tb} {G : Nat → Option D} {Φ : Fn} {B B' : Bk} {po : Option Addr} {ρ ρ' ρ1 ρ2 ρ5 : En} {τ : List (Option Value)} {O O' : Om} {s s' : Shared}
theorem pi_enum' {a : E} {x : Expr} {p pos tpos : Pos} {nm : Str} {elts : List Expr} {kk : Nat} (H : Hy C T G Φ) (g : glB C.env.scope nm = true) (k : okN nm = true) (hn : nm = "enumerate") (hs : noStar x = true) (pa : PEz C G Φ a x) :
    PIz C G Φ (.enum a) (.Tuple elts kk tpos) (.Call (.Name nm p) [x] [] pos) := ⟨fun B po ρ τ O s Q E ds ρ' S h q => by
  subst hn
  simp only [evi] at h
  split at h
  · cases h
  · rename_i hb
    split at h
    · rename_i d1 ρ1 h1
      rw [Option.map_eq_some_iff] at h
      obtain ⟨xs, hs', e⟩ := h
      cases e
      refine Call_ (blt_ok (u := .type "enumerate") S g k (H.blt _ (by decide +kernel)) boot_enumerate ?_)
      refine PyProof.Rows.callWith_type1 ?_ (star_of hs) rfl
      rw [star_of hs]
      show wpAny _ _ (spliced ((false, eval x C.env) :: backTo pos (starEach [] C.env))) _ _ s
      refine Calls.spliced_cons (pa.run B po ρ τ O s _ E d1 _ S h1 fun v O1 s1 S1 x1 l1 => Calls.spliced_nil ?_)
      have r1 := l1.rep (by simpa using hb)
      have fin : ∀ {o : Obj} {H0 : Heap → Prop} {StI : Nat → Heap → Prop}, Begins v o H0 → H0 s1.heap → Inn C.prog C.w O1 s1.toks s1.heap.objs.size xs StI → StI 0 (s1.heap.push o) → wpAny (model C.prog C.w) C.A (call (.type "enumerate") [v]) (fun v s1 => wpAny (model C.prog C.w) C.A (pyIter v) Q E s1) E s1 := fun {o H0 StI} Bg h0 N st => by
        refine call_enum1 Bg h0 fun he => wpAny_pyIter_enum he ?_
        have hz : (s1.heap.push o).objs.size = s1.heap.objs.size + 1 := Heap.size_push ..
        have kp : Kept s1.heap ((s1.heap.push o).push { cls := .type "enumerate", data := .fields #[.none, .bool false, .ref s1.heap.objs.size, rawInt 0, .none, .none] }) := (Kept.push _ _).trans (Kept.push _ _)
        have g2 : Gr O1 s1 O1 { s1 with heap := (s1.heap.push o).push { cls := .type "enumerate", data := .fields #[.none, .bool false, .ref s1.heap.objs.size, rawInt 0, .none, .none] } } := Gr.same (t' := s1.toks) S1.sub S1.iz.bare kp (Nat.le_refl _)
        refine q _ _ _ s1.toks O1 _ (S1.grow g2) (x1.trans (Ext.gr g2)) (wk_enum N (by rw [hz]; exact Nat.succ_ne_self _)) (Nat.le_refl _) ⟨⟨_, he⟩, N.keep _ _ _ st fun o z => Heap.get?_push_of_some _ z⟩ fun b hb => ?_
        refine S1.fre (Heap.get?_none_of_le ?_) x1.st'
        rcases two_mem.mp hb with rfl | rfl
        · rw [hz]; exact Nat.le_succ _
        · exact Nat.le_refl _
      cases d1 with
      | lst es =>
        cases hs'
        cases r1 with
        | lst e1 e2 r => exact fin (begins_list _ _) (isL (S1.sub _ _ e1)) (inn_list e1 r) ⟨_, Heap.get?_push_size _ rfl, rfl, rfl⟩
      | tup es =>
        cases hs'
        cases r1 with
        | tup e1 e2 e3 e4 r => exact fin (begins_tuple _ (Array.mk _)) ⟨_, S1.sub _ _ e1, e2, _, e3⟩ (inn_tuple e1 e2 e3 r) ⟨_, Heap.get?_push_size _ rfl, rfl, rfl⟩
      | str sx =>
        cases hs'
        cases r1 with
        | str _ t ht =>
          refine fin (begins_text _ _) trivial (inn_text (t := t)) ?_
          unfold strIterType
          cases ha : (toS sx).cps.all (· < 128)
          · exact .inr ⟨_, Heap.get?_push_size _ rfl, by simp, rfl⟩
          · exact .inl ⟨_, Heap.get?_push_size _ rfl, by simp, rfl⟩
      | _ => simp [seqD] at hs'
    · cases h⟩
end
end Mini
/-! Mini, exact: xs.pop(i), xs.pop(). -/
namespace Mini
open PySem PySem.Spec PyProof.Rows L2

section
variable {C : Cz} {T : Tb} {G : Nat → Option D} {Φ : Fn} {B : Bk} {po : Option Addr} {ρ ρ' ρ1 ρ2 : En} {τ : List (Option Value)} {O O' : Om} {s s' : Shared}
variable {e k : E} {x y z tgx : Expr} {pos p1 p2 : Pos} {a b : Ss} {xs ys : List Stmt}

/-- an own thing has changed: the frame -/
theorem ext_chg {i : Nat} {sl : Sl} {p : Addr} {d' : D} {h' : Heap} {t' : Nat} (e : ρ[i]? = some sl) (ho : ownS sl = true) (ep : τ[i]? = some (some (.ref p))) (tk : s.toks ≤ t') (kp : ∀ b o, b ≠ p → s.heap.get? b = some o → h'.get? b = some o) (new : ∃ o, h'.get? p = some o) :
    Ext NoX ρ τ O s (ρ.set i (chgS sl d')) τ O { s with heap := h', toks := t' } := by
  have hil : i < ρ.length := (List.getElem?_eq_some_iff.mp e).1
  refine ⟨Le.refl _, tk, fun b o n _ q => kp b o (fun z => n ⟨i, sl, e, ho, by rw [ep, z]⟩) q, fun _ _ _ _ _ => rfl, fun b ⟨j, y, e1, e2, e3⟩ => ?_, fun b o _ q => ?_⟩
  · by_cases hj : j = i
    · subst hj; exact ⟨j, sl, e, ho, e3⟩
    · rw [List.getElem?_set_ne (Ne.symm hj)] at e1; exact ⟨j, y, e1, e2, e3⟩
  · by_cases hb : b = p
    · subst hb; exact new
    · exact ⟨o, kp b o hb q⟩
theorem chg_of {i : Nat} {d' : D} (h : Mini.chg ρ i d' = some ρ') : ∃ sl, ρ[i]? = some sl ∧ ownS sl = true ∧ ρ' = ρ.set i (chgS sl d') := by
  unfold Mini.chg at h
  cases q : ρ[i]? with
  | none => rw [q] at h; cases h
  | some x => cases x <;> rw [q] at h <;> first | (cases h; done) | (cases h; exact ⟨_, rfl, rfl, rfl⟩)
theorem RepVs.erase {P : Program} {w : World} {n : Nat} {us : List Value} {ds : List D} (r : RepVs P w O n us ds) (i : Nat) : RepVs P w O n (us.eraseIdx i) (ds.eraseIdx i) := by
  rw [List.eraseIdx_eq_take_drop_succ, List.eraseIdx_eq_take_drop_succ]
  exact (r.take i).append (r.drop (i + 1))
/-- the n-th item is taken out -/
theorem pop_core {i n : Nat} {p : Addr} {us : List Value} {ds : List D} {kk : Nat} {v : Value} {d : D} {Q : Value → Shared → Prop} (S1 : Sz C B po ρ1 τ O s) (et : τ[i]? = some (some (.ref p))) (w2 : s.heap.get? p = some { cls := .type "list", data := .seq us.toArray kk }) (w3 : us.length ≤ sizeLine) (w4 : RepVs C.prog C.w O s.toks us ds)
    (h2 : Mini.chg ρ1 i (.lst (ds.eraseIdx n)) = some ρ') (hd : ds[n]? = some d) (hv : us[n]? = some v)
    (q : Sz C B po ρ' τ O { s with heap := s.heap.update p (Obj.mapSeq fun xs => xs.eraseIdxIfInBounds n) } → Ext NoX ρ1 τ O s ρ' τ O { s with heap := s.heap.update p (Obj.mapSeq fun xs => xs.eraseIdxIfInBounds n) } → RepV C.prog C.w O s.toks v d → Q v { s with heap := s.heap.update p (Obj.mapSeq fun xs => xs.eraseIdxIfInBounds n) }) :
    Q v { s with heap := s.heap.update p (Obj.mapSeq fun xs => xs.eraseIdxIfInBounds n) } := by
  obtain ⟨sl, c1, c2, c3⟩ := chg_of h2
  subst c3
  obtain ⟨c4, hup⟩ : ∃ c4, (s.heap.update p (Obj.mapSeq fun xs => xs.eraseIdxIfInBounds n)).get? p = some { cls := .type "list", dict := none, data := .seq (us.eraseIdx n).toArray c4, slots := #[] } :=
    ⟨_, (get?_update_seq w2 (fun xs => xs.eraseIdxIfInBounds n)).trans (by simp only [List.eraseIdxIfInBounds_toArray]; rfl)⟩
  have kp : ∀ b o, b ≠ p → s.heap.get? b = some o → (s.heap.update p (Obj.mapSeq fun xs => xs.eraseIdxIfInBounds n)).get? b = some o := fun b o hb q => (Heap.get?_update_other _ _ (Ne.symm hb)).trans q
  have S2 := S1.chg (t' := s.toks) (d' := .lst (ds.eraseIdx n)) c1 c2 et (Nat.le_refl _) kp ⟨us.eraseIdx n, c4, hup, Nat.le_trans (List.length_eraseIdx_le ..) w3, w4.erase n⟩
  refine q S2 (ext_chg c1 c2 et (Nat.le_refl _) kp ⟨_, hup⟩) ?_
  obtain ⟨v', e1, e2⟩ := w4.get hd
  rw [hv] at e1; cases e1
  exact e2
theorem ok_popa {i : Nat} {nm an : Str} {ap p3 : Pos} (H : Hy C T G Φ) (m : mN C.N C.env.scope i nm = true) (hn : an = "pop") (hl : (ap.endLine == p3.line) = true) (hst : noStar x = true) (pe : PEz C G Φ e x) :
    PEz C G Φ (.popa i e) (.Call (.Attribute (.Name nm p1) an ap) [x] [] p3) := ⟨fun B po ρ τ O s Q E d ρ' S h q => by
  subst hn
  simp only [ev] at h
  split at h
  · cases h
  rename_i hb
  simp only [Bool.or_eq_true, not_or, Bool.not_eq_true', Bool.not_eq_false] at hb
  obtain ⟨hb1, hb2⟩ := hb
  have hb1 : isBrw e = false := by simpa using hb1
  obtain ⟨ds0, hg0⟩ : ∃ ds0, getOwn ρ i = some (.lst ds0) := by
    cases hq : getOwn ρ i with
    | none => rw [hq] at hb2; simp [isLst] at hb2
    | some d0 => cases d0 <;> rw [hq] at hb2 <;> first | exact ⟨_, rfl⟩ | (simp [isLst] at hb2)
  split at h
  case h_2 => cases h
  rename_i j ρ1 h1
  split at h
  case h_2 => cases h
  rename_i ds hg
  split at h
  case h_2 => cases h
  rename_i n hn
  split at h
  case h_2 => cases h
  rename_i d1 hd
  rw [Option.map_eq_some_iff] at h
  obtain ⟨ρ2, h2, e2⟩ := h
  cases e2
  obtain ⟨p, et, _, _, _, _, us0, k0, w1, _, _⟩ := S.own hg0
  have hst1 : [x].all noStar = true := by simp [hst]
  refine wpAny_Call_method_late rfl (few_of (n := 0) hst1 (by show 1 < 29; decide)) hl rfl (name_ok (N := C.N) S m et ?_)
  refine ⟨"list", "list.pop", PySem.F.plainAttrs_list, PySem.F.slot_list_pop, PySem.F.type_list_pop, ⟨_, w1, rfl⟩, fun a ea => by cases ea; exact ⟨_, w1, rfl⟩, ?_⟩
  rw [star_of hst]
  refine Calls.callWith_builtin rfl (Calls.evalArgs_plain ?_)
  refine Calls.spliced_cons (pe.run B po ρ τ O s _ E _ ρ1 S h1 fun v O1 s1 S1 x1 l1 => Calls.spliced_nil ?_)
  obtain ⟨t, rfl⟩ := (Vl.lk S1 l1).int
  obtain ⟨p2, et2, _, _, _, _, us, kk, w2, w3, w4⟩ := S1.own hg
  rw [et] at et2; cases et2
  obtain ⟨g1, g2, g3, g4⟩ := ixN_seq hn
  have hlen := w4.length
  have h63 := sz63
  obtain ⟨u, hu, _⟩ := w4.get hd
  refine call_meets PySem.F.slot_list_pop ⟨_, w2, rfl⟩ PySem.F.entry_list_pop (PySem.F.args_list_pop_2 _ _) (PySem.MeetsSeq.list_pop_at p us.toArray kk j t n u ?_ ?_ ?_ ?_) ⟨w2, ?_⟩
  · simp only [Builtin.List.listFitsIndex, Bool.and_eq_true, decide_eq_true_eq]; omega
  · rw [List.size_toArray, hlen]; exact g1
  · simpa using hu
  · rw [List.size_toArray]; exact w3
  · exact pop_core S1 et w2 w3 w4 h2 hd hu fun S2 x2 r => q u O1 _ S2 (x1.trans x2) r⟩
theorem ok_popl {i : Nat} {nm an : Str} {ap p3 : Pos} (H : Hy C T G Φ) (m : mN C.N C.env.scope i nm = true) (hn : an = "pop") (hl : (ap.endLine == p3.line) = true) :
    PEz C G Φ (.popl i) (.Call (.Attribute (.Name nm p1) an ap) [] [] p3) := ⟨fun B po ρ τ O s Q E d ρ' S h q => by
  subst hn
  simp only [ev] at h
  split at h
  case h_2 => cases h
  rename_i ds hg
  split at h
  case h_2 => cases h
  rename_i d1 hd
  rw [Option.map_eq_some_iff] at h
  obtain ⟨ρ2, h2, e2⟩ := h
  cases e2
  obtain ⟨p, et, _, _, _, _, us, kk, w2, w3, w4⟩ := S.own hg
  refine wpAny_Call_method_late rfl (few_of (n := 0) (xs := []) rfl (by show 0 < 29; decide)) hl rfl (name_ok (N := C.N) S m et ?_)
  refine ⟨"list", "list.pop", PySem.F.plainAttrs_list, PySem.F.slot_list_pop, PySem.F.type_list_pop, ⟨_, w2, rfl⟩, fun a ea => by cases ea; exact ⟨_, w2, rfl⟩, ?_⟩
  refine Calls.callWith_builtin rfl (PyProof.Rows.evalArgs_nil3 ?_)
  have hlen := w4.length
  obtain ⟨u, hu, _⟩ := w4.get hd
  refine call_meets PySem.F.slot_list_pop ⟨_, w2, rfl⟩ PySem.F.entry_list_pop (PySem.F.args_list_pop_1 _) (PySem.MeetsSeq.list_pop_last p us.toArray kk u ?_ ?_) ⟨w2, ?_⟩
  · simp only [List.size_toArray, hlen]; simpa using hu
  · rw [List.size_toArray]; exact w3
  · rw [List.size_toArray, hlen]
    exact pop_core S et w2 w3 w4 h2 hd hu fun S2 x2 r => q u O _ S2 x2 r⟩
end
end Mini
/-! Mini, exact: every expression. -/
namespace Mini
open PySem PySem.Spec PyProof.Rows L2
section
variable {T : Tb} {G : Nat → Option D} {Φ : Fn}
section
variable {N : List Str} {sc : Scope} {C : Cz} {a b c e : E} {x y z : Expr} {pos : Pos}
theorem comp_inv {own tg : List Nat} {elt : E} {it : It} {c : Oe} (h : mE N T sc (.comp own elt tg it c) x = true) : ∃ y tgx ix ifs scope pos, x = .ListComp y [⟨tgx, ix, ifs, 0⟩] scope pos ∧
    (blkB N sc scope own tg tgx && noSet ix && mI N T sc it tgx ix && mOc N T (relS scope sc) c ifs && mE N T (relS scope sc) elt y) = true := by
  unfold mE at h
  split at h <;> first | (cases h; done) | (rename_i q; cases q; done) | skip
  all_goals (rename_i q; cases q; exact ⟨_, _, _, _, _, _, rfl, h⟩)
theorem dcomp_inv {own tg : List Nat} {k v : E} {it : It} {c : Oe} (h : mE N T sc (.dcomp own k v tg it c) x = true) : ∃ y z tgx ix ifs scope pos, x = .DictComp y z [⟨tgx, ix, ifs, 0⟩] scope pos ∧
    (blkB N sc scope own tg tgx && noSet ix && mI N T sc it tgx ix && mOc N T (relS scope sc) c ifs && mE N T (relS scope sc) k y && mE N T (relS scope sc) v z) = true := by
  unfold mE at h
  split at h <;> first | (cases h; done) | (rename_i q; cases q; done) | skip
  all_goals (rename_i q; cases q; exact ⟨_, _, _, _, _, _, _, rfl, h⟩)
theorem enum_inv {tg : Expr} (h : mI N T sc (.enum e) tg x = true) : ∃ es k p0 nm p y pos, tg = .Tuple es k p0 ∧ x = .Call (.Name nm p) [y] [] pos ∧ (glB sc nm && okN nm && decide (nm = "enumerate") && noStar y && mE N T sc e y) = true := by
  unfold mI at h
  split at h <;> first | (cases h; done) | (rename_i q; cases q; done) | skip
  all_goals (rename_i q; cases q; exact ⟨_, _, _, _, _, _, _, rfl, rfl, h⟩)
theorem zip_no {tg : Expr} : mI N T sc (.zip a b) tg x = false := by
  unfold mI; rfl
theorem items_no {tg : Expr} : mI N T sc (.items e) tg x = false := by
  unfold mI; rfl
theorem range1_inv {tg : Expr} (h : mI N T sc (.range1 a) tg x = true) : ∃ nm p y pos, x = .Call (.Name nm p) [y] [] pos ∧ (glB sc nm && okN nm && decide (nm = "range") && noStar y && mE N T sc a y) = true := by
  unfold mI at h
  split at h <;> first | (cases h; done) | (rename_i q; cases q; done) | skip
  all_goals (rename_i q; cases q; exact ⟨_, _, _, _, rfl, h⟩)
theorem range2_inv {tg : Expr} (h : mI N T sc (.range2 a b) tg x = true) : ∃ nm p y z pos, x = .Call (.Name nm p) [y, z] [] pos ∧ (glB sc nm && okN nm && decide (nm = "range") && noStar y && noStar z && mE N T sc a y && mE N T sc b z) = true := by
  unfold mI at h
  split at h <;> first | (cases h; done) | (rename_i q; cases q; done) | skip
  all_goals (rename_i q; cases q; exact ⟨_, _, _, _, _, rfl, h⟩)
theorem moc_inv {xs : List Expr} (h : mOc N T sc (.some e) xs = true) : ∃ y, xs = [y] ∧ mE N T sc e y = true := by
  unfold mOc at h
  split at h <;> first | (cases h; done) | (rename_i q; cases q; done) | skip
  all_goals (rename_i q; cases q; exact ⟨_, rfl, h⟩)
theorem noSet_of {env : PySem.Env} (h : noSet x = true) : ∀ v, foldedSetIterable x env v = pure v := by
  intro v
  cases x <;> first | rfl | (cases h)
end
mutual
theorem pe_ok : ∀ (e : E) (x : Expr) (C : Cz), Hy C T G Φ → mE C.N T C.env.scope e x = true → PB C G Φ e x
  | .var i, x, C, H, h => by
    cases x <;> simp only [mE, Bool.false_eq_true] at h
    exact (ok_var h).both fun _ => rfl
  | .brw i, x, C, H, h => by
    cases x <;> simp only [mE, Bool.false_eq_true] at h
    exact (ok_brw h).both fun _ => rfl
  | .mv i, x, C, H, h => by
    cases x <;> simp only [mE, Bool.false_eq_true] at h
    exact (ok_mv h).both fun _ => rfl
  | .int n, x, C, H, h => by
    cases x <;> try (simp only [mE, Bool.false_eq_true] at h; done)
    rename_i v k p
    cases v <;> simp only [mE, Bool.false_eq_true, decide_eq_true_eq] at h
    subst h
    exact (ok_int H.t1).both fun _ => rfl
  | .str s, x, C, H, h => by
    cases x <;> try (simp only [mE, Bool.false_eq_true] at h; done)
    rename_i v k p
    cases v <;> simp only [mE, Bool.false_eq_true, decide_eq_true_eq] at h
    rw [toS_of h]
    exact (ok_str H.t1).both fun _ => rfl
  | .bl s, x, C, H, h => by
    cases x <;> try (simp only [mE, Bool.false_eq_true] at h; done)
    rename_i v k p
    cases v <;> simp only [mE, Bool.false_eq_true, beq_iff_eq] at h
    subst h
    exact ok_bl.both fun _ => rfl
  | .non, x, C, H, h => by
    cases x <;> try (simp only [mE, Bool.false_eq_true] at h; done)
    rename_i v k p
    cases v <;> simp only [mE, Bool.false_eq_true] at h
    exact ok_non.both fun _ => rfl
  | .glob g, x, C, H, h => by
    cases x <;> simp only [mE, Bool.false_eq_true] at h
    exact (ok_glob H h).both fun _ => rfl
  | .tup es, x, C, H, h => by
    cases x <;> simp only [mE, Bool.false_eq_true, Bool.and_eq_true] at h
    exact (ok_tup H h.1 (pa_ok es _ C H h.2)).both fun _ => rfl
  | .lst es, x, C, H, h => by
    cases x <;> simp only [mE, Bool.false_eq_true, Bool.and_eq_true] at h
    exact (ok_lst H h.1 (pa_ok es _ C H h.2)).both fun _ => rfl
  | .dct0, x, C, H, h => by
    cases x <;> try (simp only [mE, Bool.false_eq_true] at h; done)
    rename_i ks vs p
    cases ks <;> cases vs <;> simp only [mE, Bool.false_eq_true] at h
    exact ok_dct0.both fun _ => rfl
  | .bin op a b, x, C, H, h => by
    cases x <;> simp only [mE, Bool.false_eq_true, Bool.and_eq_true] at h
    rw [← opB_of h.1.1]
    exact (ok_bin H (pe_ok a _ C H h.1.2).1 (pe_ok b _ C H h.2).1).both fun _ => rfl
  | .neg a, x, C, H, h => by
    cases x <;> try (simp only [mE, Bool.false_eq_true] at h; done)
    rename_i op y p
    cases op <;> simp only [mE, Bool.false_eq_true] at h
    exact (ok_neg H (pe_ok a _ C H h).1).both fun _ => rfl
  | .not a, x, C, H, h => by
    cases x <;> try (simp only [mE, Bool.false_eq_true] at h; done)
    rename_i op y p
    cases op <;> simp only [mE, Bool.false_eq_true] at h
    have := pe_ok a _ C H h
    exact ⟨ok_not this.1, pt_not' this.2.1, fun _ _ _ e => nomatch e⟩
  | .cmp op a b, x, C, H, h => by
    cases x <;> try (simp only [mE, Bool.false_eq_true] at h; done)
    rename_i y ops ys p
    match ops, ys, h with
    | [o], [z], h =>
      simp only [mE, Bool.and_eq_true, Bool.not_eq_true'] at h
      obtain rfl := cpB_of h.1.1.1
      exact ⟨ok_cmp H (pe_ok a _ C H h.1.1.2).1 (pe_ok b _ C H h.1.2).1 h.2, pt_cmp H (pe_ok a _ C H h.1.1.2).1 (pe_ok b _ C H h.1.2).1 h.2, fun _ _ _ e => nomatch e⟩
    | [], [], h => simp only [mE, Bool.false_eq_true] at h
    | [], _ :: _, h => simp only [mE, Bool.false_eq_true] at h
    | [_], [], h => simp only [mE, Bool.false_eq_true] at h
    | [_], _ :: _ :: _, h => simp only [mE, Bool.false_eq_true] at h
    | _ :: _ :: _, [], h => simp only [mE, Bool.false_eq_true] at h
    | _ :: _ :: _, [_], h => simp only [mE, Bool.false_eq_true] at h
    | _ :: _ :: _, _ :: _ :: _, h => simp only [mE, Bool.false_eq_true] at h
  | .and a b, x, C, H, h => by
    cases x <;> try (simp only [mE, Bool.false_eq_true] at h; done)
    rename_i op xs p
    cases op <;> try (simp only [mE, Bool.false_eq_true] at h; done)
    match xs, h with
    | [x, y], h =>
      simp only [mE, Bool.and_eq_true] at h
      have pa := pe_ok a _ C H h.1
      have pb := pe_ok b _ C H h.2
      exact ⟨ok_and pa.1 (ok_one pb.1), (pw_and' pa.2.1 (pw_one_and pb.2.1)).pt, fun _ _ _ _ => pw_and' pa.2.1 (pw_one_and pb.2.1)⟩
    | x :: y :: z :: r, h =>
      simp only [mE, Bool.and_eq_true] at h
      have pa := pe_ok a _ C H h.1
      have pb := pe_ok b _ C H h.2
      exact ⟨ok_and pa.1 pb.1, (pw_and' pa.2.1 (pb.2.2 _ _ _ rfl)).pt, fun _ _ _ _ => pw_and' pa.2.1 (pb.2.2 _ _ _ rfl)⟩
    | [], h => simp only [mE, Bool.false_eq_true] at h
    | [_], h => simp only [mE, Bool.false_eq_true] at h
  | .or a b, x, C, H, h => by
    cases x <;> try (simp only [mE, Bool.false_eq_true] at h; done)
    rename_i op xs p
    cases op <;> try (simp only [mE, Bool.false_eq_true] at h; done)
    match xs, h with
    | [x, y], h =>
      simp only [mE, Bool.and_eq_true] at h
      have pa := pe_ok a _ C H h.1
      have pb := pe_ok b _ C H h.2
      exact ⟨ok_or pa.1 (ok_one pb.1), (pw_or' pa.2.1 (pw_one_or pb.2.1)).pt, fun _ _ _ _ => pw_or' pa.2.1 (pw_one_or pb.2.1)⟩
    | x :: y :: z :: r, h =>
      simp only [mE, Bool.and_eq_true] at h
      have pa := pe_ok a _ C H h.1
      have pb := pe_ok b _ C H h.2
      exact ⟨ok_or pa.1 pb.1, (pw_or' pa.2.1 (pb.2.2 _ _ _ rfl)).pt, fun _ _ _ _ => pw_or' pa.2.1 (pb.2.2 _ _ _ rfl)⟩
    | [], h => simp only [mE, Bool.false_eq_true] at h
    | [_], h => simp only [mE, Bool.false_eq_true] at h
  | .chain o1 o2 a b c, x, C, H, h => by
    cases x <;> try (simp only [mE, Bool.false_eq_true] at h; done)
    rename_i y ops ys p
    match ops, ys, h with
    | [p, q], [y, z], h =>
      simp only [mE, Bool.and_eq_true, Bool.not_eq_true'] at h
      obtain ⟨⟨⟨⟨⟨⟨⟨⟨h1, h2⟩, h3⟩, h4⟩, h5⟩, h6⟩, h7⟩, h8⟩, h9⟩ := h
      obtain rfl := cpB_of h1
      obtain rfl := cpB_of h2
      have pa := pe_ok a _ C H h3
      have pb := pe_ok b _ C H h4
      have pc := pe_ok c _ C H h5
      exact ⟨ok_chain H pa.1 pb.1 pc.1 h6 h7 h8 h9, pt_chain' H pa.1 pb.1 pc.1 h6 h7 h8 h9, fun _ _ _ e => nomatch e⟩
    | [], _, h => simp only [mE, Bool.false_eq_true] at h
    | [_], _, h => simp only [mE, Bool.false_eq_true] at h
    | [_, _], [], h => simp only [mE, Bool.false_eq_true] at h
    | [_, _], [_], h => simp only [mE, Bool.false_eq_true] at h
    | [_, _], _ :: _ :: _ :: _, h => simp only [mE, Bool.false_eq_true] at h
    | _ :: _ :: _ :: _, _, h => simp only [mE, Bool.false_eq_true] at h
  | .ite c a b, x, C, H, h => by
    cases x <;> simp only [mE, Bool.false_eq_true, Bool.and_eq_true] at h
    have pc := pe_ok c _ C H h.1.1
    have pa := pe_ok a _ C H h.1.2
    have pb := pe_ok b _ C H h.2
    exact ⟨ok_ite pc.2.1 pa.1 pb.1, pt_ite pc.2.1 pa.2.1 pb.2.1, fun _ _ _ e => nomatch e⟩
  | .idx a i, x, C, H, h => by
    cases x <;> simp only [mE, Bool.false_eq_true, Bool.and_eq_true] at h
    exact (ok_idx H (pe_ok a _ C H h.1.1).1 (pe_ok i _ C H h.1.2).1 h.2).both fun _ => rfl
  | .slc a lo hi, x, C, H, h => by
    cases x <;> try (simp only [mE, Bool.false_eq_true] at h; done)
    rename_i y sl p
    cases sl <;> try (simp only [mE, Bool.false_eq_true] at h; done)
    rename_i l u st p2
    cases st <;> simp only [mE, Bool.false_eq_true, Bool.and_eq_true] at h
    exact (ok_slc H (pe_ok a _ C H h.1.1.2).1 (po_ok lo _ C H h.1.2) (po_ok hi _ C H h.2) h.1.1.1).both fun _ => rfl
  | .rev a, x, C, H, h => by
    obtain ⟨y, k, p1, p2, p3, pos, rfl, h⟩ := rev_inv h
    exact (ok_rev H (pe_ok a _ C H h).1).both fun _ => rfl
  | .call f es, x, C, H, h => by
    cases x <;> try (simp only [mE, Bool.false_eq_true] at h; done)
    rename_i fe xs kws p
    cases fe <;> try (simp only [mE, Bool.false_eq_true] at h; done)
    cases kws <;> simp only [mE, Bool.false_eq_true, Bool.and_eq_true, decide_eq_true_eq] at h
    obtain ⟨⟨⟨⟨⟨h1, h2⟩, h3⟩, h4⟩, h5⟩, h6⟩ := h
    refine (ok_call H h1 h2 h3 h4 h5 (pa_ok es _ C H h6) (mEs_star h6) fun e => ?_).both fun _ => rfl
    subst e
    cases es <;> first | rfl | (simp only [mEs, Bool.false_eq_true] at h6)
  | .fn b es, x, C, H, h => by
    cases x <;> try (simp only [mE, Bool.false_eq_true] at h; done)
    rename_i fe xs kws p
    cases fe <;> try (simp only [mE, Bool.false_eq_true] at h; done)
    cases kws <;> simp only [mE, Bool.false_eq_true, Bool.and_eq_true, decide_eq_true_eq] at h
    obtain ⟨⟨⟨⟨⟨h1, h2⟩, h3⟩, h4⟩, h5⟩, h6⟩ := h
    cases xs with
    | nil => simp at h6
    | cons y ys =>
      refine (ok_fn H h1 h2 h3 h4 (pa_ok es _ C H h5) ?_ (mEs_star h5)).both fun _ => rfl
      cases es with
      | cons a es' =>
        cases es' with
        | nil =>
          intro a' e
          cases e
          simp only [mEs, Bool.and_eq_true] at h5
          refine ⟨(pe_ok a _ C H h5.1.2).1, ?_⟩
          cases ys with
          | nil => rfl
          | cons _ _ => simp only [mEs, Bool.false_eq_true] at h5; exact absurd h5.2 (by simp)
        | cons _ _ => intro a' e; cases e
        | io _ _ => intro a' e; cases e
        | fr => intro a' e; cases e
      | nil => intro a' e; cases e
      | io _ _ => intro a' e; cases e
      | fr => intro a' e; cases e
  | .isi a t, x, C, H, h => by
    obtain ⟨nm, p, y, z, p2, pos, rfl, hh⟩ := isi_inv h
    simp only [Bool.and_eq_true, decide_eq_true_eq] at hh
    obtain ⟨⟨⟨⟨⟨⟨⟨h1, h2⟩, h3⟩, h4⟩, h5⟩, h6⟩, h7⟩, h8⟩ := hh
    exact (ok_isi H h1 h2 h3 h4 h5 h6 h7 (pe_ok a _ C H h8).1).both fun _ => rfl
  | .isi2 a t u, x, C, H, h => by
    obtain ⟨nm, p, y, z, p2, z2, p3, k, p4, pos, rfl, hh⟩ := isi2_inv h
    simp only [Bool.and_eq_true, decide_eq_true_eq] at hh
    obtain ⟨⟨⟨⟨⟨⟨⟨⟨⟨⟨h1, h2⟩, h3⟩, h4⟩, h5⟩, h6⟩, h9⟩, h10⟩, h11⟩, h7⟩, h8⟩ := hh
    exact (ok_isi2 H h1 h2 h3 h4 h5 h6 h9 h10 h11 h7 (pe_ok a _ C H h8).1).both fun _ => rfl
  | .popa i e, x, C, H, h => by
    obtain ⟨nm, p, an, ap, y, pos, rfl, hh⟩ := popa_inv h
    simp only [Bool.and_eq_true, decide_eq_true_eq] at hh
    obtain ⟨⟨⟨⟨h1, h2⟩, h3⟩, h4⟩, h5⟩ := hh
    exact (ok_popa H h1 h2 h3 h4 (pe_ok e _ C H h5).1).both fun _ => rfl
  | .popl i, x, C, H, h => by
    obtain ⟨nm, p, an, ap, pos, rfl, hh⟩ := popl_inv h
    simp only [Bool.and_eq_true, decide_eq_true_eq] at hh
    obtain ⟨⟨h1, h2⟩, h3⟩ := hh
    exact (ok_popl H h1 h2 h3).both fun _ => rfl
  | .mt m o es, x, C, H, h => by
    cases x <;> try (simp only [mE, Bool.false_eq_true] at h; done)
    rename_i fe xs kws p
    cases fe <;> try (simp only [mE, Bool.false_eq_true] at h; done)
    cases kws <;> simp only [mE, Bool.false_eq_true, Bool.and_eq_true, decide_eq_true_eq, Bool.not_eq_true'] at h
    obtain ⟨⟨⟨⟨⟨⟨⟨⟨⟨h1, h2⟩, h3⟩, h4⟩, h5⟩, h6⟩, h7⟩, h8⟩, h9⟩, h10⟩ := h
    cases xs with
    | nil => simp at h10
    | cons y ys => exact (ok_mt H h1 h2 h3 h4 h5 h6 (pe_ok o _ C H h7).1 h8 (pa_ok es _ C H h9) (mEs_star h9)).both fun _ => rfl
  | .rep o e, x, C, H, h => by
    obtain ⟨y, nm, ap, z, zs, k, p3, pos, rfl, hh⟩ := rep_inv h
    simp only [Bool.and_eq_true, decide_eq_true_eq, Bool.not_eq_true'] at hh
    obtain ⟨⟨⟨⟨⟨⟨⟨⟨h1, h2⟩, h3⟩, h4⟩, h5⟩, h6⟩, h7⟩, h8⟩, h9⟩ := hh
    exact (ok_rep H h1 h2 h3 h4 h5 (pe_ok o _ C H h6).1 (pe_ok e _ C H h8).1 h7 h9).both fun _ => rfl
  | .comp own elt tg it c, x, C, H, h => by
    obtain ⟨y, tgx, ix, ifs, scope, pos, rfl, hh⟩ := comp_inv h
    simp only [Bool.and_eq_true] at hh
    obtain ⟨⟨⟨⟨h1, h2⟩, h3⟩, h4⟩, h5⟩ := hh
    unfold blkB at h1
    simp only [Bool.and_eq_true, decide_eq_true_eq, List.all_eq_true] at h1
    obtain ⟨⟨⟨b1, b2⟩, b3⟩, b4⟩ := h1
    refine ((ok_comp H (pi_ok it tgx ix C H h3) (blkOk_by b1) b2 b3 b4 (fun C' H' e1 e2 => pc_ok c ifs C' H' (by rw [e1, e2]; exact h4)) (fun C' H' e1 e2 => (pe_ok elt y C' H' (by rw [e1, e2]; exact h5)).1) (noSet_of h2)).pe rfl).both fun _ => rfl
  | .dcomp own k v tg it c, x, C, H, h => by
    obtain ⟨y, z, tgx, ix, ifs, scope, pos, rfl, hh⟩ := dcomp_inv h
    simp only [Bool.and_eq_true] at hh
    obtain ⟨⟨⟨⟨⟨h1, h2⟩, h3⟩, h4⟩, h5⟩, h6⟩ := hh
    unfold blkB at h1
    simp only [Bool.and_eq_true, decide_eq_true_eq, List.all_eq_true] at h1
    obtain ⟨⟨⟨b1, b2⟩, b3⟩, b4⟩ := h1
    refine ((ok_dcomp H (pi_ok it tgx ix C H h3) (blkOk_by b1) b2 b3 b4 (fun C' H' e1 e2 => pc_ok c ifs C' H' (by rw [e1, e2]; exact h4)) (fun C' H' e1 e2 => (pe_ok k y C' H' (by rw [e1, e2]; exact h5)).1) (fun C' H' e1 e2 => (pe_ok v z C' H' (by rw [e1, e2]; exact h6)).1) (noSet_of h2)).pe rfl).both fun _ => rfl
theorem pa_ok : ∀ (es : Es) (xs : List Expr) (C : Cz), Hy C T G Φ → mEs C.N T C.env.scope es xs = true → PAz C G Φ es xs
  | .nil, xs, C, H, h => by
    cases xs <;> simp only [mEs, Bool.false_eq_true] at h
    exact pa_nil'
  | .cons e es, xs, C, H, h => by
    cases xs <;> simp only [mEs, Bool.false_eq_true, Bool.and_eq_true] at h
    exact pa_cons' (pe_ok e _ C H h.1.2).1 (pa_ok es _ C H h.2) h.1.1
  | .io i es, xs, C, H, h => by
    cases xs <;> try (simp only [mEs, Bool.false_eq_true] at h; done)
    rename_i x xs
    cases x <;> simp only [mEs, Bool.false_eq_true, Bool.and_eq_true] at h
    exact pa_io h.1.1 h.1.2 (pa_ok es _ C H h.2)
  | .fr, xs, C, H, h => by
    obtain ⟨p, rfl⟩ := fr_inv h
    exact pa_fr
theorem po_ok : ∀ (e : Oe) (x : Option Expr) (C : Cz), Hy C T G Φ → mOe C.N T C.env.scope e x = true → POz C G Φ e x
  | .none, x, C, H, h => by
    cases x <;> simp only [mOe, Bool.false_eq_true] at h
    exact po_none'
  | .some e, x, C, H, h => by
    cases x <;> simp only [mOe, Bool.false_eq_true] at h
    exact po_some' (pe_ok e _ C H h).1
theorem pc_ok : ∀ (e : Oe) (x : List Expr) (C : Cz), Hy C T G Φ → mOc C.N T C.env.scope e x = true → PCz C G Φ e x
  | .none, x, C, H, h => by
    cases x <;> simp only [mOc, Bool.false_eq_true] at h
    exact pc_none
  | .some e, x, C, H, h => by
    obtain ⟨y, rfl, h⟩ := moc_inv h
    exact pc_some (pe_ok e _ C H h).2.1
theorem pi_ok : ∀ (it : It) (tg x : Expr) (C : Cz), Hy C T G Φ → mI C.N T C.env.scope it tg x = true → PIz C G Φ it tg x
  | .seq e, tg, x, C, H, h => by
    simp only [mI] at h
    exact pi_seq (pe_ok e _ C H h).1
  | .range1 a, tg, x, C, H, h => by
    obtain ⟨nm, p, y, pos, rfl, hh⟩ := range1_inv h
    simp only [Bool.and_eq_true, decide_eq_true_eq] at hh
    obtain ⟨⟨⟨⟨h1, h2⟩, h3⟩, h4⟩, h5⟩ := hh
    exact pi_range1 H h1 h2 h3 h4 (pe_ok a _ C H h5).1
  | .range2 a b, tg, x, C, H, h => by
    obtain ⟨nm, p, y, z, pos, rfl, hh⟩ := range2_inv h
    simp only [Bool.and_eq_true, decide_eq_true_eq] at hh
    obtain ⟨⟨⟨⟨⟨⟨h1, h2⟩, h3⟩, h4⟩, h5⟩, h6⟩, h7⟩ := hh
    exact pi_range2 H h1 h2 h3 h4 h5 (pe_ok a _ C H h6).1 (pe_ok b _ C H h7).1
  | .enum e, tg, x, C, H, h => by
    obtain ⟨es, k, p0, nm, p, y, pos, rfl, rfl, hh⟩ := enum_inv h
    simp only [Bool.and_eq_true, decide_eq_true_eq] at hh
    obtain ⟨⟨⟨⟨h1, h2⟩, h3⟩, h4⟩, h5⟩ := hh
    exact pi_enum' H h1 h2 h3 h4 (pe_ok e _ C H h5).1
  | .zip a b, tg, x, C, H, h => by
    exact absurd h (by rw [zip_no]; exact Bool.false_ne_true)
  | .items e, tg, x, C, H, h => by
    exact absurd h (by rw [items_no]; exact Bool.false_ne_true)
end
end
end Mini
/-! Mini, exact: statements. -/
namespace Mini
open PySem PySem.Spec PyProof.Rows L2

/-- a statement may make new own places -/
structure ExtS (X : Addr → Prop) (ρ : En) (τ : List (Option Value)) (O : Om) (s : Shared) (ρ' : En) (τ' : List (Option Value)) (O' : Om) (s' : Shared) : Prop where
  le : Le O O'
  tk : s.toks ≤ s'.toks
  kept : ∀ b o, ¬ ownA ρ τ b → ¬ X b → s.heap.get? b = some o → s'.heap.get? b = some o
  nw : ∀ b o, ¬ ownA ρ τ b → ¬ X b → s.heap.get? b = some o → O' b = O b
  ow : ∀ b o, ¬ X b → s.heap.get? b = some o → ownA ρ' τ' b → ownA ρ τ b
  st : ∀ b o, ¬ X b → s.heap.get? b = some o → ∃ o', s'.heap.get? b = some o'
section
variable {X : Addr → Prop} {ρ ρ' ρ'' : En} {τ τ' τ'' : List (Option Value)} {O O' O'' : Om} {s s' s'' : Shared}
theorem Ext.toS (a : Ext X ρ τ O s ρ' τ' O' s') : ExtS X ρ τ O s ρ' τ' O' s' := ⟨a.le, a.tk, a.kept, a.nw, fun b _ _ _ h => a.ow b h, a.st⟩
theorem ExtS.refl : ExtS X ρ τ O s ρ τ O s := Ext.refl.toS
theorem ExtS.trans (a : ExtS X ρ τ O s ρ' τ' O' s') (b : ExtS X ρ' τ' O' s' ρ'' τ'' O'' s'') : ExtS X ρ τ O s ρ'' τ'' O'' s'' := by
  refine ⟨a.le.trans b.le, Nat.le_trans a.tk b.tk, fun c o n x e => ?_, fun c o n x e => ?_, fun c o x e h => ?_, fun c o x e => ?_⟩
  · exact b.kept c o (fun h => n (a.ow c o x e h)) x (a.kept c o n x e)
  · obtain ⟨o', e'⟩ := a.st c o x e
    exact (b.nw c o' (fun h => n (a.ow c o x e h)) x e').trans (a.nw c o n x e)
  · obtain ⟨o', e'⟩ := a.st c o x e
    exact a.ow c o x e (b.ow c o' x e' h)
  · obtain ⟨o', e'⟩ := a.st c o x e
    exact b.st c o' x e'
theorem ExtS.imp {Y : Addr → Prop} (a : ExtS X ρ τ O s ρ' τ' O' s') (h : ∀ b, X b → Y b) : ExtS Y ρ τ O s ρ' τ' O' s' :=
  ⟨a.le, a.tk, fun b o n y e => a.kept b o n (fun x => y (h b x)) e, fun b o n y e => a.nw b o n (fun x => y (h b x)) e, fun b o y e q => a.ow b o (fun x => y (h b x)) e q, fun b o y e => a.st b o (fun x => y (h b x)) e⟩
end
inductive FlR (C : Cz) (O : Om) (n : Nat) : Fl → Flow → Prop
  | nx : FlR C O n .nx .next
  | brk : FlR C O n .brk .brk
  | cnt : FlR C O n .cnt .cont
  | ret {d : D} {u : Value} : RepV C.prog C.w O n u d → FlR C O n (.ret d) (.ret u)
structure PSz (C : Cz) (G : Nat → Option D) (Φ : Fn) (st : S) (x : Stmt) : Prop where
  run : ∀ (B : Bk) (po : Option Addr) (ρ : En) (τ : List (Option Value)) (O : Om) (s : Shared) (Q : Flow → Shared → Prop) (E : Value → Shared → Prop) (fl : Fl) (ρ' : En), Sz C B po ρ τ O s → ex G Φ st ρ = some (fl, ρ') →
    (∀ f τ' O' s', Sz C B po ρ' τ' O' s' → ExtS C.St ρ τ O s ρ' τ' O' s' → FlR C O' s'.toks fl f → Q f s') → wpAny (model C.prog C.w) C.A (exec x C.env) Q E s
structure PSsz (C : Cz) (G : Nat → Option D) (Φ : Fn) (st : Ss) (xs : List Stmt) : Prop where
  run : ∀ (B : Bk) (po : Option Addr) (ρ : En) (τ : List (Option Value)) (O : Om) (s : Shared) (Q : Flow → Shared → Prop) (E : Value → Shared → Prop) (fl : Fl) (ρ' : En), Sz C B po ρ τ O s → exs G Φ st ρ = some (fl, ρ') →
    (∀ f τ' O' s', Sz C B po ρ' τ' O' s' → ExtS C.St ρ τ O s ρ' τ' O' s' → FlR C O' s'.toks fl f → Q f s') → wpAny (model C.prog C.w) C.A (execs xs C.env) Q E s

section
variable {C : Cz} {T : Tb} {G : Nat → Option D} {Φ : Fn} {B : Bk} {po : Option Addr} {ρ ρ' ρ1 ρ2 : En} {τ : List (Option Value)} {O O' : Om} {s s' : Shared}
variable {e c : E} {x y z tg : Expr} {pos p1 p2 : Pos} {a b : Ss} {xs ys : List Stmt}

theorem Iz.quiet (I : Iz C τ s) : interactive C.env = false := by simp [interactive, I.ok.kind]
theorem pss_nil' : PSsz C G Φ .nil [] := ⟨fun B po ρ τ O s Q E fl ρ' S h q => by
  simp only [exs] at h
  cases h
  exact wpAny_execs_nil (q _ τ O s S ExtS.refl .nx)⟩
theorem pss_cons' {st : S} {x : Stmt} (h1 : PSz C G Φ st x) (h2 : PSsz C G Φ a xs) : PSsz C G Φ (.cons st a) (x :: xs) := ⟨fun B po ρ τ O s Q E fl ρ' S h q => by
  simp only [exs] at h
  split at h
  · rename_i ρ1 e1
    refine wpAny_execs_cons (h1.run B po ρ τ O s _ E _ ρ1 S e1 fun f τ1 O1 s1 S1 x1 r1 => ?_)
    cases r1
    exact h2.run B po ρ1 τ1 O1 s1 Q E fl ρ' S1 h fun f τ2 O2 s2 S2 x2 r2 => q f τ2 O2 s2 S2 (x1.trans x2) r2
  · rename_i hne
    refine wpAny_execs_cons (h1.run B po ρ τ O s _ E _ ρ' S h fun f τ1 O1 s1 S1 x1 r1 => ?_)
    cases r1 with
    | nx => exact absurd h (hne ρ')
    | brk => exact q _ τ1 O1 s1 S1 x1 .brk
    | cnt => exact q _ τ1 O1 s1 S1 x1 .cnt
    | ret r => exact q _ τ1 O1 s1 S1 x1 (.ret r)⟩
theorem ps_set' {i : Nat} {nm : Str} (pe : PEz C G Φ e x) (m : mS C.N C.env.scope C.fn i nm = true) (hs : swapsWith x (some (.Name nm p1)) pos.line C.env = pure false) : PSz C G Φ (.set i e) (.Assign [.Name nm p1] x pos) := ⟨fun B po ρ τ O s Q E fl ρ' S h q => by
  simp only [ex] at h
  split at h
  · cases h
  · rename_i hb
    split at h
    · rename_i d ρ1 h1
      rw [Option.map_eq_some_iff] at h
      obtain ⟨ρ2, h2, e2⟩ := h
      cases e2
      refine wpAny_Assign_Name (pe.run B po ρ τ O s _ E d ρ1 S h1 fun u O1 s1 S1 x1 l1 => ?_) hs
      exact asg_name S1 m h2 (l1.rep (by simpa using hb)) fun s2 S2 x2 => q _ _ O1 s2 S2 (x1.weak.toS.trans x2.toS) .nx
    · cases h⟩
theorem ps_ret' (pe : PEz C G Φ e x) : PSz C G Φ (.ret e) (.Return (some x) pos) := ⟨fun B po ρ τ O s Q E fl ρ' S h q => by
  simp only [ex] at h
  split at h
  · cases h
  · rename_i hb
    split at h
    · rename_i d ρ1 h1
      cases h
      exact wpAny_Return_some (pe.run B po ρ τ O s _ E d _ S h1 fun u O1 s1 S1 x1 l1 => q _ τ O1 s1 S1 x1.weak.toS (.ret (l1.rep (by simpa using hb))))
    · cases h⟩
theorem ps_retN' : PSz C G Φ .retN (.Return none pos) := ⟨fun B po ρ τ O s Q E fl ρ' S h q => by
  simp only [ex] at h
  cases h
  exact wpAny_Return_none (q _ τ O s S ExtS.refl (.ret .non))⟩
theorem ps_brk' : PSz C G Φ .brk (.Break pos) := ⟨fun B po ρ τ O s Q E fl ρ' S h q => by
  simp only [ex] at h
  cases h
  exact wpAny_Break (q _ τ O s S ExtS.refl .brk)⟩
theorem ps_cnt' : PSz C G Φ .cnt (.Continue pos) := ⟨fun B po ρ τ O s Q E fl ρ' S h q => by
  simp only [ex] at h
  cases h
  exact wpAny_Continue (q _ τ O s S ExtS.refl .cnt)⟩
theorem ps_pass' : PSz C G Φ .pass (.Pass pos) := ⟨fun B po ρ τ O s Q E fl ρ' S h q => by
  simp only [ex] at h
  cases h
  exact wpAny_Pass (q _ τ O s S ExtS.refl .nx)⟩
theorem ps_never' {st : Stmt} : PSz C G Φ .raise st := ⟨fun B po ρ τ O s Q E fl ρ' S h q => by
  simp only [ex] at h
  cases h⟩
theorem ps_ite' (pc : PTz C G Φ c x) (pa : PSsz C G Φ a xs) (pb : PSsz C G Φ b ys) : PSz C G Φ (.ite c a b) (.If x xs ys pos) := ⟨fun B po ρ τ O s Q E fl ρ' S h q => by
  simp only [ex] at h
  split at h
  · rename_i ρ1 h1
    refine wpAny_If (pc.run _ B po ρ τ O s _ E _ _ S h1 rfl fun O1 s1 S1 x1 => ?_)
    exact pa.run B po ρ1 τ O1 s1 Q E fl ρ' S1 h fun f τ2 O2 s2 S2 x2 r2 => q f τ2 O2 s2 S2 (x1.weak.toS.trans x2) r2
  · rename_i ρ1 h1
    refine wpAny_If (pc.run _ B po ρ τ O s _ E _ _ S h1 rfl fun O1 s1 S1 x1 => ?_)
    exact pb.run B po ρ1 τ O1 s1 Q E fl ρ' S1 h fun f τ2 O2 s2 S2 x2 r2 => q f τ2 O2 s2 S2 (x1.weak.toS.trans x2) r2
  · cases h⟩
theorem ps_ex' (pe : PEz C G Φ e x) (hs : swapsWith x none pos.line C.env = pure false) : PSz C G Φ (.ex e) (.Expr x pos) := ⟨fun B po ρ τ O s Q E fl ρ' S h q => by
  simp only [ex] at h
  split at h
  · rename_i d ρ1 h1
    cases h
    exact wpAny_Expr_any (pe.run B po ρ τ O s _ E d _ S h1 fun u O1 s1 S1 x1 l1 => q _ τ O1 s1 S1 x1.weak.toS .nx) S.iz.quiet hs
  · cases h⟩
/-- a new own list or dict gets its place -/
theorem set_own {i : Nat} {d : D} (h : setOwn ρ i d = some ρ') : i < ρ.length ∧ ρ' = ρ.set i (.own d) := by
  unfold setOwn at h
  split at h
  · cases h
  · cases h
    exact ⟨(List.getElem?_eq_some_iff.mp (by assumption)).1, rfl⟩
  · cases h
theorem asg_own {M : Model} {A : Around} {E : Value → Shared → Prop} {i : Nat} {x : Str} {p : Addr} {d : D} {h0 : Heap} {Q : Unit → Shared → Prop} (S : Sz C B po ρ τ O s) (m : mS C.N C.env.scope C.fn i x = true) (h : setOwn ρ i d = some ρ') (f : Fre C B ρ τ O h0 p) (ow : OwnV C.prog C.w O s.toks p (s.heap.get? p) d)
    (q : ∀ h' t', Sz C B po ρ' (τ.set i (some (.ref p))) O { s with heap := h', toks := t' } → s.toks ≤ t' → (∀ b o, ¬ C.St b → s.heap.get? b = some o → h'.get? b = some o) → Q () { s with heap := h', toks := t' }) : wpAny M A (storeName C.env x (.ref p)) Q E s := by
  obtain ⟨hi, rfl⟩ := set_own h
  exact store_ok S m hi (y := .own d) ⟨p, rfl, f.o, f.bk, f.st, f.bs, trivial, ow⟩ (fun _ j y hj e o z => f.ow ⟨j, y, e, o, z⟩) fun h' t' S' tk k => q h' t' S' tk k
theorem ext_own {i : Nat} {d : D} {p : Addr} {h' : Heap} {t' : Nat} {ρ0 : En} {τ0 : List (Option Value)} {O0 : Om} {s0 : Shared} (x0 : ExtS C.St ρ0 τ0 O0 s0 ρ τ O s) (f : s0.heap.get? p = none) (hi : i < ρ.length) (tk : s.toks ≤ t') (k : ∀ b o, ¬ C.St b → s.heap.get? b = some o → h'.get? b = some o) :
    ExtS C.St ρ0 τ0 O0 s0 (ρ.set i (.own d)) (τ.set i (some (.ref p))) O { s with heap := h', toks := t' } := by
  refine ⟨x0.le, Nat.le_trans x0.tk tk, fun b o n x e => k b o x (x0.kept b o n x e), x0.nw, fun b o x e ⟨j, y, h1, h2, h3⟩ => ?_, fun b o x e => ?_⟩
  · by_cases hj : j = i
    · subst hj
      by_cases hl : j < τ.length
      · rw [List.getElem?_set_self hl] at h3
        cases h3
        rw [f] at e; cases e
      · rw [List.getElem?_eq_none (by rw [List.length_set]; omega)] at h3; cases h3
    · rw [List.getElem?_set_ne (Ne.symm hj)] at h1 h3
      exact x0.ow b o x e ⟨j, y, h1, h2, h3⟩
  · obtain ⟨o', e'⟩ := x0.st b o x e
    exact ⟨o', k b o' x e'⟩
theorem ps_own' {i : Nat} {nm : Str} (ha : allocE e = true) (pn : PNz C G Φ e x) (m : mS C.N C.env.scope C.fn i nm = true) (hs : swapsWith x (some (.Name nm p1)) pos.line C.env = pure false) : PSz C G Φ (.own i e) (.Assign [.Name nm p1] x pos) := ⟨fun B po ρ τ O s Q E fl ρ' S h q => by
  simp only [ex, ha, if_true] at h
  split at h
  · rename_i d ρ1 h1
    rw [Option.map_eq_some_iff] at h
    obtain ⟨ρ2, h2, e2⟩ := h
    cases e2
    refine wpAny_Assign_Name (pn.run B po ρ τ O s _ E d ρ1 S h1 fun p O1 s1 S1 x1 f ow => ?_) hs
    refine asg_own S1 m h2 f ow fun h' t' S2 tk k => ?_
    obtain ⟨hi, e3⟩ := set_own h2
    refine q _ _ O1 _ S2 ?_ .nx
    rw [e3]
    exact ext_own x1.weak.toS f.nw hi tk k
  · cases h⟩
theorem pn_lst {es : Es} {xs : List Expr} (n : noIo es = true) (pa : PAz C G Φ es xs) : PNz C G Φ (.lst es) (.List xs pos) := ⟨fun B po ρ τ O s Q E d ρ' S h q => by
  simp only [ev] at h
  split at h
  · rename_i ds ρ1 h1
    split at h
    · rename_i hz
      cases h
      refine wpAny_List_spliced (pa.run pos B po ρ τ O s _ E _ _ S h1 fun us O1 s1 S1 x1 l1 => ?_)
      have r := l1.plain n
      have hl : us.length ≤ sizeLine := by rw [r.length]; exact Nat.le_trans hz lim
      have no : s1.heap.get? s1.heap.objs.size = none := Heap.get?_none_of_le (Nat.le_refl _)
      have g : Gr O1 s1 O1 { s1 with heap := s1.heap.push { cls := .type "list", data := .seq us.toArray } } := Gr.same (t' := s1.toks) S1.sub S1.iz.bare (Kept.push _ _) (Nat.le_refl _)
      exact ⟨hl, q _ O1 _ (S1.grow g) (x1.trans (Ext.gr g)) (S1.fre no x1.st') ⟨us, 0, Heap.get?_push_size _ rfl, hl, r⟩⟩
    · cases h
  · cases h⟩
theorem Sz.resL {ds : List D} {Q : Value → Shared → Prop} {O1 : Om} {s1 : Shared} (S1 : Sz C B po ρ1 τ O1 s1) (x1 : Ext NoX ρ τ O s ρ1 τ O1 s1) (q : ∀ p O' s', Sz C B po ρ1 τ O' s' → Ext NoX ρ τ O s ρ1 τ O' s' → Fre C B ρ1 τ O' s.heap p → OwnV C.prog C.w O' s'.toks p (s'.heap.get? p) (.lst ds) → Q (.ref p) s') : ResL C.prog C.w O1 s1 ds Q := fun us h' t' p k kp hp e hz ht r => by
  have no : s1.heap.get? p = none := Heap.get?_none_of_le hp
  have g : Gr O1 s1 O1 { s1 with heap := h', toks := t' } := Gr.same (t' := t') S1.sub S1.iz.bare kp ht
  exact q p O1 _ (S1.grow g) (x1.trans (Ext.gr g)) (S1.fre no x1.st') ⟨us, k, e, hz, r⟩
theorem pn_fn {f : Bf} {nm : Str} {a : E} {p : Pos} (H : Hy C T G Φ) (hf : f = .list ∨ f = .sorted) (g : glB C.env.scope nm = true) (k : okN nm = true) (hn : nm = bfS f) (pe : PEz C G Φ a x) (hs1 : noStar x = true) : PNz C G Φ (.fn f (.cons a .nil)) (.Call (.Name nm p) [x] [] pos) := ⟨fun B po ρ τ O s Q E d ρ' S h q => by
  subst hn
  have hd := S.iz.ok.hd
  simp only [ev] at h
  split at h
  case h_2 => cases h
  rename_i d1 ρ1 h1
  rw [Option.map_eq_some_iff] at h
  obtain ⟨d', hd', e⟩ := h
  cases e
  obtain ⟨ds, rfl⟩ := fnL_lst hf hd'
  refine wpAny_Call_Name_kw (blt_ok S g k (H.blt _ (mem_blts f)) (boot_bf f) ?_)
  have go : wpAny (model C.prog C.w) C.A (spliced (backTo pos (starEach [x] C.env))) (fun vs s₁ => wpAny (model C.prog C.w) C.A (call (bfV f) vs) Q E s₁) E s := by
    rw [star_of hs1]
    show wpAny _ _ (spliced ((false, eval x C.env) :: backTo pos (starEach [] C.env))) _ _ s
    refine Calls.spliced_cons (pe.run B po ρ τ O s _ E d1 _ S h1 fun u O1 s1 S1 x1 l1 => ?_)
    exact Calls.spliced_nil (fnL_ok hf hd hd' (S1.cn H.t1) (Vl.lk S1 l1) (S1.resL x1 q))
  rcases bfV_two f with ⟨id, e⟩ | ⟨T', e⟩
  · rw [e] at go ⊢
    exact PyProof.Rows.callWith_builtin1 go (star_of hs1) rfl
  · rw [e] at go ⊢
    exact PyProof.Rows.callWith_type1 go (star_of hs1) rfl⟩
/-- the right one is a list as it is written -/
def lstE : E → Bool
  | .lst _ => true | .comp .. => true | _ => false
theorem lstE_ev {b : E} {d : D} (hb : lstE b = true) (h : ev G Φ b ρ = some (d, ρ')) : ∃ ds, d = .lst ds := by
  cases b <;> first | (cases hb; done) | skip
  · simp only [ev] at h
    split at h
    · split at h
      · cases h; exact ⟨_, rfl⟩
      · cases h
    · cases h
  · simp only [ev] at h
    split at h
    · split at h
      · split at h
        · cases h; exact ⟨_, rfl⟩
        · cases h
      · cases h
    · cases h
theorem pn_add {a b : E} (H : Hy C T G Φ) (hl : lstE b = true) (pa : PEz C G Φ a x) (pb : PEz C G Φ b y) : PNz C G Φ (.bin .add a b) (.BinOp x .Add y pos) := ⟨fun B po ρ τ O s Q E d ρ' S h q => by
  simp only [ev] at h
  split at h
  · cases h
  · rename_i g
    split at h
    · rename_i d1 ρ1 h1
      split at h
      · rename_i d2 ρ2 h2
        rw [Option.map_eq_some_iff] at h
        obtain ⟨d', hd, e⟩ := h
        cases e
        obtain ⟨ds, rfl⟩ := lstE_ev hl h2
        cases d1 <;> simp only [bopD] at hd <;> try (cases hd; done)
        split at hd
        · rename_i hz
          cases hd
          refine wpAny_BinOp (two_ok (f := fun v u => binaryOp .Add v u) pa pb S (by simpa using g) h1 h2 fun v u O1 s1 S1 x1 l1 l2 => ?_)
          exact add_lists hz (S1.cn H.t1) l1 l2 (S1.resL x1 q)
        · cases hd
      · cases h
    · cases h⟩
theorem pn_dct0 : PNz C G Φ .dct0 (.Dict [] [] pos) := ⟨fun B po ρ τ O s Q E d ρ' S h q => by
  simp only [ev] at h
  cases h
  have no : s.heap.get? s.heap.objs.size = none := Heap.get?_none_of_le (Nat.le_refl _)
  have g : Gr O s O { s with heap := s.heap.push { cls := .type "dict", data := .dict #[] } } := Gr.same (t' := s.toks) S.sub S.iz.bare (Kept.push _ _) (Nat.le_refl _)
  exact wpAny_Dict_empty (q _ O _ (S.grow g) (Ext.gr g) (S.fre no fun _ o e => ⟨o, e⟩) ⟨_, [], Heap.get?_push_size _ rfl, S.newDict, Nat.zero_le _, dkNew, .nil⟩)⟩
end
end Mini
/-! Mini, exact: loops. -/
namespace Mini
open PySem PySem.Spec PyProof.Rows L2

section
variable {C : Cz} {T : Tb} {G : Nat → Option D} {Φ : Fn} {B : Bk} {po : Option Addr} {ρ ρ' ρ1 ρ2 : En} {τ : List (Option Value)} {O O' : Om} {s s' : Shared}
variable {e c : E} {x y z tgx : Expr} {pos p1 p2 : Pos} {a b : Ss} {xs ys : List Stmt}

theorem ps_while' (pc : PTz C G Φ c x) (pb : PSsz C G Φ b xs) : PSz C G Φ (.while c b) (.While x xs [] pos) := ⟨fun B po ρ τ O s Q E fl ρ' S h q => by
  simp only [ex] at h
  let LI : Nat → Shared → Prop := fun k s5 => ∃ (ρi : En) (τi : List (Option Value)) (Oi : Om), Sz C B po ρi τi Oi s5 ∧ ExtS C.St ρ τ O s ρi τi Oi s5 ∧ whileGo (fun ρ => asBl (ev G Φ c ρ)) (fun ρ => exs G Φ b ρ) k ρi = some (fl, ρ')
  refine wpAny_While (codeAny_whileLoop LI ?_ WH ⟨ρ, τ, O, S, ExtS.refl, h⟩)
  rintro k s5 ⟨ρi, τi, Oi, S5, x5, c5⟩
  cases k with
  | zero => simp [whileGo] at c5
  | succ k =>
    simp only [whileGo] at c5
    cases hc : ev G Φ c ρi with
    | none => rw [hc] at c5; simp [asBl] at c5
    | some dρ =>
      obtain ⟨d, ρ6⟩ := dρ
      rw [hc] at c5
      cases d with
      | bl t =>
        simp only [asBl] at c5
        refine pc.run _ B po ρi τi Oi s5 _ _ t ρ6 S5 hc rfl fun O6 s6 S6 x6 => ?_
        have x56 := x5.trans x6.weak.toS
        cases t with
        | true =>
          simp only [if_true]
          simp only at c5
          cases hb : exs G Φ b ρ6 with
          | none => rw [hb] at c5; simp at c5
          | some fρ =>
            obtain ⟨f, ρ7⟩ := fρ
            rw [hb] at c5
            refine pb.run B po ρ6 τi O6 s6 _ _ f ρ7 S6 hb fun g τ7 O7 s7 S7 x7 r7 => ?_
            have x57 := x56.trans x7
            cases r7 with
            | nx => exact ⟨k, Nat.lt_succ_self k, ρ7, τ7, O7, S7, x57, c5⟩
            | cnt => exact ⟨k, Nat.lt_succ_self k, ρ7, τ7, O7, S7, x57, c5⟩
            | brk => cases c5; exact q _ τ7 O7 s7 S7 x57 .nx
            | ret r => cases c5; exact q _ τ7 O7 s7 S7 x57 (.ret r)
        | false =>
          simp only [Bool.false_eq_true, if_false]
          simp only at c5
          cases c5
          exact wpAny_execs_nil (q _ τi O6 s6 S6 x56 .nx)
      | _ => simp [asBl] at c5⟩

def pinBk (B : Bk) (fp : List Addr) (h : Heap) : Bk := fun b => if b ∈ fp then (h.get? b).map fun o => (o, none) else B b
theorem ps_for' {it : It} {tg : List Nat} (hi : PIz C G Φ it tgx x) (H : Hy C T G Φ) (mt : mTg C.N C.env.scope C.fn tg tgx = true) (pb : PSsz C G Φ b xs) (hs : ∀ v, foldedSetIterable x C.env v = pure v) : PSz C G Φ (.for tg it b) (.For tgx x xs [] pos) := ⟨fun B po ρ τ O s Q E fl ρ' S h q => by
  simp only [ex] at h
  split at h
  case h_2 => cases h
  rename_i ds ρ1 h1
  have hd := S.iz.ok.hd
  refine wpAny_For (hi.run B po ρ τ O s _ E ds ρ1 S h1 fun I fp St n O2 s2 S2 x2 W hn st2 f2 => ?_) hs
  have fpThere : ∀ b ∈ fp, ∃ o, s2.heap.get? b = some o := W.obj _ _ st2
  let YY : Addr → Prop := fun b => C.St b ∨ b ∈ fp
  let turn : D → En → Option (Fl × En) := fun x ρ => match setTg ρ tg x with
      | some ρ' => exs G Φ b ρ'
      | none => none
  have fin : ∀ {ρ3 : En} {τ3 : List (Option Value)} {O3 : Om} {s3 : Shared}, ExtS YY ρ1 τ O2 s2 ρ3 τ3 O3 s3 → ExtS C.St ρ τ O s ρ3 τ3 O3 s3 := fun {ρ3 τ3 O3 s3} x3 => by
    have y := (x2.weak.toS (X := YY)).trans x3
    have dr : ∀ b o, ¬ C.St b → s.heap.get? b = some o → ¬ YY b := fun b o n e z => by
      rcases z with z | z
      · exact n z
      · rw [(f2 b z).nw] at e; cases e
    exact ⟨y.le, y.tk, fun b o n c e => y.kept b o n (dr b o c e) e, fun b o n c e => y.nw b o n (dr b o c e) e, fun b o c e => y.ow b o (dr b o c e) e, fun b o c e => y.st b o (dr b o c e) e⟩
  let LI : Nat → Shared → Prop := fun k s5 => ∃ (i : Nat) (ρi : En) (τi : List (Option Value)) (Oi : Om), k = ds.length - i ∧ i ≤ ds.length ∧ Sz C B po ρi τi Oi s5 ∧ ExtS YY ρ1 τ O2 s2 ρi τi Oi s5 ∧ St i s5.heap ∧ (∀ b ∈ fp, Oi b = none ∧ ¬ ownA ρi τi b) ∧ forGo turn (ds.drop i) ρi = some (fl, ρ')
  refine codeAny_forLoop_any LI ?_ ds.length ⟨0, ρ1, τ, O2, rfl, Nat.zero_le _, S2, ExtS.refl, st2, fun b hb => ⟨(f2 b hb).o, (f2 b hb).ow⟩, by rw [List.drop_zero]; exact h⟩
  rintro k s5 ⟨i, ρi, τi, Oi, rfl, hi5, S5, x5, st5, nf5, c5⟩
  have ap5 : ∀ b ∈ fp, ¬ C.St b ∧ ¬ ownA ρi τi b ∧ C.base.get? b = none ∧ B b = none ∧ ∀ x c, C.env.cells.lookup x = some c → c ≠ b := fun b hb =>
    ⟨(f2 b hb).st, (nf5 b hb).2, (f2 b hb).bs, (f2 b hb).bk, fun y c ec z => by
      subst z
      obtain ⟨o, e⟩ := S.cellOld y c ec
      rw [(f2 c hb).nw] at e; cases e⟩
  by_cases hlt : i < ds.length
  · have hx : ds[i]? = some ds[i] := List.getElem?_eq_getElem hlt
    rw [List.drop_eq_getElem_cons hlt] at c5
    simp only [forGo] at c5
    refine wpAny_mono (W.item C.A i ds[i] s5 Oi (fun u s6 => wpAny (model C.prog C.w) C.A (assign tgx C.env u) (fun _ s₂ => wpAny (model C.prog C.w) C.A (execs xs C.env) (fun f s₃ => match f with
            | .next | .cont => ∃ m, m < ds.length - i ∧ LI m s₃
            | .brk => Q .next s₃
            | .ret v => Q (.ret v) s₃) (notedBy (model C.prog C.w) C.A C.env (cameBackBy (model C.prog C.w) C.A C.env E)) s₂) (notedBy (model C.prog C.w) C.A C.env (cameBackBy (model C.prog C.w) C.A C.env E)) s6) _ hd hx st5 (S5.cn H.t1) x5.le (Nat.le_trans hn x5.tk) (fun b hb => (nf5 b hb).1) fun u O6 h6 t6 k6 le6 nw6 sub6 tk6 r6 st6 => ?_) (fun r s6 hr => ?_) fun _ _ z => z
    · have S6 := S5.turn k6 le6 nw6 sub6 tk6 ap5
      have x6 : ExtS YY ρ1 τ O2 s2 ρi τi O6 { s5 with heap := h6, toks := t6 } := x5.trans ((Ext.turn k6 le6 nw6 tk6).imp fun b hb => (.inr hb : YY b)).toS
      have nf6 : ∀ b ∈ fp, O6 b = none := fun b hb => by
        obtain ⟨o, e⟩ := W.obj _ _ st5 b hb
        rw [nw6 b o e]; exact (nf5 b hb).1
      have S6p : Sz C (pinBk B fp h6) po ρi τi O6 { s5 with heap := h6, toks := t6 } := S6.rebk fun b o z e => by
        unfold pinBk at e
        split at e
        · rename_i hb
          rw [Option.map_eq_some_iff] at e
          obtain ⟨o', e1, e2⟩ := e
          cases e2
          exact ⟨e1, nf6 b hb, (f2 b hb).st, (nf5 b hb).2⟩
        · obtain ⟨e1, e2⟩ := S6.bk b o z e
          exact ⟨e1, e2, fun st => (by rw [(S6.on b st).2] at e; cases e), fun ow => (by rw [(S6.ownNo ow).2.1] at e; cases e)⟩
      cases ht : setTg ρi tg ds[i] with
      | none => simp only [turn, ht] at c5; cases c5
      | some ρ7 =>
        refine asg_tg S6p mt ht r6 fun uu s7 hul S7 x7 => ?_
        cases hb : exs G Φ b ρ7 with
        | none => simp only [turn, ht, hb] at c5; cases c5
        | some fρ =>
          obtain ⟨f, ρ8⟩ := fρ
          simp only [turn, ht, hb] at c5
          refine pb.run _ po ρ7 _ O6 s7 _ _ f ρ8 S7 hb fun g τ8 O8 s8 S8 x8 r8 => ?_
          have xx8 : ExtS YY ρ1 τ O2 s2 ρ8 τ8 O8 s8 := (x6.trans (x7.toS.imp fun b hb => .inl hb)).trans (x8.imp fun b hb => .inl hb)
          have keep : ∀ b ∈ fp, ∀ o, h6.get? b = some o → s8.heap.get? b = some o ∧ O8 b = none := fun b hb o e => S8.bk b o none (by unfold pinBk; rw [if_pos hb, e]; rfl)
          have S9 : Sz C B po ρ8 τ8 O8 s8 := S8.rebk fun b o z e => by
            have nb : b ∉ fp := fun hb => by rw [(f2 b hb).bk] at e; cases e
            have e' : pinBk B fp h6 b = some (o, z) := by unfold pinBk; rw [if_neg nb]; exact e
            obtain ⟨e1, e2⟩ := S8.bk b o z e'
            exact ⟨e1, e2, fun st => (by rw [(S8.on b st).2] at e'; cases e'), fun ow => (by rw [(S8.ownNo ow).2.1] at e'; cases e')⟩
          have nf8 : ∀ b ∈ fp, O8 b = none ∧ ¬ ownA ρ8 τ8 b := fun b hb => by
            obtain ⟨o, e⟩ := W.obj _ _ st6 b hb
            refine ⟨(keep b hb o e).2, fun ow => ?_⟩
            have := (S8.ownNo ow).2.1
            unfold pinBk at this
            rw [if_pos hb, e] at this; cases this
          have st8 : St (i + 1) s8.heap := W.keep _ _ _ st6 fun b hb o e => (keep b hb o e).1
          cases r8 with
          | nx => exact ⟨ds.length - (i + 1), by omega, i + 1, ρ8, τ8, O8, rfl, hlt, S9, xx8, st8, nf8, c5⟩
          | cnt => exact ⟨ds.length - (i + 1), by omega, i + 1, ρ8, τ8, O8, rfl, hlt, S9, xx8, st8, nf8, c5⟩
          | brk => cases c5; exact q _ τ8 O8 s8 S9 (fin xx8) .nx
          | ret r => cases c5; exact q _ τ8 O8 s8 S9 (fin xx8) (.ret r)
    · obtain ⟨u, rfl, hr⟩ := hr
      exact hr
  · have hie : i = ds.length := by omega
    subst hie
    rw [List.drop_length] at c5
    simp only [forGo] at c5
    cases c5
    refine wpAny_mono (W.done C.A _ s5 Oi (fun s6 => wpAny (model C.prog C.w) C.A (execs [] C.env) (fun f s₃ => Q f s₃) (notedBy (model C.prog C.w) C.A C.env (cameBackBy (model C.prog C.w) C.A C.env E)) s6) _ hd (Nat.le_refl _) st5 (S5.cn H.t1) x5.le (fun b hb => (nf5 b hb).1) fun h6 t6 k6 sub6 tk6 => ?_) (fun r s6 hr => ?_) fun _ _ z => z
    · have S6 := S5.turn k6 (Le.refl _) (fun _ _ _ => rfl) sub6 tk6 ap5
      exact wpAny_execs_nil (q _ τi Oi _ S6 (fin (x5.trans ((Ext.turn k6 (Le.refl _) (fun _ _ _ => rfl) tk6).imp fun b hb => (.inr hb : YY b)).toS)) .nx)
    · obtain ⟨rfl, hr⟩ := hr
      exact hr⟩
end
end Mini
/-! Mini, exact: augmented stores, append, items stored. -/
namespace Mini
open PySem PySem.Spec PyProof.Rows L2

section
variable {C : Cz} {T : Tb} {G : Nat → Option D} {Φ : Fn} {B : Bk} {po : Option Addr} {ρ ρ' ρ1 ρ2 : En} {τ : List (Option Value)} {O O' : Om} {s s' : Shared}
variable {e k : E} {x y z tgx : Expr} {pos p1 p2 : Pos} {a b : Ss} {xs ys : List Stmt}

theorem iop_ok {P : Program} {w : World} {A : Around} {E Q : Value → Shared → Prop} {op : Bop} {a b d : D} {v u : Value} (hop : op = .add ∨ op = .sub ∨ op = .mul) (hf : flatD a = true) (hd : bopD op a b = some d) (c : Cn O s) (la : Lk P w O s.heap s.toks v a) (lb : Lk P w O s.heap s.toks u b) (q : Res P w O s d Q) :
    wpAny (model P w) A (inplaceOp (mop op) v u) Q E s := by
  rcases hop with rfl | rfl | rfl
  · cases a <;> cases b <;> simp only [bopD] at hd <;> try (cases hd; done)
    · cases hd
      obtain ⟨t, rfl⟩ := la.int; obtain ⟨t', rfl⟩ := lb.int
      exact iadd_int (q.int c _)
    · rename_i x y
      split at hd
      · rename_i hz
        cases hd
        obtain ⟨t, rfl, g1⟩ := la.str; obtain ⟨t', rfl, g2⟩ := lb.str
        refine PySem.P.iadd_str ?_
        rw [toS_len, toS_len]
        split
        · rename_i e
          have e : x = [] := by simpa using e
          subst e
          exact q.now c (.str _ _ g2)
        · split
          · rename_i e
            have e : y = [] := by simpa using e
            subst e
            rw [List.append_nil] at q
            exact q.now c (.str _ _ g1)
          · rw [toS_app]
            exact ⟨by rw [toS_len, List.length_append]; exact Nat.le_trans hz lim, q.strNew c⟩
      · cases hd
    · simp [flatD] at hf
    · simp [flatD] at hf
  · cases a <;> cases b <;> simp only [bopD] at hd <;> try (cases hd; done)
    cases hd
    obtain ⟨t, rfl⟩ := la.int; obtain ⟨t', rfl⟩ := lb.int
    exact isub_int (q.int c _)
  · cases a <;> cases b <;> simp only [bopD] at hd <;> try (cases hd; done)
    split at hd
    · rename_i hm
      cases hd
      obtain ⟨t, rfl⟩ := la.int; obtain ⟨t', rfl⟩ := lb.int
      refine imul_int (q.int c _) (CMul.ok ?_)
      unfold bmul at hm
      rw [Bool.or_eq_true, decide_eq_true_eq, decide_eq_true_eq] at hm
      exact hm
    · cases hd
theorem ps_aug' {i : Nat} {nm : Str} {op : Bop} (H : Hy C T G Φ) (hop : op = .add ∨ op = .sub ∨ op = .mul) (pe : PEz C G Φ e x) (m : mS C.N C.env.scope C.fn i nm = true) (hb : isBrw e = false) (hk : okN nm = true) : PSz C G Φ (.aug i op e) (.AugAssign (.Name nm p1) (mop op) x pos) := ⟨fun B po ρ τ O s Q E fl ρ' S h q => by
  simp only [ex] at h
  split at h
  · rename_i d0 h0
    split at h
    case isTrue => cases h
    rename_i hf
    have hf : flatD d0 = true := by simpa using hf
    split at h
    · rename_i d1 ρ1 h1
      split at h
      · rename_i d2 h2
        rw [Option.map_eq_some_iff] at h
        obtain ⟨ρ2, h3, e3⟩ := h
        cases e3
        obtain ⟨v, et, r0⟩ := S.get h0
        obtain ⟨m1, m2, m3⟩ := mS_ok m
        have go : wpAny (model C.prog C.w) C.A (eval x C.env) (fun u s₂ => wpAny (model C.prog C.w) C.A (inplaceOp (mop op) v u) (fun r s₃ => wpAny (model C.prog C.w) C.A (storeName C.env nm r) (fun _ => Q .next) E s₃) E s₂) E s := by
          refine pe.run B po ρ τ O s _ E d1 ρ1 S h1 fun u O1 s1 S1 x1 l1 => ?_
          refine iop_ok hop hf h2 (S1.cn H.t1) (.of S1.sub (r0.mono x1.le x1.tk)) (Vl.lk S1 l1) fun r O2 s2 g2 r2 => ?_
          have S2 := S1.grow g2
          exact asg_name S2 m h3 r2 fun s3 S3 x3 => q _ _ O2 s3 S3 (((x1.trans (Ext.gr g2)).weak.toS).trans x3.toS) .nx
        obtain ⟨mm, hn, hl⟩ := S.iz.loc
        refine wpAny_AugAssign_Name ?_
        have vis : Vis C.env.scope nm := by rcases m2 with k | k; exact .inl k; exact .inr (.inl k)
        rcases hl i nm v m1 et vis with ⟨hk, hm⟩ | ⟨hk, c, hc, hcell⟩
        · exact wpAny_loadName_local S.iz.ok.kind hk hn hm go
        · rcases hk with hk | hk
          · exact wpAny_loadName_cell S.iz.ok.kind hk hc hcell go
          · have : C.env.scope.names.lookup nm = some .free := hk
            rcases m2 with k | k <;> rw [k] at this <;> cases this
      · cases h
    · cases h
  · cases h⟩

/-! ### append, items stored -/
theorem ps_app' {i : Nat} {nm an : Str} {ap p3 : Pos} (H : Hy C T G Φ) (m : mN C.N C.env.scope i nm = true) (hn : an = "append") (hl : (ap.endLine == p3.line) = true) (hst : noStar x = true) (pe : PEz C G Φ e x) (hs : swapsWith (.Call (.Attribute (.Name nm p1) an ap) [x] [] p3) none pos.line C.env = pure false) :
    PSz C G Φ (.app i e) (.Expr (.Call (.Attribute (.Name nm p1) an ap) [x] [] p3) pos) := ⟨fun B po ρ τ O s Q E fl ρ' S h q => by
  subst hn
  simp only [ex] at h
  split at h
  · cases h
  · rename_i hb
    simp only [Bool.or_eq_true, not_or, Bool.not_eq_true', Bool.not_eq_false] at hb
    obtain ⟨hb1, hb2⟩ := hb
    have hb1 : isBrw e = false := by simpa using hb1
    obtain ⟨ds0, hg0⟩ : ∃ ds0, getOwn ρ i = some (.lst ds0) := by
      cases hq : getOwn ρ i with
      | none => rw [hq] at hb2; simp [isLst] at hb2
      | some d0 => cases d0 <;> rw [hq] at hb2 <;> first | exact ⟨_, rfl⟩ | (simp [isLst] at hb2)
    split at h
    · rename_i d ρ1 h1
      split at h
      · rename_i ds hg
        split at h
        · rename_i hz
          rw [Option.map_eq_some_iff] at h
          obtain ⟨ρ2, h2, e2⟩ := h
          cases e2
          obtain ⟨p, et, _, _, _, _, us0, k0, w1, _, _⟩ := S.own hg0
          refine wpAny_Expr_any ?_ S.iz.quiet hs
          have hst1 : [x].all noStar = true := by simp [hst]
          refine wpAny_Call_method_late rfl (few_of (n := 0) hst1 (by show 1 < 29; decide)) hl rfl (name_ok (N := C.N) S m et ?_)
          refine ⟨"list", "list.append", PySem.F.plainAttrs_list, PySem.F.slot_list_append, PySem.F.type_list_append, ⟨_, w1, rfl⟩, fun a ea => by cases ea; exact ⟨_, w1, rfl⟩, ?_⟩
          rw [star_of hst]
          refine Calls.callWith_builtin rfl (Calls.evalArgs_plain ?_)
          refine Calls.spliced_cons (pe.run B po ρ τ O s _ E d ρ1 S h1 fun v O1 s1 S1 x1 l1 => Calls.spliced_nil ?_)
          have ry := l1.rep hb1
          obtain ⟨sl, c1, c2, c3⟩ := chg_of h2
          subst c3
          obtain ⟨p2, et2, _, _, _, _, us, kk, w2, w3, w4⟩ := S1.own hg
          rw [et] at et2; cases et2
          have hlen := w4.length
          have hz' : us.length + 1 ≤ sizeLine := by have := lim; omega
          refine append_at (hsz := by rw [List.size_toArray]; omega) w2 fun h' sb ho' => ?_
          have ho2 : h'.get? p = some { cls := .type "list", data := .seq (us ++ [v]).toArray (kk + 1) } := by rw [ho']; simp
          have S2 := S1.chg (h' := h') (t' := s1.toks) (d' := .lst (ds ++ [d])) c1 c2 et (Nat.le_refl _) (fun b o hb q => (sb.2 b hb).trans q) ⟨us ++ [v], kk + 1, ho2, by rw [List.length_append]; exact hz', w4.append (.cons ry .nil)⟩
          exact q _ τ O1 _ S2 ((x1.trans (ext_chg c1 c2 et (Nat.le_refl _) (fun b o hb q => (sb.2 b hb).trans q) ⟨_, ho2⟩)).weak.toS) .nx
        · cases h
      · cases h
    · cases h⟩
end
end Mini
/-! Mini, exact: items stored. -/
namespace Mini
open PySem PySem.Spec PyProof.Rows L2

section
variable {C : Cz} {T : Tb} {G : Nat → Option D} {Φ : Fn} {B : Bk} {po : Option Addr} {ρ ρ' ρ1 ρ2 : En} {τ : List (Option Value)} {O O' : Om} {s s' : Shared}
variable {e k : E} {x y z kx tgx : Expr} {pos p1 p2 : Pos} {a b : Ss} {xs ys : List Stmt}
theorem ps_put' {i : Nat} {nm : Str} (H : Hy C T G Φ) (m : mN C.N C.env.scope i nm = true) (pe : PEz C G Φ e x) (pk : PEz C G Φ k kx) (hs : swapsWith x (some (.Subscript (.Name nm p1) kx p2)) pos.line C.env = pure false) :
    PSz C G Φ (.put i k e) (.Assign [.Subscript (.Name nm p1) kx p2] x pos) := ⟨fun B po ρ τ O s Q E fl ρ' S h q => by
  simp only [ex] at h
  split at h
  · cases h
  · rename_i hb
    simp only [Bool.or_eq_true, not_or] at hb
    have hb1 : isBrw e = false := by simpa using hb.1
    have hb2 : isBrw k = false := by simpa using hb.2
    split at h
    case h_2 => cases h
    rename_i d ρ1 h1
    split at h
    · cases h
    · rename_i hg1
      have hg1 : ∃ d0, getOwn ρ1 i = some d0 := by
        cases hq : getOwn ρ1 i with
        | none => rw [hq] at hg1; exact absurd rfl hg1
        | some d0 => exact ⟨d0, rfl⟩
      obtain ⟨d0, hg1⟩ := hg1
      split at h
      case h_2 => cases h
      rename_i yd ρ2 h2
      refine wpAny_Assign_Subscript (pe.run B po ρ τ O s _ E d ρ1 S h1 fun v O1 s1 S1 x1 l1 => ?_) hs
      obtain ⟨p, et, _⟩ := S1.own hg1
      refine name_ok (N := C.N) S1 m et (pk.run B po ρ1 τ O1 s1 _ E yd ρ2 S1 h2 fun u O2 s2 S2 x2 l2 => ?_)
      have rv := (l1.rep hb1).mono x2.le x2.tk
      have lu := Lk.of S2.sub (l2.rep hb2)
      split at h
      · rename_i kvs hg
        split at h
        · rename_i y' hy
          split at h
          · rename_i hz
            rw [Option.map_eq_some_iff] at h
            obtain ⟨ρ3, h3, e3⟩ := h
            cases e3
            obtain ⟨p', et', _, _, _, _, ob, vs, w1, w2, w3, w4, w5⟩ := S2.own hg
            rw [et] at et'; cases et'
            obtain ⟨sl, c1, c2, c3⟩ := chg_of h3
            subst c3
            have hl := w5.length
            have hsz := lim
            refine wpAny_setItem_pairs (ky_is lu hy) (w4.at' w1) (fun h' dd sb => ?_) (by omega)
            obtain ⟨o', es', ep', z1, z2, z3, z4, z5, z6⟩ := dd
            have rk := (w5.mono (Le.refl _) (Nat.le_succ _)).put y' (rv.mono (Le.refl O2) (Nat.le_succ _))
            have hl2 : (PySem.stored vs (kyK y') v).length ≤ sizeLine := by
              rw [rk.length]
              unfold dput
              split
              · rw [List.length_map]; omega
              · rw [List.length_append]; simp; omega
            have S3 := S2.chg (h' := h') (t' := s2.toks + 1) (d' := .dic (dput kvs y' d)) c1 c2 et (Nat.le_succ _) (fun b o hb q => (sb.2 b hb).trans q) ⟨o', _, z1, w2, hl2, ⟨z2, es', ep', z3, z4, z5, z6⟩, rk⟩
            exact q _ τ O2 _ S3 (((x1.trans x2).trans (ext_chg c1 c2 et (Nat.le_succ _) (fun b o hb q => (sb.2 b hb).trans q) ⟨_, z1⟩)).weak.toS) .nx
          · cases h
        · cases h
      · rename_i ds hg
        split at h
        · rename_i j
          split at h
          · rename_i n hn
            rw [Option.map_eq_some_iff] at h
            obtain ⟨ρ3, h3, e3⟩ := h
            cases e3
            obtain ⟨p', et', _, _, _, _, us, kk, w1, w2, w3⟩ := S2.own hg
            rw [et] at et'; cases et'
            obtain ⟨sl, c1, c2, c3⟩ := chg_of h3
            subst c3
            obtain ⟨t, rfl⟩ := lu.int
            obtain ⟨g1, g2, g3, g4⟩ := ixN_seq hn
            have hl := w3.length
            have hsz := sz63
            have key : ∀ (h' : Heap), h' = s2.heap.update p (Obj.mapSeq (·.setIfInBounds n v)) → Q .next { s2 with heap := h' } := fun h' eh => by
              have ee : h'.get? p = some { cls := .type "list", data := .seq (us.set n v).toArray kk } := by
                rw [eh, Heap.get?_update_self _ w1 (by rw [mapSeq_set] <;> rfl), mapSeq_set]
              have kp : ∀ b o, b ≠ p → s2.heap.get? b = some o → h'.get? b = some o := fun b o hb q => by rw [eh]; exact (Heap.get?_update_other _ _ (Ne.symm hb)).trans q
              have S3 := S2.chg (h' := h') (t' := s2.toks) (d' := .lst (ds.set n d)) c1 c2 et (Nat.le_refl _) kp ⟨us.set n v, kk, ee, by rw [List.length_set]; exact w2, w3.set rv n⟩
              exact q _ τ O2 _ S3 (((x1.trans x2).trans (ext_chg c1 c2 et (Nat.le_refl _) kp ⟨_, ee⟩)).weak.toS) .nx
            by_cases h0 : 0 ≤ j
            · have hk : j.toNat = n := by
                rw [seqIndex_of h0 g4] at g1
                exact Option.some.inj g1
              exact PySem.W.ki_setAt w1 h0 (by omega) (by rw [List.size_toArray, hl]; exact g4) (by rw [hk]; exact key _ rfl)
            · have hk : (j + (us.toArray.size : Int)).toNat = n := by
                rw [seqIndex_neg (by omega) g3] at g1
                rw [List.size_toArray, hl]
                exact Option.some.inj g1
              exact PySem.W.ki_setBack w1 (by omega) (by rw [List.size_toArray, hl]; exact g3) (by omega) (by rw [hk]; exact key _ rfl)
          · cases h
        · cases h
      · cases h⟩
end
end Mini
/-! Mini, exact: several names at once. -/
namespace Mini
open PySem PySem.Spec PyProof.Rows L2

section
variable {C : Cz} {T : Tb} {G : Nat → Option D} {Φ : Fn} {B : Bk} {po : Option Addr} {ρ ρ' ρ1 ρ2 : En} {τ : List (Option Value)} {O O' : Om} {s s' : Shared}
variable {e k : E} {x y z tgx : Expr} {pos p1 p2 : Pos} {a b : Ss} {xs ys : List Stmt}
theorem ps_unp' {i j : Nat} {is : List Nat} {es : List Expr} {kt : Nat} (pe : PEz C G Φ e x) (m : mTg C.N C.env.scope C.fn (i :: j :: is) (.Tuple es kt p1) = true)
    (hs : swapsWithSole [.Tuple es kt p1] x pos.line C.env = pure false) (hw : swappedStores [.Tuple es kt p1] x C.env = pure none) : PSz C G Φ (.unp (i :: j :: is) e) (.Assign [.Tuple es kt p1] x pos) := ⟨fun B po ρ τ O s Q E fl ρ' S h q => by
  simp only [ex] at h
  split at h
  · cases h
  · rename_i hb
    have hb : isBrw e = false := by simpa using hb
    split at h
    · rename_i ds ρ1 h1
      rw [Option.map_eq_some_iff] at h
      obtain ⟨ρ2, h2, e2⟩ := h
      cases e2
      refine wpAny_Assign_stores (pe.run B po ρ τ O s _ E _ ρ1 S h1 fun u O1 s1 S1 x1 l1 => ?_) hs hw
      show wpAny _ _ (assignAll u [assign (.Tuple es kt p1) C.env]) _ _ s1
      exact asg_tg (d := .tup ds) S1 m (by simp only [setTg]; exact h2) (l1.rep hb) fun us s2 hl S2 x2 => q _ _ O1 s2 S2 (x1.weak.toS.trans x2.toS) .nx
    · cases h⟩
end
end Mini
/-! Mini, exact: name = [comprehension], stored ahead of the block's end. -/
namespace Mini
open PySem PySem.Spec PyProof.Rows L2

section
variable {C : Cz} {T : Tb} {G : Nat → Option D} {Φ : Fn} {B : Bk} {po : Option Addr} {ρ ρ' ρ1 ρ2 : En} {τ τ' : List (Option Value)} {O O' : Om} {s s' : Shared}
variable {pos p1 p2 : Pos}
theorem ExtS.drop {X Y : Addr → Prop} (y : ExtS X ρ τ O s ρ' τ' O' s') (h : ∀ b, X b → Y b ∨ s.heap.get? b = none) : ExtS Y ρ τ O s ρ' τ' O' s' := by
  have dr : ∀ b o, ¬ Y b → s.heap.get? b = some o → ¬ X b := fun b o n e z => by
    rcases h b z with z | z
    · exact n z
    · rw [z] at e; cases e
  exact ⟨y.le, y.tk, fun b o n c e => y.kept b o n (dr b o c e) e, fun b o n c e => y.nw b o n (dr b o c e) e, fun b o c e => y.ow b o (dr b o c e) e, fun b o c e => y.st b o (dr b o c e) e⟩
theorem ns_keep {h h' : Heap} {L : Addr} {m : Str → Option Value} (n : h.Ns L m) (k : ∀ o, h.get? L = some o → h'.get? L = some o) : h'.Ns L m := by
  obtain ⟨o, es, ep, h1, h2, h3⟩ := n
  exact ⟨o, es, ep, k o h1, h2, h3⟩
theorem ps_lcOwn {i : Nat} {nm : Str} {own tg : List Nat} {ownP : List (Str × Nat)} {it : It} {c : Oe} {elt : E} {x tgx ix : Expr} {ifs : List Expr} {scope : Scope} {lpos : Pos} (H : Hy C T G Φ) (hi : PIz C G Φ it tgx ix) (bo : BlkOk C.N C.env.scope scope ownP) (ho : ownP.map (·.2) = own)
    (mt : mTg C.N (relS scope C.env.scope) (fun x => scope.names.lookup x == some .cell) tg tgx = true) (tgs : ∀ i ∈ tg, i ∈ own)
    (hcd : ∀ C', Hy C' T G Φ → C'.N = C.N → C'.env.scope = relS scope C.env.scope → PCz C' G Φ c ifs) (he : ∀ C', Hy C' T G Φ → C'.N = C.N → C'.env.scope = relS scope C.env.scope → PEz C' G Φ elt x)
    (hs : ∀ v, foldedSetIterable ix C.env v = pure v) (m : mS C.N C.env.scope C.fn i nm = true) (hsw : swapsWith (.ListComp x [⟨tgx, ix, ifs, 0⟩] scope lpos) (some (.Name nm p1)) pos.line C.env = pure true) :
    PSz C G Φ (.own i (.comp own elt tg it c)) (.Assign [.Name nm p1] (.ListComp x [⟨tgx, ix, ifs, 0⟩] scope lpos) pos) := ⟨fun B po ρ τ O s Q E fl ρ' S h q => by
  simp only [ex, allocE, if_true] at h
  split at h
  · rename_i d ρ1 h1
    rw [Option.map_eq_some_iff] at h
    obtain ⟨ρ2, h2, e2⟩ := h
    cases e2
    rw [exec_Assign_Name_used _ _ _ _ hsw]
    refine wpAny_bind (wpAny_standAt (wpAny_bind ?_))
    show wpAny _ C.A (do let _ ← comprehension (.ListComp x [⟨tgx, ix, ifs, 0⟩] scope lpos) scope C.env (firstIterPos [⟨tgx, ix, ifs, 0⟩] lpos) (newList []) false (eval ix C.env) (some (assign (.Name nm p1) C.env))) _ _ s
    refine wpAny_bind (thn (comp_core (Q := fun _ s' => Q .next s') H hi bo ho mt tgs hcd he hs (some (assign (.Name nm p1) C.env)) _ S h1 fun p O' s' L mm S' x' f ow fL ne hn => ?_) fun _ s' hq => wpAny_pure (wpAny_pure hq))
    show wpAny _ _ (assign (.Name nm p1) C.env (.ref p)) _ _ _
    refine wpAny_assign_Name (asg_own S' m h2 f ow fun h' t' S2 tk k => ⟨mm, ns_keep hn (fun o e => k L o fL.st e), fun h'' sb => ?_⟩)
    obtain ⟨hil, e3⟩ := set_own h2
    have x2 := ext_own (d := d) x'.weak.toS f.nw hil tk k
    rw [← e3] at x2
    have fL2 : Fre C B ρ' (τ.set i (some (.ref p))) O' s.heap L := ⟨fL.nw, fL.o, fL.bk, fL.bs, fL.st, fun ⟨j, y, a1, a2, a3⟩ => by
      rw [e3] at a1
      by_cases hj : j = i
      · subst hj
        by_cases hl : j < τ.length
        · rw [List.getElem?_set_self hl] at a3
          cases a3; exact ne rfl
        · rw [List.getElem?_eq_none (by rw [List.length_set]; omega)] at a3; cases a3
      · rw [List.getElem?_set_ne (Ne.symm hj)] at a1 a3
        exact fL.ow ⟨j, y, a1, a2, a3⟩⟩
    obtain ⟨S3, x3⟩ := S2.gone fL2 S.cellOld sb
    refine q _ _ O' _ S3 (((x2.imp (Y := fun b => C.St b ∨ b = L) fun b hb => .inl hb).trans (x3.imp (Y := fun b => C.St b ∨ b = L) fun b hb => .inr hb).toS).drop fun b hb => ?_) .nx
    rcases hb with hb | hb
    · exact .inl hb
    · exact .inr (by rw [hb]; exact fL.nw)
  · cases h⟩
theorem ps_lcSet {i : Nat} {nm : Str} {own tg : List Nat} {ownP : List (Str × Nat)} {it : It} {c : Oe} {elt : E} {x tgx ix : Expr} {ifs : List Expr} {scope : Scope} {lpos : Pos} (H : Hy C T G Φ) (hi : PIz C G Φ it tgx ix) (bo : BlkOk C.N C.env.scope scope ownP) (ho : ownP.map (·.2) = own)
    (mt : mTg C.N (relS scope C.env.scope) (fun x => scope.names.lookup x == some .cell) tg tgx = true) (tgs : ∀ i ∈ tg, i ∈ own)
    (hcd : ∀ C', Hy C' T G Φ → C'.N = C.N → C'.env.scope = relS scope C.env.scope → PCz C' G Φ c ifs) (he : ∀ C', Hy C' T G Φ → C'.N = C.N → C'.env.scope = relS scope C.env.scope → PEz C' G Φ elt x)
    (hs : ∀ v, foldedSetIterable ix C.env v = pure v) (m : mS C.N C.env.scope C.fn i nm = true) (hsw : swapsWith (.ListComp x [⟨tgx, ix, ifs, 0⟩] scope lpos) (some (.Name nm p1)) pos.line C.env = pure true) :
    PSz C G Φ (.set i (.comp own elt tg it c)) (.Assign [.Name nm p1] (.ListComp x [⟨tgx, ix, ifs, 0⟩] scope lpos) pos) := ⟨fun B po ρ τ O s Q E fl ρ' S h q => by
  simp only [ex, isBrw, Bool.false_eq_true, if_false] at h
  split at h
  · rename_i d ρ1 h1
    rw [Option.map_eq_some_iff] at h
    obtain ⟨ρ2, h2, e2⟩ := h
    cases e2
    rw [exec_Assign_Name_used _ _ _ _ hsw]
    refine wpAny_bind (wpAny_standAt (wpAny_bind ?_))
    show wpAny _ C.A (do let _ ← comprehension (.ListComp x [⟨tgx, ix, ifs, 0⟩] scope lpos) scope C.env (firstIterPos [⟨tgx, ix, ifs, 0⟩] lpos) (newList []) false (eval ix C.env) (some (assign (.Name nm p1) C.env))) _ _ s
    refine wpAny_bind (thn (comp_core (Q := fun _ s' => Q .next s') H hi bo ho mt tgs hcd he hs (some (assign (.Name nm p1) C.env)) _ S h1 fun p O' s' L mm S' x' f ow fL ne hn => ?_) fun _ s' hq => wpAny_pure (wpAny_pure hq))
    show wpAny _ _ (assign (.Name nm p1) C.env (.ref p)) _ _ _
    obtain ⟨o, eo⟩ := ow.some
    rw [eo] at ow
    have rr := OwnV.freeze f.o ow
    have S'' := S'.know eo f.o f.bk f.st f.ow
    have x'' : Ext NoX ρ τ O s ρ1 τ (oset O' p o) s' := ⟨x'.le.trans (le_oset f.o), x'.tk, x'.kept, fun b o' n y e => (oset_ne fun z => by rw [z, f.nw] at e; cases e).trans (x'.nw b o' n y e), x'.ow, x'.st⟩
    have ne' : L ≠ p := fun z => ne z.symm
    refine wpAny_assign_Name (asg_name S'' m h2 rr fun s2 S2 x2 => ⟨mm, ns_keep hn (fun o e => x2.kept L o fL.ow fL.st e), fun h'' sb => ?_⟩)
    have fL2 : Fre C B ρ' (τ.set i (some (.ref p))) (oset O' p o) s.heap L := ⟨fL.nw, by rw [oset_ne ne']; exact fL.o, fL.bk, fL.bs, fL.st, fun hh => fL.ow (x2.ow _ hh)⟩
    obtain ⟨S3, x3⟩ := S2.gone fL2 S.cellOld sb
    refine q _ _ _ _ S3 ((((x''.weak.toS.trans x2.toS).imp (Y := fun b => C.St b ∨ b = L) fun b hb => .inl hb).trans (x3.imp (Y := fun b => C.St b ∨ b = L) fun b hb => .inr hb).toS).drop fun b hb => ?_) .nx
    rcases hb with hb | hb
    · exact .inl hb
    · exact .inr (by rw [hb]; exact fL.nw)
  · cases h⟩
end
end Mini
/-! Mini, exact: name = {dict comprehension}, stored ahead of the block's end. -/
namespace Mini
open PySem PySem.Spec PyProof.Rows L2

section
variable {C : Cz} {T : Tb} {G : Nat → Option D} {Φ : Fn} {B : Bk} {po : Option Addr} {ρ ρ' ρ1 ρ2 : En} {τ τ' : List (Option Value)} {O O' : Om} {s s' : Shared}
variable {pos p1 p2 : Pos}
theorem ps_dcOwn {i : Nat} {nm : Str} {own tg : List Nat} {ownP : List (Str × Nat)} {it : It} {c : Oe} {ke ve : E} {kx vx tgx ix : Expr} {ifs : List Expr} {scope : Scope} {lpos : Pos} (H : Hy C T G Φ) (hi : PIz C G Φ it tgx ix) (bo : BlkOk C.N C.env.scope scope ownP) (ho : ownP.map (·.2) = own)
    (mt : mTg C.N (relS scope C.env.scope) (fun x => scope.names.lookup x == some .cell) tg tgx = true) (tgs : ∀ i ∈ tg, i ∈ own)
    (hcd : ∀ C', Hy C' T G Φ → C'.N = C.N → C'.env.scope = relS scope C.env.scope → PCz C' G Φ c ifs) (hke : ∀ C', Hy C' T G Φ → C'.N = C.N → C'.env.scope = relS scope C.env.scope → PEz C' G Φ ke kx) (he : ∀ C', Hy C' T G Φ → C'.N = C.N → C'.env.scope = relS scope C.env.scope → PEz C' G Φ ve vx)
    (hs : ∀ v, foldedSetIterable ix C.env v = pure v) (m : mS C.N C.env.scope C.fn i nm = true) (hsw : swapsWith (.DictComp kx vx [⟨tgx, ix, ifs, 0⟩] scope lpos) (some (.Name nm p1)) pos.line C.env = pure true) :
    PSz C G Φ (.own i (.dcomp own ke ve tg it c)) (.Assign [.Name nm p1] (.DictComp kx vx [⟨tgx, ix, ifs, 0⟩] scope lpos) pos) := ⟨fun B po ρ τ O s Q E fl ρ' S h q => by
  simp only [ex, allocE, if_true] at h
  split at h
  · rename_i d ρ1 h1
    rw [Option.map_eq_some_iff] at h
    obtain ⟨ρ2, h2, e2⟩ := h
    cases e2
    rw [exec_Assign_Name_used _ _ _ _ hsw]
    refine wpAny_bind (wpAny_standAt (wpAny_bind ?_))
    show wpAny _ C.A (do let _ ← comprehension (.DictComp kx vx [⟨tgx, ix, ifs, 0⟩] scope lpos) scope C.env (firstIterPos [⟨tgx, ix, ifs, 0⟩] lpos) newDict false (eval ix C.env) (some (assign (.Name nm p1) C.env))) _ _ s
    refine wpAny_bind (thn (dcomp_core (Q := fun _ s' => Q .next s') H hi bo ho mt tgs hcd hke he hs (some (assign (.Name nm p1) C.env)) _ S h1 fun p O' s' L mm S' x' f ow fL ne hn => ?_) fun _ s' hq => wpAny_pure (wpAny_pure hq))
    show wpAny _ _ (assign (.Name nm p1) C.env (.ref p)) _ _ _
    refine wpAny_assign_Name (asg_own S' m h2 f ow fun h' t' S2 tk k => ⟨mm, ns_keep hn (fun o e => k L o fL.st e), fun h'' sb => ?_⟩)
    obtain ⟨hil, e3⟩ := set_own h2
    have x2 := ext_own (d := d) x'.weak.toS f.nw hil tk k
    rw [← e3] at x2
    have fL2 : Fre C B ρ' (τ.set i (some (.ref p))) O' s.heap L := ⟨fL.nw, fL.o, fL.bk, fL.bs, fL.st, fun ⟨j, y, a1, a2, a3⟩ => by
      rw [e3] at a1
      by_cases hj : j = i
      · subst hj
        by_cases hl : j < τ.length
        · rw [List.getElem?_set_self hl] at a3
          cases a3; exact ne rfl
        · rw [List.getElem?_eq_none (by rw [List.length_set]; omega)] at a3; cases a3
      · rw [List.getElem?_set_ne (Ne.symm hj)] at a1 a3
        exact fL.ow ⟨j, y, a1, a2, a3⟩⟩
    obtain ⟨S3, x3⟩ := S2.gone fL2 S.cellOld sb
    refine q _ _ O' _ S3 (((x2.imp (Y := fun b => C.St b ∨ b = L) fun b hb => .inl hb).trans (x3.imp (Y := fun b => C.St b ∨ b = L) fun b hb => .inr hb).toS).drop fun b hb => ?_) .nx
    rcases hb with hb | hb
    · exact .inl hb
    · exact .inr (by rw [hb]; exact fL.nw)
  · cases h⟩
theorem ps_dcSet {i : Nat} {nm : Str} {own tg : List Nat} {ownP : List (Str × Nat)} {it : It} {c : Oe} {ke ve : E} {kx vx tgx ix : Expr} {ifs : List Expr} {scope : Scope} {lpos : Pos} (H : Hy C T G Φ) (hi : PIz C G Φ it tgx ix) (bo : BlkOk C.N C.env.scope scope ownP) (ho : ownP.map (·.2) = own)
    (mt : mTg C.N (relS scope C.env.scope) (fun x => scope.names.lookup x == some .cell) tg tgx = true) (tgs : ∀ i ∈ tg, i ∈ own)
    (hcd : ∀ C', Hy C' T G Φ → C'.N = C.N → C'.env.scope = relS scope C.env.scope → PCz C' G Φ c ifs) (hke : ∀ C', Hy C' T G Φ → C'.N = C.N → C'.env.scope = relS scope C.env.scope → PEz C' G Φ ke kx) (he : ∀ C', Hy C' T G Φ → C'.N = C.N → C'.env.scope = relS scope C.env.scope → PEz C' G Φ ve vx)
    (hs : ∀ v, foldedSetIterable ix C.env v = pure v) (m : mS C.N C.env.scope C.fn i nm = true) (hsw : swapsWith (.DictComp kx vx [⟨tgx, ix, ifs, 0⟩] scope lpos) (some (.Name nm p1)) pos.line C.env = pure true) :
    PSz C G Φ (.set i (.dcomp own ke ve tg it c)) (.Assign [.Name nm p1] (.DictComp kx vx [⟨tgx, ix, ifs, 0⟩] scope lpos) pos) := ⟨fun B po ρ τ O s Q E fl ρ' S h q => by
  simp only [ex, isBrw, Bool.false_eq_true, if_false] at h
  split at h
  · rename_i d ρ1 h1
    rw [Option.map_eq_some_iff] at h
    obtain ⟨ρ2, h2, e2⟩ := h
    cases e2
    rw [exec_Assign_Name_used _ _ _ _ hsw]
    refine wpAny_bind (wpAny_standAt (wpAny_bind ?_))
    show wpAny _ C.A (do let _ ← comprehension (.DictComp kx vx [⟨tgx, ix, ifs, 0⟩] scope lpos) scope C.env (firstIterPos [⟨tgx, ix, ifs, 0⟩] lpos) newDict false (eval ix C.env) (some (assign (.Name nm p1) C.env))) _ _ s
    refine wpAny_bind (thn (dcomp_core (Q := fun _ s' => Q .next s') H hi bo ho mt tgs hcd hke he hs (some (assign (.Name nm p1) C.env)) _ S h1 fun p O' s' L mm S' x' f ow fL ne hn => ?_) fun _ s' hq => wpAny_pure (wpAny_pure hq))
    show wpAny _ _ (assign (.Name nm p1) C.env (.ref p)) _ _ _
    obtain ⟨o, eo⟩ := ow.some
    rw [eo] at ow
    have rr := OwnV.freeze f.o ow
    have S'' := S'.know eo f.o f.bk f.st f.ow
    have x'' : Ext NoX ρ τ O s ρ1 τ (oset O' p o) s' := ⟨x'.le.trans (le_oset f.o), x'.tk, x'.kept, fun b o' n y e => (oset_ne fun z => by rw [z, f.nw] at e; cases e).trans (x'.nw b o' n y e), x'.ow, x'.st⟩
    have ne' : L ≠ p := fun z => ne z.symm
    refine wpAny_assign_Name (asg_name S'' m h2 rr fun s2 S2 x2 => ⟨mm, ns_keep hn (fun o e => x2.kept L o fL.ow fL.st e), fun h'' sb => ?_⟩)
    have fL2 : Fre C B ρ' (τ.set i (some (.ref p))) (oset O' p o) s.heap L := ⟨fL.nw, by rw [oset_ne ne']; exact fL.o, fL.bk, fL.bs, fL.st, fun hh => fL.ow (x2.ow _ hh)⟩
    obtain ⟨S3, x3⟩ := S2.gone fL2 S.cellOld sb
    refine q _ _ _ _ S3 ((((x''.weak.toS.trans x2.toS).imp (Y := fun b => C.St b ∨ b = L) fun b hb => .inl hb).trans (x3.imp (Y := fun b => C.St b ∨ b = L) fun b hb => .inr hb).toS).drop fun b hb => ?_) .nx
    rcases hb with hb | hb
    · exact .inl hb
    · exact .inr (by rw [hb]; exact fL.nw)
  · cases h⟩
end
end Mini
/-! Mini, exact: a def's body starts. -/
namespace Mini
open PySem PySem.Spec PyProof.Rows L2

abbrev callCz (C : Cz) (N : List Str) (qual : Str) (scope : Scope) (f : Addr) (cdv : Value) (s : Shared) (t : Nat) : Cz :=
  { C with A := C.A.deeper (envOfC qual scope s.heap.objs.size f cdv), env := envOfC qual scope s.heap.objs.size f cdv, N := N, fn := fun _ => true, os := s.os, t1 := t }
def startT (n : Nat) (us : List Value) : List (Option Value) := us.map some ++ List.replicate (n - us.length) none
section
variable {C : Cz} {N ps : List Str} {qual : Str} {scope : Scope} {f : Addr} {cdv : Value} {s s1 : Shared} {us : List Value} {t : Nat}
theorem startT_at {n i : Nat} {u : Value} (h : (startT n us)[i]? = some (some u)) : us[i]? = some u := by
  unfold startT at h
  by_cases hi : i < us.length
  · rw [List.getElem?_append_left (by simpa using hi), List.getElem?_map] at h
    cases e : us[i]? with
    | none => rw [e] at h; cases h
    | some a => rw [e] at h; cases h; rfl
  · rw [List.getElem?_append_right (by simpa using hi), List.getElem?_replicate] at h
    split at h <;> cases h
theorem iz_start (S : FnScope N ps scope) (mod : Mod C.K C.mg C.base) (hd : C.A.handled = none) (kb : Kept C.base s.heap) (bare : AllBare s.gens) (tk : t ≤ s.toks) (hl : us.length = ps.length)
    (x : InCallC s s.heap.objs.size (bindL (envOfC qual scope s.heap.objs.size f cdv).kindOf (ps.zip us) fun _ => none) (cellsFrom (s.heap.objs.size + 1) scope.names []) (bindC (envOfC qual scope s.heap.objs.size f cdv).kindOf (ps.zip us) fun _ => none) s1) (tk1 : s.toks ≤ s1.toks) :
    Iz (callCz C N qual scope f cdv s t) (startT N.length us) s1 := by
  have hpl : ps.length ≤ N.length := by have := congrArg List.length S.pre; rw [List.length_take] at this; omega
  have hns := x.toInCall.ns
  have hcell := x.cell
  have hap := x.apart
  have hab := x.above
  obtain ⟨h1, tk', rfl, hk⟩ := x.done
  have baseN : ∀ b, s.heap.objs.size ≤ b → C.base.get? b = none := fun b h => by
    cases e : C.base.get? b with
    | none => rfl
    | some o => exact absurd (Nat.lt_of_lt_of_le (Heap.lt_size (kb b o e)) h) (Nat.lt_irrefl _)
  refine ⟨⟨mod, S.kind, rfl, rfl, fun y z c e1 e2 => ?_, fun y hy => ?_, hd, S.nd, baseN _ (Nat.le_refl _), fun y c _ h => baseN c (Nat.le_of_lt (hab y c (PySem.mem_of_lookup h)))⟩,
    fun b o e => hk b o (kb b o e), bare, Nat.le_trans tk tk1, rfl, ⟨_, hns, fun i y u e1 e2 e3 => ?_⟩, fun y c h => ⟨_, hcell y c h⟩, ?_⟩
  · exact name_of_addr hap (PySem.mem_of_lookup e1) (PySem.mem_of_lookup e2)
  · have hy : scope.names.lookup y = some .cell ∨ scope.names.lookup y = some .free := hy
    rcases hy with hy | hy
    · exact cell_has hy
    · exact absurd rfl (S.nofree _ (PySem.mem_of_lookup hy))
  · have hu := startT_at e2
    have hi : i < us.length := (List.getElem?_eq_some_iff.mp hu).1
    have e1 : N[i]? = some y := e1
    have hp : ps[i]? = some y := by
      rw [← S.pre, List.getElem?_take_of_lt (by omega)]; exact e1
    have ndP : ps.Nodup := by rw [← S.pre]; exact S.nd.sublist (List.take_sublist _ _)
    rcases S.par y (List.mem_of_getElem? hp) with k | k
    · exact .inl ⟨k, bindL_get ndP hp hu k⟩
    · obtain ⟨c, e⟩ := cell_has (n := s.heap.objs.size + 1) k
      refine .inr ⟨.inl k, c, e, ?_⟩
      have q := hcell y c e
      rw [bindC_get ndP hp hu (by show scope.names.lookup y ≠ _; rw [k]; decide)] at q
      exact q
  · unfold startT
    show _ = N.length
    rw [List.length_append, List.length_map, List.length_replicate]
    omega
end
end Mini
/-! Mini, exact: a def's state at its start. -/
namespace Mini
open PySem PySem.Spec PyProof.Rows L2

section
variable {P : Program} {w : World} {O : Om} {n k : Nat} {p : Option Addr} {q : Option Nat} {us : List Value} {ds : List D} {io : Option D} {h : Heap}
theorem fzs_at {rest : List Sl} {x : Sl} : ∀ {us : List Value} {ds : List D} {i : Nat}, RepVs P w O n us ds → (∀ (i : Nat) (x : Sl), rest[i]? = some x → x = .un) → (ds.map Sl.fz ++ rest)[i]? = some x → x = .un ∨ ∃ d u, x = .fz d ∧ us[i]? = some u ∧ RepV P w O n u d
  | _, _, i, .nil, hr, e => .inl (hr i x (by simpa using e))
  | _, _, 0, .cons r _, _, e => by
    simp at e
    exact .inr ⟨_, _, e.symm, rfl, r⟩
  | _, _, i + 1, .cons _ rs, hr, e => by
    rcases fzs_at (i := i) rs hr (by simpa using e) with g | ⟨d, u, g1, g2, g3⟩
    · exact .inl g
    · exact .inr ⟨d, u, g1, by simpa using g2, g3⟩
theorem repl_un {m : Nat} : ∀ (i : Nat) (x : Sl), (List.replicate m Sl.un)[i]? = some x → x = .un := fun i x e => by
  rw [List.getElem?_replicate] at e
  split at e <;> cases e
  rfl
theorem start_at {x : Sl} {i : Nat} (a : ArgR P w O n p q us ds) (v : IoV P w O n h p io) (e : (startE k ds q io)[i]? = some x) :
    x = .un ∨ (∃ d u, x = .fz d ∧ us[i]? = some u ∧ RepV P w O n u d) ∨ (∃ c b, x = .io c ∧ q = some i ∧ io = some c ∧ p = some b ∧ us[i]? = some (.ref b)) := by
  cases p with
  | none =>
    cases q with
    | some _ => exact False.elim a
    | none =>
      unfold startE at e
      rcases fzs_at a repl_un e with g | g
      · exact .inl g
      · exact .inr (.inl g)
  | some b =>
    cases q with
    | none => exact False.elim a
    | some q =>
      cases io with
      | none => exact False.elim v
      | some c =>
        obtain ⟨a1, a2⟩ := a
        unfold startE at e
        simp only at e
        have hq : q < us.length := (List.getElem?_eq_some_iff.mp a1).1
        have hl := a2.length
        rw [List.length_eraseIdx_of_lt hq] at hl
        have ht : ((ds.take q).map Sl.fz).length = q := by simp; omega
        rcases Nat.lt_trichotomy i q with hi | hi | hi
        · rw [List.append_assoc, List.getElem?_append_left (by omega)] at e
          simp only [List.getElem?_map, Option.map_eq_some_iff] at e
          obtain ⟨d, e1, e2⟩ := e
          rw [List.getElem?_take_of_lt hi] at e1
          obtain ⟨u, f1, f2⟩ := a2.get e1
          rw [List.getElem?_eraseIdx_of_lt hi] at f1
          exact .inr (.inl ⟨d, u, e2.symm, f1, f2⟩)
        · subst hi
          rw [List.append_assoc, List.getElem?_append_right (by omega), ht, Nat.sub_self] at e
          simp at e
          exact .inr (.inr ⟨c, b, e.symm, rfl, rfl, rfl, a1⟩)
        · rw [List.append_assoc, List.getElem?_append_right (by omega), ht, show i - q = (i - q - 1) + 1 by omega] at e
          simp only [List.cons_append, List.getElem?_cons_succ] at e
          rcases fzs_at (a2.drop q) repl_un e with g | ⟨d, u, g1, g2, g3⟩
          · exact .inl g
          · refine .inr (.inl ⟨d, u, g1, ?_, g3⟩)
            rw [List.getElem?_drop, List.getElem?_eraseIdx_of_ge (by omega)] at g2
            rw [← g2]; congr 1; omega
theorem startE_len (hl : ds.length + (if io.isSome then 1 else 0) ≤ k) (hq : q.isSome = io.isSome) (hq' : ∀ j, q = some j → j ≤ ds.length) : (startE k ds q io).length = k := by
  cases q with
  | none => cases io with
    | some _ => cases hq
    | none => unfold startE; simp at hl ⊢; omega
  | some q => cases io with
    | none => cases hq
    | some c => unfold startE; have := hq' q rfl; simp at hl ⊢; omega
end
end Mini
/-! Mini, exact: a def's state at its start; a call from a body. -/
namespace Mini
open PySem PySem.Spec PyProof.Rows L2

section
variable {C : Cz} {N ps : List Str} {qual : Str} {scope : Scope} {f : Addr} {cdv : Value} {s s1 : Shared} {us : List Value} {ds : List D} {O : Om} {p : Option Addr} {q : Option Nat} {io : Option D} {t : Nat}
theorem callSt {m cm : Str → Option Value} (x : InCallC s s.heap.objs.size m (cellsFrom (s.heap.objs.size + 1) scope.names []) cm s1) {b : Addr} (h : (callCz C N qual scope f cdv s t).St b) : s.heap.get? b = none := by
  rcases h with h | ⟨y, _, h⟩
  · rw [h]; exact Heap.get?_none_of_le (Nat.le_refl _)
  · exact Heap.get?_none_of_le (Nat.le_of_lt (x.above y b (PySem.mem_of_lookup h)))
theorem IoV.get {P : Program} {w : World} {n : Nat} {h : Heap} {b : Addr} {c : D} (v : IoV P w O n h (some b) (some c)) : ∃ o, h.get? b = some o := by
  obtain ⟨_, v⟩ := v
  cases c <;> first | exact False.elim v | skip
  · obtain ⟨us, k, h1, _⟩ := v; exact ⟨_, h1⟩
  · obtain ⟨x, vs, h1, _⟩ := v; exact ⟨_, h1⟩
theorem sz_start {m cm : Str → Option Value} (x : InCallC s s.heap.objs.size m (cellsFrom (s.heap.objs.size + 1) scope.names []) cm s1) (I : Iz (callCz C N qual scope f cdv s t) (startT N.length us) s1) (tk : s.toks ≤ s1.toks)
    (g0 : Le C.O0 O) (sub : ∀ b o, O b = some o → s.heap.get? b = some o) (nb : ∀ b, p = some b → C.base.get? b = none) (a : ArgR C.prog C.w O s.toks p q us ds) (v : IoV C.prog C.w O s.toks s.heap p io)
    (hl : (startE N.length ds q io).length = N.length) (hu : us.length ≤ N.length) :
    Sz (callCz C N qual scope f cdv s t) (fun _ => none) p (startE N.length ds q io) (startT N.length us) O s1 := by
  have kp : Kept s.heap s1.heap := by
    obtain ⟨h1, tk', rfl, hk⟩ := x.done
    exact hk
  have tat : ∀ {i : Nat} {u : Value}, us[i]? = some u → (startT N.length us)[i]? = some (some u) := fun {i u} e => by
    have hi : i < us.length := (List.getElem?_eq_some_iff.mp e).1
    unfold startT
    rw [List.getElem?_append_left (by simpa using hi), List.getElem?_map, e]; rfl
  refine ⟨I, g0, fun b o e => kp b o (sub b o e), (fun b o z e => by cases e), fun b hb => ⟨?_, rfl⟩, (by rw [hl]; exact I.len.symm), fun i y e => ?_, fun i j y z b hij e1 e2 h1 h2 _ _ => ?_⟩
  · cases e : O b with
    | none => rfl
    | some o => have := sub b o e; rw [callSt x hb] at this; cases this
  · rcases start_at a v e with rfl | ⟨d, u, rfl, h1, h2⟩ | ⟨c, b, rfl, rfl, rfl, rfl, h1⟩
    · trivial
    · exact ⟨u, tat h1, h2.mono (Le.refl _) tk⟩
    · obtain ⟨o, ho⟩ := v.get
      have v2 := v
      obtain ⟨v0, v1⟩ := v2
      refine ⟨b, tat h1, v0, rfl, fun hb => ?_, nb b rfl, rfl, ?_⟩
      · rw [callSt x hb] at ho; cases ho
      · have := OwnV.mono (C := C) (Le.refl O) tk v1
        rw [ho] at this
        rw [kp b o ho]; exact this
  · have io1 : ∀ {i : Nat} {y : Sl}, (startE N.length ds q io)[i]? = some y → ownS y = true → q = some i := fun {i y} e h => by
      rcases start_at a v e with rfl | ⟨d, u, rfl, _, _⟩ | ⟨c, b, rfl, hq, _⟩
      · cases h
      · cases h
      · exact hq
    have := io1 e1 h1
    rw [io1 e2 h2] at this
    cases this
    exact absurd rfl hij
end
end Mini
/-! Mini, exact: a call from a def's body. -/
namespace Mini
open PySem PySem.Spec PyProof.Rows L2

theorem call_core {t : Nat} {C : Cz} {G : Nat → Option D} {Φ Φ' : Fn} {d : Df} {F : Nat} {k : Nat} {f : Addr} {name qual : Str} {params : Arguments} {body : List Stmt} {scope : Scope} {dV kV doc pm cdv ct oc : Value} {an od : Option Addr}
    {osl : Array (Option Value)} {N ps : List Str} (mod : Mod C.K C.mg C.base) (hr : Room (k + 1) C.A)
    (lk : C.K.lookup f = some ⟨oc, od, .func (PySem.W.fnOf name qual params body scope dV kV doc pm an cdv ct), osl⟩) (hcd : PySem.W.codeIn C.K cdv qual = true)
    (hb : Binds C.K (PySem.W.fnOf name qual params body scope dV kV doc pm an cdv ct) ps []) (S : FnScope N ps scope)
    (hn : d.n = N.length) (hp : d.ps = ps.length)
    (hΦ : ∀ ds io, Φ F ds io = run G Φ' d ds io)
    (hbody : ∀ s : Shared, PSsz (callCz C N qual scope f cdv s t) G Φ' d.body body) 
    (O : Om) (s : Shared) (us : List Value) (ds : List D) (p : Option Addr) (io : Option D) (r : D) (io' : Option D) (Q : Value → Shared → Prop) (R : Result → Shared → Prop) (hR : ∀ v s', Q v s' → R (.ok (.ret v)) s')
    (kb : Kept C.base s.heap) (bare : AllBare s.gens) (tk : t ≤ s.toks) (os : s.os = C.os) (sub : ∀ b o, O b = some o → s.heap.get? b = some o) (g0 : Le C.O0 O) (nb : ∀ b, p = some b → C.base.get? b = none)
    (a : ArgR C.prog C.w O s.toks p d.io us ds) (v : IoV C.prog C.w O s.toks s.heap p io) (hr' : Φ F ds io = some (r, io'))
    (hq : ∀ u O' s', GrX p O s O' s' → RepV C.prog C.w O' s'.toks u r → IoV C.prog C.w O' s'.toks s'.heap p io' → Q u s') :
    codeAny (model C.prog C.w) C.A (.call (.ref f) ⟨us, []⟩) R s := by
  rw [hΦ] at hr'
  unfold run at hr'
  by_cases hc : d.io.isSome = io.isSome ∧ ds.length + (if io.isSome then 1 else 0) = d.ps
  · rw [if_pos hc] at hr'
    obtain ⟨c1, c2⟩ := hc
    have hps : ps.length ≤ N.length := by have := congrArg List.length S.pre; rw [List.length_take] at this; omega
    -- lengths
    have hus : us.length = ps.length ∧ (∀ j, d.io = some j → j ≤ ds.length) := by
      cases p with
      | none =>
        cases hq : d.io with
        | some _ => rw [hq] at a; exact False.elim a
        | none =>
          rw [hq] at a c1
          have := RepVs.length a
          cases io with
          | some _ => cases c1
          | none => exact ⟨by simp at c2; omega, fun j e => by cases e⟩
      | some b =>
        cases hq : d.io with
        | none => rw [hq] at a; exact False.elim a
        | some q =>
          rw [hq] at a c1
          obtain ⟨a1, a2⟩ := a
          have h1 : q < us.length := (List.getElem?_eq_some_iff.mp a1).1
          have := a2.length
          rw [List.length_eraseIdx_of_lt h1] at this
          cases io with
          | none => cases c1
          | some _ => exact ⟨by simp at c2; omega, fun j e => by cases e; omega⟩
    obtain ⟨hl, hj⟩ := hus
    have KX : C.K.In s.heap := mod.kin.keeps fun b o e => kb b o e
    have lim : s.heap.NoLimit := mod.nolimit.keeps fun b o e => kb b o e
    have hkind : ∀ y ∈ ps.zip us, scope.names.lookup y.1 = some .local ∨ (scope.names.lookup y.1 = some .cell ∧ ((cellsFrom (s.heap.objs.size + 1) scope.names []).lookup y.1).isSome = true) := fun ⟨n, v⟩ hy => by
      rcases S.par n (List.of_mem_zip hy).1 with q | q
      · exact .inl q
      · exact .inr ⟨q, PySem.W.cellsFrom_some _ _ _ (.inl q)⟩
    have hb' := hb s us KX (by simpa using hl)
    rw [List.append_nil] at hb'
    refine codeAny_call_function hr.depth (KX _ _ lk) rfl S.co S.gen rfl (PySem.W.codeRec_of KX hcd) (hb' _ _ _ _ ?_)
    refine wpAny_with_toks (n := s.toks) (Nat.le_refl _) (wpAny_newFunctionEnv_cells S.kind hkind fun env he s1 x tk1 => ?_)
    subst he
    refine ⟨lim.keeps x.toInCall.keep, codeAny_func ?_⟩
    have hd : C.A.handled = none := hr.hd
    have I := iz_start (C := C) (cdv := cdv) (f := f) (qual := qual) S mod hd kb bare tk hl x tk1
    have hE : (startE N.length ds d.io io).length = N.length := startE_len (by rw [c2, hp]; exact hps) c1 hj
    have S0 := sz_start (C := C) (q := d.io) x I tk1 g0 sub nb a v hE (by omega)
    have key : ∀ {ρ' : En} {τ' : List (Option Value)} {O' : Om} {s' : Shared} {u : Value}, Sz (callCz C N qual scope f cdv s t) (fun _ => none) p ρ' τ' O' s' →
        ExtS (callCz C N qual scope f cdv s t).St (startE N.length ds d.io io) (startT N.length us) O s1 ρ' τ' O' s' → RepV C.prog C.w O' s'.toks u r → lastIo d.io ρ' = some io' → R (.ok (.ret u)) s' := by
      intro ρ' τ' O' s' u S' X ru hla
      have kp : Kept s.heap s1.heap := by
        obtain ⟨h1, tk', rfl, hk⟩ := x.done
        exact hk
      have nst : ∀ b o, s.heap.get? b = some o → ¬ (callCz C N qual scope f cdv s t).St b := fun b o e h => by
        rw [callSt x h] at e; cases e
      have own1 : ∀ b, ownA (startE N.length ds d.io io) (startT N.length us) b → p = some b := fun b ⟨i, y, e1, e2, e3⟩ => by
        have q := S0.at_ i y e1
        cases y with
        | un => cases e2
        | fz _ => cases e2
        | own dd =>
          rcases start_at a v e1 with h | ⟨_, _, h, _⟩ | ⟨_, _, h, _⟩ <;> cases h
        | io dd =>
          obtain ⟨b', q1, _, _, _, _, q2, _⟩ := q
          rw [e3] at q1; cases q1
          exact q2
      have fin : IoV C.prog C.w O' s'.toks s'.heap p io' := by
        cases p with
        | none =>
          cases hq : d.io with
          | some _ => rw [hq] at a; exact False.elim a
          | none => rw [hq] at hla; simp only [lastIo] at hla; cases hla; trivial
        | some b =>
          cases hq : d.io with
          | none => rw [hq] at a; exact False.elim a
          | some q =>
            rw [hq] at hla
            simp only [lastIo] at hla
            split at hla
            · rename_i c e
              cases hla
              obtain ⟨b', q1, q2, _, _, _, q3, q4⟩ := S'.at_ q _ e
              cases q3
              exact ⟨q2, q4⟩
            · cases hla
      refine hR u s' (hq u O' s' ⟨fun b o hb e => X.kept b o (fun h => hb (own1 b h)) (nst b o e) (kp b o e), X.le, fun b o e => ?_, S'.sub, Nat.le_trans tk1 X.tk, S'.iz.bare, S'.iz.os⟩ ru fin)
      by_cases hbp : p = some b
      · subst hbp
        cases io with
        | none => exact False.elim v
        | some c =>
          cases io' with
          | none => exact False.elim fin
          | some c' => rw [fin.1, v.1]
      · exact X.nw b o (fun h => hbp (own1 b h)) (nst b o e) (kp b o e)
    split at hr'
    · rename_i ρ' e1
      rw [Option.map_eq_some_iff] at hr'
      obtain ⟨c, e2, e3⟩ := hr'
      cases e3
      rw [hn] at e1
      refine (hbody s).run _ p _ _ O s1 _ _ _ ρ' S0 e1 fun fl τ' O' s' S' X' rr => ?_
      cases rr
      exact key S' X' .non e2
    · rename_i r' ρ' e1
      rw [Option.map_eq_some_iff] at hr'
      obtain ⟨c, e2, e3⟩ := hr'
      cases e3
      rw [hn] at e1
      refine (hbody s).run _ p _ _ O s1 _ _ _ ρ' S0 e1 fun fl τ' O' s' S' X' rr => ?_
      cases rr with
      | ret ru => exact key S' X' ru e2
    · cases hr'
  · rw [if_neg hc] at hr'; cases hr'
theorem callz_of {C : Cz} {G : Nat → Option D} {Φ Φ' : Fn} {d : Df} {F : Nat} {k : Nat} {f : Addr} {name qual : Str} {params : Arguments} {body : List Stmt} {scope : Scope} {dV kV doc pm cdv ct oc : Value} {an od : Option Addr}
    {osl : Array (Option Value)} {N ps : List Str} (mod : Mod C.K C.mg C.base) (hr : Room (k + 1) C.A)
    (lk : C.K.lookup f = some ⟨oc, od, .func (PySem.W.fnOf name qual params body scope dV kV doc pm an cdv ct), osl⟩) (hcd : PySem.W.codeIn C.K cdv qual = true)
    (hb : Binds C.K (PySem.W.fnOf name qual params body scope dV kV doc pm an cdv ct) ps []) (S : FnScope N ps scope)
    (hn : d.n = N.length) (hp : d.ps = ps.length)
    (hΦ : ∀ ds io, Φ F ds io = run G Φ' d ds io)
    (hbody : ∀ s : Shared, PSsz (callCz C N qual scope f cdv s 1) G Φ' d.body body) : CallZ C Φ F f d.io :=
  fun O s us ds p io r io' Q E kb bare tk os sub g0 nb a v hr' hq =>
    wpAny_call (call_core (t := 1) mod hr lk hcd hb S hn hp hΦ hbody O s us ds p io r io' Q _ (fun _ _ h => h) kb bare tk os sub g0 nb a v hr' hq)
end Mini
/-! Mini, exact: the parts of a, b = x, y. -/
namespace Mini
open PySem PySem.Spec PyProof.Rows L2

section
variable {C : Cz} {T : Tb} {G : Nat → Option D} {Φ : Fn} {B : Bk} {po : Option Addr} {ρ ρ' ρ1 ρ2 : En} {τ τ' : List (Option Value)} {O O' : Om} {s s' : Shared} {h0 h1 : Heap} {p : Addr} {ob : Obj}
variable {e : E} {es : Es} {x : Expr} {xs : List Expr} {u v : Value} {o : Bool} {os : List Bool} {d : D} {us : List Value} {ds : List D}
def slOf (o : Bool) (d : D) : Sl := if o then .own d else .fz d
/-- a value that waits for its place -/
def Pv (C : Cz) (B : Bk) (ρ : En) (τ : List (Option Value)) (O : Om) (s : Shared) (h0 : Heap) (u : Value) (o : Bool) (d : D) : Prop :=
  if o then ∃ p, u = .ref p ∧ Fre C B ρ τ O h0 p ∧ OwnV C.prog C.w O s.toks p (s.heap.get? p) d else RepV C.prog C.w O s.toks u d
theorem Fre.ext (f : Fre C B ρ τ O h0 p) (x : Ext NoX ρ τ O s ρ' τ O' s') (e : s.heap.get? p = some ob) : Fre C B ρ' τ O' h0 p :=
  ⟨f.nw, (x.nw p ob f.ow (fun h => h) e).trans f.o, f.bk, f.bs, f.st, fun h => f.ow (x.ow p h)⟩
theorem Pv.ext (h : Pv C B ρ τ O s h0 u o d) (x : Ext NoX ρ τ O s ρ' τ O' s') : Pv C B ρ' τ O' s' h0 u o d := by
  cases o with
  | false => exact RepV.mono x.le x.tk h
  | true =>
    obtain ⟨p, rfl, f, ow⟩ := h
    obtain ⟨ob, e⟩ := ow.some
    refine ⟨p, rfl, f.ext x e, ?_⟩
    have := OwnV.mono (C := C) x.le x.tk ow
    rw [x.kept p ob f.ow (fun h => h) e, ← e]
    exact this
theorem Pv.sl (S : Sz C B po ρ τ O s) (h : Pv C B ρ τ O s h0 u o d) : SlZ C B po O s.toks s.heap (some (some u)) (slOf o d) := by
  cases o with
  | false => exact ⟨u, rfl, h⟩
  | true =>
    obtain ⟨p, rfl, f, ow⟩ := h
    exact ⟨p, rfl, f.o, f.bk, f.st, f.bs, trivial, ow⟩
theorem Pv.atH (h : Pv C B ρ τ O s h1 u o d) (k : ∀ b o, h0.get? b = some o → ∃ o', h1.get? b = some o') : Pv C B ρ τ O s h0 u o d := by
  cases o with
  | false => exact h
  | true =>
    obtain ⟨p, rfl, f, ow⟩ := h
    refine ⟨p, rfl, ⟨?_, f.o, f.bk, f.bs, f.st, f.ow⟩, ow⟩
    cases e : h0.get? p with
    | none => rfl
    | some ob => obtain ⟨o', e'⟩ := k _ _ e; rw [f.nw] at e'; cases e'
structure PXz (C : Cz) (G : Nat → Option D) (Φ : Fn) (o : Bool) (e : E) (x : Expr) : Prop where
  run : ∀ (B : Bk) (po : Option Addr) (ρ : En) (τ : List (Option Value)) (O : Om) (s : Shared) (Q E : Value → Shared → Prop) (d : D) (ρ' : En), Sz C B po ρ τ O s → ev G Φ e ρ = some (d, ρ') →
    (∀ u O' s', Sz C B po ρ' τ O' s' → Ext NoX ρ τ O s ρ' τ O' s' → Pv C B ρ' τ O' s' s.heap u o d → Q u s') → wpAny (model C.prog C.w) C.A (eval x C.env) Q E s
theorem px_fz (hb : isBrw e = false) (pe : PEz C G Φ e x) : PXz C G Φ false e x := ⟨fun B po ρ τ O s Q E d ρ' S h q => pe.run B po ρ τ O s Q E d ρ' S h fun u O' s' S' x' l => q u O' s' S' x' (l.rep hb)⟩
theorem px_own (pn : PNz C G Φ e x) : PXz C G Φ true e x := ⟨fun B po ρ τ O s Q E d ρ' S h q => pn.run B po ρ τ O s Q E d ρ' S h fun p O' s' S' x' f ow => q _ O' s' S' x' ⟨p, rfl, f, ow⟩⟩
/-- own values among us are none of v -/
def Apart (v : Value) : List Bool → List Value → Prop
  | true :: os, u :: us => u ≠ v ∧ Apart v os us
  | false :: os, _ :: us => Apart v os us
  | _, _ => True
def ParP (C : Cz) (B : Bk) (ρ : En) (τ : List (Option Value)) (O : Om) (s : Shared) (h0 : Heap) : List Bool → List Value → List D → Prop
  | [], us, ds => us = [] ∧ ds = []
  | o :: os, us, ds => ∃ u us' d ds', us = u :: us' ∧ ds = d :: ds' ∧ Pv C B ρ τ O s h0 u o d ∧ (o = true → Apart u os us') ∧ ParP C B ρ τ O s h0 os us' ds'
theorem ParP.atH (k : ∀ b o, h0.get? b = some o → ∃ o', h1.get? b = some o') : ∀ {os : List Bool} {us : List Value} {ds : List D}, ParP C B ρ τ O s h1 os us ds → ParP C B ρ τ O s h0 os us ds
  | [], _, _, h => h
  | o :: os, _, _, ⟨u, us', d, ds', e1, e2, p, a, r⟩ => ⟨u, us', d, ds', e1, e2, p.atH k, a, ParP.atH k r⟩
theorem ParP.apart (e : h0.get? p = some ob) : ∀ {os : List Bool} {us : List Value} {ds : List D}, ParP C B ρ τ O s h0 os us ds → Apart (.ref p) os us
  | [], _, _, h => by obtain ⟨rfl, rfl⟩ := h; trivial
  | false :: os, _, _, ⟨u, us', d, ds', e1, e2, q, a, r⟩ => by
    subst e1
    exact show Apart (.ref p) os us' from ParP.apart e r
  | true :: os, _, _, ⟨u, us', d, ds', e1, e2, q, a, r⟩ => by
    subst e1
    obtain ⟨p', rfl, f, _⟩ := q
    refine ⟨fun z => ?_, ParP.apart e r⟩
    cases z
    rw [f.nw] at e; cases e
structure PPz (C : Cz) (G : Nat → Option D) (Φ : Fn) (os : List Bool) (es : Es) (xs : List Expr) : Prop where
  run : ∀ (pos : Pos) (B : Bk) (po : Option Addr) (ρ : En) (τ : List (Option Value)) (O : Om) (s : Shared) (Q : List Value → Shared → Prop) (E : Value → Shared → Prop) (ds : List D) (ρ' : En), Sz C B po ρ τ O s → evs G Φ es ρ = some (ds, ρ') →
    (∀ us O' s', Sz C B po ρ' τ O' s' → Ext NoX ρ τ O s ρ' τ O' s' → ParP C B ρ' τ O' s' s.heap os us ds → Q us s') → wpAny (model C.prog C.w) C.A (spliced (backTo pos (starEach xs C.env))) Q E s
theorem pp_nil : PPz C G Φ [] .nil [] := ⟨fun pos B po ρ τ O s Q E ds ρ' S h q => by
  simp only [evs] at h
  cases h
  exact Calls.spliced_nil (q [] O s S Ext.refl ⟨rfl, rfl⟩)⟩
theorem pp_cons (px : PXz C G Φ o e x) (pp : PPz C G Φ os es xs) (hs : noStar x = true) : PPz C G Φ (o :: os) (.cons e es) (x :: xs) := ⟨fun pos B po ρ τ O s Q E ds ρ' S h q => by
  simp only [evs] at h
  split at h
  · cases h
  · rename_i hb
    split at h
    · rename_i d1 ρ1 h1
      split at h
      · rename_i ds1 ρ2 h2
        cases h
        rw [star_of hs]
        show wpAny _ _ (spliced ((false, eval x C.env) :: backTo pos (starEach xs C.env))) _ _ s
        refine Calls.spliced_cons (px.run B po ρ τ O s _ E d1 ρ1 S h1 fun u O1 s1 S1 x1 l1 => ?_)
        refine pp.run pos B po ρ1 τ O1 s1 _ E ds1 _ S1 h2 fun us O2 s2 S2 x2 l2 => ?_
        refine q _ O2 s2 S2 (x1.trans x2) ⟨u, us, d1, ds1, rfl, rfl, l1.ext x2, fun ho => ?_, l2.atH fun b o e => x1.st' b o e⟩
        subst ho
        obtain ⟨p, rfl, f, ow⟩ := l1
        obtain ⟨ob, e⟩ := ow.some
        exact l2.apart e
      · cases h
    · cases h⟩
/-- what waits, when one is stored -/
theorem Pv.stored {i : Nat} {o1 : Bool} {d1 : D} {u1 : Value} {h' : Heap} {t' : Nat} (h : Pv C B ρ τ O s h0 u o d) (ap : o = true → o1 = true → u1 ≠ u) (tk : s.toks ≤ t') (k : ∀ b o, ¬ C.St b → s.heap.get? b = some o → h'.get? b = some o) :
    Pv C B (ρ.set i (slOf o1 d1)) (τ.set i (some u1)) O { s with heap := h', toks := t' } h0 u o d := by
  cases o with
  | false => exact RepV.mono (Le.refl _) tk h
  | true =>
    obtain ⟨p, rfl, f, ow⟩ := h
    obtain ⟨ob, e⟩ := ow.some
    refine ⟨p, rfl, ⟨f.nw, f.o, f.bk, f.bs, f.st, fun ⟨j, y, a1, a2, a3⟩ => ?_⟩, ?_⟩
    · by_cases hj : j = i
      · subst hj
        by_cases hl : j < ρ.length
        · rw [List.getElem?_set_self hl] at a1
          cases a1
          cases o1 with
          | false => cases a2
          | true =>
            by_cases hl' : j < τ.length
            · rw [List.getElem?_set_self hl'] at a3
              cases a3
              exact ap rfl rfl rfl
            · rw [List.getElem?_eq_none (by rw [List.length_set]; omega)] at a3; cases a3
        · rw [List.getElem?_eq_none (by rw [List.length_set]; omega)] at a1; cases a1
      · rw [List.getElem?_set_ne (Ne.symm hj)] at a1 a3
        exact f.ow ⟨j, y, a1, a2, a3⟩
    · have := OwnV.mono (C := C) (Le.refl O) tk ow
      show OwnV _ _ _ t' p (h'.get? p) d
      rw [k p ob f.st e, ← e]
      exact this
end
end Mini
/-! Mini, exact: a, b = x, y stored from the right. -/
namespace Mini
open PySem PySem.Spec PyProof.Rows L2

section
variable {C : Cz} {T : Tb} {G : Nat → Option D} {Φ : Fn} {B : Bk} {po : Option Addr} {ρ ρ' ρ1 ρ2 : En} {τ τ' : List (Option Value)} {O O' : Om} {s s' : Shared} {h0 h1 : Heap} {p : Addr} {ob : Obj}
variable {e : E} {es : Es} {x : Expr} {xs : List Expr} {u v : Value} {o : Bool} {os : List Bool} {d : D} {us : List Value} {ds : List D}
def setSl (ρ : En) (i : Nat) (o : Bool) (d : D) : Option En := if o then setOwn ρ i d else setFz ρ i d
theorem set_sl {i : Nat} (h : setSl ρ i o d = some ρ') : i < ρ.length ∧ ρ' = ρ.set i (slOf o d) := by
  cases o with
  | false => exact set_fz h
  | true => exact set_own h
/-- one place is stored; the frame is told from ahead of the whole statement -/
theorem asg_pv {M : Model} {A : Around} {E : Value → Shared → Prop} {i : Nat} {x : Str} {ρ0 : En} {τ0 : List (Option Value)} {O0 : Om} {s0 : Shared} {Q : Unit → Shared → Prop} (S : Sz C B po ρ τ O s) (m : mS C.N C.env.scope C.fn i x = true) (hi : i < ρ.length) (pv : Pv C B ρ τ O s s0.heap u o d)
    (x0 : ExtS C.St ρ0 τ0 O0 s0 ρ τ O s)
    (q : ∀ h' t', Sz C B po (ρ.set i (slOf o d)) (τ.set i (some u)) O { s with heap := h', toks := t' } → s.toks ≤ t' → (∀ b o, ¬ C.St b → s.heap.get? b = some o → h'.get? b = some o) →
      ExtS C.St ρ0 τ0 O0 s0 (ρ.set i (slOf o d)) (τ.set i (some u)) O { s with heap := h', toks := t' } → Q () { s with heap := h', toks := t' }) : wpAny M A (storeName C.env x u) Q E s := by
  refine store_ok S m hi (pv.sl S) (fun hy j y hj e1 e2 z => ?_) fun h' t' S' tk k => q h' t' S' tk k ?_
  · cases o with
    | false => cases hy
    | true =>
      obtain ⟨p, rfl, f, _⟩ := pv
      exact f.ow ⟨j, y, e1, e2, z⟩
  · cases o with
    | false => exact x0.trans (ext_fz S' hi tk k).toS
    | true =>
      obtain ⟨p, rfl, f, _⟩ := pv
      exact ext_own x0 f.nw hi tk k
/-- a, b = x, y: both plain local names, stored from the right -/
theorem ps_par2 {i j : Nat} {o1 o2 : Bool} {nm1 nm2 : Str} {x y : Expr} {px py pt pos : Pos} {kt k2 : Nat} {pt2 : Pos} (m1 : mS C.N C.env.scope C.fn i nm1 = true) (m2 : mS C.N C.env.scope C.fn j nm2 = true) (hij : i ≠ j) (pp : PPz C G Φ [o1, o2] es [x, y])
    (hw : swappedStores [.Tuple [.Name nm1 px, .Name nm2 py] kt pt] (.Tuple [x, y] k2 pt2) C.env = pure (some [nm1, nm2]))
    (hs : swapsWithSole [.Tuple [.Name nm1 px, .Name nm2 py] kt pt] (.Tuple [x, y] k2 pt2) pos.line C.env = pure false) :
    PSz C G Φ (.par [(i, o1), (j, o2)] es) (.Assign [.Tuple [.Name nm1 px, .Name nm2 py] kt pt] (.Tuple [x, y] k2 pt2) pos) := ⟨fun B po ρ τ O s Q E fl ρ' S h q => by
  simp only [ex] at h
  split at h
  · rename_i ds ρ1 e1
    rw [Option.map_eq_some_iff] at h
    obtain ⟨ρ2, h2, e2⟩ := h
    cases e2
    rw [exec_Assign_arm]
    refine wpAny_bind (wpAny_standAt ?_)
    rw [hs]
    refine wpAny_bind (wpAny_pure ?_)
    rw [if_neg (by decide)]
    refine wpAny_bind (Tuple_ (pp.run _ B po ρ τ O s _ E ds ρ1 S e1 fun us O1 s1 S1 x1 P1 => ?_))
    obtain ⟨u1, _, d1, _, rfl, rfl, v1, a1, u2, _, d2, _, rfl, rfl, v2, _, rfl, rfl⟩ := P1
    simp only [setPar] at h2
    rw [Option.bind_eq_some_iff] at h2
    obtain ⟨ρa, g1, h2⟩ := h2
    rw [Option.bind_eq_some_iff] at h2
    obtain ⟨ρb, g2, h2⟩ := h2
    cases h2
    obtain ⟨l1, rfl⟩ := set_sl (o := o1) g1
    obtain ⟨l2, rfl⟩ := set_sl (o := o2) g2
    rw [List.length_set] at l2
    refine wpAny_newObj_type ?_ (by show 2 ≤ sizeLine; decide)
    rw [hw]
    refine wpAny_bind (wpAny_pure ?_)
    show wpAny (model C.prog C.w) C.A (do rule "assign.swapped-stores"; let items ← unpackItems (.ref s1.heap.objs.size) 2 none; assignInOrder [fun v => bindName C.env nm2 v, fun v => bindName C.env nm1 v] items.reverse; pure Flow.next) _ _ _
    refine wpAny_bind (wpAny_rule (wpAny_bind (unpackItems_tuple (items := #[u1, u2]) S1.iz.ok.hd (IsTup.new s1.heap _) fun h' hx' => ?_)))
    have g : Gr O1 s1 O1 { s1 with heap := h' } := Gr.same (t' := s1.toks) S1.sub S1.iz.bare (fun b o e => hx' b o (Nat.ne_of_lt (Heap.lt_size (Heap.get?_push_of_some _ e))) (Heap.get?_push_of_some _ e)) (Nat.le_refl _)
    have S2 := S1.grow g
    have x2 := x1.trans (Ext.gr g)
    have v1' := v1.ext (Ext.gr g)
    have v2' := v2.ext (Ext.gr g)
    show wpAny _ _ (assignInOrder [fun v => bindName C.env nm2 v, fun v => bindName C.env nm1 v] [u2, u1] >>= fun _ => pure Flow.next) _ _ _
    refine wpAny_bind (assignInOrder_cons (wpAny_bindName (asg_pv S2 m2 l2 v2' x2.weak.toS fun h3 t3 S3 tk3 k3 x3 => ?_)))
    have v1'' := v1'.stored (i := j) (o1 := o2) (d1 := d2) (u1 := u2) (fun q1 q2 => by
      subst q2
      exact (a1 q1).1) tk3 k3
    refine assignInOrder_cons (wpAny_bindName (asg_pv S3 m1 (by rw [List.length_set]; exact l1) v1'' x3 fun h4 t4 S4 tk4 k4 x4 => assignInOrder_nil (wpAny_pure ?_)))
    rw [List.set_comm _ _ (Ne.symm hij)] at S4 x4
    exact q _ _ O1 _ S4 x4 .nx
  · cases h⟩
/-- a, b, c = x, y, z: plain local names, stored from the right -/
theorem ps_par3 {i j l : Nat} {o1 o2 o3 : Bool} {nm1 nm2 nm3 : Str} {x y z : Expr} {px py pz pt pos : Pos} {kt k2 : Nat} {pt2 : Pos} (m1 : mS C.N C.env.scope C.fn i nm1 = true) (m2 : mS C.N C.env.scope C.fn j nm2 = true) (m3 : mS C.N C.env.scope C.fn l nm3 = true) (hij : i ≠ j) (hil : i ≠ l) (hjl : j ≠ l) (pp : PPz C G Φ [o1, o2, o3] es [x, y, z])
    (hw : swappedStores [.Tuple [.Name nm1 px, .Name nm2 py, .Name nm3 pz] kt pt] (.Tuple [x, y, z] k2 pt2) C.env = pure (some [nm1, nm2, nm3]))
    (hs : swapsWithSole [.Tuple [.Name nm1 px, .Name nm2 py, .Name nm3 pz] kt pt] (.Tuple [x, y, z] k2 pt2) pos.line C.env = pure false) :
    PSz C G Φ (.par [(i, o1), (j, o2), (l, o3)] es) (.Assign [.Tuple [.Name nm1 px, .Name nm2 py, .Name nm3 pz] kt pt] (.Tuple [x, y, z] k2 pt2) pos) := ⟨fun B po ρ τ O s Q E fl ρ' S h q => by
  simp only [ex] at h
  split at h
  · rename_i ds ρ1 e1
    rw [Option.map_eq_some_iff] at h
    obtain ⟨ρ2, h2, e2⟩ := h
    cases e2
    rw [exec_Assign_arm]
    refine wpAny_bind (wpAny_standAt ?_)
    rw [hs]
    refine wpAny_bind (wpAny_pure ?_)
    rw [if_neg (by decide)]
    refine wpAny_bind (Tuple_ (pp.run _ B po ρ τ O s _ E ds ρ1 S e1 fun us O1 s1 S1 x1 P1 => ?_))
    obtain ⟨u1, _, d1, _, rfl, rfl, v1, a1, u2, _, d2, _, rfl, rfl, v2, a2, u3, _, d3, _, rfl, rfl, v3, _, rfl, rfl⟩ := P1
    simp only [setPar] at h2
    rw [Option.bind_eq_some_iff] at h2
    obtain ⟨ρa, g1, h2⟩ := h2
    rw [Option.bind_eq_some_iff] at h2
    obtain ⟨ρb, g2, h2⟩ := h2
    rw [Option.bind_eq_some_iff] at h2
    obtain ⟨ρc, g3, h2⟩ := h2
    cases h2
    obtain ⟨l1, rfl⟩ := set_sl (o := o1) g1
    obtain ⟨l2, rfl⟩ := set_sl (o := o2) g2
    obtain ⟨l3, rfl⟩ := set_sl (o := o3) g3
    rw [List.length_set] at l2
    rw [List.length_set, List.length_set] at l3
    refine wpAny_newObj_type ?_ (by show 3 ≤ sizeLine; decide)
    rw [hw]
    refine wpAny_bind (wpAny_pure ?_)
    show wpAny (model C.prog C.w) C.A (do rule "assign.swapped-stores"; let items ← unpackItems (.ref s1.heap.objs.size) 3 none; assignInOrder [fun v => bindName C.env nm3 v, fun v => bindName C.env nm2 v, fun v => bindName C.env nm1 v] items.reverse; pure Flow.next) _ _ _
    refine wpAny_bind (wpAny_rule (wpAny_bind (unpackItems_tuple (items := #[u1, u2, u3]) S1.iz.ok.hd (IsTup.new s1.heap _) fun h' hx' => ?_)))
    have g : Gr O1 s1 O1 { s1 with heap := h' } := Gr.same (t' := s1.toks) S1.sub S1.iz.bare (fun b o e => hx' b o (Nat.ne_of_lt (Heap.lt_size (Heap.get?_push_of_some _ e))) (Heap.get?_push_of_some _ e)) (Nat.le_refl _)
    have S2 := S1.grow g
    have x2 := x1.trans (Ext.gr g)
    have v1' := v1.ext (Ext.gr g)
    have v2' := v2.ext (Ext.gr g)
    have v3' := v3.ext (Ext.gr g)
    show wpAny _ _ (assignInOrder [fun v => bindName C.env nm3 v, fun v => bindName C.env nm2 v, fun v => bindName C.env nm1 v] [u3, u2, u1] >>= fun _ => pure Flow.next) _ _ _
    refine wpAny_bind (assignInOrder_cons (wpAny_bindName (asg_pv S2 m3 l3 v3' x2.weak.toS fun h3 t3 S3 tk3 k3 x3 => ?_)))
    have v2'' := v2'.stored (i := l) (o1 := o3) (d1 := d3) (u1 := u3) (fun q1 q2 => by
      subst q2
      exact (a2 q1).1) tk3 k3
    have v1'' := v1'.stored (i := l) (o1 := o3) (d1 := d3) (u1 := u3) (fun q1 q2 => by
      subst q2
      have := a1 q1
      cases o2
      · exact (show u3 ≠ u1 ∧ True from this).1
      · exact this.2.1) tk3 k3
    refine assignInOrder_cons (wpAny_bindName (asg_pv S3 m2 (by rw [List.length_set]; exact l2) v2'' x3 fun h4 t4 S4 tk4 k4 x4 => ?_))
    have v1s := v1''.stored (i := j) (o1 := o2) (d1 := d2) (u1 := u2) (fun q1 q2 => by
      subst q2
      exact (a1 q1).1) tk4 k4
    refine assignInOrder_cons (wpAny_bindName (asg_pv S4 m1 (by rw [List.length_set, List.length_set]; exact l1) v1s x4 fun h5 t5 S5 tk5 k5 x5 => assignInOrder_nil (wpAny_pure ?_)))
    rw [List.set_comm _ _ (Ne.symm hjl), List.set_comm _ _ (Ne.symm hil), List.set_comm _ _ (Ne.symm hij)] at S5 x5
    exact q _ _ O1 _ S5 x5 .nx
  · cases h⟩
end
end Mini
/-! Mini, exact: the matcher of statements. -/
namespace Mini
open PySem PySem.Spec PyProof.Rows L2

/-- no comprehension -/
def noCp : Expr → Bool
  | .ListComp _ _ _ _ => false | .SetComp _ _ _ _ => false | .DictComp _ _ _ _ _ => false | _ => true
theorem noCp_ok {x : Expr} {t : Option Expr} {l : Nat} {env : PySem.Env} (h : noCp x = true) : swapsWith x t l env = pure false := by
  cases x <;> first | (cases h; done) | rfl
theorem noCp_sole {x : Expr} {ts : List Expr} {l : Nat} {env : PySem.Env} (h : noCp x = true) : swapsWithSole ts x l env = pure false := by
  unfold swapsWithSole
  split
  · exact noCp_ok h
  · rfl
/-- name = [comprehension] is stored ahead of the block's end -/
def swB (sc : Scope) (nm : Str) (p1 : Pos) (x : Expr) : Bool := match x with
  | .DictComp _ _ _ scope pos => (sc.kind == .function) && (sc.names.lookup nm == some .local) && (p1.line == pos.line) && !(scope.names.any fun (n, k) => n == nm && (k == .local || k == .cell))
  | .ListComp _ _ scope pos => (sc.kind == .function) && (sc.names.lookup nm == some .local) && (p1.line == pos.line) && !(scope.names.any fun (n, k) => n == nm && (k == .local || k == .cell))
  | _ => false
def isLc : Expr → Bool
  | .ListComp _ _ _ _ => true | .DictComp _ _ _ _ _ => true | _ => false
theorem swB_ok {x : Expr} {nm : Str} {p1 : Pos} {l : Nat} {env : PySem.Env} (hk : env.scope.kind = .function) (h : isLc x = true) : swapsWith x (some (.Name nm p1)) l env = pure (swB env.scope nm p1 x) := by
  have hb : env.blockKind = .function := by unfold Env.blockKind; rw [hk]; rfl
  cases x <;> first | (cases h; done) | skip
  all_goals
    unfold swapsWith swB
    simp only [hb, hk, Expr.pos]
    rfl

def noTup : Expr → Bool
  | .Tuple _ _ _ => false | _ => true
theorem noTup_ok {x : Expr} {ts : List Expr} {kt : Nat} {p : Pos} {env : PySem.Env} (h : noTup x = true) : swappedStores [.Tuple ts kt p] x env = pure none := by
  cases x <;> first | (cases h; done) | rfl
/-- a value stored under a name: no swap -/
def plainV (sc : Scope) (nm : Str) (p1 : Pos) (x : Expr) : Bool := noCp x || (isLc x && decide (sc.kind = .function) && !swB sc nm p1 x)
theorem plainV_ok {x : Expr} {nm : Str} {p1 : Pos} {l : Nat} {env : PySem.Env} (h : plainV env.scope nm p1 x = true) : swapsWith x (some (.Name nm p1)) l env = pure false := by
  unfold plainV at h
  simp only [Bool.or_eq_true, Bool.and_eq_true, decide_eq_true_eq, Bool.not_eq_true'] at h
  rcases h with h | ⟨⟨h1, h2⟩, h3⟩
  · exact noCp_ok h
  · rw [swB_ok h2 h1, h3]
def swapV (sc : Scope) (nm : Str) (p1 : Pos) (x : Expr) : Bool := isLc x && decide (sc.kind = .function) && swB sc nm p1 x
theorem swapV_ok {x : Expr} {nm : Str} {p1 : Pos} {l : Nat} {env : PySem.Env} (h : swapV env.scope nm p1 x = true) : swapsWith x (some (.Name nm p1)) l env = pure true := by
  unfold swapV at h
  simp only [Bool.and_eq_true, decide_eq_true_eq] at h
  obtain ⟨⟨h1, h2⟩, h3⟩ := h
  rw [swB_ok h2 h1, h3]
end Mini
/-! Mini, exact: when a, b = x, y stores from the right; the matcher of statements. -/
namespace Mini
open PySem PySem.Spec PyProof.Rows L2

/-- a plain local name on that line -/
def lnm (sc : Scope) (line : Nat) (nm : Str) (p : Pos) : Bool := (sc.names.lookup nm == some .local) && (p.line == line)
def swK2 (sc : Scope) (nm1 nm2 : Str) (px py : Pos) (x y : Expr) : Bool :=
  decide (sc.kind = .function) && lnm sc px.line nm1 px && lnm sc px.line nm2 py && !(nm1 == nm2) && noStar x && noStar y &&
    !([x, y].all (foldedForSure 8)) && !([x, y].all (constantsAlone 8))
def swK3 (sc : Scope) (nm1 nm2 nm3 : Str) (px py pz : Pos) (x y z : Expr) : Bool :=
  decide (sc.kind = .function) && lnm sc px.line nm1 px && lnm sc px.line nm2 py && lnm sc px.line nm3 pz && !(nm1 == nm2) && !(nm1 == nm3) && !(nm2 == nm3) && noStar x && noStar y && noStar z &&
    !([x, y, z].all (foldedForSure 8)) && !([x, y, z].all (constantsAlone 8))
theorem star_no {x : Expr} (h : noStar x = true) : (match x with | .Starred .. => true | _ => false) = false := by
  cases x <;> first | (cases h; done) | rfl
theorem sw2 {nm1 nm2 : Str} {px py pt pt2 : Pos} {kt k2 : Nat} {x y : Expr} {env : PySem.Env} (h : swK2 env.scope nm1 nm2 px py x y = true) :
    swappedStores [.Tuple [.Name nm1 px, .Name nm2 py] kt pt] (.Tuple [x, y] k2 pt2) env = pure (some [nm1, nm2]) := by
  unfold swK2 lnm at h
  simp only [Bool.and_eq_true, decide_eq_true_eq, Bool.not_eq_true'] at h
  obtain ⟨⟨⟨⟨⟨⟨⟨hk, l1, -⟩, l2, hl⟩, hne⟩, s1⟩, s2⟩, f⟩, c⟩ := h
  have hb : env.blockKind = .function := by unfold Env.blockKind; rw [hk]; rfl
  have k1 : (env.kindOf nm1 == some .local) = true := l1
  have k2' : (env.kindOf nm2 == some .local) = true := l2
  have hne' : (nm2 == nm1) = false := by
    cases q : (nm2 == nm1) with
    | false => rfl
    | true => rw [eq_of_beq q, beq_self_eq_true] at hne; cases hne
  unfold swappedStores
  simp only [hb, f, c, List.any, star_no s1, star_no s2, List.head?, Option.map, Option.getD, Expr.pos, List.filterMap, k1, k2', hl, beq_self_eq_true, Bool.and_self, if_true, List.length, List.eraseDups, List.eraseDupsBy, List.eraseDupsBy.loop, List.any, hne', Bool.or_false, List.reverse, List.reverseAux]
  rw [if_neg (by decide), if_neg ?_]
  · rfl
  · simp only [Bool.or_eq_true, not_or]
    refine ⟨?_, ?_⟩ <;> (split <;> first | (cases s1; done) | (cases s2; done) | exact Bool.false_ne_true)
theorem sw3 {nm1 nm2 nm3 : Str} {px py pz pt pt2 : Pos} {kt k2 : Nat} {x y z : Expr} {env : PySem.Env} (h : swK3 env.scope nm1 nm2 nm3 px py pz x y z = true) :
    swappedStores [.Tuple [.Name nm1 px, .Name nm2 py, .Name nm3 pz] kt pt] (.Tuple [x, y, z] k2 pt2) env = pure (some [nm1, nm2, nm3]) := by
  unfold swK3 lnm at h
  simp only [Bool.and_eq_true, decide_eq_true_eq, Bool.not_eq_true'] at h
  obtain ⟨⟨⟨⟨⟨⟨⟨⟨⟨⟨⟨hk, l1, -⟩, l2, hl⟩, l3, hl3⟩, n12⟩, n13⟩, n23⟩, s1⟩, s2⟩, s3⟩, f⟩, c⟩ := h
  have hb : env.blockKind = .function := by unfold Env.blockKind; rw [hk]; rfl
  have k1 : (env.kindOf nm1 == some .local) = true := l1
  have k2' : (env.kindOf nm2 == some .local) = true := l2
  have k3' : (env.kindOf nm3 == some .local) = true := l3
  have sy : ∀ {a b : Str}, (a == b) = false → (b == a) = false := fun {a b} hne => by
    cases q : (b == a) with
    | false => rfl
    | true => rw [eq_of_beq q, beq_self_eq_true] at hne; cases hne
  unfold swappedStores
  simp only [hb, f, c, List.any, star_no s1, star_no s2, star_no s3, List.head?, Option.map, Option.getD, Expr.pos, List.filterMap, k1, k2', k3', hl, hl3, beq_self_eq_true, Bool.and_self, if_true, List.length, List.eraseDups, List.eraseDupsBy, List.eraseDupsBy.loop, List.any, sy n12, sy n13, sy n23, Bool.or_false, List.reverse, List.reverseAux]
  rw [if_neg (by decide), if_neg ?_]
  · rfl
  · simp only [Bool.or_eq_true, not_or]
    refine ⟨?_, ?_, ?_⟩ <;> (split <;> first | (cases s1; done) | (cases s2; done) | (cases s3; done) | exact Bool.false_ne_true)
/-- not swapped: all constants, or four and more, or a name that is not plain local -/
def nonLoc (sc : Scope) : Expr → Bool
  | .Name id _ => !(sc.names.lookup id == some .local)
  | _ => true
theorem fm_len {α β : Type} {f : α → Option β} {p : α → Bool} (h : ∀ a, p a = true → f a = none) : ∀ l : List α, l.any p = true → (l.filterMap f).length < l.length
  | [], q => by cases q
  | a :: l, q => by
    rw [List.any_cons, Bool.or_eq_true] at q
    rw [List.filterMap_cons]
    by_cases e : p a = true
    · rw [h a e]
      exact Nat.lt_succ_of_le (List.length_filterMap_le f l)
    · have ih := fm_len h l (q.resolve_left e)
      cases f a with
      | none => exact Nat.lt_succ_of_lt ih
      | some b => exact Nat.succ_lt_succ ih
def noSw (sc : Scope) (ts vs : List Expr) : Bool :=
  ts.any (nonLoc sc) || !(ts.length == 2 || ts.length == 3) || (decide (sc.kind = .function) && vs.all noStar && vs.all (foldedForSure 8))
theorem noSw_ok {ts vs : List Expr} {kt k2 : Nat} {pt pt2 : Pos} {env : PySem.Env} (h : noSw env.scope ts vs = true) : swappedStores [.Tuple ts kt pt] (.Tuple vs k2 pt2) env = pure none := by
  unfold noSw at h
  unfold swappedStores
  simp only [Bool.or_eq_true, Bool.and_eq_true, decide_eq_true_eq, Bool.not_eq_true'] at h
  rcases h with (hn | h) | ⟨⟨hk, hs⟩, hf⟩
  · dsimp only
    split
    · rfl
    · split
      · rfl
      · rw [if_pos]
        rw [Bool.or_eq_true]
        left
        rw [bne_iff_ne]
        refine Nat.ne_of_lt (fm_len (p := nonLoc env.scope) (fun a ha => ?_) _ hn)
        cases a <;> first
          | rfl
          | (rename_i id pos
             have q : (env.kindOf id == some .local) = false := by
               have ha : (!(env.kindOf id == some .local)) = true := ha
               rwa [Bool.not_eq_true'] at ha
             simp only [q, Bool.false_and, Bool.false_eq_true, if_false])
  · simp only [h, Bool.not_false, Bool.true_or, if_true]
  · simp only [hf]
    split
    · rfl
    · split
      · rfl
      · simp only [if_true]
        split <;> rfl
def exOk : Expr → Bool
  | x => noCp x
def augOk : Bop → Bool
  | .add => true | .sub => true | .mul => true | _ => false
section
variable (N : List Str) (T : Tb) (sc : Scope) (fnB : Str → Bool)
def allocM : E → Bool
  | .lst _ => true | .dct0 => true | .comp .. => true | .dcomp .. => true
  | .fn .list (.cons _ .nil) => true | .fn .sorted (.cons _ .nil) => true
  | .bin .add _ (.lst _) => true | .bin .add _ (.comp ..) => true | _ => false
def mPv (o : Bool) (e : E) (x : Expr) : Bool := mE N T sc e x && (if o then allocM e else !isBrw e)
def mPs : List (Nat × Bool) → Es → List Expr → Bool
  | [], .nil, [] => true
  | (_, o) :: os, .cons e es, x :: xs => noStar x && mPv N T sc o e x && mPs os es xs
  | _, _, _ => false
def mPar : List (Nat × Bool) → List Expr → List Expr → Bool
  | [(i, _), (j, _)], [.Name nm1 px, .Name nm2 py], [x, y] => decide (i ≠ j) && mS N sc fnB i nm1 && mS N sc fnB j nm2 && swK2 sc nm1 nm2 px py x y
  | [(i, _), (j, _), (k, _)], [.Name nm1 px, .Name nm2 py, .Name nm3 pz], [x, y, z] => decide (i ≠ j) && decide (i ≠ k) && decide (j ≠ k) && mS N sc fnB i nm1 && mS N sc fnB j nm2 && mS N sc fnB k nm3 && swK3 sc nm1 nm2 nm3 px py pz x y z
  | _, _, _ => false
def noSwV (sc : Scope) (ts : List Expr) : Expr → Bool
  | .Tuple vs _ _ => noSw sc ts vs
  | _ => true
mutual
def mSt : S → Stmt → Bool
  | .set i e, .Assign [.Name nm p1] x _ => mS N sc fnB i nm && mE N T sc e x && (plainV sc nm p1 x || swapV sc nm p1 x)
  | .own i e, .Assign [.Name nm p1] x _ => allocM e && mS N sc fnB i nm && mE N T sc e x && (plainV sc nm p1 x || swapV sc nm p1 x)
  | .par ts es, .Assign [.Tuple xs _ _] (.Tuple ys _ _) _ => mPs N T sc ts es ys && mPar N sc fnB ts xs ys
  | .unp ts e, .Assign [.Tuple es _ _] x _ => decide (2 ≤ ts.length) && mSs N sc fnB ts es && mE N T sc e x && noCp x && noSwV sc es x
  | .aug i op e, .AugAssign (.Name nm _) o x _ => augOk op && opB (mop op) o && mS N sc fnB i nm && okN nm && mE N T sc e x && !isBrw e
  | .app i e, .Expr (.Call (.Attribute (.Name nm _) an ap) [x] [] p3) _ => decide (an = "append") && (ap.endLine == p3.line) && mN N sc i nm && noStar x && mE N T sc e x
  | .put i k e, .Assign [.Subscript (.Name nm _) kx _] x _ => mN N sc i nm && mE N T sc e x && mE N T sc k kx && noCp x
  | .ite c a b, .If x xs ys _ => mE N T sc c x && mSts a xs && mSts b ys
  | .while c b, .While x xs [] _ => mE N T sc c x && mSts b xs
  | .for tg it b, .For tgx x xs [] _ => mI N T sc it tgx x && mTg N sc fnB tg tgx && noSet x && mSts b xs
  | .ret e, .Return (some x) _ => mE N T sc e x
  | .retN, .Return none _ => true
  | .brk, .Break _ => true
  | .cnt, .Continue _ => true
  | .pass, .Pass _ => true
  | .ex e, .Expr x _ => mE N T sc e x && noCp x
  | .raise, _ => true
  | _, _ => false
def mSts : Ss → List Stmt → Bool
  | .nil, [] => true
  | .cons s ss, x :: xs => mSt s x && mSts ss xs
  | _, _ => false
end
end
end Mini
/-! Mini, exact: every statement that the matcher takes keeps its promise. -/
namespace Mini
open PySem PySem.Spec PyProof.Rows L2

section
variable {N : List Str} {T : Tb} {sc : Scope} {fnB : Str → Bool} {G : Nat → Option D} {Φ : Fn}
theorem pn_fn_ok {f : Bf} {a : E} {x : Expr} {C : Cz} (H : Hy C T G Φ) (hf : f = .list ∨ f = .sorted) (h : mE C.N T C.env.scope (.fn f (.cons a .nil)) x = true) : PNz C G Φ (.fn f (.cons a .nil)) x := by
  cases x <;> try (simp only [mE, Bool.false_eq_true] at h; done)
  rename_i fe xs kws p
  cases fe <;> try (simp only [mE, Bool.false_eq_true] at h; done)
  cases kws <;> simp only [mE, Bool.false_eq_true, Bool.and_eq_true, decide_eq_true_eq] at h
  obtain ⟨⟨⟨⟨⟨h1, h2⟩, h3⟩, h4⟩, h5⟩, h6⟩ := h
  cases xs with
  | nil => simp at h6
  | cons y ys =>
    simp only [mEs, Bool.and_eq_true] at h5
    cases ys with
    | nil => exact pn_fn H hf h1 h2 h3 (pe_ok a _ C H h5.1.2).1 h5.1.1
    | cons _ _ => simp only [mEs, Bool.false_eq_true] at h5; exact absurd h5.2 (by simp)
theorem pn_add_ok {a b : E} {x : Expr} {C : Cz} (H : Hy C T G Φ) (hl : lstE b = true) (h : mE C.N T C.env.scope (.bin .add a b) x = true) : PNz C G Φ (.bin .add a b) x := by
  cases x <;> try (simp only [mE, Bool.false_eq_true] at h; done)
  simp only [mE, Bool.and_eq_true, opB, decide_eq_true_eq] at h
  obtain ⟨⟨h1, h2⟩, h3⟩ := h
  subst h1
  exact pn_add H hl (pe_ok a _ C H h2).1 (pe_ok b _ C H h3).1
theorem pn_ok {e : E} {x : Expr} {C : Cz} (H : Hy C T G Φ) (ha : allocM e = true) (h : mE C.N T C.env.scope e x = true) : PNz C G Φ e x := by
  unfold allocM at ha
  split at ha
  · rename_i es
    cases x <;> simp only [mE, Bool.false_eq_true, Bool.and_eq_true] at h
    exact pn_lst h.1 (pa_ok es _ C H h.2)
  · obtain ⟨p, rfl⟩ : ∃ p, x = .Dict [] [] p := by
      cases x <;> try (simp only [mE, Bool.false_eq_true] at h; done)
      rename_i a b p
      cases a <;> cases b <;> first | exact ⟨_, rfl⟩ | (simp only [mE, Bool.false_eq_true] at h)
    exact pn_dct0
  · rename_i own elt tg it c
    obtain ⟨y, tgx, ix, ifs, scope, pos, rfl, hh⟩ := comp_inv h
    simp only [Bool.and_eq_true] at hh
    obtain ⟨⟨⟨⟨h1, h2⟩, h3⟩, h4⟩, h5⟩ := hh
    unfold blkB at h1
    simp only [Bool.and_eq_true, decide_eq_true_eq, List.all_eq_true] at h1
    obtain ⟨⟨⟨b1, b2⟩, b3⟩, b4⟩ := h1
    exact ok_comp H (pi_ok it tgx ix C H h3) (blkOk_by b1) b2 b3 b4 (fun C' H' e1 e2 => pc_ok c ifs C' H' (by rw [e1, e2]; exact h4)) (fun C' H' e1 e2 => (pe_ok elt y C' H' (by rw [e1, e2]; exact h5)).1) (noSet_of h2)
  · rename_i own k v tg it c
    obtain ⟨y, z, tgx, ix, ifs, scope, pos, rfl, hh⟩ := dcomp_inv h
    simp only [Bool.and_eq_true] at hh
    obtain ⟨⟨⟨⟨⟨h1, h2⟩, h3⟩, h4⟩, h5⟩, h6⟩ := hh
    unfold blkB at h1
    simp only [Bool.and_eq_true, decide_eq_true_eq, List.all_eq_true] at h1
    obtain ⟨⟨⟨b1, b2⟩, b3⟩, b4⟩ := h1
    exact ok_dcomp H (pi_ok it tgx ix C H h3) (blkOk_by b1) b2 b3 b4 (fun C' H' e1 e2 => pc_ok c ifs C' H' (by rw [e1, e2]; exact h4)) (fun C' H' e1 e2 => (pe_ok k y C' H' (by rw [e1, e2]; exact h5)).1) (fun C' H' e1 e2 => (pe_ok v z C' H' (by rw [e1, e2]; exact h6)).1) (noSet_of h2)
  · rename_i a
    exact pn_fn_ok H (.inl rfl) h
  · rename_i a
    exact pn_fn_ok H (.inr rfl) h
  · rename_i a es
    exact pn_add_ok H rfl h
  · rename_i a own elt tg it c
    exact pn_add_ok H rfl h
  · cases ha
theorem alloc_M {e : E} (h : allocM e = true) : allocE e = true := by
  unfold allocM at h
  split at h <;> first | (cases h; done) | rfl
theorem px_ok {o : Bool} {e : E} {x : Expr} {C : Cz} (H : Hy C T G Φ) (h : mPv C.N T C.env.scope o e x = true) : PXz C G Φ o e x := by
  unfold mPv at h
  rw [Bool.and_eq_true] at h
  cases o with
  | false => exact px_fz (by simpa using h.2) (pe_ok e _ C H h.1).1
  | true => exact px_own (pn_ok H (by simpa using h.2) h.1)
theorem pp_ok {C : Cz} (H : Hy C T G Φ) : ∀ {os : List (Nat × Bool)} {es : Es} {xs : List Expr}, mPs C.N T C.env.scope os es xs = true → PPz C G Φ (os.map (·.2)) es xs
  | [], es, xs, h => by
    cases es <;> cases xs <;> simp only [mPs, Bool.false_eq_true] at h
    exact pp_nil
  | (i, o) :: os, es, xs, h => by
    cases es <;> cases xs <;> simp only [mPs, Bool.false_eq_true, Bool.and_eq_true] at h
    exact pp_cons (px_ok H h.1.2) (pp_ok H h.2) h.1.1
theorem set_inv {i : Nat} {e : E} {x : Stmt} (h : mSt N T sc fnB (.set i e) x = true) : ∃ nm p1 v pos, x = .Assign [.Name nm p1] v pos ∧ (mS N sc fnB i nm && mE N T sc e v && (plainV sc nm p1 v || swapV sc nm p1 v)) = true := by
  unfold mSt at h
  split at h <;> first | contradiction | skip
  all_goals (rename_i q; cases q)
  exact ⟨_, _, _, _, rfl, h⟩
theorem own_inv {i : Nat} {e : E} {x : Stmt} (h : mSt N T sc fnB (.own i e) x = true) : ∃ nm p1 v pos, x = .Assign [.Name nm p1] v pos ∧ (allocM e && mS N sc fnB i nm && mE N T sc e v && (plainV sc nm p1 v || swapV sc nm p1 v)) = true := by
  unfold mSt at h
  split at h <;> first | (cases h; done) | (rename_i q; cases q; done) | skip
  all_goals (first | (rename_i q; cases q; exact ⟨_, _, _, _, rfl, h⟩) | (exact ⟨_, _, _, _, rfl, h⟩))
theorem par_inv {ts : List (Nat × Bool)} {es : Es} {x : Stmt} (h : mSt N T sc fnB (.par ts es) x = true) : ∃ xs ys k1 k2 p1 p2 pos, x = .Assign [.Tuple xs k1 p1] (.Tuple ys k2 p2) pos ∧ (mPs N T sc ts es ys && mPar N sc fnB ts xs ys) = true := by
  unfold mSt at h
  split at h <;> first | (cases h; done) | (rename_i q; cases q; done) | skip
  all_goals (first | (rename_i q; cases q; exact ⟨_, _, _, _, _, _, _, rfl, h⟩) | (exact ⟨_, _, _, _, _, _, _, rfl, h⟩))
theorem unp_inv {ts : List Nat} {e : E} {x : Stmt} (h : mSt N T sc fnB (.unp ts e) x = true) : ∃ es k p v pos, x = .Assign [.Tuple es k p] v pos ∧ (decide (2 ≤ ts.length) && mSs N sc fnB ts es && mE N T sc e v && noCp v && noSwV sc es v) = true := by
  unfold mSt at h
  split at h <;> first | (cases h; done) | (rename_i q; cases q; done) | skip
  all_goals (first | (rename_i q; cases q; exact ⟨_, _, _, _, _, rfl, h⟩) | (exact ⟨_, _, _, _, _, rfl, h⟩))
theorem aug_inv {i : Nat} {op : Bop} {e : E} {x : Stmt} (h : mSt N T sc fnB (.aug i op e) x = true) : ∃ nm p o v pos, x = .AugAssign (.Name nm p) o v pos ∧ (augOk op && opB (mop op) o && mS N sc fnB i nm && okN nm && mE N T sc e v && !isBrw e) = true := by
  unfold mSt at h
  split at h <;> first | (cases h; done) | (rename_i q; cases q; done) | skip
  all_goals (first | (rename_i q; cases q; exact ⟨_, _, _, _, _, rfl, h⟩) | (exact ⟨_, _, _, _, _, rfl, h⟩))
theorem app_inv {i : Nat} {e : E} {x : Stmt} (h : mSt N T sc fnB (.app i e) x = true) : ∃ nm p an ap v p3 pos, x = .Expr (.Call (.Attribute (.Name nm p) an ap) [v] [] p3) pos ∧ (decide (an = "append") && (ap.endLine == p3.line) && mN N sc i nm && noStar v && mE N T sc e v) = true := by
  unfold mSt at h
  split at h <;> first | (cases h; done) | (rename_i q; cases q; done) | skip
  all_goals (first | (rename_i q; cases q; exact ⟨_, _, _, _, _, _, _, rfl, h⟩) | (exact ⟨_, _, _, _, _, _, _, rfl, h⟩))
theorem put_inv {i : Nat} {k e : E} {x : Stmt} (h : mSt N T sc fnB (.put i k e) x = true) : ∃ nm p kx p2 v pos, x = .Assign [.Subscript (.Name nm p) kx p2] v pos ∧ (mN N sc i nm && mE N T sc e v && mE N T sc k kx && noCp v) = true := by
  unfold mSt at h
  split at h <;> first | (cases h; done) | (rename_i q; cases q; done) | skip
  all_goals (first | (rename_i q; cases q; exact ⟨_, _, _, _, _, _, rfl, h⟩) | (exact ⟨_, _, _, _, _, _, rfl, h⟩))
theorem ite_inv {c : E} {a b : Ss} {x : Stmt} (h : mSt N T sc fnB (.ite c a b) x = true) : ∃ v xs ys pos, x = .If v xs ys pos ∧ (mE N T sc c v && mSts N T sc fnB a xs && mSts N T sc fnB b ys) = true := by
  unfold mSt at h
  split at h <;> first | (cases h; done) | (rename_i q; cases q; done) | skip
  all_goals (first | (rename_i q; cases q; exact ⟨_, _, _, _, rfl, h⟩) | (exact ⟨_, _, _, _, rfl, h⟩))
theorem while_inv {c : E} {b : Ss} {x : Stmt} (h : mSt N T sc fnB (.while c b) x = true) : ∃ v xs pos, x = .While v xs [] pos ∧ (mE N T sc c v && mSts N T sc fnB b xs) = true := by
  unfold mSt at h
  split at h <;> first | (cases h; done) | (rename_i q; cases q; done) | skip
  all_goals (first | (rename_i q; cases q; exact ⟨_, _, _, rfl, h⟩) | (exact ⟨_, _, _, rfl, h⟩))
theorem for_inv {tg : List Nat} {it : It} {b : Ss} {x : Stmt} (h : mSt N T sc fnB (.for tg it b) x = true) : ∃ tgx v xs pos, x = .For tgx v xs [] pos ∧ (mI N T sc it tgx v && mTg N sc fnB tg tgx && noSet v && mSts N T sc fnB b xs) = true := by
  unfold mSt at h
  split at h <;> first | (cases h; done) | (rename_i q; cases q; done) | skip
  all_goals (first | (rename_i q; cases q; exact ⟨_, _, _, _, rfl, h⟩) | (exact ⟨_, _, _, _, rfl, h⟩))
theorem ret_inv {e : E} {x : Stmt} (h : mSt N T sc fnB (.ret e) x = true) : ∃ v pos, x = .Return (some v) pos ∧ (mE N T sc e v) = true := by
  unfold mSt at h
  split at h <;> first | (cases h; done) | (rename_i q; cases q; done) | skip
  all_goals (first | (rename_i q; cases q; exact ⟨_, _, rfl, h⟩) | (exact ⟨_, _, rfl, h⟩))
theorem retN_inv  {x : Stmt} (h : mSt N T sc fnB .retN x = true) : ∃ pos, x = .Return none pos := by
  unfold mSt at h
  split at h <;> first | (cases h; done) | (rename_i q; cases q; done) | skip
  all_goals (first | (rename_i q; cases q; exact ⟨_, rfl⟩) | (exact ⟨_, rfl⟩))
theorem brk_inv  {x : Stmt} (h : mSt N T sc fnB .brk x = true) : ∃ pos, x = .Break pos := by
  unfold mSt at h
  split at h <;> first | (cases h; done) | (rename_i q; cases q; done) | skip
  all_goals (first | (rename_i q; cases q; exact ⟨_, rfl⟩) | (exact ⟨_, rfl⟩))
theorem cnt_inv  {x : Stmt} (h : mSt N T sc fnB .cnt x = true) : ∃ pos, x = .Continue pos := by
  unfold mSt at h
  split at h <;> first | (cases h; done) | (rename_i q; cases q; done) | skip
  all_goals (first | (rename_i q; cases q; exact ⟨_, rfl⟩) | (exact ⟨_, rfl⟩))
theorem pass_inv  {x : Stmt} (h : mSt N T sc fnB .pass x = true) : ∃ pos, x = .Pass pos := by
  unfold mSt at h
  split at h <;> first | (cases h; done) | (rename_i q; cases q; done) | skip
  all_goals (first | (rename_i q; cases q; exact ⟨_, rfl⟩) | (exact ⟨_, rfl⟩))
theorem ex_inv {e : E} {x : Stmt} (h : mSt N T sc fnB (.ex e) x = true) : ∃ v pos, x = .Expr v pos ∧ (mE N T sc e v && noCp v) = true := by
  unfold mSt at h
  split at h <;> first | (cases h; done) | (rename_i q; cases q; done) | skip
  all_goals (first | (rename_i q; cases q; exact ⟨_, _, rfl, h⟩) | (exact ⟨_, _, rfl, h⟩))
theorem lc_inv {e : E} {y : Expr} {gs : List Comprehension} {scope : Scope} {p : Pos} (h : mE N T sc e (.ListComp y gs scope p) = true) : ∃ own elt tg it c, e = .comp own elt tg it c := by
  cases e <;> first | (simp only [mE, Bool.false_eq_true] at h; done) | exact ⟨_, _, _, _, _, rfl⟩
theorem dc_inv {e : E} {y z : Expr} {gs : List Comprehension} {scope : Scope} {p : Pos} (h : mE N T sc e (.DictComp y z gs scope p) = true) : ∃ own k v tg it c, e = .dcomp own k v tg it c := by
  cases e <;> first | (simp only [mE, Bool.false_eq_true] at h; done) | exact ⟨_, _, _, _, _, _, rfl⟩
theorem isLc_inv {x : Expr} (h : isLc x = true) : (∃ y gs scope p, x = .ListComp y gs scope p) ∨ ∃ y z gs scope p, x = .DictComp y z gs scope p := by
  cases x <;> first | (cases h; done) | exact .inl ⟨_, _, _, _, rfl⟩ | exact .inr ⟨_, _, _, _, _, rfl⟩
theorem lc_app {e : E} {nm : Str} {p an ap v p3 } : noCp (.Call (.Attribute (.Name nm p) an ap) v [] p3) = true := rfl
theorem swV_lc {nm : Str} {p1 : Pos} {x : Expr} (h : swapV sc nm p1 x = true) : isLc x = true := by
  unfold swapV at h; simp only [Bool.and_eq_true] at h; exact h.1.1
theorem sole_no {t x : Expr} {l : Nat} {env : PySem.Env} (h : noCp x = true) : swapsWithSole [t] x l env = pure false := noCp_sole h
theorem mTg_of {i j : Nat} {is : List Nat} {es : List Expr} {k : Nat} {p : Pos} (h : mSs N sc fnB (i :: j :: is) es = true) : mTg N sc fnB (i :: j :: is) (.Tuple es k p) = true := h
theorem swNo {ts : List Expr} {k : Nat} {p : Pos} {v : Expr} {env : PySem.Env} (h : noSwV env.scope ts v = true) : swappedStores [.Tuple ts k p] v env = pure none := by
  cases v <;> first | exact noSw_ok h | rfl
mutual
theorem ps_ok : ∀ (st : S) (x : Stmt) (C : Cz), Hy C T G Φ → mSt C.N T C.env.scope C.fn st x = true → PSz C G Φ st x
  | .set i e, x, C, H, h => by
    obtain ⟨nm, p1, v, pos, rfl, hh⟩ := set_inv h
    simp only [Bool.and_eq_true, Bool.or_eq_true] at hh
    obtain ⟨⟨h1, h2⟩, h3⟩ := hh
    rcases h3 with h3 | h3
    · exact ps_set' (pe_ok e _ C H h2).1 h1 (plainV_ok h3)
    · rcases isLc_inv (swV_lc h3) with ⟨y, gs, scope, p, rfl⟩ | ⟨y, z, gs, scope, p, rfl⟩
      case inr =>
        obtain ⟨own, k, v, tg, it, c, rfl⟩ := dc_inv h2
        obtain ⟨y', z', tgx, ix, ifs, scope', pos', q, hh⟩ := dcomp_inv h2
        cases q
        simp only [Bool.and_eq_true] at hh
        obtain ⟨⟨⟨⟨⟨g1, g2⟩, g3⟩, g4⟩, g5⟩, g6⟩ := hh
        unfold blkB at g1
        simp only [Bool.and_eq_true, decide_eq_true_eq, List.all_eq_true] at g1
        obtain ⟨⟨⟨b1, b2⟩, b3⟩, b4⟩ := g1
        exact ps_dcSet H (pi_ok it tgx ix C H g3) (blkOk_by b1) b2 b3 b4 (fun C' H' e1 e2 => pc_ok c ifs C' H' (by rw [e1, e2]; exact g4)) (fun C' H' e1 e2 => (pe_ok k y C' H' (by rw [e1, e2]; exact g5)).1) (fun C' H' e1 e2 => (pe_ok v z C' H' (by rw [e1, e2]; exact g6)).1) (noSet_of g2) h1 (swapV_ok h3)
      obtain ⟨own, elt, tg, it, c, rfl⟩ := lc_inv  h2
      obtain ⟨y', tgx, ix, ifs, scope', pos', q, hh⟩ := comp_inv h2
      cases q
      simp only [Bool.and_eq_true] at hh
      obtain ⟨⟨⟨⟨g1, g2⟩, g3⟩, g4⟩, g5⟩ := hh
      unfold blkB at g1
      simp only [Bool.and_eq_true, decide_eq_true_eq, List.all_eq_true] at g1
      obtain ⟨⟨⟨b1, b2⟩, b3⟩, b4⟩ := g1
      exact ps_lcSet H (pi_ok it tgx ix C H g3) (blkOk_by b1) b2 b3 b4 (fun C' H' e1 e2 => pc_ok c ifs C' H' (by rw [e1, e2]; exact g4)) (fun C' H' e1 e2 => (pe_ok elt y C' H' (by rw [e1, e2]; exact g5)).1) (noSet_of g2) h1 (swapV_ok h3)
  | .own i e, x, C, H, h => by
    obtain ⟨nm, p1, v, pos, rfl, hh⟩ := own_inv h
    simp only [Bool.and_eq_true, Bool.or_eq_true] at hh
    obtain ⟨⟨⟨h0, h1⟩, h2⟩, h3⟩ := hh
    rcases h3 with h3 | h3
    · exact ps_own' (alloc_M h0) (pn_ok H h0 h2) h1 (plainV_ok h3)
    · rcases isLc_inv (swV_lc h3) with ⟨y, gs, scope, p, rfl⟩ | ⟨y, z, gs, scope, p, rfl⟩
      case inr =>
        obtain ⟨own, k, v, tg, it, c, rfl⟩ := dc_inv h2
        obtain ⟨y', z', tgx, ix, ifs, scope', pos', q, hh⟩ := dcomp_inv h2
        cases q
        simp only [Bool.and_eq_true] at hh
        obtain ⟨⟨⟨⟨⟨g1, g2⟩, g3⟩, g4⟩, g5⟩, g6⟩ := hh
        unfold blkB at g1
        simp only [Bool.and_eq_true, decide_eq_true_eq, List.all_eq_true] at g1
        obtain ⟨⟨⟨b1, b2⟩, b3⟩, b4⟩ := g1
        exact ps_dcOwn H (pi_ok it tgx ix C H g3) (blkOk_by b1) b2 b3 b4 (fun C' H' e1 e2 => pc_ok c ifs C' H' (by rw [e1, e2]; exact g4)) (fun C' H' e1 e2 => (pe_ok k y C' H' (by rw [e1, e2]; exact g5)).1) (fun C' H' e1 e2 => (pe_ok v z C' H' (by rw [e1, e2]; exact g6)).1) (noSet_of g2) h1 (swapV_ok h3)
      obtain ⟨own, elt, tg, it, c, rfl⟩ := lc_inv  h2
      obtain ⟨y', tgx, ix, ifs, scope', pos', q, hh⟩ := comp_inv h2
      cases q
      simp only [Bool.and_eq_true] at hh
      obtain ⟨⟨⟨⟨g1, g2⟩, g3⟩, g4⟩, g5⟩ := hh
      unfold blkB at g1
      simp only [Bool.and_eq_true, decide_eq_true_eq, List.all_eq_true] at g1
      obtain ⟨⟨⟨b1, b2⟩, b3⟩, b4⟩ := g1
      exact ps_lcOwn H (pi_ok it tgx ix C H g3) (blkOk_by b1) b2 b3 b4 (fun C' H' e1 e2 => pc_ok c ifs C' H' (by rw [e1, e2]; exact g4)) (fun C' H' e1 e2 => (pe_ok elt y C' H' (by rw [e1, e2]; exact g5)).1) (noSet_of g2) h1 (swapV_ok h3)
  | .par ts es, x, C, H, h => by
    obtain ⟨xs, ys, k1, k2, p1, p2, pos, rfl, hh⟩ := par_inv h
    rw [Bool.and_eq_true] at hh
    obtain ⟨h1, h2⟩ := hh
    have pp := pp_ok H h1
    unfold mPar at h2
    split at h2
    · simp only [Bool.and_eq_true, decide_eq_true_eq] at h2
      obtain ⟨⟨⟨a1, a2⟩, a3⟩, a4⟩ := h2
      exact ps_par2 a2 a3 a1 pp (sw2 a4) (sole_no rfl)
    · simp only [Bool.and_eq_true, decide_eq_true_eq] at h2
      obtain ⟨⟨⟨⟨⟨⟨a1, a2⟩, a3⟩, a4⟩, a5⟩, a6⟩, a7⟩ := h2
      exact ps_par3 a4 a5 a6 a1 a2 a3 pp (sw3 a7) (sole_no rfl)
    · cases h2
  | .unp ts e, x, C, H, h => by
    obtain ⟨es, k, p, v, pos, rfl, hh⟩ := unp_inv h
    simp only [Bool.and_eq_true, decide_eq_true_eq] at hh
    obtain ⟨⟨⟨⟨h1, h2⟩, h3⟩, h4⟩, h5⟩ := hh
    match ts, h1, h2 with
    | i :: j :: is, _, h2 => exact ps_unp' (pe_ok e _ C H h3).1 (mTg_of h2) (sole_no h4) (swNo h5)
  | .aug i op e, x, C, H, h => by
    obtain ⟨nm, p, o, v, pos, rfl, hh⟩ := aug_inv h
    simp only [Bool.and_eq_true, Bool.not_eq_true'] at hh
    obtain ⟨⟨⟨⟨⟨h1, h2⟩, h3⟩, h4⟩, h5⟩, h6⟩ := hh
    have h2 : mop op = o := by simpa [opB] using h2
    subst h2
    exact ps_aug' H (by cases op <;> first | (cases h1; done) | simp) (pe_ok e _ C H h5).1 h3 h6 h4
  | .app i e, x, C, H, h => by
    obtain ⟨nm, p, an, ap, v, p3, pos, rfl, hh⟩ := app_inv h
    simp only [Bool.and_eq_true, decide_eq_true_eq] at hh
    obtain ⟨⟨⟨⟨h1, h2⟩, h3⟩, h4⟩, h5⟩ := hh
    exact ps_app' H h3 h1 h2 h4 (pe_ok e _ C H h5).1 rfl
  | .put i k e, x, C, H, h => by
    obtain ⟨nm, p, kx, p2, v, pos, rfl, hh⟩ := put_inv h
    simp only [Bool.and_eq_true] at hh
    obtain ⟨⟨⟨h1, h2⟩, h3⟩, h4⟩ := hh
    exact ps_put' H h1 (pe_ok e _ C H h2).1 (pe_ok k _ C H h3).1 (noCp_ok h4)
  | .ite c a b, x, C, H, h => by
    obtain ⟨v, xs, ys, pos, rfl, hh⟩ := ite_inv h
    simp only [Bool.and_eq_true] at hh
    obtain ⟨⟨h1, h2⟩, h3⟩ := hh
    exact ps_ite' (pe_ok c _ C H h1).2.1 (pss_ok a _ C H h2) (pss_ok b _ C H h3)
  | .while c b, x, C, H, h => by
    obtain ⟨v, xs, pos, rfl, hh⟩ := while_inv h
    simp only [Bool.and_eq_true] at hh
    exact ps_while' (pe_ok c _ C H hh.1).2.1 (pss_ok b _ C H hh.2)
  | .for tg it b, x, C, H, h => by
    obtain ⟨tgx, v, xs, pos, rfl, hh⟩ := for_inv h
    simp only [Bool.and_eq_true] at hh
    obtain ⟨⟨⟨h1, h2⟩, h3⟩, h4⟩ := hh
    exact ps_for' (pi_ok it tgx v C H h1) H h2 (pss_ok b _ C H h4) (noSet_of h3)
  | .ret e, x, C, H, h => by
    obtain ⟨v, pos, rfl, hh⟩ := ret_inv h
    exact ps_ret' (pe_ok e _ C H hh).1
  | .retN, x, C, H, h => by
    obtain ⟨pos, rfl⟩ := retN_inv h
    exact ps_retN'
  | .brk, x, C, H, h => by
    obtain ⟨pos, rfl⟩ := brk_inv h
    exact ps_brk'
  | .cnt, x, C, H, h => by
    obtain ⟨pos, rfl⟩ := cnt_inv h
    exact ps_cnt'
  | .pass, x, C, H, h => by
    obtain ⟨pos, rfl⟩ := pass_inv h
    exact ps_pass'
  | .ex e, x, C, H, h => by
    obtain ⟨v, pos, rfl, hh⟩ := ex_inv h
    rw [Bool.and_eq_true] at hh
    exact ps_ex' (pe_ok e _ C H hh.1).1 (noCp_ok hh.2)
  | .raise, x, C, H, h => ps_never'
theorem pss_ok : ∀ (ss : Ss) (xs : List Stmt) (C : Cz), Hy C T G Φ → mSts C.N T C.env.scope C.fn ss xs = true → PSsz C G Φ ss xs
  | .nil, xs, C, H, h => by
    cases xs with
    | nil => exact pss_nil'
    | cons _ _ => simp only [mSts, Bool.false_eq_true] at h
  | .cons s ss, xs, C, H, h => by
    cases xs with
    | nil => simp only [mSts, Bool.false_eq_true] at h
    | cons x xs =>
      simp only [mSts, Bool.and_eq_true] at h
      exact pss_cons' (ps_ok s x C H h.1) (pss_ok ss xs C H h.2)
end
end
end Mini
/-! Mini, exact: a table of defs; each keeps its promise at each level. -/
namespace Mini
open PySem PySem.Spec PyProof.Rows L2

/-- one def that a law's text has: its number, its datum, its names -/
structure TD where
  id : Nat
  g : Str
  dd : He.DefD
  N : List Str
  ps : List Str
def tabF (tab : List TD) (f : Nat) : Option TD := tab.find? fun td => td.id == f
def tabT (P : Nat → Option Df) (tab : List TD) (gl : List (Nat × Str)) : Tb := ⟨fun g => gl.lookup g, fun f => (tabF tab f).map (·.g), fun f => (P f).bind (·.io)⟩
def TD.df (P : Nat → Option Df) (td : TD) : Df := (P td.id).getD ⟨0, 0, none, .nil⟩
def scopeB (N ps : List Str) (sc : Scope) : Bool :=
  decide (sc.kind = .function) && !sc.isCoroutine && !sc.isGenerator && decide N.Nodup && decide (N.take ps.length = ps) &&
    (ps.all fun x => decide (sc.names.lookup x = some .local) || decide (sc.names.lookup x = some .cell)) && (sc.names.all fun y => decide (y.2 ≠ .free))
theorem scopeB_ok {N ps : List Str} {sc : Scope} (h : scopeB N ps sc = true) : FnScope N ps sc := by
  unfold scopeB at h
  simp only [Bool.and_eq_true, decide_eq_true_eq, Bool.not_eq_true', List.all_eq_true, Bool.or_eq_true] at h
  obtain ⟨⟨⟨⟨⟨⟨h1, h2⟩, h3⟩, h4⟩, h5⟩, h6⟩, h7⟩ := h
  exact ⟨h1, h2, h3, h4, h5, h6, h7⟩
def tdB (P : Nat → Option Df) (T : Tb) (td : TD) : Bool :=
  mSts td.N T td.dd.scope (fun _ => true) (td.df P).body td.dd.body && scopeB td.N td.ps td.dd.scope && decide ((td.df P).n = td.N.length) && decide ((td.df P).ps = td.ps.length) && td.dd.dfl.isEmpty && (P td.id).isSome
def BindOk (td : TD) : Prop := ∀ (kV doc pm : Value) (an : Option Addr) (cdv ct : Value) (us : List Value), us.length = td.ps.length → bindArgs (PySem.W.fnOf td.dd.name td.dd.qual td.dd.params td.dd.body td.dd.scope .none kV doc pm an cdv ct) ⟨us, []⟩ = pure (td.ps.zip us)
/-- what the head has left -/
structure Fac (G : Nat → Option D) (tab : List TD) (gl : List (Nat × Str)) (C : Cz) : Prop where
  mod : Mod C.K C.mg C.base
  def_ : ∀ td ∈ tab, ∃ f fd, C.mg td.g = some (.ref f) ∧ FunD C.K td.dd.name td.dd.qual td.dd.params td.dd.body td.dd.scope [] (td.dd.kws C.K) f fd
  glob : ∀ p ∈ gl, ∀ d, G p.1 = some d → ∃ u, C.mg p.2 = some u ∧ RepV C.prog C.w C.O0 0 u d
  blt : ∀ x, x ∈ blts → C.mg x = none
theorem mem_lk {β : Type} {a : Nat} {b : β} : ∀ {l : List (Nat × β)}, l.lookup a = some b → (a, b) ∈ l
  | [], h => by simp at h
  | (x, y) :: l, h => by
    simp only [List.lookup_cons] at h
    split at h
    · rename_i e
      cases h
      rw [eq_of_beq e]
      exact List.mem_cons_self ..
    · exact List.mem_cons_of_mem _ (mem_lk h)
theorem tabF_mem {tab : List TD} {f : Nat} {td : TD} (h : tabF tab f = some td) : td ∈ tab ∧ td.id = f := by
  unfold tabF at h
  exact ⟨List.mem_of_find?_eq_some h, by have := List.find?_some h; simpa using this⟩
theorem fnv_at {G : Nat → Option D} {P : Nat → Option Df} {td : TD} {k : Nat} {ds : List D} {io : Option D} (h : (P td.id).isSome = true) : fnv G P (k + 1) td.id ds io = run G (fnv G P k) (td.df P) ds io := by
  simp only [fnv, TD.df]
  cases e : P td.id with
  | none => rw [e] at h; cases h
  | some d => rfl
theorem hy_all {G : Nat → Option D} {P : Nat → Option Df} {tab : List TD} {gl : List (Nat × Str)} (hc : tab.all (tdB P (tabT P tab gl)) = true) (hb : ∀ td ∈ tab, BindOk td) : ∀ (k : Nat) (C : Cz), Fac G tab gl C → Room k C.A → 1 ≤ C.t1 → Hy C (tabT P tab gl) G (fnv G P k)
  | k, C, F, hr, h1 => by
    refine ⟨by have := hr.un; omega, h1, fun g d x e1 e2 => ?_, F.blt, fun f x e => ?_⟩
    · exact F.glob (g, x) (mem_lk (show gl.lookup g = some x from e2)) d e1
    · simp only [tabT, Option.map_eq_some_iff] at e
      obtain ⟨td, q, rfl⟩ := e
      obtain ⟨hm, hid⟩ := tabF_mem q
      subst hid
      obtain ⟨a, fd, g1, FD⟩ := F.def_ td hm
      refine ⟨a, g1, FD.kp, ?_⟩
      have ht := List.all_eq_true.mp hc td hm
      unfold tdB at ht
      simp only [Bool.and_eq_true, decide_eq_true_eq] at ht
      obtain ⟨⟨⟨⟨⟨t1, t2⟩, t3⟩, t4⟩, t5⟩, t6⟩ := ht
      have hi : (tabT P tab gl).iop td.id = (td.df P).io := by
        simp only [tabT, TD.df]
        cases e : P td.id with
        | none => rw [e] at t6; cases t6
        | some d => rfl
      rw [hi]
      cases k with
      | zero =>
        intro O s us ds p io r io' Q E _ _ _ _ _ _ _ _ _ hz _
        simp only [fnv] at hz; cases hz
      | succ k =>
        have bd : Binds C.K fd td.ps [] := FD.bindsN (hb td hm)
        obtain ⟨oc, od, dV, kV, doc, pm, an, cdv, ct, osl, rfl, lk, hcd, hD, hK⟩ := FD.ex
        have S := scopeB_ok t2
        refine callz_of (G := G) (d := td.df P) (k := k) (Φ' := fnv G P k) F.mod hr lk hcd bd S t3 t4 (fun ds io => fnv_at t6) fun s => ?_
        refine pss_ok _ _ _ (hy_all hc hb k (callCz C td.N td.dd.qual td.dd.scope a cdv s 1) ⟨F.mod, F.def_, F.glob, F.blt⟩ (hr.deeper _) (Nat.le_refl _)) t1
end Mini
/-! Mini, exact: the law's first statement row = [script, 0, N, 0]: behind it a token has been given. -/
namespace Mini
open PySem PySem.Spec PyProof.Rows L2

abbrev Cz.up (C : Cz) : Cz := { C with t1 := 1 }
section
variable {C : Cz} {T : Tb} {G : Nat → Option D} {Φ : Fn} {B : Bk} {po : Option Addr} {ρ ρ' : En} {τ : List (Option Value)} {O O' : Om} {s s' : Shared}
theorem Iz.up (I : Iz C τ s) (h : 1 ≤ s.toks) : Iz C.up τ s :=
  ⟨⟨I.ok.mod, I.ok.kind, I.ok.glob, I.ok.blt, I.ok.inj, I.ok.has, I.ok.hd, I.ok.nd, I.ok.lb, I.ok.cb⟩, I.bk, I.bare, h, I.os, I.loc, I.cell, I.len⟩
theorem Sz.up (S : Sz C B po ρ τ O s) (h : 1 ≤ s.toks) : Sz C.up B po ρ τ O s :=
  ⟨S.iz.up h, S.g0, S.sub, S.bk, S.on, S.len, S.at_, S.ne⟩
theorem Iz.dn (I : Iz C.up τ s) (h : C.t1 = 0) : Iz C τ s :=
  ⟨⟨I.ok.mod, I.ok.kind, I.ok.glob, I.ok.blt, I.ok.inj, I.ok.has, I.ok.hd, I.ok.nd, I.ok.lb, I.ok.cb⟩, I.bk, I.bare, by rw [h]; exact Nat.zero_le _, I.os, I.loc, I.cell, I.len⟩
theorem Sz.dn (S : Sz C.up B po ρ τ O s) (h : C.t1 = 0) : Sz C B po ρ τ O s :=
  ⟨S.iz.dn h, S.g0, S.sub, S.bk, S.on, S.len, S.at_, S.ne⟩
theorem ints_inv {N : List Str} {sc : Scope} {n : Int} {es : Es} {xs : List Expr} (h : mEs N T sc (.cons (.int n) es) xs = true) : ∃ k p ys, xs = .Constant (.int n) k p :: ys ∧ mEs N T sc es ys = true := by
  cases xs with
  | nil => simp only [mEs, Bool.false_eq_true] at h
  | cons x xs =>
    simp only [mEs, Bool.and_eq_true] at h
    obtain ⟨⟨h0, h1⟩, h2⟩ := h
    cases x <;> try (simp only [mE, Bool.false_eq_true] at h1; done)
    rename_i c k p
    cases c <;> simp only [mE, Bool.false_eq_true, decide_eq_true_eq] at h1
    subst h1
    exact ⟨_, _, _, rfl, h2⟩
theorem var_inv {N : List Str} {sc : Scope} {i : Nat} {es : Es} {xs : List Expr} (h : mEs N T sc (.cons (.var i) es) xs = true) : ∃ nm p ys, xs = .Name nm p :: ys ∧ mN N sc i nm = true ∧ mEs N T sc es ys = true := by
  cases xs with
  | nil => simp only [mEs, Bool.false_eq_true] at h
  | cons x xs =>
    simp only [mEs, Bool.and_eq_true] at h
    obtain ⟨⟨h0, h1⟩, h2⟩ := h
    cases x <;> simp only [mE, Bool.false_eq_true] at h1
    exact ⟨_, _, _, rfl, h1, h2⟩
theorem first_ok {i : Nat} {n m : Int} {es : Es} {ss : Ss} {xs : List Stmt} (hz : C.t1 = 0) (H : Hy C.up T G Φ) (ne : noIo es = true)
    (h : mSts C.N T C.env.scope C.fn (.cons (.own i (.lst (.cons (.var 0) (.cons (.int n) es)))) ss) xs = true) : PSsz C G Φ (.cons (.own i (.lst (.cons (.var 0) (.cons (.int n) es)))) ss) xs := by
  cases xs with
  | nil => simp only [mSts, Bool.false_eq_true] at h
  | cons x xs =>
  simp only [mSts, Bool.and_eq_true] at h
  obtain ⟨h1, h2⟩ := h
  obtain ⟨nm, p1, v, pos, rfl, hh⟩ := own_inv h1
  simp only [Bool.and_eq_true, Bool.or_eq_true] at hh
  obtain ⟨⟨⟨a0, a1⟩, a2⟩, a3⟩ := hh
  cases v <;> try (simp only [mE, Bool.false_eq_true] at a2; done)
  rename_i ys lp
  simp only [mE, Bool.and_eq_true] at a2
  obtain ⟨a4, a2⟩ := a2
  obtain ⟨nv, pv, ys, rfl, b1, a2⟩ := var_inv a2
  obtain ⟨k, pi, zs, rfl, c2⟩ := ints_inv a2
  have a3' : swapsWith (.List (.Name nv pv :: .Constant (.int n) k pi :: zs) lp) (some (.Name nm p1)) pos.line C.env = pure false := rfl
  refine ⟨fun B po ρ τ O s Q E fl ρ' S h q => ?_⟩
  simp only [exs, ex, allocE, if_true, ev, evs, isBrw, Bool.false_eq_true, if_false] at h
  cases hg : getFz ρ 0 with
  | none => rw [hg] at h; simp only [Option.map] at h; cases h
  | some d0 =>
  rw [hg] at h
  simp only [Option.map] at h
  cases he : evs G Φ es ρ with
  | none => rw [he] at h; simp only at h; cases h
  | some r =>
  obtain ⟨ds, ρ1⟩ := r
  rw [he] at h
  simp only at h
  by_cases hlim : (d0 :: D.int n :: ds).length ≤ LIM
  case neg => rw [if_neg hlim] at h; simp only at h; cases h
  rw [if_pos hlim] at h
  simp only at h
  cases ho : setOwn ρ1 i (.lst (d0 :: D.int n :: ds)) with
  | none => rw [ho] at h; simp only at h; cases h
  | some ρ2 =>
  rw [ho] at h
  simp only at h
  obtain ⟨u0, e0, r0⟩ : ∃ u, τ[0]? = some (some u) ∧ RepV C.prog C.w O s.toks u d0 := by
    unfold getFz at hg
    split at hg
    · rename_i d' e
      cases hg
      exact S.at_ 0 _ e
    · cases hg
  have PA := pa_ok es zs C.up H c2
  refine wpAny_execs_cons (wpAny_Assign_Name (wpAny_List_spliced ?_) a3')
  show wpAny _ _ (spliced ((false, eval (.Name nv pv) C.env) :: backTo lp (starEach (.Constant (.int n) k pi :: zs) C.env))) _ _ s
  refine Calls.spliced_cons (name_ok (N := C.N) S b1 e0 ?_)
  show wpAny _ _ (spliced ((false, eval (.Constant (.int n) k pi) C.env) :: backTo lp (starEach zs C.env))) _ _ s
  refine Calls.spliced_cons (wpAny_Constant_int ?_)
  have g : Gr O s O { s with toks := s.toks + 1 } := Gr.same (h' := s.heap) S.sub S.iz.bare (Kept.refl _) (Nat.le_succ _)
  have S1 : Sz C.up B po ρ τ O { s with toks := s.toks + 1 } := (S.grow g).up (Nat.succ_le_succ (Nat.zero_le _))
  have x1 : Ext NoX ρ τ O s ρ τ O { s with toks := s.toks + 1 } := Ext.gr g
  refine PA.run lp B po ρ τ O _ _ E ds ρ1 S1 he fun us O2 s2 S2 x2 l2 => ?_
  have rr := l2.plain ne
  have rall : RepVs C.prog C.w O2 s2.toks (u0 :: .int n s.toks :: us) (d0 :: D.int n :: ds) := .cons (r0.mono x2.le (Nat.le_trans (Nat.le_succ _) x2.tk)) (.cons (.int _ _) rr)
  have hl : (u0 :: Value.int n s.toks :: us).length ≤ sizeLine := by rw [rall.length]; exact Nat.le_trans hlim lim
  have no : s2.heap.get? s2.heap.objs.size = none := Heap.get?_none_of_le (Nat.le_refl _)
  have g2 : Gr O2 s2 O2 { s2 with heap := s2.heap.push { cls := .type "list", data := .seq (u0 :: .int n s.toks :: us).toArray } } := Gr.same (t' := s2.toks) S2.sub S2.iz.bare (Kept.push _ _) (Nat.le_refl _)
  have x12 := x1.trans x2
  have f : Fre C.up B ρ1 τ O2 s.heap s2.heap.objs.size := S2.fre no x12.st'
  refine ⟨hl, asg_own (C := C.up) (S2.grow g2) a1 ho (f) ⟨_, 0, Heap.get?_push_size _ rfl, hl, rall⟩ fun h' t' S3 tk k => ?_⟩
  obtain ⟨hi, e3⟩ := set_own ho
  have x3 := ext_own (C := C.up) (d := .lst (d0 :: D.int n :: ds)) (x12.trans (Ext.gr g2)).weak.toS f.nw hi tk k
  rw [← e3] at x3
  refine (pss_ok ss xs C.up H h2).run B po ρ2 _ O2 _ Q E fl ρ' S3 h fun f τ' O' s' S' x' r' => q f τ' O' s' (S'.dn hz) (x3.trans x') (by cases r' with | nx => exact .nx | brk => exact .brk | cnt => exact .cnt | ret r => exact .ret r)
end
end Mini
/-! Mini, exact: the law's end. -/
namespace Mini
open PySem PySem.Spec PyProof.Rows L2

def glFa (G : Nat → Option D) (p : Nat × Str) : He.Fa := match G p.1 with
  | some (.int i) => .int p.2 i
  | some (.str s) => .str p.2 (toS s)
  | _ => .free p.2
def glOk (G : Nat → Option D) (p : Nat × Str) : Bool := match G p.1 with
  | some (.int _) => true
  | some (.str s) => decide (s.length ≠ 1)
  | _ => false
def faOf (G : Nat → Option D) (tab : List TD) (gl : List (Nat × Str)) : List He.Fa := tab.map (fun td => .glo td.g) ++ (gl.map (glFa G) ++ blts.map .free)
def fnOf' (tab : List TD) : List He.DefD := tab.map (·.dd)
def atB (tab : List TD) : Bool := tab.all fun td => decide (td.dd.at_ = (td.g, none)) && td.dd.dfl.isEmpty
theorem fac_of {G : Nat → Option D} {tab : List TD} {gl : List (Nat × Str)} {C : Cz} (hat : atB tab = true) (hgl : gl.all (glOk G) = true) (mod : Mod C.K C.mg C.base) (c : He.SaysD (faOf G tab gl) (fnOf' tab) C.K) : Fac G tab gl C := by
  have X := mod.kin
  have GG := mod.glob
  have hf : ∀ f ∈ faOf G tab gl, f.ok C.K = true := fun f hm => by
    have c1 := (He.ba (show (((faOf G tab gl).all fun f => f.ok C.K) && (fnOf' tab).all fun d => d.ok C.K) = true from congrArg (fun z : He.AlD => z.1) c)).1
    exact List.all_eq_true.mp c1 f hm
  refine ⟨mod, fun td hm => ?_, fun p hm => ?_, fun x hx => ?_⟩
  · obtain ⟨i, hi⟩ := List.getElem?_of_mem hm
    have ha := List.all_eq_true.mp hat td hm
    simp only [Bool.and_eq_true, decide_eq_true_eq] at ha
    have hd : td.dd.dfl = [] := by simpa using ha.2
    obtain ⟨fd, F⟩ := c.def_ i (d := td.dd) (by unfold fnOf'; rw [List.getElem?_map, hi]; rfl)
    have g := He.glo_ok X GG (hf (.glo td.g) (List.mem_append_left _ (List.mem_map.mpr ⟨td, hm, rfl⟩)))
    have e : He.fAd C.K td.dd.at_ = He.ga C.K td.g := by rw [ha.1]; rfl
    have e2 : td.dd.dvs C.K = [] := by unfold He.DefD.dvs; rw [hd]; rfl
    rw [e, e2] at F
    exact ⟨_, fd, g, F⟩
  · have hq := List.all_eq_true.mp hgl p hm
    have hx := hf (glFa G p) (List.mem_append_right _ (List.mem_append_left _ (List.mem_map.mpr ⟨p, hm, rfl⟩)))
    intro d hd
    unfold glOk at hq
    unfold glFa at hx
    rw [hd] at hq hx
    cases d <;> first | (cases hq; done) | skip
    · obtain ⟨t, e⟩ := He.int_ok X GG hx
      exact ⟨_, e, .int _ _⟩
    · obtain ⟨t, e⟩ := He.str_ok X GG hx
      exact ⟨_, e, .str _ _ fun h => absurd h (of_decide_eq_true hq)⟩
  · exact He.free_ok X GG (hf (.free x) (List.mem_append_right _ (List.mem_append_right _ (List.mem_map.mpr ⟨x, hx, rfl⟩))))

theorem ints_rep {P : Program} {w : World} {O : Om} {n : Nat} : ∀ {vs : List Value} {ns : List Int}, IntsAre vs ns → RepVs P w O n vs (ns.map D.int)
  | _, _, .nil => .nil
  | _, _, .cons _ _ r => .cons (.int _ _) (ints_rep r)

/-- the body of a law begins so -/
def Starts (d : Df) : Prop := ∃ i n es ss, noIo es = true ∧ d.body = .cons (.own i (.lst (.cons (.var 0) (.cons (.int n) es)))) ss
theorem law_walk {l : PySem.W.OpenLaw} {n k li : Nat} {q : Program} {loose : List Str} {XP : (Str → Option Value) → Heap → Prop} {YP : World → Heap → Prop} {d : DefRec} {G : Nat → Option D} {P : Nat → Option Df} {tab : List TD} {gl : List (Nat × Str)} {td : TD}
    (hn : l.most = some n) (hn2 : n ≤ sizeLine) (hdf : d.params.defaults = []) (hr : Room (k + 1) callerA)
    (hat : atB tab = true) (hgl : gl.all (glOk G) = true) (hc : tab.all (tdB P (tabT P tab gl)) = true) (hb : ∀ td ∈ tab, BindOk td)
    (hY : ∀ (w : World) (h : Heap), YP w h → ∃ K, K.In h ∧ He.SaysD (faOf G tab gl) (fnOf' tab) K)
    (hl : td ∈ tab) (hid : td.id = li) (hnm : td.g = d.name) (hst : Starts (td.df P)) (hio : (td.df P).io = none)
    (pure : ∀ ns : List Int, ns.length ≤ n → fnv G P (k + 1) li [.lst (ns.map D.int)] none = some (.bl true, none)) :
    PySem.W.WalkO q loose XP YP l.row.toRowW d [] (fun f vs => PySem.call f vs) := by
  subst hid
  refine Att.attach_call hn hdf fun w s₀ s₁ mg mb fa o pm cd doc a vs ns GR Y ho hd hcd hmg hobj hints hlen hg => ?_
  obtain ⟨K, KX, c⟩ := hY w _ Y
  have mod : Mod K mg s₁.heap := ⟨KX, GR.T.g, ⟨mb, GR.T.b, GR.T.builtins⟩, GR.T.nolimit⟩
  have hhd : callerA.handled = none := hr.hd
  have rep : ∀ (P : Program) (w : World) (O : Om) (n : Nat), RepVs P w O n vs (ns.map D.int) := fun _ _ _ _ => ints_rep hints
  let O0 : Om := fun b => if b = a then some { cls := .type "list", data := .seq vs.toArray } else none
  let C : Cz := ⟨l.prog, w, K, mg, s₁.heap, callerA, [], envOfC "" ⟨.function, [], false, false, []⟩ 0 0 .none, fun _ => false, s₁.os, O0, 0⟩
  have F : Fac G tab gl C := fac_of hat hgl mod c
  obtain ⟨f, fd, g1, FD⟩ := F.def_ td hl
  have e : f = fa := by
    have h1 : mg td.g = some (.ref f) := g1
    rw [hnm, hmg] at h1
    cases h1; rfl
  subst e
  have ht := List.all_eq_true.mp hc td hl
  unfold tdB at ht
  simp only [Bool.and_eq_true, decide_eq_true_eq] at ht
  obtain ⟨⟨⟨⟨⟨t1, t2⟩, t3⟩, t4⟩, t5⟩, t6⟩ := ht
  have bd : Binds C.K fd td.ps [] := FD.bindsN (hb td hl)
  obtain ⟨oc, od, dV, kV, doc', pm', an, cdv, ct, osl, rfl, lk, hcd', hD, hK⟩ := FD.ex
  have S := scopeB_ok t2
  obtain ⟨i, m, es, ss, ne, hbody⟩ := hst
  have sub : ∀ b ob, O0 b = some ob → s₁.heap.get? b = some ob := fun b ob e => by
    by_cases hb : b = a
    · subst hb
      have e' := (if_pos rfl).symm.trans e
      cases e'; exact hobj
    · have e' := (if_neg hb).symm.trans e
      cases e'
  refine call_core (t := 0) (C := C) (G := G) (Φ := fnv G P (k + 1)) (Φ' := fnv G P k) (d := td.df P) (F := td.id) mod hr lk hcd' bd S t3 t4 (fun ds io => fnv_at t6) (fun s => ?_)
    O0 s₁ [.ref a] [.lst (ns.map D.int)] none none (.bl true) none (fun v s' => v = .bool true ∧ Kept s₁.heap s'.heap ∧ s'.os = s₁.os ∧ AllBare s'.gens) _ (fun v s' h => ?_) (Kept.refl _) (.of_eq hg) (Nat.zero_le _) rfl sub (Le.refl _) (fun b e => by cases e) ?_ trivial (pure ns hlen) ?_
  · have H : Hy (callCz C td.N td.dd.qual td.dd.scope f cdv s 0).up (tabT P tab gl) G (fnv G P k) := hy_all hc hb k _ ⟨F.mod, F.def_, F.glob, F.blt⟩ (hr.deeper _) (Nat.le_refl _)
    rw [hbody] at t1 ⊢
    exact first_ok (m := 0) rfl H ne t1
  · obtain ⟨rfl, h2, h3, h4⟩ := h
    exact ⟨rfl, OldK.of_keep h2, h3, h4⟩
  · rw [hio]
    exact .cons (.lst (p := a) (us := vs) (k := 0) (if_pos rfl) (by rw [hints.length]; exact Nat.le_trans hlen hn2) (rep _ _ _ _)) .nil
  · intro u O' s' g r _
    cases r
    exact ⟨rfl, fun b ob e => g.kept b ob (by simp) e, g.os, g.bare⟩
end Mini
namespace Mini
/-! the defs, as Mini programs (printed by gen.py) -/
/-- checks_whole: 0 value -/
def df43 : Df := ⟨1, 1, none, (.cons (.ret (.and (.isi (.var 0) .int) (.not (.isi (.var 0) .bool)))) .nil)⟩

/-- checks_within: 0 value, 1 low, 2 high -/
def df44 : Df := ⟨3, 3, none, (.cons (.ret (.and (.call 43 (.cons (.var 0) .nil)) (.chain .le .le (.var 1) (.var 0) (.var 2)))) .nil)⟩

/-- checks_tuple_of: 0 value, 1 low, 2 high -/
def df46 : Df := ⟨3, 3, none, (.cons (.ret (.and (.isi (.var 0) .tuple) (.chain .le .le (.var 1) (.fn .len (.cons (.var 0) .nil)) (.var 2)))) .nil)⟩

/-- checks_need_company: 0 company, 1 index, 2 pair, 3 letter -/
def df47 : Df := ⟨4, 1, none, (.cons (.ite (.or (.not (.call 46 (.cons (.var 0) (.cons (.int 2) (.cons (.int 2) .nil))))) (.or (.not (.call 44 (.cons (.idx (.var 0) (.int 0)) (.cons (.int 1) (.cons (.glob 3)
  .nil))))) (.not (.call 46 (.cons (.idx (.var 0) (.int 1)) (.cons (.int 0) (.cons (.int 21) .nil))))))) (.cons .raise .nil) .nil) (.cons (.for [1, 2] (.enum (.idx (.var 0) (.int
  1))) (.cons (.ite (.or (.not (.call 46 (.cons (.var 2) (.cons (.int 2) (.cons (.int 2) .nil))))) (.not (.fn .all (.cons (.comp [3] (.call 44 (.cons (.var 3) (.cons (.int 0) (.cons
  (.bin .sub (.idx (.var 0) (.int 0)) (.int 1)) .nil)))) [3] (.seq (.var 2)) .none) .nil)))) (.cons .raise .nil) .nil) (.cons (.ite (.or (.cmp .ge (.idx (.var 2) (.int 0)) (.idx
  (.var 2) (.int 1))) (.and (.cmp .gt (.var 1) (.int 0)) (.cmp .le (.var 2) (.idx (.idx (.var 0) (.int 1)) (.bin .sub (.var 1) (.int 1)))))) (.cons .raise .nil) .nil) .nil))) .nil))⟩

/-- checks_is_word: 0 company, 1 value, 2 most, 3 sign -/
def df48 : Df := ⟨4, 3, none, (.cons (.ite (.or (.not (.isi (.var 1) .str)) (.not (.chain .le .le (.int 1) (.fn .len (.cons (.var 1) .nil)) (.var 2)))) (.cons (.ret (.bl false)) .nil) .nil) (.cons (.ret (.fn
  .all (.cons (.comp [3] (.cmp .isin (.var 3) (.slc (.glob 2) .none (.some (.idx (.var 0) (.int 0))))) [3] (.seq (.var 1)) .none) .nil))) .nil))⟩

/-- checks_is_set: 0 company, 1 value, 2 sign, 3 at -/
def df52 : Df := ⟨4, 2, none, (.cons (.ite (.or (.not (.isi (.var 1) .str)) (.cmp .gt (.fn .len (.cons (.var 1) .nil)) (.idx (.var 0) (.int 0)))) (.cons (.ret (.bl false)) .nil) .nil) (.cons (.ite (.not (.fn
  .all (.cons (.comp [2] (.cmp .isin (.var 2) (.slc (.glob 2) .none (.some (.idx (.var 0) (.int 0))))) [2] (.seq (.var 1)) .none) .nil))) (.cons (.ret (.bl false)) .nil) .nil)
  (.cons (.ret (.fn .all (.cons (.comp [3] (.cmp .lt (.idx (.var 1) (.var 3)) (.idx (.var 1) (.bin .add (.var 3) (.int 1)))) [3] (.range1 (.bin .sub (.fn .len (.cons (.var 1) .nil))
  (.int 1))) .none) .nil))) .nil)))⟩

/-- checks_friends_of_all: 0 company, 1 found, 2 sign, 3 one, 4 other -/
def df54 : Df := ⟨5, 1, none, (.cons (.own 1 (.dcomp [2] (.var 2) (.str []) [2] (.seq (.slc (.glob 2) .none (.some (.idx (.var 0) (.int 0))))) .none)) (.cons (.for [3, 4] (.seq (.idx (.var 0) (.int 1))) (.cons
  (.put 1 (.idx (.glob 2) (.var 3)) (.bin .add (.idx (.brw 1) (.idx (.glob 2) (.var 3))) (.idx (.glob 2) (.var 4)))) (.cons (.put 1 (.idx (.glob 2) (.var 4)) (.bin .add (.idx (.brw
  1) (.idx (.glob 2) (.var 4))) (.idx (.glob 2) (.var 3)))) .nil))) (.cons (.ret (.mv 1)) .nil)))⟩

/-- checks_least_order: 0 told, 1 order, 2 rest, 3 found, 4 sign, 5 ahead, 6 other -/
def df55 : Df := ⟨7, 2, none, (.cons (.par [(2, false), (3, false)] (.cons (.var 1) (.cons (.str []) .nil))) (.cons (.while (.cmp .ne (.var 2) (.str [])) (.cons (.for [4] (.seq (.fn .sorted (.cons (.var 2)
  .nil))) (.cons (.set 5 (.slc (.var 2) .none (.some (.mt .index (.var 2) (.cons (.var 4) .nil))))) (.cons (.ite (.fn .all (.cons (.comp [6] (.cmp .notin (.var 6) (.idx (.var 0)
  (.var 4))) [6] (.seq (.var 5)) .none) .nil)) (.cons (.par [(3, false), (2, false)] (.cons (.bin .add (.var 3) (.var 4)) (.cons (.rep (.var 2) (.var 4)) .nil))) (.cons .brk .nil))
  .nil) .nil))) .nil)) (.cons (.ret (.var 3)) .nil)))⟩

/-- checks_first_stands: 0 word, 1 found, 2 sign -/
def df56 : Df := ⟨3, 1, none, (.cons (.set 1 (.str [])) (.cons (.for [2] (.seq (.var 0)) (.cons (.ite (.cmp .notin (.var 2) (.var 1)) (.cons (.set 1 (.bin .add (.var 1) (.var 2))) .nil) .nil) .nil)) (.cons (.ret
  (.var 1)) .nil)))⟩

/-- checks_is_kind: 0 company, 1 value -/
def df57 : Df := ⟨2, 2, none, (.cons (.ite (.or (.not (.isi (.var 1) .str)) (.or (.cmp .gt (.fn .len (.cons (.var 1) .nil)) (.idx (.var 0) (.int 0))) (.not (.call 52 (.cons (.var 0) (.cons (.mt .join (.str [])
  (.cons (.fn .sorted (.cons (.var 1) .nil)) .nil)) .nil)))))) (.cons (.ret (.bl false)) .nil) .nil) (.cons (.ret (.cmp .eq (.call 55 (.cons (.call 54 (.cons (.var 0) .nil)) (.cons
  (.var 1) .nil))) (.var 1))) .nil))⟩

/-- checks_need_kind: 0 company, 1 kind -/
def df58 : Df := ⟨2, 2, none, (.cons (.ite (.not (.call 57 (.cons (.var 0) (.cons (.var 1) .nil)))) (.cons .raise .nil) .nil) .nil)⟩

/-- maps_need_map: 0 one, 1 other, 2 told -/
def df150 : Df := ⟨3, 3, none, (.cons (.ex (.call 47 (.cons (.var 0) .nil))) (.cons (.ex (.call 47 (.cons (.var 1) .nil))) (.cons (.ite (.or (.not (.call 48 (.cons (.var 1) (.cons (.var 2) (.cons (.idx (.var 0)
  (.int 0)) .nil))))) (.cmp .ne (.fn .len (.cons (.var 2) .nil)) (.idx (.var 0) (.int 0)))) (.cons .raise .nil) .nil) .nil)))⟩

/-- maps_first_broken_of: 0 one, 1 other, 2 told, 3 near, 4 known, 5 at, 6 place -/
def df151 : Df := ⟨7, 3, none, (.cons (.par [(3, false), (4, false)] (.cons (.call 54 (.cons (.var 1) .nil)) (.cons (.call 54 (.cons (.var 0) .nil)) .nil))) (.cons (.for [5] (.range1 (.idx (.var 0) (.int 0)))
  (.cons (.for [6] (.range2 (.bin .add (.var 5) (.int 1)) (.idx (.var 0) (.int 0))) (.cons (.ite (.and (.cmp .notin (.idx (.glob 2) (.var 6)) (.idx (.var 4) (.idx (.glob 2) (.var
  5)))) (.cmp .isin (.idx (.var 2) (.var 6)) (.idx (.var 3) (.idx (.var 2) (.var 5))))) (.cons (.ret (.tup (.cons (.idx (.glob 2) (.var 5)) (.cons (.idx (.glob 2) (.var 6)) .nil))))
  .nil) .nil) .nil)) .nil)) (.cons (.ret .non) .nil)))⟩

/-- maps_keeps: 0 one, 1 other, 2 told -/
def df152 : Df := ⟨3, 3, none, (.cons (.ex (.call 150 (.cons (.var 0) (.cons (.var 1) (.cons (.var 2) .nil))))) (.cons (.ret (.cmp .isN (.call 151 (.cons (.var 0) (.cons (.var 1) (.cons (.var 2) .nil)))) .non))
  .nil))⟩

/-- maps_first_broken: 0 one, 1 other, 2 told -/
def df153 : Df := ⟨3, 3, none, (.cons (.ex (.call 150 (.cons (.var 0) (.cons (.var 1) (.cons (.var 2) .nil))))) (.cons (.ret (.call 151 (.cons (.var 0) (.cons (.var 1) (.cons (.var 2) .nil))))) .nil))⟩

/-- maps_image: 0 one, 1 other, 2 told, 3 kind -/
def df154 : Df := ⟨4, 4, none, (.cons (.ex (.call 150 (.cons (.var 0) (.cons (.var 1) (.cons (.var 2) .nil))))) (.cons (.ex (.call 58 (.cons (.var 0) (.cons (.var 3) .nil)))) (.cons (.ret (.call 155 (.cons (.call
  54 (.cons (.var 1) .nil)) (.cons (.var 2) (.cons (.var 3) .nil))))) .nil)))⟩

/-- maps_image_of: 0 near, 1 told, 2 kind, 3 sign -/
def df155 : Df := ⟨4, 3, none, (.cons (.ret (.call 55 (.cons (.var 0) (.cons (.call 56 (.cons (.mt .join (.str []) (.cons (.comp [3] (.idx (.var 1) (.mt .index (.glob 2) (.cons (.var 3) .nil))) [3] (.seq (.var
  2)) .none) .nil)) .nil)) .nil)))) .nil)⟩

/-- maps_rows_of: 0 one, 1 other, 2 near, 3 known, 4 rows, 5 at, 6 later, 7 row, 8 sign, 9 place -/
def df156 : Df := ⟨10, 2, none, (.cons (.unp [2, 3] (.tup (.cons (.call 54 (.cons (.var 1) .nil)) (.cons (.call 54 (.cons (.var 0) .nil)) .nil)))) (.cons (.set 4 (.lst (.cons (.str []) .nil))) (.cons (.for [5]
  (.range1 (.idx (.var 0) (.int 0))) (.cons (.own 6 (.lst .nil)) (.cons (.for [7] (.seq (.var 4)) (.cons (.for [8] (.seq (.slc (.glob 2) .none (.some (.idx (.var 1) (.int 0)))))
  (.cons (.ite (.fn .all (.cons (.comp [9] (.or (.cmp .isin (.idx (.glob 2) (.var 9)) (.idx (.var 3) (.idx (.glob 2) (.var 5)))) (.cmp .notin (.idx (.var 7) (.var 9)) (.idx (.var 2)
  (.var 8)))) [9] (.range1 (.var 5)) .none) .nil)) (.cons (.app 6 (.bin .add (.var 7) (.var 8))) .nil) .nil) .nil)) .nil)) (.cons (.set 4 (.mv 6)) (.cons (.ite (.cmp .gt (.fn .len
  (.cons (.var 4) .nil)) (.glob 8)) (.cons .raise .nil) .nil) .nil))))) (.cons (.ret (.var 4)) .nil))))⟩

/-- maps_maps: 0 one, 1 other -/
def df157 : Df := ⟨2, 2, none, (.cons (.ex (.call 47 (.cons (.var 0) .nil))) (.cons (.ex (.call 47 (.cons (.var 1) .nil))) (.cons (.ret (.call 156 (.cons (.var 0) (.cons (.var 1) .nil)))) .nil)))⟩

/-- maps_count_maps: 0 one, 1 other -/
def df158 : Df := ⟨2, 2, none, (.cons (.ret (.fn .len (.cons (.call 157 (.cons (.var 0) (.cons (.var 1) .nil))) .nil))) .nil)⟩

/-- law_taken: 0 _law_row, 1 _law_many, 2 _law_found, 3 _law_cell -/
def df400 : Df := ⟨4, 2, some 0, (.cons (.ite (.cmp .gt (.idx (.brw 0) (.int 3)) (.int 0)) (.cons (.set 2 (.bin .mod (.fn .int (.cons (.idx (.brw 0) (.int 3)) .nil)) (.var 1))) (.cons (.put 0 (.int 3) (.bin .fdiv
  (.idx (.brw 0) (.int 3)) (.var 1))) (.cons (.ret (.var 2)) .nil))) .nil) (.cons (.put 0 (.int 1) (.bin .add (.idx (.brw 0) (.int 1)) (.int 1))) (.cons (.ite (.cmp .gt (.idx (.brw
  0) (.int 1)) (.fn .len (.cons (.idx (.brw 0) (.int 0)) .nil))) (.cons (.put 0 (.int 2) (.bin .mod (.fn .int (.cons (.bin .add (.bin .mul (.idx (.brw 0) (.int 2)) (.int 48271))
  (.int 11)) .nil)) (.int 2147483647))) (.cons (.ret (.bin .mod (.fn .int (.cons (.bin .fdiv (.idx (.brw 0) (.int 2)) (.int 7)) .nil)) (.var 1))) .nil)) .nil) (.cons (.set 3 (.idx
  (.idx (.brw 0) (.int 0)) (.bin .sub (.idx (.brw 0) (.int 1)) (.int 1)))) (.cons (.put 0 (.int 2) (.bin .mod (.fn .int (.cons (.bin .add (.bin .add (.bin .mul (.idx (.brw 0) (.int
  2)) (.int 48271)) (.var 3)) (.int 11)) .nil)) (.int 2147483647))) (.cons (.ite (.cmp .ge (.var 3) (.bin .pow (.int 10) (.int 18))) (.cons (.put 0 (.int 3) (.bin .fdiv (.var 3)
  (.var 1))) .nil) .nil) (.cons (.ret (.bin .mod (.fn .int (.cons (.var 3) .nil)) (.var 1))) .nil)))))))⟩

/-- law_pairs: 0 _law_many, 1 _law_found, 2 _law_one, 3 _law_other -/
def df401 : Df := ⟨4, 1, none, (.cons (.set 1 (.lst .nil)) (.cons (.for [2] (.range1 (.var 0)) (.cons (.set 1 (.bin .add (.var 1) (.comp [3] (.tup (.cons (.var 2) (.cons (.var 3) .nil))) [3] (.range2 (.bin .add
  (.var 2) (.int 1)) (.var 0)) .none))) .nil)) (.cons (.ret (.var 1)) .nil)))⟩

/-- law_company: 0 _law_row, 1 _law_most, 2 _law_many, 3 _law_ways, 4 _law_pairs_here, 5 _law_pair -/
def df402 : Df := ⟨6, 2, some 0, (.cons (.unp [2, 3] (.tup (.cons (.bin .add (.int 1) (.call 400 (.io 0 (.cons (.var 1) .nil)))) (.cons (.idx (.lst (.cons (.int 2) (.cons (.int 3) (.cons (.int 5) .nil)))) (.call
  400 (.io 0 (.cons (.int 3) .nil)))) .nil)))) (.cons (.set 4 (.comp [5] (.var 5) [5] (.seq (.call 401 (.cons (.var 2) .nil))) (.some (.cmp .gt (.call 400 (.io 0 (.cons (.var 3)
  .nil))) (.int 0))))) (.cons (.ite (.cmp .eq (.call 400 (.io 0 (.cons (.int 4) .nil))) (.int 0)) (.cons (.set 4 (.comp [5] (.var 5) [5] (.seq (.var 4)) (.some (.cmp .lt (.bin .sub
  (.idx (.var 5) (.int 1)) (.idx (.var 5) (.int 0))) (.int 2))))) .nil) .nil) (.cons (.ret (.tup (.cons (.var 2) (.cons (.fn .tuple (.cons (.var 4) .nil)) .nil)))) .nil))))⟩

/-- law_all_words: 0 _law_company_here, 1 _law_length, 2 _law_rows, 3 _law_turn, 4 _law_longer, 5 _law_word_here, 6 _law_sign -/
def df413 : Df := ⟨7, 2, none, (.cons (.set 2 (.lst (.cons (.str []) .nil))) (.cons (.for [3] (.range1 (.var 1)) (.cons (.set 4 (.lst .nil)) (.cons (.for [5] (.seq (.var 2)) (.cons (.set 4 (.bin .add (.var 4)
  (.comp [6] (.bin .add (.var 5) (.var 6)) [6] (.seq (.slc (.str [97, 98, 99, 100, 101, 102, 103]) .none (.some (.idx (.var 0) (.int 0))))) .none))) .nil)) (.cons (.set 2 (.var 4))
  .nil)))) (.cons (.ret (.var 2)) .nil)))⟩

/-- law_friend: 0 _law_company_here, 1 _law_one, 2 _law_other, 3 _law_signs -/
def df404 : Df := ⟨4, 3, none, (.cons (.set 3 (.str [97, 98, 99, 100, 101, 102, 103])) (.cons (.ret (.cmp .isin (.tup (.cons (.mt .index (.var 3) (.cons (.fn .min (.cons (.var 1) (.cons (.var 2) .nil))) .nil))
  (.cons (.mt .index (.var 3) (.cons (.fn .max (.cons (.var 1) (.cons (.var 2) .nil))) .nil)) .nil))) (.idx (.var 0) (.int 1)))) .nil))⟩

/-- law_alike: 0 _law_found, 1 _law_due, 2 _law_k -/
def df405 : Df := ⟨3, 2, none, (.cons (.ite (.isi2 (.var 1) .tuple .list) (.cons (.ite (.or (.not (.isi2 (.var 0) .tuple .list)) (.cmp .ne (.isi (.var 0) .list) (.isi (.var 1) .list))) (.cons (.ret (.bl false))
  .nil) .nil) (.cons (.ite (.cmp .ne (.fn .len (.cons (.var 0) .nil)) (.fn .len (.cons (.var 1) .nil))) (.cons (.ret (.bl false)) .nil) .nil) (.cons (.ret (.cmp .eq (.comp [2] (.var
  2) [2] (.range1 (.fn .len (.cons (.var 1) .nil))) (.some (.not (.call 405 (.cons (.idx (.var 0) (.var 2)) (.cons (.idx (.var 1) (.var 2)) .nil)))))) (.lst .nil))) .nil))) .nil)
  (.cons (.ite (.or (.cmp .isN (.var 1) .non) (.isi (.var 1) .str)) (.cons (.ret (.and (.cmp .eq (.var 0) (.var 1)) (.cmp .eq (.isi (.var 0) .str) (.isi (.var 1) .str)))) .nil)
  .nil) (.cons (.ret (.and (.isi (.var 0) .int) (.and (.cmp .eq (.isi (.var 0) .bool) (.isi (.var 1) .bool)) (.cmp .eq (.var 0) (.var 1))))) .nil)))⟩

/-- law_firsts: 0 _law_word_here, 1 _law_at -/
def df409 : Df := ⟨2, 1, none, (.cons (.ret (.mt .join (.str []) (.cons (.comp [1] (.idx (.var 0) (.var 1)) [1] (.range1 (.fn .len (.cons (.var 0) .nil))) (.some (.cmp .notin (.idx (.var 0) (.var 1)) (.slc (.var
  0) .none (.some (.var 1)))))) .nil))) .nil)⟩

/-- law_kind: 0 _law_company_here, 1 _law_word_here, 2 _law_rest, 3 _law_found, 4 _law_turn, 5 _law_free, 6 _law_at, 7 _law_sign -/
def df410 : Df := ⟨8, 2, none, (.cons (.unp [2, 3] (.tup (.cons (.call 409 (.cons (.var 1) .nil)) (.cons (.str []) .nil)))) (.cons (.for [4] (.range1 (.fn .len (.cons (.var 2) .nil))) (.cons (.own 5 (.lst .nil))
  (.cons (.for [6] (.range1 (.fn .len (.cons (.var 2) .nil))) (.cons (.ite (.cmp .eq (.comp [7] (.var 7) [7] (.seq (.slc (.var 2) .none (.some (.var 6)))) (.some (.call 404 (.cons
  (.var 0) (.cons (.var 7) (.cons (.idx (.var 2) (.var 6)) .nil)))))) (.lst .nil)) (.cons (.app 5 (.idx (.var 2) (.var 6))) .nil) .nil) .nil)) (.cons (.unp [3, 2] (.tup (.cons (.bin
  .add (.var 3) (.fn .min (.cons (.brw 5) .nil))) (.cons (.rep (.var 2) (.fn .min (.cons (.brw 5) .nil))) .nil)))) .nil)))) (.cons (.ret (.var 3)) .nil)))⟩

/-- law_word: 0 _law_row, 1 _law_company_here, 2 _law_most, 3 _law_at -/
def df408 : Df := ⟨4, 3, some 0, (.cons (.ret (.mt .join (.str []) (.cons (.comp [3] (.idx (.str [97, 98, 99, 100, 101, 102, 103]) (.call 400 (.io 0 (.cons (.idx (.var 1) (.int 0)) .nil)))) [3] (.range1 (.bin .add
  (.int 1) (.call 400 (.io 0 (.cons (.var 2) .nil))))) .none) .nil))) .nil)⟩

/-- law_drawn_kind: 0 _law_row, 1 _law_company_here -/
def df428 : Df := ⟨2, 2, some 0, (.cons (.ret (.call 410 (.cons (.var 1) (.cons (.mt .join (.str []) (.cons (.idx (.lst (.cons (.str []) (.cons (.call 408 (.io 0 (.cons (.var 1) (.cons (.bin .mul (.int 2) (.idx
  (.var 1) (.int 0))) .nil)))) .nil))) (.fn .int (.cons (.cmp .gt (.call 400 (.io 0 (.cons (.int 9) .nil))) (.int 0)) .nil))) .nil)) .nil)))) .nil)⟩

/-- law_k47: 0 _law_script, 1 _law_row, 2 _law_one, 3 _law_other, 4 _law_told, 5 _law_at, 6 _law_due, 7 _law_word_here, 8 _law_bent, 9 _law_first, 10 _law_second, 11 _law_kind_here, 12 _law_moved, 13 _law_sign, 14 _law_later -/
def df1047 : Df := ⟨15, 1, none, (.cons (.own 1 (.lst (.cons (.var 0) (.cons (.int 0) (.cons (.int 7947) (.cons (.int 0) .nil)))))) (.cons (.unp [2, 3] (.tup (.cons (.call 402 (.io 1 (.cons (.int 4) .nil))) (.cons
  (.call 402 (.io 1 (.cons (.int 3) .nil))) .nil)))) (.cons (.set 4 (.mt .join (.str []) (.cons (.comp [5] (.idx (.str [97, 98, 99, 100, 101, 102, 103]) (.call 400 (.io 1 (.cons
  (.idx (.var 3) (.int 0)) .nil)))) [5] (.range1 (.idx (.var 2) (.int 0))) .none) .nil))) (.cons (.set 6 (.lst .nil)) (.cons (.for [7] (.seq (.call 413 (.cons (.var 3) (.cons (.idx
  (.var 2) (.int 0)) .nil)))) (.cons (.own 8 (.lst .nil)) (.cons (.for [9, 10] (.seq (.call 401 (.cons (.idx (.var 2) (.int 0)) .nil))) (.cons (.ite (.and (.cmp .notin (.tup (.cons
  (.var 9) (.cons (.var 10) .nil))) (.idx (.var 2) (.int 1))) (.and (.cmp .ne (.idx (.var 7) (.var 9)) (.idx (.var 7) (.var 10))) (.call 404 (.cons (.var 3) (.cons (.idx (.var 7)
  (.var 9)) (.cons (.idx (.var 7) (.var 10)) .nil)))))) (.cons (.app 8 (.tup (.cons (.idx (.str [97, 98, 99, 100, 101, 102, 103]) (.var 9)) (.cons (.idx (.str [97, 98, 99, 100, 101,
  102, 103]) (.var 10)) .nil)))) .nil) .nil) .nil)) (.cons (.set 6 (.bin .add (.var 6) (.ite (.cmp .eq (.brw 8) (.lst .nil)) (.lst (.cons (.var 7) .nil)) (.lst .nil)))) (.cons (.ite
  (.and (.cmp .eq (.var 7) (.var 4)) (.not (.call 405 (.cons (.lst (.cons (.call 152 (.cons (.var 2) (.cons (.var 3) (.cons (.var 4) .nil)))) (.cons (.call 153 (.cons (.var 2)
  (.cons (.var 3) (.cons (.var 4) .nil)))) .nil))) (.cons (.lst (.cons (.cmp .eq (.brw 8) (.lst .nil)) (.cons (.ite (.cmp .ne (.brw 8) (.lst .nil)) (.idx (.brw 8) (.int 0)) .non)
  .nil))) .nil))))) (.cons (.ret (.bl false)) .nil) .nil) .nil))))) (.cons (.ite (.not (.call 405 (.cons (.lst (.cons (.call 157 (.cons (.var 2) (.cons (.var 3) .nil))) (.cons
  (.call 158 (.cons (.var 2) (.cons (.var 3) .nil))) .nil))) (.cons (.lst (.cons (.var 6) (.cons (.fn .len (.cons (.var 6) .nil)) .nil))) .nil)))) (.cons (.ret (.bl false)) .nil)
  .nil) (.cons (.set 11 (.call 428 (.io 1 (.cons (.var 2) .nil)))) (.cons (.set 12 (.mt .join (.str []) (.cons (.comp [13] (.idx (.var 4) (.mt .index (.str [97, 98, 99, 100, 101,
  102, 103]) (.cons (.var 13) .nil))) [13] (.seq (.var 11)) .none) .nil))) (.cons (.ite (.not (.call 405 (.cons (.call 154 (.cons (.var 2) (.cons (.var 3) (.cons (.var 4) (.cons
  (.var 11) .nil))))) (.cons (.call 410 (.cons (.var 3) (.cons (.var 12) .nil))) .nil)))) (.cons (.ret (.bl false)) .nil) .nil) (.cons (.ite (.cmp .notin (.var 4) (.var 6)) (.cons
  (.ret (.bl true)) .nil) .nil) (.cons (.set 7 (.call 408 (.io 1 (.cons (.var 2) (.cons (.int 8) .nil))))) (.cons (.set 14 (.mt .join (.str []) (.cons (.comp [13] (.idx (.var 4)
  (.mt .index (.str [97, 98, 99, 100, 101, 102, 103]) (.cons (.var 13) .nil))) [13] (.seq (.var 7)) .none) .nil))) (.cons (.ret (.cmp .eq (.call 154 (.cons (.var 2) (.cons (.var 3)
  (.cons (.var 4) (.cons (.call 410 (.cons (.var 2) (.cons (.var 7) .nil))) .nil))))) (.call 410 (.cons (.var 3) (.cons (.var 14) .nil))))) .nil)))))))))))))⟩

/-- checks_need_number: 0 value, 1 low, 2 high -/
def df45 : Df := ⟨3, 3, none, (.cons (.ite (.not (.call 44 (.cons (.var 0) (.cons (.var 1) (.cons (.var 2) .nil))))) (.cons .raise .nil) .nil) .nil)⟩

/-- law_power: 0 _law_base, 1 _law_times, 2 _law_found, 3 _law_turn -/
def df450 : Df := ⟨4, 2, none, (.cons (.set 2 (.int 1)) (.cons (.for [3] (.range1 (.var 1)) (.cons (.set 2 (.bin .mul (.var 2) (.var 0))) .nil)) (.cons (.ret (.var 2)) .nil)))⟩

/-- checks_power: 0 base, 1 exponent, 2 found, 3 turn -/
def df67 : Df := ⟨4, 2, none, (.cons (.set 2 (.int 1)) (.cons (.for [3] (.range1 (.var 1)) (.cons (.aug 2 .mul (.var 0)) .nil)) (.cons (.ret (.var 2)) .nil)))⟩

/-- counts_partings_of: 0 most, 1 rows, 2 places, 3 last, 4 lots -/
def df84 : Df := ⟨5, 1, none, (.cons (.own 1 (.lst (.cons (.lst (.cons (.int 1) .nil)) .nil))) (.cons (.for [2] (.range2 (.int 1) (.bin .add (.var 0) (.int 1))) (.cons (.set 3 (.bin .add (.idx (.brw 1) (.neg
  (.int 1))) (.lst (.cons (.int 0) .nil)))) (.cons (.app 1 (.bin .add (.lst (.cons (.int 0) .nil)) (.comp [4] (.bin .add (.idx (.var 3) (.bin .sub (.var 4) (.int 1))) (.bin .mul
  (.var 4) (.idx (.var 3) (.var 4)))) [4] (.range2 (.int 1) (.bin .add (.var 2) (.int 1))) .none))) .nil))) (.cons (.ret (.mv 1)) .nil)))⟩

/-- counts_partings: 0 places, 1 lots, 2 row -/
def df85 : Df := ⟨3, 2, none, (.cons (.ex (.call 45 (.cons (.var 0) (.cons (.int 0) (.cons (.glob 4) .nil))))) (.cons (.ex (.call 45 (.cons (.var 1) (.cons (.int 0) (.cons (.glob 4) .nil))))) (.cons (.set 2
  (.idx (.call 84 (.cons (.var 0) .nil)) (.neg (.int 1)))) (.cons (.ret (.ite (.cmp .lt (.var 1) (.fn .len (.cons (.var 2) .nil))) (.idx (.var 2) (.var 1)) (.int 0))) .nil))))⟩

/-- companies_alone: 0 many -/
def df78 : Df := ⟨1, 1, none, (.cons (.ex (.call 45 (.cons (.var 0) (.cons (.int 1) (.cons (.glob 3) .nil))))) (.cons (.ret (.tup (.cons (.var 0) (.cons (.tup .nil) .nil)))) .nil))⟩

/-- companies_crowd: 0 many, 1 pairs, 2 one, 3 other -/
def df82 : Df := ⟨4, 1, none, (.cons (.ex (.call 45 (.cons (.var 0) (.cons (.int 1) (.cons (.glob 3) .nil))))) (.cons (.set 1 (.lst .nil)) (.cons (.for [2] (.range1 (.var 0)) (.cons (.set 1 (.bin .add (.var 1)
  (.comp [3] (.tup (.cons (.var 2) (.cons (.var 3) .nil))) [3] (.range2 (.bin .add (.var 2) (.int 1)) (.var 0)) .none))) .nil)) (.cons (.ret (.tup (.cons (.var 0) (.cons (.fn .tuple
  (.cons (.var 1) .nil)) .nil)))) .nil))))⟩

/-- orders_count_of: 0 told, 1 kind, 2 known, 3 sign -/
def df200 : Df := ⟨4, 3, some 2, (.cons (.ite (.cmp .eq (.var 1) (.str [])) (.cons (.ret (.int 1)) .nil) .nil) (.cons (.ite (.cmp .notin (.var 1) (.brw 2)) (.cons (.put 2 (.var 1) (.fn .sum (.cons (.comp [3] (.call
  200 (.cons (.var 0) (.cons (.rep (.var 1) (.var 3)) (.io 2 .nil)))) [3] (.seq (.call 199 (.cons (.var 0) (.cons (.var 1) .nil)))) .none) .nil))) .nil) .nil) (.cons (.ret (.idx
  (.brw 2) (.var 1))) .nil)))⟩

/-- counts_words_of: 0 told, 1 kind, 2 length -/
def df86 : Df := ⟨3, 3, none, (.cons (.ite (.cmp .gt (.fn .len (.cons (.var 1) .nil)) (.var 2)) (.cons (.ret (.int 0)) .nil) .nil) (.cons (.ret (.bin .mul (.idx (.idx (.call 84 (.cons (.var 2) .nil)) (.neg (.int
  1))) (.fn .len (.cons (.var 1) .nil))) (.call 200 (.cons (.var 0) (.cons (.var 1) .fr))))) .nil))⟩

/-- counts_count_words: 0 company, 1 kind, 2 length -/
def df87 : Df := ⟨3, 3, none, (.cons (.ex (.call 47 (.cons (.var 0) .nil))) (.cons (.ex (.call 58 (.cons (.var 0) (.cons (.var 1) .nil)))) (.cons (.ex (.call 45 (.cons (.var 2) (.cons (.int 1) (.cons (.glob 4)
  .nil))))) (.cons (.ret (.call 86 (.cons (.call 54 (.cons (.var 0) .nil)) (.cons (.var 1) (.cons (.var 2) .nil))))) .nil))))⟩

/-- counts_count_by_length: 0 company, 1 kind, 2 most, 3 told, 4 rows, 5 many, 6 row -/
def df88 : Df := ⟨7, 3, none, (.cons (.ex (.call 47 (.cons (.var 0) .nil))) (.cons (.ex (.call 58 (.cons (.var 0) (.cons (.var 1) .nil)))) (.cons (.ex (.call 45 (.cons (.var 2) (.cons (.int 1) (.cons (.glob 4)
  .nil))))) (.cons (.par [(3, false), (4, false)] (.cons (.call 54 (.cons (.var 0) .nil)) (.cons (.call 84 (.cons (.var 2) .nil)) .nil))) (.cons (.set 5 (.call 200 (.cons (.var 3)
  (.cons (.var 1) .fr)))) (.cons (.ret (.fn .tuple (.cons (.comp [6] (.bin .mul (.var 5) (.ite (.cmp .lt (.fn .len (.cons (.var 1) .nil)) (.fn .len (.cons (.var 6) .nil))) (.idx
  (.var 6) (.fn .len (.cons (.var 1) .nil))) (.int 0))) [6] (.seq (.slc (.var 4) (.some (.int 1)) .none)) .none) .nil))) .nil))))))⟩

/-- counts_count_ranges: 0 company, 1 kind, 2 low, 3 high -/
def df98 : Df := ⟨4, 4, none, (.cons (.ex (.call 47 (.cons (.var 0) .nil))) (.cons (.ex (.call 58 (.cons (.var 0) (.cons (.var 1) .nil)))) (.cons (.ex (.call 45 (.cons (.var 2) (.cons (.int 1) (.cons (.glob 4)
  .nil))))) (.cons (.ex (.call 45 (.cons (.var 3) (.cons (.var 2) (.cons (.glob 4) .nil))))) (.cons (.ret (.fn .sum (.cons (.slc (.call 88 (.cons (.var 0) (.cons (.var 1) (.cons
  (.var 3) .nil)))) (.some (.bin .sub (.var 2) (.int 1))) .none) .nil))) .nil)))))⟩

/-- counts_count_up_to: 0 company, 1 length, 2 size -/
def df94 : Df := ⟨3, 2, none, (.cons (.ex (.call 47 (.cons (.var 0) .nil))) (.cons (.ex (.call 45 (.cons (.var 1) (.cons (.int 1) (.cons (.glob 4) .nil))))) (.cons (.ret (.fn .sum (.cons (.comp [2] (.call 67
  (.cons (.idx (.var 0) (.int 0)) (.cons (.var 2) .nil))) [2] (.range2 (.int 1) (.bin .add (.var 1) (.int 1))) .none) .nil))) .nil)))⟩

/-- news_count_by_new: 0 company, 1 length, 2 row, 3 found, 4 ways, 5 many -/
def df174 : Df := ⟨6, 2, none, (.cons (.ex (.call 47 (.cons (.var 0) .nil))) (.cons (.ex (.call 45 (.cons (.var 1) (.cons (.int 1) (.cons (.glob 4) .nil))))) (.cons (.par [(2, false), (3, true), (4, false)]
  (.cons (.idx (.call 84 (.cons (.var 1) .nil)) (.neg (.int 1))) (.cons (.lst .nil) (.cons (.int 1) .nil)))) (.cons (.for [5] (.range2 (.int 1) (.bin .add (.idx (.var 0) (.int 0))
  (.int 1))) (.cons (.set 4 (.bin .mul (.var 4) (.bin .add (.bin .sub (.idx (.var 0) (.int 0)) (.var 5)) (.int 1)))) (.cons (.app 3 (.ite (.cmp .lt (.var 5) (.fn .len (.cons (.var
  2) .nil))) (.bin .mul (.var 4) (.idx (.var 2) (.var 5))) (.int 0))) .nil))) (.cons (.ret (.fn .tuple (.cons (.brw 3) .nil))) .nil)))))⟩

/-- counts_first_full: 0 company, 1 kind, 2 many, 3 counts, 4 some, 5 at, 6 count -/
def df95 : Df := ⟨7, 3, none, (.cons (.ex (.call 47 (.cons (.var 0) .nil))) (.cons (.ex (.call 58 (.cons (.var 0) (.cons (.var 1) .nil)))) (.cons (.ex (.call 45 (.cons (.var 2) (.cons (.int 1) (.cons (.bin .pow
  (.int 10) (.int 50)) .nil))))) (.cons (.set 3 (.call 88 (.cons (.var 0) (.cons (.var 1) (.cons (.glob 4) .nil))))) (.cons (.set 4 (.comp [5, 6] (.bin .add (.var 5) (.int 1)) [5,
  6] (.enum (.var 3)) (.some (.cmp .ge (.var 6) (.var 2))))) (.cons (.ret (.ite (.cmp .ne (.var 4) (.lst .nil)) (.idx (.var 4) (.int 0)) .non)) .nil))))))⟩

/-- checks_need_whole: 0 company, 1 kind -/
def df59 : Df := ⟨2, 2, none, (.cons (.ex (.call 47 (.cons (.var 0) .nil))) (.cons (.ex (.call 58 (.cons (.var 0) (.cons (.var 1) .nil)))) (.cons (.ite (.cmp .lt (.fn .len (.cons (.var 1) .nil)) (.idx (.var 0)
  (.int 0))) (.cons .raise .nil) .nil) .nil)))⟩

/-- turns_first_and_last: 0 company, 1 kind, 2 told, 3 firsts, 4 sign, 5 other, 6 rest -/
def df274 : Df := ⟨7, 2, none, (.cons (.ex (.call 59 (.cons (.var 0) (.cons (.var 1) .nil)))) (.cons (.set 2 (.call 54 (.cons (.var 0) .nil))) (.cons (.set 3 (.comp [4] (.var 4) [4] (.seq (.var 1)) (.some (.not
  (.fn .any (.cons (.comp [5] (.cmp .isin (.var 5) (.idx (.var 2) (.var 4))) [5] (.seq (.slc (.var 1) .none (.some (.mt .index (.var 1) (.cons (.var 4) .nil))))) .none) .nil))))))
  (.cons (.set 6 (.mt .join (.str []) (.cons (.comp [4] (.var 4) [4] (.seq (.var 1)) (.some (.cmp .notin (.var 4) (.var 3)))) .nil))) (.cons (.ret (.call 55 (.cons (.var 2) (.cons
  (.bin .add (.var 6) (.mt .join (.str []) (.cons (.var 3) .nil))) .nil)))) .nil)))))⟩

/-- turns_rounds: 0 company, 1 kind, 2 found -/
def df275 : Df := ⟨3, 2, none, (.cons (.ex (.call 47 (.cons (.var 0) .nil))) (.cons (.ex (.call 58 (.cons (.var 0) (.cons (.var 1) .nil)))) (.cons (.own 2 (.lst .nil)) (.cons (.while (.cmp .notin (.var 1) (.brw
  2)) (.cons (.app 2 (.var 1)) (.cons (.set 1 (.call 274 (.cons (.var 0) (.cons (.var 1) .nil)))) .nil))) (.cons (.ret (.mv 2)) .nil)))))⟩

/-- law_whole: 0 _law_row, 1 _law_company_here, 2 _law_left, 3 _law_found, 4 _law_turn -/
def df433 : Df := ⟨5, 2, some 0, (.cons (.par [(2, true), (3, false)] (.cons (.fn .list (.cons (.slc (.str [97, 98, 99, 100, 101, 102, 103]) .none (.some (.idx (.var 1) (.int 0)))) .nil)) (.cons (.str []) .nil)))
  (.cons (.for [4] (.range1 (.idx (.var 1) (.int 0))) (.cons (.set 3 (.bin .add (.var 3) (.popa 2 (.call 400 (.io 0 (.cons (.fn .len (.cons (.brw 2) .nil)) .nil)))))) .nil)) (.cons
  (.ret (.call 410 (.cons (.var 1) (.cons (.var 3) .nil)))) .nil)))⟩

/-- checks_need_word: 0 company, 1 word -/
def df49 : Df := ⟨2, 2, none, (.cons (.ite (.not (.call 48 (.cons (.var 0) (.cons (.var 1) (.cons (.glob 4) .nil))))) (.cons .raise .nil) .nil) .nil)⟩

/-- words_need_both: 0 company, 1 word -/
def df285 : Df := ⟨2, 2, none, (.cons (.ex (.call 47 (.cons (.var 0) .nil))) (.cons (.ex (.call 49 (.cons (.var 0) (.cons (.var 1) .nil)))) .nil))⟩

/-- words_kind_of: 0 company, 1 word -/
def df286 : Df := ⟨2, 2, none, (.cons (.ret (.call 55 (.cons (.call 54 (.cons (.var 0) .nil)) (.cons (.call 56 (.cons (.var 1) .nil)) .nil)))) .nil)⟩

/-- words_kind: 0 company, 1 word -/
def df287 : Df := ⟨2, 2, none, (.cons (.ex (.call 285 (.cons (.var 0) (.cons (.var 1) .nil)))) (.cons (.ret (.call 286 (.cons (.var 0) (.cons (.var 1) .nil)))) .nil))⟩

/-- orders_free_letters: 0 told, 1 rest, 2 sign, 3 other -/
def df199 : Df := ⟨4, 2, none, (.cons (.ret (.comp [2] (.var 2) [2] (.seq (.fn .sorted (.cons (.var 1) .nil))) (.some (.not (.fn .any (.cons (.comp [3] (.cmp .isin (.var 3) (.idx (.var 0) (.var 2))) [3] (.seq
  (.slc (.var 1) .none (.some (.mt .index (.var 1) (.cons (.var 2) .nil))))) .none) .nil)))))) .nil)⟩

/-- orders_first_word: 0 company, 1 kind, 2 length, 3 told, 4 rest, 5 word, 6 some, 7 sign -/
def df208 : Df := ⟨8, 3, none, (.cons (.ex (.call 47 (.cons (.var 0) .nil))) (.cons (.ex (.call 58 (.cons (.var 0) (.cons (.var 1) .nil)))) (.cons (.ex (.call 45 (.cons (.var 2) (.cons (.int 1) (.cons (.glob 4)
  .nil))))) (.cons (.ite (.or (.cmp .eq (.var 1) (.str [])) (.cmp .lt (.var 2) (.fn .len (.cons (.var 1) .nil)))) (.cons (.ret .non) .nil) .nil) (.cons (.par [(3, false), (4,
  false), (5, false)] (.cons (.call 54 (.cons (.var 0) .nil)) (.cons (.var 1) (.cons (.str []) .nil)))) (.cons (.while (.cmp .lt (.fn .len (.cons (.var 5) .nil)) (.var 2)) (.cons
  (.set 6 (.slc (.call 199 (.cons (.var 3) (.cons (.var 4) .nil))) .none (.some (.int 1)))) (.cons (.ite (.and (.cmp .lt (.fn .len (.cons (.var 4) .nil)) (.bin .sub (.var 2) (.fn
  .len (.cons (.var 5) .nil)))) (.cmp .ne (.var 5) (.str []))) (.cons (.set 6 (.bin .add (.var 6) (.lst (.cons (.fn .min (.cons (.var 5) .nil)) .nil)))) .nil) .nil) (.cons (.set 7
  (.fn .min (.cons (.var 6) .nil))) (.cons (.par [(5, false), (4, false)] (.cons (.bin .add (.var 5) (.var 7)) (.cons (.rep (.var 4) (.var 7)) .nil))) .nil))))) (.cons (.ret (.var
  5)) .nil)))))))⟩

def plTab : List (Nat × Df) := [(43, df43), (44, df44), (46, df46), (47, df47), (48, df48), (52, df52), (54, df54), (55, df55), (56, df56), (57, df57), (58, df58), (150, df150), (151, df151), (152, df152), (153, df153), (154, df154), (155, df155), (156, df156), (157, df157), (158, df158), (400, df400), (401, df401), (402, df402), (413, df413), (404, df404), (405, df405), (409, df409), (410, df410), (408, df408), (428, df428), (1047, df1047), (45, df45), (450, df450), (67, df67), (84, df84), (85, df85), (78, df78), (82, df82), (200, df200), (86, df86), (87, df87), (88, df88), (98, df98), (94, df94), (174, df174), (95, df95), (59, df59), (274, df274), (275, df275), (433, df433), (49, df49), (285, df285), (286, df286), (287, df287), (199, df199), (208, df208)]
def PL (f : Nat) : Option Df := plTab.lookup f
def glTab : List (Nat × D) := [(0, .int 2000), (1, .int 2000), (2, .str [97, 98, 99, 100, 101, 102, 103]), (3, .int 7), (4, .int 60), (5, .int 10), (6, .int 300), (7, .int 2000), (8, .int 3000), (9, .int 4000), (10, .int 2000), (11, .int 2000), (13, .int 2000)]
def GL (g : Nat) : Option D := glTab.lookup g
/-- the levels of calls, told by what they do alone (so that nothing unfolds them) -/
def Lv (F : Nat → Fn) : Prop := ∀ (k f : Nat) (ds : List D) (io : Option D), F (k + 1) f ds io = match PL f with
    | some d => run GL (F k) d ds io
    | none => none
theorem lv_fnv : Lv (fnv GL PL) := fun k f ds io => rfl
/-- some levels above any -/
def fnvB (B : Fn) : Nat → Fn
  | 0 => B
  | k + 1 => fun f ds io => match PL f with
    | some d => run GL (fnvB B k) d ds io
    | none => none
theorem Lv.at {F : Nat → Fn} (hF : Lv F) (k : Nat) : ∀ n : Nat, F (k + n) = fnvB (F k) n
  | 0 => rfl
  | n + 1 => by
    funext f ds io
    have e := hF (k + n) f ds io
    rw [hF.at k n] at e
    exact e
theorem go43 {F : Nat → Fn} (hF : Lv F) (k : Nat) (ds : List D) (io : Option D) : F (k + 1) 43 ds io = run GL (F k) df43 ds io := hF k 43 ds io
theorem go44 {F : Nat → Fn} (hF : Lv F) (k : Nat) (ds : List D) (io : Option D) : F (k + 1) 44 ds io = run GL (F k) df44 ds io := hF k 44 ds io
theorem go46 {F : Nat → Fn} (hF : Lv F) (k : Nat) (ds : List D) (io : Option D) : F (k + 1) 46 ds io = run GL (F k) df46 ds io := hF k 46 ds io
theorem go47 {F : Nat → Fn} (hF : Lv F) (k : Nat) (ds : List D) (io : Option D) : F (k + 1) 47 ds io = run GL (F k) df47 ds io := hF k 47 ds io
theorem go48 {F : Nat → Fn} (hF : Lv F) (k : Nat) (ds : List D) (io : Option D) : F (k + 1) 48 ds io = run GL (F k) df48 ds io := hF k 48 ds io
theorem go52 {F : Nat → Fn} (hF : Lv F) (k : Nat) (ds : List D) (io : Option D) : F (k + 1) 52 ds io = run GL (F k) df52 ds io := hF k 52 ds io
theorem go54 {F : Nat → Fn} (hF : Lv F) (k : Nat) (ds : List D) (io : Option D) : F (k + 1) 54 ds io = run GL (F k) df54 ds io := hF k 54 ds io
theorem go55 {F : Nat → Fn} (hF : Lv F) (k : Nat) (ds : List D) (io : Option D) : F (k + 1) 55 ds io = run GL (F k) df55 ds io := hF k 55 ds io
theorem go56 {F : Nat → Fn} (hF : Lv F) (k : Nat) (ds : List D) (io : Option D) : F (k + 1) 56 ds io = run GL (F k) df56 ds io := hF k 56 ds io
theorem go57 {F : Nat → Fn} (hF : Lv F) (k : Nat) (ds : List D) (io : Option D) : F (k + 1) 57 ds io = run GL (F k) df57 ds io := hF k 57 ds io
theorem go58 {F : Nat → Fn} (hF : Lv F) (k : Nat) (ds : List D) (io : Option D) : F (k + 1) 58 ds io = run GL (F k) df58 ds io := hF k 58 ds io
theorem go150 {F : Nat → Fn} (hF : Lv F) (k : Nat) (ds : List D) (io : Option D) : F (k + 1) 150 ds io = run GL (F k) df150 ds io := hF k 150 ds io
theorem go151 {F : Nat → Fn} (hF : Lv F) (k : Nat) (ds : List D) (io : Option D) : F (k + 1) 151 ds io = run GL (F k) df151 ds io := hF k 151 ds io
theorem go152 {F : Nat → Fn} (hF : Lv F) (k : Nat) (ds : List D) (io : Option D) : F (k + 1) 152 ds io = run GL (F k) df152 ds io := hF k 152 ds io
theorem go153 {F : Nat → Fn} (hF : Lv F) (k : Nat) (ds : List D) (io : Option D) : F (k + 1) 153 ds io = run GL (F k) df153 ds io := hF k 153 ds io
theorem go154 {F : Nat → Fn} (hF : Lv F) (k : Nat) (ds : List D) (io : Option D) : F (k + 1) 154 ds io = run GL (F k) df154 ds io := hF k 154 ds io
theorem go155 {F : Nat → Fn} (hF : Lv F) (k : Nat) (ds : List D) (io : Option D) : F (k + 1) 155 ds io = run GL (F k) df155 ds io := hF k 155 ds io
theorem go156 {F : Nat → Fn} (hF : Lv F) (k : Nat) (ds : List D) (io : Option D) : F (k + 1) 156 ds io = run GL (F k) df156 ds io := hF k 156 ds io
theorem go157 {F : Nat → Fn} (hF : Lv F) (k : Nat) (ds : List D) (io : Option D) : F (k + 1) 157 ds io = run GL (F k) df157 ds io := hF k 157 ds io
theorem go158 {F : Nat → Fn} (hF : Lv F) (k : Nat) (ds : List D) (io : Option D) : F (k + 1) 158 ds io = run GL (F k) df158 ds io := hF k 158 ds io
theorem go400 {F : Nat → Fn} (hF : Lv F) (k : Nat) (ds : List D) (io : Option D) : F (k + 1) 400 ds io = run GL (F k) df400 ds io := hF k 400 ds io
theorem go401 {F : Nat → Fn} (hF : Lv F) (k : Nat) (ds : List D) (io : Option D) : F (k + 1) 401 ds io = run GL (F k) df401 ds io := hF k 401 ds io
theorem go402 {F : Nat → Fn} (hF : Lv F) (k : Nat) (ds : List D) (io : Option D) : F (k + 1) 402 ds io = run GL (F k) df402 ds io := hF k 402 ds io
theorem go413 {F : Nat → Fn} (hF : Lv F) (k : Nat) (ds : List D) (io : Option D) : F (k + 1) 413 ds io = run GL (F k) df413 ds io := hF k 413 ds io
theorem go404 {F : Nat → Fn} (hF : Lv F) (k : Nat) (ds : List D) (io : Option D) : F (k + 1) 404 ds io = run GL (F k) df404 ds io := hF k 404 ds io
theorem go405 {F : Nat → Fn} (hF : Lv F) (k : Nat) (ds : List D) (io : Option D) : F (k + 1) 405 ds io = run GL (F k) df405 ds io := hF k 405 ds io
theorem go409 {F : Nat → Fn} (hF : Lv F) (k : Nat) (ds : List D) (io : Option D) : F (k + 1) 409 ds io = run GL (F k) df409 ds io := hF k 409 ds io
theorem go410 {F : Nat → Fn} (hF : Lv F) (k : Nat) (ds : List D) (io : Option D) : F (k + 1) 410 ds io = run GL (F k) df410 ds io := hF k 410 ds io
theorem go408 {F : Nat → Fn} (hF : Lv F) (k : Nat) (ds : List D) (io : Option D) : F (k + 1) 408 ds io = run GL (F k) df408 ds io := hF k 408 ds io
theorem go428 {F : Nat → Fn} (hF : Lv F) (k : Nat) (ds : List D) (io : Option D) : F (k + 1) 428 ds io = run GL (F k) df428 ds io := hF k 428 ds io
theorem go1047 {F : Nat → Fn} (hF : Lv F) (k : Nat) (ds : List D) (io : Option D) : F (k + 1) 1047 ds io = run GL (F k) df1047 ds io := hF k 1047 ds io
theorem go45 {F : Nat → Fn} (hF : Lv F) (k : Nat) (ds : List D) (io : Option D) : F (k + 1) 45 ds io = run GL (F k) df45 ds io := hF k 45 ds io
theorem go450 {F : Nat → Fn} (hF : Lv F) (k : Nat) (ds : List D) (io : Option D) : F (k + 1) 450 ds io = run GL (F k) df450 ds io := hF k 450 ds io
theorem go67 {F : Nat → Fn} (hF : Lv F) (k : Nat) (ds : List D) (io : Option D) : F (k + 1) 67 ds io = run GL (F k) df67 ds io := hF k 67 ds io
theorem go84 {F : Nat → Fn} (hF : Lv F) (k : Nat) (ds : List D) (io : Option D) : F (k + 1) 84 ds io = run GL (F k) df84 ds io := hF k 84 ds io
theorem go85 {F : Nat → Fn} (hF : Lv F) (k : Nat) (ds : List D) (io : Option D) : F (k + 1) 85 ds io = run GL (F k) df85 ds io := hF k 85 ds io
theorem go78 {F : Nat → Fn} (hF : Lv F) (k : Nat) (ds : List D) (io : Option D) : F (k + 1) 78 ds io = run GL (F k) df78 ds io := hF k 78 ds io
theorem go82 {F : Nat → Fn} (hF : Lv F) (k : Nat) (ds : List D) (io : Option D) : F (k + 1) 82 ds io = run GL (F k) df82 ds io := hF k 82 ds io
theorem go200 {F : Nat → Fn} (hF : Lv F) (k : Nat) (ds : List D) (io : Option D) : F (k + 1) 200 ds io = run GL (F k) df200 ds io := hF k 200 ds io
theorem go86 {F : Nat → Fn} (hF : Lv F) (k : Nat) (ds : List D) (io : Option D) : F (k + 1) 86 ds io = run GL (F k) df86 ds io := hF k 86 ds io
theorem go87 {F : Nat → Fn} (hF : Lv F) (k : Nat) (ds : List D) (io : Option D) : F (k + 1) 87 ds io = run GL (F k) df87 ds io := hF k 87 ds io
theorem go88 {F : Nat → Fn} (hF : Lv F) (k : Nat) (ds : List D) (io : Option D) : F (k + 1) 88 ds io = run GL (F k) df88 ds io := hF k 88 ds io
theorem go98 {F : Nat → Fn} (hF : Lv F) (k : Nat) (ds : List D) (io : Option D) : F (k + 1) 98 ds io = run GL (F k) df98 ds io := hF k 98 ds io
theorem go94 {F : Nat → Fn} (hF : Lv F) (k : Nat) (ds : List D) (io : Option D) : F (k + 1) 94 ds io = run GL (F k) df94 ds io := hF k 94 ds io
theorem go174 {F : Nat → Fn} (hF : Lv F) (k : Nat) (ds : List D) (io : Option D) : F (k + 1) 174 ds io = run GL (F k) df174 ds io := hF k 174 ds io
theorem go95 {F : Nat → Fn} (hF : Lv F) (k : Nat) (ds : List D) (io : Option D) : F (k + 1) 95 ds io = run GL (F k) df95 ds io := hF k 95 ds io
theorem go59 {F : Nat → Fn} (hF : Lv F) (k : Nat) (ds : List D) (io : Option D) : F (k + 1) 59 ds io = run GL (F k) df59 ds io := hF k 59 ds io
theorem go274 {F : Nat → Fn} (hF : Lv F) (k : Nat) (ds : List D) (io : Option D) : F (k + 1) 274 ds io = run GL (F k) df274 ds io := hF k 274 ds io
theorem go275 {F : Nat → Fn} (hF : Lv F) (k : Nat) (ds : List D) (io : Option D) : F (k + 1) 275 ds io = run GL (F k) df275 ds io := hF k 275 ds io
theorem go433 {F : Nat → Fn} (hF : Lv F) (k : Nat) (ds : List D) (io : Option D) : F (k + 1) 433 ds io = run GL (F k) df433 ds io := hF k 433 ds io
theorem go49 {F : Nat → Fn} (hF : Lv F) (k : Nat) (ds : List D) (io : Option D) : F (k + 1) 49 ds io = run GL (F k) df49 ds io := hF k 49 ds io
theorem go285 {F : Nat → Fn} (hF : Lv F) (k : Nat) (ds : List D) (io : Option D) : F (k + 1) 285 ds io = run GL (F k) df285 ds io := hF k 285 ds io
theorem go286 {F : Nat → Fn} (hF : Lv F) (k : Nat) (ds : List D) (io : Option D) : F (k + 1) 286 ds io = run GL (F k) df286 ds io := hF k 286 ds io
theorem go287 {F : Nat → Fn} (hF : Lv F) (k : Nat) (ds : List D) (io : Option D) : F (k + 1) 287 ds io = run GL (F k) df287 ds io := hF k 287 ds io
theorem go199 {F : Nat → Fn} (hF : Lv F) (k : Nat) (ds : List D) (io : Option D) : F (k + 1) 199 ds io = run GL (F k) df199 ds io := hF k 199 ds io
theorem go208 {F : Nat → Fn} (hF : Lv F) (k : Nat) (ds : List D) (io : Option D) : F (k + 1) 208 ds io = run GL (F k) df208 ds io := hF k 208 ds io
end Mini
/-! The evaluator's own rules, for simp; loops. -/
namespace Mini
section
variable {G : Nat → Option D} {Φ : Fn} {ρ ρ' : En} {xs : List D} {acc : List D}
@[simp] theorem ev_var (i : Nat) : ev G Φ (.var i) ρ = (getFz ρ i).map fun d => (d, ρ) := by simp only [ev]
@[simp] theorem ev_brw (i : Nat) : ev G Φ (.brw i) ρ = (getOwn ρ i).map fun d => (d, ρ) := by simp only [ev]
def mvE (ρ : En) (i : Nat) : Option (D × En) := match ρ[i]? with
    | some (.own d) => some (d, ρ.set i (.fz d))
    | _ => none
@[simp] theorem ev_mv (i : Nat) : ev G Φ (.mv i) ρ = mvE ρ i := by unfold ev; rfl
@[simp] theorem mvE_0 (a : D) (ρ : En) : mvE (.own a :: ρ) 0 = some (a, .fz a :: ρ) := rfl
@[simp] theorem mvE_s (a : Sl) (ρ : En) (i : Nat) : mvE (a :: ρ) (i + 1) = (mvE ρ i).map fun p => (p.1, a :: p.2) := by
  unfold mvE
  simp only [List.getElem?_cons_succ]
  cases h : ρ[i]? with
  | none => rfl
  | some x => cases x <;> rfl
@[simp] theorem ev_int (n : Int) : ev G Φ (.int n) ρ = some (.int n, ρ) := by simp only [ev]
@[simp] theorem ev_str (n : Sg) : ev G Φ (.str n) ρ = some (.str n, ρ) := by simp only [ev]
@[simp] theorem ev_bl (n : Bool) : ev G Φ (.bl n) ρ = some (.bl n, ρ) := by simp only [ev]
@[simp] theorem ev_non : ev G Φ .non ρ = some (.non, ρ) := by simp only [ev]
@[simp] theorem ev_glob (g : Nat) : ev G Φ (.glob g) ρ = (G g).map fun d => (d, ρ) := by simp only [ev]
@[simp] theorem evs_nil : evs G Φ .nil ρ = some ([], ρ) := by simp only [evs]
@[simp] theorem evs_fr : evs G Φ .fr ρ = some ([], ρ) := by simp only [evs]
@[simp] theorem evo_none : evo G Φ .none ρ = some (none, ρ) := by simp only [evo]
@[simp] theorem evo'_none : evo' G Φ .none ρ = some (true, ρ) := by simp only [evo']
@[simp] theorem exs_nil : exs G Φ .nil ρ = some (.nx, ρ) := by simp only [exs]
@[simp] theorem fz_0 (a : D) (ρ : En) : getFz (.fz a :: ρ) 0 = some a := rfl
@[simp] theorem fz_s (a : Sl) (ρ : En) (i : Nat) : getFz (a :: ρ) (i + 1) = getFz ρ i := rfl
@[simp] theorem own_0 (a : D) (ρ : En) : getOwn (.own a :: ρ) 0 = some a := rfl
@[simp] theorem own_0' (a : D) (ρ : En) : getOwn (.io a :: ρ) 0 = some a := rfl
@[simp] theorem own_s (a : Sl) (ρ : En) (i : Nat) : getOwn (a :: ρ) (i + 1) = getOwn ρ i := rfl
/-- a place that may be stored as a name -/
def okS : Sl → Bool
  | .io _ => false
  | _ => true
@[simp] theorem setFz_0un (ρ : En) (d : D) : setFz (.un :: ρ) 0 d = some (.fz d :: ρ) := rfl
@[simp] theorem setFz_0fz (a : D) (ρ : En) (d : D) : setFz (.fz a :: ρ) 0 d = some (.fz d :: ρ) := rfl
@[simp] theorem setFz_0own (a : D) (ρ : En) (d : D) : setFz (.own a :: ρ) 0 d = some (.fz d :: ρ) := rfl
theorem setFz_0 (a : Sl) (ρ : En) (d : D) (h : okS a = true) : setFz (a :: ρ) 0 d = some (.fz d :: ρ) := by
  cases a <;> first | rfl | (cases h)
@[simp] theorem setFz_s (a : Sl) (ρ : En) (i : Nat) (d : D) : setFz (a :: ρ) (i + 1) d = (setFz ρ i d).map (a :: ·) := by
  unfold setFz
  simp only [List.getElem?_cons_succ]
  cases h : ρ[i]? with
  | none => rfl
  | some x => cases x <;> rfl
@[simp] theorem setOwn_0un (ρ : En) (d : D) : setOwn (.un :: ρ) 0 d = some (.own d :: ρ) := rfl
@[simp] theorem setOwn_0fz (a : D) (ρ : En) (d : D) : setOwn (.fz a :: ρ) 0 d = some (.own d :: ρ) := rfl
@[simp] theorem setOwn_0own (a : D) (ρ : En) (d : D) : setOwn (.own a :: ρ) 0 d = some (.own d :: ρ) := rfl
theorem setOwn_0 (a : Sl) (ρ : En) (d : D) (h : okS a = true) : setOwn (a :: ρ) 0 d = some (.own d :: ρ) := by
  cases a <;> first | rfl | (cases h)
@[simp] theorem setOwn_s (a : Sl) (ρ : En) (i : Nat) (d : D) : setOwn (a :: ρ) (i + 1) d = (setOwn ρ i d).map (a :: ·) := by
  unfold setOwn
  simp only [List.getElem?_cons_succ]
  cases h : ρ[i]? with
  | none => rfl
  | some x => cases x <;> rfl
@[simp] theorem chg_0 (a : D) (ρ : En) (d : D) : chg (.own a :: ρ) 0 d = some (.own d :: ρ) := rfl
@[simp] theorem chg_0' (a : D) (ρ : En) (d : D) : chg (.io a :: ρ) 0 d = some (.io d :: ρ) := rfl
@[simp] theorem chg_s (a : Sl) (ρ : En) (i : Nat) (d : D) : chg (a :: ρ) (i + 1) d = (chg ρ i d).map (a :: ·) := by
  unfold chg
  simp only [List.getElem?_cons_succ]
  cases h : ρ[i]? with
  | none => rfl
  | some x => cases x <;> rfl
@[simp] theorem okS_un : okS .un = true := rfl
@[simp] theorem okS_fz (d : D) : okS (.fz d) = true := rfl
@[simp] theorem okS_own (d : D) : okS (.own d) = true := rfl
/-- a place that a block may use -/
def blS : Sl → Bool
  | .un => true
  | .fz _ => true
  | _ => false
@[simp] theorem blS_un : blS .un = true := rfl
@[simp] theorem blS_fz (d : D) : blS (.fz d) = true := rfl
theorem blS_ok {a : Sl} (h : blS a = true) : okS a = true := by cases a <;> first | rfl | (cases h)
@[simp] theorem clean_nil (ρ : En) : clean ρ [] = true := rfl
@[simp] theorem clean_cons (ρ : En) (v : Nat) (vs : List Nat) : clean ρ (v :: vs) = ((match ρ[v]? with
    | some a => blS a
    | none => false) && clean ρ vs) := by
  unfold clean
  rw [List.all_cons]
  congr 1
  cases h : ρ[v]? with
  | none => rfl
  | some x => cases x <;> rfl
end
/-! ### loops -/
theorem comp_map {α : Type} {turn : D → En → Option (Option D × En)} {ρ : En} (toD : α → D) (g : α → Option D) : ∀ (l : List α) (acc : List D), (∀ a ∈ l, turn (toD a) ρ = some (g a, ρ)) → acc.length + l.length ≤ LIM → compGo turn (l.map toD) ρ acc = some (acc ++ l.filterMap g, ρ)
  | [], acc, _, _ => by simp [compGo]
  | a :: l, acc, h, hl => by
    have h1 := h a (List.mem_cons_self ..)
    have ih := fun acc hl => comp_map toD g l acc (fun b hb => h b (List.mem_cons_of_mem _ hb)) hl
    simp only [List.map_cons, compGo, h1]
    simp only [List.length_cons] at hl
    cases e : g a with
    | none => simp only [List.filterMap_cons, e]; exact ih acc (by omega)
    | some y =>
      simp only [List.filterMap_cons, e]
      rw [if_pos (by omega), ih _ (by simp; omega)]
      simp
theorem for_rel {turn : D → En → Option (Fl × En)} (R : Nat → En → Prop) : ∀ (xs : List D) (i : Nat) (ρ : En), R i ρ → (∀ j x ρ, xs[j]? = some x → R (i + j) ρ → ∃ ρ', turn x ρ = some (.nx, ρ') ∧ R (i + j + 1) ρ') → ∃ ρ', forGo turn xs ρ = some (.nx, ρ') ∧ R (i + xs.length) ρ'
  | [], i, ρ, h, _ => ⟨ρ, rfl, h⟩
  | x :: xs, i, ρ, h, hs => by
    obtain ⟨ρ1, e1, r1⟩ := hs 0 x ρ rfl h
    obtain ⟨ρ2, e2, r2⟩ := for_rel R xs (i + 1) ρ1 r1 fun j y ρ hy hr => by
      have := hs (j + 1) y ρ (by simpa using hy) (by rw [show i + (j + 1) = i + 1 + j by omega]; exact hr)
      rw [show i + (j + 1) + 1 = i + 1 + j + 1 by omega] at this
      exact this
    refine ⟨ρ2, by simp only [forGo, e1]; exact e2, ?_⟩
    rw [List.length_cons, show i + (xs.length + 1) = i + 1 + xs.length by omega]
    exact r2
theorem for_rel0 {turn : D → En → Option (Fl × En)} (R : Nat → En → Prop) {xs : List D} {ρ : En} (h0 : R 0 ρ) (hs : ∀ j x ρ, xs[j]? = some x → R j ρ → ∃ ρ', turn x ρ = some (.nx, ρ') ∧ R (j + 1) ρ') : ∃ ρ', forGo turn xs ρ = some (.nx, ρ') ∧ R xs.length ρ' := by
  have := for_rel R xs 0 ρ h0 fun j x ρ h r => by rw [Nat.zero_add] at r ⊢; exact hs j x ρ h r
  rwa [Nat.zero_add] at this
/-- a row of statements -/
theorem exs_nx {G : Nat → Option D} {Φ : Fn} {ρ ρ1 : En} {s : S} {ss : Ss} {r : Option (Fl × En)} (h : ex G Φ s ρ = some (.nx, ρ1)) (h2 : exs G Φ ss ρ1 = r) : exs G Φ (.cons s ss) ρ = r := by
  simp only [exs, h]; exact h2
theorem exs_rt {G : Nat → Option D} {Φ : Fn} {ρ ρ1 : En} {s : S} {ss : Ss} {d : D} (h : ex G Φ s ρ = some (.ret d, ρ1)) : exs G Φ (.cons s ss) ρ = some (.ret d, ρ1) := by
  simp only [exs, h]
theorem run_ret {G : Nat → Option D} {Φ : Fn} {d : Df} {ds : List D} {io : Option D} {r : D} {ρ : En} {c : Option D} (h1 : d.io.isSome = io.isSome ∧ ds.length + (if io.isSome then 1 else 0) = d.ps)
    (h : exs G Φ d.body (startE d.n ds d.io io) = some (.ret r, ρ)) (h2 : lastIo d.io ρ = some c) : run G Φ d ds io = some (r, c) := by
  unfold run; rw [if_pos h1, h]; simp [h2]
theorem run_nx {G : Nat → Option D} {Φ : Fn} {d : Df} {ds : List D} {io : Option D} {ρ : En} {c : Option D} (h1 : d.io.isSome = io.isSome ∧ ds.length + (if io.isSome then 1 else 0) = d.ps)
    (h : exs G Φ d.body (startE d.n ds d.io io) = some (.nx, ρ)) (h2 : lastIo d.io ρ = some c) : run G Φ d ds io = some (.non, c) := by
  unfold run; rw [if_pos h1, h]; simp [h2]
/-! ### what holds behind a row of statements -/
def W (o : Option (Fl × En)) (Q : Fl → En → Prop) : Prop := ∃ f ρ, o = some (f, ρ) ∧ Q f ρ
section
variable {G : Nat → Option D} {Φ : Fn} {ρ ρ1 : En} {s : S} {ss : Ss} {Q Q' : Fl → En → Prop}
theorem w_mono {o : Option (Fl × En)} (h : W o Q) (q : ∀ f ρ, Q f ρ → Q' f ρ) : W o Q' := by
  obtain ⟨f, ρ, e, h⟩ := h; exact ⟨f, ρ, e, q f ρ h⟩
theorem w_of {o : Option (Fl × En)} {f : Fl} (e : o = some (f, ρ)) (q : Q f ρ) : W o Q := ⟨f, ρ, e, q⟩
theorem w_nx (h : ex G Φ s ρ = some (.nx, ρ1)) (h2 : W (exs G Φ ss ρ1) Q) : W (exs G Φ (.cons s ss) ρ) Q := by
  obtain ⟨f, ρ2, e, q⟩ := h2
  exact ⟨f, ρ2, exs_nx h e, q⟩
theorem w_stop {f : Fl} (h : ex G Φ s ρ = some (f, ρ1)) (hf : f ≠ .nx) (q : Q f ρ1) : W (exs G Φ (.cons s ss) ρ) Q := by
  refine ⟨f, ρ1, ?_, q⟩
  simp only [exs, h]
  cases f <;> first | rfl | exact absurd rfl hf
theorem w_st (h : W (ex G Φ s ρ) fun f ρ1 => f = .nx ∧ W (exs G Φ ss ρ1) Q) : W (exs G Φ (.cons s ss) ρ) Q := by
  obtain ⟨f, ρ1, e, rfl, q⟩ := h
  exact w_nx e q
theorem w_end (q : Q .nx ρ) : W (exs G Φ .nil ρ) Q := ⟨.nx, ρ, rfl, q⟩
theorem w_ret {e : E} {d : D} (h : ev G Φ e ρ = some (d, ρ1)) (nb : isBrw e = false) (q : Q (.ret d) ρ1) : W (exs G Φ (.cons (.ret e) ss) ρ) Q :=
  w_stop (f := .ret d) (by simp only [ex, nb, h]; rfl) (by simp) q
theorem w_for {tg : List Nat} {it : It} {b : Ss} {xs : List D} (R : Nat → En → Prop) (hi : evi G Φ it ρ = some (xs, ρ1)) (h0 : R 0 ρ1)
    (hs : ∀ j x ρ, xs[j]? = some x → R j ρ → ∃ ρ2, setTg ρ tg x = some ρ2 ∧ W (exs G Φ b ρ2) fun f ρ3 => (f = .nx ∨ f = .cnt) ∧ R (j + 1) ρ3)
    (k : ∀ ρ', R xs.length ρ' → W (exs G Φ ss ρ') Q) : W (exs G Φ (.cons (.for tg it b) ss) ρ) Q := by
  have aux : ∀ (ys : List D) (i : Nat) (ρ : En), R i ρ → (∀ j x ρ, ys[j]? = some x → R (i + j) ρ → ∃ ρ2, setTg ρ tg x = some ρ2 ∧ W (exs G Φ b ρ2) fun f ρ3 => (f = .nx ∨ f = .cnt) ∧ R (i + j + 1) ρ3) →
      ∃ ρ', forGo (fun x ρ => match setTg ρ tg x with
        | some ρ' => exs G Φ b ρ'
        | none => none) ys ρ = some (.nx, ρ') ∧ R (i + ys.length) ρ' := by
    intro ys
    induction ys with
    | nil => intro i ρ h _; exact ⟨ρ, rfl, h⟩
    | cons y ys ih =>
      intro i ρ h hs
      obtain ⟨ρ2, e2, f, ρ3, e3, hf, r3⟩ := hs 0 y ρ rfl h
      obtain ⟨ρ', e', r'⟩ := ih (i + 1) ρ3 r3 fun j x ρ hy hr => by
        have := hs (j + 1) x ρ (by simpa using hy) (by rw [show i + (j + 1) = i + 1 + j by omega]; exact hr)
        rw [show i + (j + 1) + 1 = i + 1 + j + 1 by omega] at this
        exact this
      refine ⟨ρ', ?_, ?_⟩
      · unfold forGo
        simp only [e2, e3]
        rcases hf with rfl | rfl <;> exact e'
      · rw [List.length_cons, show i + (ys.length + 1) = i + 1 + ys.length by omega]; exact r'
  obtain ⟨ρ', e, r⟩ := aux xs 0 ρ1 h0 fun j x ρ h hr => by rw [Nat.zero_add] at hr ⊢; exact hs j x ρ h hr
  rw [Nat.zero_add] at r
  exact w_nx (by simp only [ex, hi]; exact e) (k ρ' r)
theorem run_of {d : Df} {ds : List D} {io : Option D} {r : D} {c : Option D} (h1 : d.io.isSome = io.isSome ∧ ds.length + (if io.isSome then 1 else 0) = d.ps)
    (h : W (exs G Φ d.body (startE d.n ds d.io io)) fun f ρ => (f = .ret r ∨ f = .nx ∧ r = .non) ∧ lastIo d.io ρ = some c) : run G Φ d ds io = some (r, c) := by
  obtain ⟨f, ρ, e, hf, hl⟩ := h
  unfold run
  rw [if_pos h1, e]
  rcases hf with rfl | ⟨rfl, rfl⟩ <;> simp [hl]
end
/-! ### rules of one construct each -/
section
variable {G : Nat → Option D} {Φ : Fn} {ρ ρ1 ρ2 ρ3 : En}
theorem ev_bin' {op : Bop} {a b : E} {x y d : D} (ha : ev G Φ a ρ = some (x, ρ1)) (hb : ev G Φ b ρ1 = some (y, ρ2)) (h : bopD op x y = some d) (hg : (isBrw a && !pureE b) = false := by rfl) : ev G Φ (.bin op a b) ρ = some (d, ρ2) := by
  simp only [ev, hg, ha, hb, h]; rfl
theorem ev_cmp' {op : Cop} {a b : E} {x y d : D} (ha : ev G Φ a ρ = some (x, ρ1)) (hb : ev G Φ b ρ1 = some (y, ρ2)) (h : cmpD op x y = some d) (hg : (isBrw a && !pureE b) = false := by rfl) : ev G Φ (.cmp op a b) ρ = some (d, ρ2) := by
  simp only [ev, hg, ha, hb, h]; rfl
theorem ev_fn1' {b : Bf} {a : E} {x d : D} (ha : ev G Φ a ρ = some (x, ρ1)) (h : fnD b [x] = some d) : ev G Φ (.fn b (.cons a .nil)) ρ = some (d, ρ1) := by
  simp only [ev, ha, h]; rfl
theorem ev_not' {a : E} {x : Bool} (ha : ev G Φ a ρ = some (.bl x, ρ1)) : ev G Φ (.not a) ρ = some (.bl (!x), ρ1) := by
  simp only [ev, ha]
theorem ev_idx' {a b : E} {x y d : D} (ha : ev G Φ a ρ = some (x, ρ1)) (hb : ev G Φ b ρ1 = some (y, ρ2)) (h : idxD x y = some d) (hg : (isBrw a && !pureE b) = false := by rfl) : ev G Φ (.idx a b) ρ = some (d, ρ2) := by
  simp only [ev, hg, ha, hb, h]; rfl
theorem ev_mt' {m : Mt} {o : E} {es : Es} {x d : D} {ds : List D} (ho : ev G Φ o ρ = some (x, ρ1)) (he : evs G Φ es ρ1 = some (ds, ρ2)) (h : mtD m x ds = some d) : ev G Φ (.mt m o es) ρ = some (d, ρ2) := by
  simp only [ev, ho, he, h]; rfl
theorem evs_cons' {e : E} {es : Es} {x : D} {xs : List D} (h1 : ev G Φ e ρ = some (x, ρ1)) (h2 : evs G Φ es ρ1 = some (xs, ρ2)) (nb : isBrw e = false := by rfl) : evs G Φ (.cons e es) ρ = some (x :: xs, ρ2) := by
  simp only [evs, nb, h1, h2]; rfl
theorem ev_call' {f : Nat} {es : Es} {ds : List D} {d : D} (h : evs G Φ es ρ = some (ds, ρ1)) (hf : Φ f ds none = some (d, none)) (hi : ioOf es = .no := by rfl) : ev G Φ (.call f es) ρ = some (d, ρ1) := by
  simp only [ev, h, hi, hf]
theorem ev_callAt' {f i : Nat} {es : Es} {ds : List D} {d c c' : D} (h : evs G Φ es ρ = some (ds, ρ1)) (hg : getOwn ρ1 i = some c) (hf : Φ f ds (some c) = some (d, some c')) (hc : chg ρ1 i c' = some ρ2) (hi : ioOf es = .at i := by rfl) : ev G Φ (.call f es) ρ = some (d, ρ2) := by
  simp only [ev, h, hi, hg, hf, hc]; rfl
theorem ev_callNew' {f : Nat} {es : Es} {ds : List D} {d c' : D} (h : evs G Φ es ρ = some (ds, ρ1)) (hf : Φ f ds (some (.dic [])) = some (d, some c')) (hi : ioOf es = .new := by rfl) : ev G Φ (.call f es) ρ = some (d, ρ1) := by
  simp only [ev, h, hi, hf]
theorem ex_set' {i : Nat} {e : E} {d : D} (h : ev G Φ e ρ = some (d, ρ1)) (hs : setFz ρ1 i d = some ρ2) (nb : isBrw e = false := by rfl) : ex G Φ (.set i e) ρ = some (.nx, ρ2) := by
  simp only [ex, nb, h, hs]; rfl
theorem ex_own' {i : Nat} {e : E} {d : D} (h : ev G Φ e ρ = some (d, ρ1)) (hs : setOwn ρ1 i d = some ρ2) (nb : allocE e = true := by rfl) : ex G Φ (.own i e) ρ = some (.nx, ρ2) := by
  simp only [ex, nb, h, hs]; rfl
theorem ex_app' {i : Nat} {e : E} {d : D} {ds : List D} (h : ev G Φ e ρ = some (d, ρ1)) (g0 : isLst (getOwn ρ i) = true) (g : getOwn ρ1 i = some (.lst ds)) (hl : ds.length < LIM) (c : chg ρ1 i (.lst (ds ++ [d])) = some ρ2) (nb : isBrw e = false := by rfl) : ex G Φ (.app i e) ρ = some (.nx, ρ2) := by
  simp only [ex, nb, g0, h, g, hl, c]; rfl
theorem ex_putD' {i : Nat} {k e : E} {d y : D} {kvs : List (Ky × D)} {y' : Ky} (h : ev G Φ e ρ = some (d, ρ1)) (g0 : (getOwn ρ1 i).isNone = false) (hk : ev G Φ k ρ1 = some (y, ρ2)) (g : getOwn ρ2 i = some (.dic kvs)) (ky : kyOf y = some y') (hl : kvs.length < LIM) (c : chg ρ2 i (.dic (dput kvs y' d)) = some ρ3) (nb : (isBrw e || isBrw k) = false := by rfl) : ex G Φ (.put i k e) ρ = some (.nx, ρ3) := by
  simp only [ex, nb, g0, h, hk, g, ky, hl, c]; rfl
theorem ex_ex' {e : E} {d : D} (h : ev G Φ e ρ = some (d, ρ1)) : ex G Φ (.ex e) ρ = some (.nx, ρ1) := by
  simp only [ex, h]
theorem w_if {c : E} {a b : Ss} {x : Bool} {ss : Ss} {Q : Fl → En → Prop} (h : ev G Φ c ρ = some (.bl x, ρ1)) (h2 : W (exs G Φ (if x then a else b) ρ1) fun f ρ2 => (f = .nx ∧ W (exs G Φ ss ρ2) Q) ∨ (f ≠ .nx ∧ Q f ρ2)) : W (exs G Φ (.cons (.ite c a b) ss) ρ) Q := by
  obtain ⟨f, ρ2, e, q⟩ := h2
  have e1 : ex G Φ (.ite c a b) ρ = some (f, ρ2) := by
    simp only [ex, h]
    cases x <;> simpa using e
  rcases q with ⟨rfl, q⟩ | ⟨hf, q⟩
  · exact w_nx e1 q
  · exact w_stop e1 hf q
/-- a test that fails: on with the rest -/
theorem w_skip {c : E} {a : Ss} {ss : Ss} {Q : Fl → En → Prop} (h : ev G Φ c ρ = some (.bl false, ρ1)) (h2 : W (exs G Φ ss ρ1) Q) : W (exs G Φ (.cons (.ite c a .nil) ss) ρ) Q :=
  w_if h ⟨.nx, ρ1, rfl, .inl ⟨rfl, h2⟩⟩
def lcT (G : Nat → Option D) (Φ : Fn) (own : List Nat) (elt : E) (tg : List Nat) (c : Oe) (x : D) (ρ : En) : Option (Option D × En) := match setTg ρ tg x with
          | some ρ2 => match evo' G Φ c ρ2 with
            | some (true, ρ3) => if isBrw elt then none else match ev G Φ elt ρ3 with
              | some (y, ρ4) => some (some y, wipeE ρ4 own)
              | none => none
            | some (false, ρ3) => some (none, wipeE ρ3 own)
            | none => none
          | none => none
theorem wipeE_get (ρ : En) (i : Nat) : ∀ (vs : List Nat), i ∉ vs → (wipeE ρ vs)[i]? = ρ[i]?
  | [], _ => rfl
  | v :: vs, h => by
    simp only [List.mem_cons, not_or] at h
    unfold wipeE
    rw [List.getElem?_set_ne (Ne.symm h.1), wipeE_get ρ i vs h.2]
theorem wipeE_len' (ρ : En) : ∀ vs, (wipeE ρ vs).length = ρ.length
  | [] => rfl
  | v :: vs => by unfold wipeE; rw [List.length_set, wipeE_len' ρ vs]
theorem backE_get (ρ ρ' : En) (hl : ρ'.length = ρ.length) (i : Nat) : ∀ (vs : List Nat), (∀ v ∈ vs, v < ρ.length) → (backE ρ ρ' vs)[i]? = if i ∈ vs then ρ[i]? else ρ'[i]?
  | [], _ => by simp [backE]
  | v :: vs, h => by
    have hv := h v (List.mem_cons_self ..)
    have ih := backE_get ρ ρ' hl i vs fun u hu => h u (List.mem_cons_of_mem _ hu)
    have len : ∀ vs : List Nat, (backE ρ ρ' vs).length = ρ'.length := by
      intro vs
      induction vs with
      | nil => rfl
      | cons w ws ih => unfold backE; split <;> simp [ih]
    unfold backE
    rw [List.getElem?_eq_getElem hv]
    simp only
    by_cases e : v = i
    · subst e
      rw [List.getElem?_set_self (by rw [len, hl]; exact hv)]
      simp [List.getElem?_eq_getElem hv]
    · rw [List.getElem?_set_ne e, ih]
      have : (i ∈ v :: vs) ↔ i ∈ vs := by simp [Ne.symm e]
      simp only [this]
theorem back_wipe {own : List Nat} (h : clean ρ own = true) : backE ρ (wipeE ρ own) own = ρ := by
  have hb : ∀ v ∈ own, v < ρ.length := fun v hv => by
    have := List.all_eq_true.mp h v hv
    cases e : ρ[v]? with
    | none => rw [e] at this; cases this
    | some x => exact (List.getElem?_eq_some_iff.mp e).1
  apply List.ext_getElem?
  intro i
  rw [backE_get ρ _ (wipeE_len' ρ own) i own hb]
  split
  · rfl
  · rename_i hn; exact wipeE_get ρ i own hn
theorem ev_comp' {own : List Nat} {elt : E} {tg : List Nat} {it : It} {c : Oe} {α : Type} (l : List α) (toD : α → D) (g : α → Option D) (hi : evi G Φ it ρ = some (l.map toD, ρ1)) (hc : clean ρ1 own = true) (hl : l.length ≤ LIM)
    (h : ∀ a ∈ l, lcT G Φ own elt tg c (toD a) (wipeE ρ1 own) = some (g a, wipeE ρ1 own)) : ev G Φ (.comp own elt tg it c) ρ = some (.lst (l.filterMap g), ρ1) := by
  have key := comp_map (turn := lcT G Φ own elt tg c) (ρ := wipeE ρ1 own) toD g l [] h (by simpa using hl)
  simp only [ev, hi, hc, if_true]
  show (match compGo (lcT G Φ own elt tg c) (l.map toD) (wipeE ρ1 own) [] with
    | some (ds, ρ5) => some (D.lst ds, backE ρ1 ρ5 own)
    | none => none) = _
  rw [key, List.nil_append]
  simp only [back_wipe hc]
theorem rangeD_map (a b : Int) : rangeD a b = (List.range (b - a).toNat).map fun i => D.int (a + (i : Nat)) := rfl
theorem ev_compR' {own : List Nat} {elt : E} {tg : List Nat} {it : It} {c : Oe} {a b : Int} (n : Nat) (g : Nat → Option D) (hi : evi G Φ it ρ = some (rangeD a b, ρ1)) (hn : (b - a).toNat = n) (hc : clean ρ1 own = true) (hl : n ≤ LIM)
    (h : ∀ j, j < n → lcT G Φ own elt tg c (.int (a + (j : Nat))) (wipeE ρ1 own) = some (g j, wipeE ρ1 own)) : ev G Φ (.comp own elt tg it c) ρ = some (.lst ((List.range n).filterMap g), ρ1) := by
  rw [rangeD_map, hn] at hi
  exact ev_comp' (List.range n) (fun i : Nat => D.int (a + (i : Nat))) g hi hc (by simpa using hl) fun j hj => h j (List.mem_range.mp hj)
end
end Mini
/-! The law's draws. -/
namespace Mini
variable {F : Nat → Fn}
/-- the state of the draws -/
structure Row (d : D) : Prop where
  ex : ∃ (ns : List Int) (i s c : Int), d = .lst [.lst (ns.map D.int), .int i, .int s, .int c] ∧ 0 ≤ i
theorem row_mk (ns : List Int) (i s c : Int) (h : 0 ≤ i) : Row (.lst [.lst (ns.map D.int), .int i, .int s, .int c]) := ⟨⟨ns, i, s, c, rfl, h⟩⟩
theorem ix4_0 (a b c d : D) : idxD (.lst [a, b, c, d]) (.int 0) = some a := rfl
theorem ix4_1 (a b c d : D) : idxD (.lst [a, b, c, d]) (.int 1) = some b := rfl
theorem ix4_2 (a b c d : D) : idxD (.lst [a, b, c, d]) (.int 2) = some c := rfl
theorem ix4_3 (a b c d : D) : idxD (.lst [a, b, c, d]) (.int 3) = some d := rfl
theorem ixN4_1 : L2.ixN 4 1 = some 1 := rfl
theorem ixN4_2 : L2.ixN 4 2 = some 2 := rfl
theorem ixN4_3 : L2.ixN 4 3 = some 3 := rfl
theorem ixN_ok {n : Nat} {i : Nat} (h : i < n) : L2.ixN n (i : Int) = some i := by
  unfold L2.ixN
  rw [if_pos (by omega)]
  simp; omega
theorem idx_lst {xs : List D} {i : Nat} {d : D} (h : xs[i]? = some d) : idxD (.lst xs) (.int (i : Int)) = some d := by
  have hi : i < xs.length := (List.getElem?_eq_some_iff.mp h).1
  simp only [idxD, ixL, ixN_ok hi, Option.bind, h]
theorem idx_tup {xs : List D} {i : Nat} {d : D} (h : xs[i]? = some d) : idxD (.tup xs) (.int (i : Int)) = some d := by
  have hi : i < xs.length := (List.getElem?_eq_some_iff.mp h).1
  simp only [idxD, ixL, ixN_ok hi, Option.bind, h]
theorem taken_ok (hF : Lv F) {d : D} (h : Row d) {m : Int} (h0 : 0 < m) (h1 : m < 1073741824) (k : Nat) : ∃ r d', F (k + 1) 400 [.int m] (some d) = some (.int r, some d') ∧ 0 ≤ r ∧ r < m ∧ Row d' := by
  obtain ⟨ns, i, s, c, rfl, hi⟩ := h.ex
  have hm : ∀ a : Int, 0 ≤ a % m ∧ a % m < m := fun a => ⟨Int.emod_nonneg _ (by omega), Int.emod_lt_of_pos _ h0⟩
  rw [go400 hF]
  by_cases hc : 0 < c
  · refine ⟨c % m, .lst [.lst (ns.map D.int), .int i, .int s, .int (c / m)], ?_, (hm c).1, (hm c).2, row_mk _ _ _ _ hi⟩
    simp [run, df400, startE, exs, ex, ev, evs, isBrw, pureE, pureEs, ix4_0, ix4_1, ix4_2, ix4_3, ixN4_3, cmpD, hc, fnD, bopD, h0, h1, kyOf, lastIo]
  · have hc' : ¬ 0 < c := hc
    have b1 : ∀ a : Int, bmul a 48271 = true := fun a => by unfold bmul; simp
    by_cases hl : ((ns.length : Nat) : Int) < i + 1
    · refine ⟨(s * 48271 + 11) % 2147483647 / 7 % m, .lst [.lst (ns.map D.int), .int (i + 1), .int ((s * 48271 + 11) % 2147483647), .int c], ?_, (hm _).1, (hm _).2, row_mk _ _ _ _ (by omega)⟩
      simp [run, df400, startE, exs, ex, ev, evs, isBrw, pureE, pureEs, ix4_0, ix4_1, ix4_2, ix4_3, ixN4_1, ixN4_2, ixN4_3, cmpD, hc', fnD, bopD, h0, h1, kyOf, lastIo, hl, b1]
    · obtain ⟨j, hj⟩ : ∃ j : Nat, i = j := ⟨i.toNat, by omega⟩
      subst hj
      have hlt : j < ns.length := by omega
      have g : idxD (.lst (ns.map D.int)) (.int (j : Int)) = some (.int ns[j]) := idx_lst (by rw [List.getElem?_map, List.getElem?_eq_getElem hlt]; rfl)
      have g' : idxD (.lst (ns.map D.int)) (.int ((j : Int) + 1 - 1)) = some (.int ns[j]) := by rw [show (j : Int) + 1 - 1 = j by omega]; exact g
      by_cases hb : (10 : Int) ^ 18 ≤ ns[j]
      · refine ⟨ns[j] % m, .lst [.lst (ns.map D.int), .int ((j : Int) + 1), .int ((s * 48271 + ns[j] + 11) % 2147483647), .int (ns[j] / m)], ?_, (hm _).1, (hm _).2, row_mk _ _ _ _ (by omega)⟩
        simp [run, df400, startE, exs, ex, ev, evs, isBrw, pureE, pureEs, ix4_0, ix4_1, ix4_2, ix4_3, ixN4_1, ixN4_2, ixN4_3, cmpD, hc', fnD, bopD, h0, h1, kyOf, lastIo, hl, b1, g, g', hb]
        simp at hb
        simp [hb, h0, h1, ixN4_3]
      · refine ⟨ns[j] % m, .lst [.lst (ns.map D.int), .int ((j : Int) + 1), .int ((s * 48271 + ns[j] + 11) % 2147483647), .int c], ?_, (hm _).1, (hm _).2, row_mk _ _ _ _ (by omega)⟩
        simp [run, df400, startE, exs, ex, ev, evs, isBrw, pureE, pureEs, ix4_0, ix4_1, ix4_2, ix4_3, ixN4_1, ixN4_2, ixN4_3, cmpD, hc', fnD, bopD, h0, h1, kyOf, lastIo, hl, b1, g, g', hb]
        simp at hb
        simp [hb, h0, h1, ixN4_3, Int.not_le.mpr hb]
end Mini
/-! Checks of numbers and companies. -/
namespace Mini
variable {F : Nat → Fn}
theorem whole_int (hF : Lv F) (k : Nat) (i : Int) : F (k + 1) 43 [.int i] none = some (.bl true, none) := by
  rw [go43 hF]; rfl
theorem within_int (hF : Lv F) (k : Nat) (i lo hi : Int) : F (k + 2) 44 [.int i, .int lo, .int hi] none = some (.bl (decide (lo ≤ i) && decide (i ≤ hi)), none) := by
  rw [go44 hF]
  by_cases h : lo ≤ i <;> simp [run, df44, exs, ex, ev, evs, startE, isBrw, ioOf, whole_int hF, cmpD, lastIo, h]
theorem need_number (hF : Lv F) (k : Nat) {i lo hi : Int} (h1 : lo ≤ i) (h2 : i ≤ hi) : F (k + 3) 45 [.int i, .int lo, .int hi] none = some (.non, none) := by
  rw [go45 hF]
  simp [run, df45, exs, ex, ev, evs, startE, isBrw, ioOf, within_int hF, lastIo, h1, h2]
theorem tuple_of (hF : Lv F) (k : Nat) (ds : List D) (lo hi : Int) : F (k + 1) 46 [.tup ds, .int lo, .int hi] none = some (.bl (decide (lo ≤ (ds.length : Int)) && decide ((ds.length : Int) ≤ hi)), none) := by
  rw [go46 hF]
  by_cases h : lo ≤ (ds.length : Int) <;> simp [run, df46, exs, ex, ev, evs, startE, isBrw, ioOf, isiD, cmpD, fnD, lastIo, h]

/-! ### companies -/
def pairD (p : Nat × Nat) : D := .tup [.int p.1, .int p.2]
def compD (n : Nat) (ps : List (Nat × Nat)) : D := .tup [.int n, .tup (ps.map pairD)]
def pLt (p q : Nat × Nat) : Prop := p.1 < q.1 ∨ p.1 = q.1 ∧ p.2 < q.2
structure Comp (n : Nat) (ps : List (Nat × Nat)) : Prop where
  lo : 1 ≤ n
  hi : n ≤ 7
  len : ps.length ≤ 21
  ord : ∀ p ∈ ps, p.1 < p.2 ∧ p.2 < n
  srt : ps.Pairwise pLt
theorem enum_get : ∀ (ds : List D) (k i : Nat) (d : D), (enumD k ds)[i]? = some d → ∃ d0, ds[i]? = some d0 ∧ d = .tup [.int ((k + i : Nat) : Int), d0]
  | [], _, _, _, h => by simp [enumD] at h
  | x :: ds, k, 0, d, h => by
    simp [enumD] at h
    exact ⟨x, rfl, by rw [← h]; rfl⟩
  | x :: ds, k, i + 1, d, h => by
    simp only [enumD, List.getElem?_cons_succ] at h
    obtain ⟨d0, h1, h2⟩ := enum_get ds (k + 1) i d h
    exact ⟨d0, by simpa using h1, by rw [h2]; congr 3; omega⟩
@[simp] theorem idx2_0 (a b : D) : idxD (.tup [a, b]) (.int 0) = some a := rfl
@[simp] theorem idx2_1 (a b : D) : idxD (.tup [a, b]) (.int 1) = some b := rfl
theorem all_true {bs : List Bool} (h : ∀ b ∈ bs, b = true) : bs.all id = true := by simpa using h
theorem need_company (hF : Lv F) {n : Nat} {ps : List (Nat × Nat)} (C : Comp n ps) (k : Nat) : F (k + 3) 47 [compD n ps] none = some (.non, none) := by
  rw [go47 hF]
  have hlo := C.lo
  have hhi := C.hi
  have hlen := C.len
  have e1 : (1 : Int) ≤ n := by omega
  have e2 : (n : Int) ≤ 7 := by omega
  have e3 : (ps.length : Int) ≤ 21 := by omega
  have g3 : GL 3 = some (.int 7) := rfl
  refine run_of ⟨rfl, rfl⟩ (show W (exs GL (F (k + 2)) df47.body [.fz (compD n ps), .un, .un, .un]) _ from w_nx (ρ1 := [.fz (compD n ps), .un, .un, .un]) ?_ (w_for (xs := enumD 0 (ps.map pairD)) (fun _ ρ => ∃ z1 z2, blS z1 = true ∧ blS z2 = true ∧ ρ = [.fz (compD n ps), z1, z2, .un]) (ρ1 := [.fz (compD n ps), .un, .un, .un]) ?_ ⟨_, _, rfl, rfl, rfl⟩ ?_ ?_))
  · (simp [run, exs, ex, ev, evs, evi, evo, evo', startE, isBrw, pureE, pureEs, pureO, ioOf, lastIo, setTg, setAll, setPar, wipeE, backE, allocE, isLst, compD, tuple_of hF, within_int hF, g3, e1, e2, e3] <;> try with_reducible rfl)
  · (simp [run, exs, ex, ev, evs, evi, evo, evo', startE, isBrw, pureE, pureEs, pureO, ioOf, lastIo, setTg, setAll, setPar, wipeE, backE, allocE, isLst, compD, seqD] <;> try with_reducible rfl)
  · rintro j x ρ hx ⟨z1, z2, h1, h2, rfl⟩
    obtain ⟨d0, hd, rfl⟩ := enum_get _ _ _ _ hx
    rw [List.getElem?_map, Option.map_eq_some_iff] at hd
    obtain ⟨p, hp, rfl⟩ := hd
    have hm := C.ord p (List.mem_of_getElem? hp)
    refine ⟨[.fz (compD n ps), .fz (.int j), .fz (pairD p), .un], by (simp [run, exs, ex, ev, evs, evi, evo, evo', startE, isBrw, pureE, pureEs, pureO, ioOf, lastIo, setTg, setAll, setPar, wipeE, backE, allocE, isLst, setFz_0 _ _ _ (blS_ok h1), setFz_0 _ _ _ (blS_ok h2)] <;> try with_reducible rfl), w_nx (ρ1 := [.fz (compD n ps), .fz (.int j), .fz (pairD p), .un]) ?_ (w_nx (ρ1 := [.fz (compD n ps), .fz (.int j), .fz (pairD p), .un]) ?_ (w_end ⟨.inl rfl, _, _, rfl, rfl, rfl⟩))⟩
    · have a1 : (0 : Int) ≤ (p.1 : Int) := by omega
      have a2 : (p.1 : Int) ≤ (n : Int) - 1 := by omega
      have a3 : (p.2 : Int) ≤ (n : Int) - 1 := by omega
      (simp [run, exs, ex, ev, evs, evi, evo, evo', startE, isBrw, pureE, pureEs, pureO, ioOf, lastIo, setTg, setAll, setPar, wipeE, backE, allocE, isLst, compD, pairD, tuple_of hF, within_int hF, g3, seqD, compGo, fnD, bls, bopD, LIM, a1, a2, a3, e1, e2] <;> try with_reducible rfl)
    · have b1 : ¬ (p.2 : Int) ≤ p.1 := by omega
      cases j with
      | zero => (simp [run, exs, ex, ev, evs, evi, evo, evo', startE, isBrw, pureE, pureEs, pureO, ioOf, lastIo, setTg, setAll, setPar, wipeE, backE, allocE, isLst, compD, pairD, cmpD, b1] <;> try with_reducible rfl)
      | succ i =>
        have hj : i + 1 < ps.length := (List.getElem?_eq_some_iff.mp hp).1
        have hi : i < ps.length := by omega
        have gi : idxD (.tup (ps.map pairD)) (.int (i : Int)) = some (pairD ps[i]) := idx_tup (by rw [List.getElem?_map, List.getElem?_eq_getElem hi]; rfl)
        have lt := List.pairwise_iff_getElem.mp C.srt i (i + 1) hi hj (Nat.lt_succ_self _)
        have ep : ps[i + 1] = p := Option.some.inj ((List.getElem?_eq_getElem hj).symm.trans hp)
        rw [ep] at lt
        have c1 : lexT itLe true [.int p.1, .int p.2] [.int ps[i].1, .int ps[i].2] = some false := by
          rcases lt with lt | ⟨e, lt⟩
          · have h1 : ¬ p.1 = ps[i].1 := by omega
            have h2 : ¬ p.1 ≤ ps[i].1 := by omega
            simp [lexT, lexB, pairsOk, itEq, itLe, h1, h2] <;> omega
          · have h1 : ¬ p.2 = ps[i].2 := by omega
            have h2 : ¬ p.2 ≤ ps[i].2 := by omega
            simp [lexT, lexB, pairsOk, itEq, itLe, h1, h2, e] <;> omega
        have c0 : (0 : Int) < (i : Int) + 1 := by omega
        have ci : ((i : Int) + 1 - 1) = i := by omega
        (simp [run, exs, ex, ev, evs, evi, evo, evo', startE, isBrw, pureE, pureEs, pureO, ioOf, lastIo, setTg, setAll, setPar, wipeE, backE, allocE, isLst, compD, pairD, cmpD, b1, gi, bopD, c0, ci, c1] <;> try with_reducible rfl)
  · rintro ρ' ⟨z1, z2, h1, h2, rfl⟩
    exact w_end ⟨.inr ⟨rfl, rfl⟩, rfl⟩
end Mini
/-! Powers, partings. -/
namespace Mini
variable {F : Nat → Fn}
theorem bmul_r (a b : Int) (h1 : -(2 ^ 64) < b) (h2 : b < 2 ^ 64) : bmul a b = true := by unfold bmul; simp at h1 h2; simp [h1, h2]
theorem bmul_l (a b : Int) (h1 : -(2 ^ 64) < a) (h2 : a < 2 ^ 64) : bmul a b = true := by unfold bmul; simp at h1 h2; simp [h1, h2]
theorem range_get {a b : Int} {j : Nat} {x : D} (h : (rangeD a b)[j]? = some x) : x = .int (a + (j : Int)) ∧ (j : Int) < b - a := by
  unfold rangeD at h
  rw [List.getElem?_map, Option.map_eq_some_iff] at h
  obtain ⟨i, h1, h2⟩ := h
  obtain ⟨h3, h4⟩ := List.getElem?_eq_some_iff.mp h1
  rw [List.getElem_range] at h4
  rw [List.length_range] at h3
  subst h4
  exact ⟨h2.symm, by omega⟩
theorem range_len (a b : Int) : (rangeD a b).length = (b - a).toNat := by unfold rangeD; simp
theorem law_power (hF : Lv F) (k : Nat) (b : Int) (n : Nat) (hb : -(2 ^ 64) < b ∧ b < 2 ^ 64) (hn : n ≤ 1000000) : F (k + 1) 450 [.int b, .int (n : Int)] none = some (.int (b ^ n), none) := by
  rw [go450 hF]
  have h1 : (-1000000 : Int) ≤ n := by omega
  have h2 : (n : Int) ≤ 1000000 := by omega
  refine run_of ⟨rfl, rfl⟩ (show W (exs GL (F k) df450.body [.fz (.int b), .fz (.int n), .un, .un]) _ from
    w_nx (ρ1 := [.fz (.int b), .fz (.int n), .fz (.int 1), .un]) (by (simp [run, exs, ex, ev, evs, evi, evo, evo', startE, isBrw, pureE, pureEs, pureO, ioOf, lastIo, setTg, setAll, setPar, wipeE, backE, allocE, isLst] <;> try with_reducible rfl)) (w_for (xs := rangeD 0 n) (fun j ρ => ∃ z, blS z = true ∧ ρ = [.fz (.int b), .fz (.int n), .fz (.int (b ^ j)), z]) (ρ1 := [.fz (.int b), .fz (.int n), .fz (.int 1), .un]) (by (simp [run, exs, ex, ev, evs, evi, evo, evo', startE, isBrw, pureE, pureEs, pureO, ioOf, lastIo, setTg, setAll, setPar, wipeE, backE, allocE, isLst, h1, h2] <;> try with_reducible rfl)) ⟨.un, rfl, by simp⟩ ?_ ?_))
  · rintro j x ρ hx ⟨z, hz, rfl⟩
    refine ⟨_, by (simp [run, exs, ex, ev, evs, evi, evo, evo', startE, isBrw, pureE, pureEs, pureO, ioOf, lastIo, setTg, setAll, setPar, wipeE, backE, allocE, isLst, setFz_0 _ _ _ (blS_ok hz)] <;> try with_reducible rfl) <;> rfl, w_nx (ρ1 := [.fz (.int b), .fz (.int n), .fz (.int (b ^ (j + 1))), .fz x]) ?_ (w_end ⟨.inl rfl, .fz x, rfl, rfl⟩)⟩
    (simp [run, exs, ex, ev, evs, evi, evo, evo', startE, isBrw, pureE, pureEs, pureO, ioOf, lastIo, setTg, setAll, setPar, wipeE, backE, allocE, isLst, bopD, bmul_r _ _ hb.1 hb.2, Int.pow_succ] <;> try with_reducible rfl)
  · rintro ρ' ⟨z, hz, rfl⟩
    rw [range_len]
    exact w_ret (d := .int (b ^ n)) (by (simp [run, exs, ex, ev, evs, evi, evo, evo', startE, isBrw, pureE, pureEs, pureO, ioOf, lastIo, setTg, setAll, setPar, wipeE, backE, allocE, isLst] <;> try with_reducible rfl)) rfl ⟨.inl (by simp), rfl⟩
theorem power (hF : Lv F) (k : Nat) (b : Int) (n : Nat) (hb : -(2 ^ 64) < b ∧ b < 2 ^ 64) (hn : n ≤ 1000000) : F (k + 1) 67 [.int b, .int (n : Int)] none = some (.int (b ^ n), none) := by
  rw [go67 hF]
  have h1 : (-1000000 : Int) ≤ n := by omega
  have h2 : (n : Int) ≤ 1000000 := by omega
  refine run_of ⟨rfl, rfl⟩ (show W (exs GL (F k) df67.body [.fz (.int b), .fz (.int n), .un, .un]) _ from
    w_nx (ρ1 := [.fz (.int b), .fz (.int n), .fz (.int 1), .un]) (by (simp [run, exs, ex, ev, evs, evi, evo, evo', startE, isBrw, pureE, pureEs, pureO, ioOf, lastIo, setTg, setAll, setPar, wipeE, backE, allocE, isLst] <;> try with_reducible rfl)) (w_for (xs := rangeD 0 n) (fun j ρ => ∃ z, blS z = true ∧ ρ = [.fz (.int b), .fz (.int n), .fz (.int (b ^ j)), z]) (ρ1 := [.fz (.int b), .fz (.int n), .fz (.int 1), .un]) (by (simp [run, exs, ex, ev, evs, evi, evo, evo', startE, isBrw, pureE, pureEs, pureO, ioOf, lastIo, setTg, setAll, setPar, wipeE, backE, allocE, isLst, h1, h2] <;> try with_reducible rfl)) ⟨.un, rfl, by simp⟩ ?_ ?_))
  · rintro j x ρ hx ⟨z, hz, rfl⟩
    refine ⟨_, by (simp [run, exs, ex, ev, evs, evi, evo, evo', startE, isBrw, pureE, pureEs, pureO, ioOf, lastIo, setTg, setAll, setPar, wipeE, backE, allocE, isLst, setFz_0 _ _ _ (blS_ok hz)] <;> try with_reducible rfl) <;> rfl, w_nx (ρ1 := [.fz (.int b), .fz (.int n), .fz (.int (b ^ (j + 1))), .fz x]) ?_ (w_end ⟨.inl rfl, .fz x, rfl, rfl⟩)⟩
    (simp [run, exs, ex, ev, evs, evi, evo, evo', startE, isBrw, pureE, pureEs, pureO, ioOf, lastIo, setTg, setAll, setPar, wipeE, backE, allocE, isLst, bopD, bmul_r _ _ hb.1 hb.2, Int.pow_succ, flatD] <;> try with_reducible rfl)
  · rintro ρ' ⟨z, hz, rfl⟩
    rw [range_len]
    exact w_ret (d := .int (b ^ n)) (by (simp [run, exs, ex, ev, evs, evi, evo, evo', startE, isBrw, pureE, pureEs, pureO, ioOf, lastIo, setTg, setAll, setPar, wipeE, backE, allocE, isLst] <;> try with_reducible rfl)) rfl ⟨.inl (by simp), rfl⟩

/-! ### partings -/
def S2 : Nat → Nat → Nat
  | 0, 0 => 1
  | 0, _ + 1 => 0
  | _ + 1, 0 => 0
  | p + 1, l + 1 => S2 p l + (l + 1) * S2 p (l + 1)
theorem S2_big : ∀ (p l : Nat), p < l → S2 p l = 0
  | 0, _ + 1, _ => rfl
  | p + 1, l + 1, h => by simp only [S2]; rw [S2_big p l (by omega), S2_big p (l + 1) (by omega)]; simp
def rowL (p : Nat) : List D := (List.range (p + 1)).map fun l => D.int ((S2 p l : Nat) : Int)
def rowsL (m : Nat) : List D := (List.range (m + 1)).map fun p => D.lst (rowL p)
theorem rowL_len (p : Nat) : (rowL p).length = p + 1 := by simp [rowL]
theorem rowL_get {p l : Nat} (h : l ≤ p) : (rowL p)[l]? = some (.int ((S2 p l : Nat) : Int)) := by
  unfold rowL
  rw [List.getElem?_map, List.getElem?_range (by omega)]; rfl
theorem rowsL_len (p : Nat) : (rowsL p).length = p + 1 := by simp [rowsL]
theorem rowsL_get {m p : Nat} (h : p ≤ m) : (rowsL m)[p]? = some (.lst (rowL p)) := by
  unfold rowsL
  rw [List.getElem?_map, List.getElem?_range (by omega)]; rfl
theorem rowsL_succ (m : Nat) : rowsL (m + 1) = rowsL m ++ [.lst (rowL (m + 1))] := by
  unfold rowsL
  rw [List.range_succ, List.map_append]; rfl
theorem idx_last {xs : List D} {d : D} (h : xs[xs.length - 1]? = some d) : idxD (.lst xs) (.int (-1)) = some d := by
  have hi : xs.length - 1 < xs.length := (List.getElem?_eq_some_iff.mp h).1
  have e : L2.ixN xs.length (-1) = some (xs.length - 1) := by
    unfold L2.ixN
    rw [if_neg (by omega), if_pos (by omega)]
    congr 1; omega
  simp only [idxD, ixL, e, Option.bind, h]
theorem idx_lastT {xs : List D} {d : D} (h : xs[xs.length - 1]? = some d) : idxD (.tup xs) (.int (-1)) = some d := by
  have hi : xs.length - 1 < xs.length := (List.getElem?_eq_some_iff.mp h).1
  have e : L2.ixN xs.length (-1) = some (xs.length - 1) := by
    unfold L2.ixN
    rw [if_neg (by omega), if_pos (by omega)]
    congr 1; omega
  simp only [idxD, ixL, e, Option.bind, h]
/-- a comprehension over a range -/
theorem comp_range {turn : D → En → Option (Option D × En)} {ρ : En} (g : Nat → D) (a b : Int) (n : Nat) (hn : (b - a).toNat = n) (hl : n ≤ LIM) (h : ∀ j, j < n → turn (.int (a + (j : Nat))) ρ = some (some (g j), ρ)) : compGo turn (rangeD a b) ρ [] = some ((List.range n).map g, ρ) := by
  unfold rangeD
  rw [hn]
  have := comp_map (turn := turn) (ρ := ρ) (fun i : Nat => D.int (a + (i : Nat))) (fun i => some (g i)) (List.range n) [] (fun i hi => h i (List.mem_range.mp hi)) (by simp; exact hl)
  rw [this]; simp
theorem partings_of (hF : Lv F) (k : Nat) {m : Nat} (hm : m ≤ 60) : F (k + 1) 84 [.int (m : Int)] none = some (.lst (rowsL m), none) := by
  rw [go84 hF]
  have r1 : (-1000000 : Int) ≤ (m : Int) + 1 := by omega
  have r2 : (m : Int) + 1 ≤ 1000000 := by omega
  refine run_of ⟨rfl, rfl⟩ (show W (exs GL (F k) df84.body [.fz (.int m), .un, .un, .un, .un]) _ from
    w_nx (ρ1 := [.fz (.int m), .own (.lst (rowsL 0)), .un, .un, .un]) (by (simp [run, exs, ex, ev, evs, evi, evo, evo', startE, isBrw, pureE, pureEs, pureO, ioOf, lastIo, setTg, setAll, setPar, wipeE, backE, allocE, isLst, LIM] <;> try with_reducible rfl) <;> rfl) (w_for (xs := rangeD 1 (m + 1)) (fun j ρ => ∃ z1 z2, blS z1 = true ∧ blS z2 = true ∧ ρ = [.fz (.int m), .own (.lst (rowsL j)), z1, z2, .un]) (ρ1 := [.fz (.int m), .own (.lst (rowsL 0)), .un, .un, .un]) (by (simp [run, exs, ex, ev, evs, evi, evo, evo', startE, isBrw, pureE, pureEs, pureO, ioOf, lastIo, setTg, setAll, setPar, wipeE, backE, allocE, isLst, r1, r2, bopD] <;> try with_reducible rfl)) ⟨.un, .un, rfl, rfl, rfl⟩ ?_ ?_))
  · rintro j x ρ hx ⟨z1, z2, h1, h2, rfl⟩
    obtain ⟨rfl, hj⟩ := range_get hx
    have hj : j < m := by omega
    have il : idxD (.lst (rowsL j)) (.int (-1)) = some (.lst (rowL j)) := idx_last (by rw [rowsL_len]; exact rowsL_get (by omega))
    have l1 : (rowL j).length + 1 ≤ 4000000 := by rw [rowL_len]; omega
    refine ⟨[.fz (.int m), .own (.lst (rowsL j)), .fz (.int (1 + j)), z2, .un], by (simp [run, exs, ex, ev, evs, evi, evo, evo', startE, isBrw, pureE, pureEs, pureO, ioOf, lastIo, setTg, setAll, setPar, wipeE, backE, allocE, isLst, setFz_0 _ _ _ (blS_ok h1)] <;> try with_reducible rfl), w_nx (ρ1 := [.fz (.int m), .own (.lst (rowsL j)), .fz (.int (1 + j)), .fz (.lst (rowL j ++ [.int 0])), .un]) ?_
      (w_nx (ρ1 := [.fz (.int m), .own (.lst (rowsL (j + 1))), .fz (.int (1 + j)), .fz (.lst (rowL j ++ [.int 0])), .un]) ?_ (w_end ⟨.inl rfl, _, _, rfl, rfl, rfl⟩))⟩
    · (simp [run, exs, ex, ev, evs, evi, evo, evo', startE, isBrw, pureE, pureEs, pureO, ioOf, lastIo, setTg, setAll, setPar, wipeE, backE, allocE, isLst, il, bopD, LIM, l1, setFz_0 _ _ _ (blS_ok h2)] <;> try with_reducible rfl)
    · have n0 : ((1 : Int) + (j : Int) + 1 - 1).toNat = j + 1 := by omega
      have r3 : (-1000000 : Int) ≤ 1 + (j : Int) + 1 := by omega
      have r4 : 1 + (j : Int) + 1 ≤ 1000000 := by omega
      have hc : ev GL (F k) (.comp [4] (.bin .add (.idx (.var 3) (.bin .sub (.var 4) (.int 1))) (.bin .mul (.var 4) (.idx (.var 3) (.var 4)))) [4] (.range2 (.int 1) (.bin .add (.var 2) (.int 1))) .none) [.fz (.int m), .own (.lst (rowsL j)), .fz (.int (1 + j)), .fz (.lst (rowL j ++ [.int 0])), .un]
          = some (.lst ((List.range (j + 1)).filterMap fun i => some (.int (S2 (j + 1) (i + 1) : Nat))), [.fz (.int m), .own (.lst (rowsL j)), .fz (.int (1 + j)), .fz (.lst (rowL j ++ [.int 0])), .un]) := by
        refine ev_compR' (j + 1) _ (a := 1) (b := 1 + j + 1) (by (simp [run, exs, ex, ev, evs, evi, evo, evo', startE, isBrw, pureE, pureEs, pureO, ioOf, lastIo, setTg, setAll, setPar, wipeE, backE, allocE, isLst, bopD, r3, r4] <;> try with_reducible rfl)) n0 (by simp) (by simp [LIM]; omega) fun i hi => ?_
        have g1 : idxD (.lst (rowL j ++ [.int 0])) (.int (i : Int)) = some (.int ((S2 j i : Nat) : Int)) := idx_lst (by rw [List.getElem?_append_left (by rw [rowL_len]; omega)]; exact rowL_get (by omega))
        have g2 : idxD (.lst (rowL j ++ [.int 0])) (.int ((1 : Int) + (i : Int))) = some (.int ((S2 j (i + 1) : Nat) : Int)) := by
          rw [show (1 : Int) + (i : Int) = ((i + 1 : Nat) : Int) by omega]
          refine idx_lst ?_
          by_cases h : i + 1 ≤ j
          · rw [List.getElem?_append_left (by rw [rowL_len]; omega)]; exact rowL_get h
          · have e : i + 1 = (rowL j).length := by rw [rowL_len]; omega
            rw [S2_big j (i + 1) (by omega), e, List.getElem?_append_right (Nat.le_refl _)]; simp
        have e1 : (1 : Int) + (i : Int) - 1 = i := by omega
        have b2 : bmul (1 + (i : Int)) ((S2 j (i + 1) : Nat) : Int) = true := bmul_l _ _ (by omega) (by omega)
        have e3 : ((S2 j i : Nat) : Int) + (1 + (i : Int)) * ((S2 j (i + 1) : Nat) : Int) = ((S2 (j + 1) (i + 1) : Nat) : Int) := by
          simp only [S2]; push_cast; rw [Int.add_comm 1 (i : Int)]
        (simp [run, exs, ex, ev, evs, evi, evo, evo', startE, isBrw, pureE, pureEs, pureO, ioOf, lastIo, setTg, setAll, setPar, wipeE, backE, allocE, isLst, lcT, bopD, e1, g1, g2, b2, e3] <;> try with_reducible rfl)
      have hrow : D.int 0 :: ((List.range (j + 1)).filterMap fun i => some (D.int (S2 (j + 1) (i + 1) : Nat))) = rowL (j + 1) := by
        unfold rowL
        rw [show List.range (j + 1 + 1) = 0 :: (List.range (j + 1)).map Nat.succ from List.range_succ_eq_map, List.map_cons, List.map_map]
        simp [S2]
      refine ex_app' (ds := rowsL j) (ev_bin' (x := .lst [.int 0]) (by (simp [run, exs, ex, ev, evs, evi, evo, evo', startE, isBrw, pureE, pureEs, pureO, ioOf, lastIo, setTg, setAll, setPar, wipeE, backE, allocE, isLst, LIM] <;> try with_reducible rfl)) hc (d := .lst (rowL (j + 1))) ?_) rfl rfl (by rw [rowsL_len]; simp [LIM]; omega) (by rw [← rowsL_succ]; rfl)
      simp only [bopD]
      rw [if_pos (by simp [LIM]; omega)]
      simp only [List.cons_append, List.nil_append, hrow]
  · rintro ρ' ⟨z1, z2, h1, h2, rfl⟩
    rw [range_len]
    exact w_ret (d := .lst (rowsL m)) (by (simp [run, exs, ex, ev, evs, evi, evo, evo', startE, isBrw, pureE, pureEs, pureO, ioOf, lastIo, setTg, setAll, setPar, wipeE, backE, allocE, isLst] <;> try with_reducible rfl) <;> rfl) rfl ⟨.inl (by simp), rfl⟩
end Mini
/-! Numbers of words at crowds and at letters alone. -/
namespace Mini
variable {F : Nat → Fn}
theorem gl4 : GL 4 = some (.int 60) := rfl
theorem partings (hF : Lv F) (k : Nat) {p l : Nat} (hp : p ≤ 60) (hl : l ≤ 60) : F (k + 4) 85 [.int (p : Int), .int (l : Int)] none = some (.int ((S2 p l : Nat) : Int), none) := by
  rw [go85 hF]
  have a1 : (0 : Int) ≤ (p : Int) := by omega
  have a2 : (p : Int) ≤ 60 := by omega
  have a3 : (0 : Int) ≤ (l : Int) := by omega
  have a4 : (l : Int) ≤ 60 := by omega
  have il : idxD (.lst (rowsL p)) (.int (-1)) = some (.lst (rowL p)) := idx_last (by rw [rowsL_len]; exact rowsL_get (by omega))
  refine run_of ⟨rfl, rfl⟩ (show W (exs GL (F (k + 3)) df85.body [.fz (.int p), .fz (.int l), .un]) _ from
    w_nx (ρ1 := [.fz (.int p), .fz (.int l), .un]) (by (simp [run, exs, ex, ev, evs, evi, evo, evo', startE, isBrw, pureE, pureEs, pureO, ioOf, lastIo, setTg, setAll, setPar, wipeE, backE, allocE, isLst, gl4, need_number hF _ a1 a2] <;> try with_reducible rfl)) (w_nx (ρ1 := [.fz (.int p), .fz (.int l), .un]) (by (simp [run, exs, ex, ev, evs, evi, evo, evo', startE, isBrw, pureE, pureEs, pureO, ioOf, lastIo, setTg, setAll, setPar, wipeE, backE, allocE, isLst, gl4, need_number hF _ a3 a4] <;> try with_reducible rfl)) (w_nx (ρ1 := [.fz (.int p), .fz (.int l), .fz (.lst (rowL p))]) (by (simp [run, exs, ex, ev, evs, evi, evo, evo', startE, isBrw, pureE, pureEs, pureO, ioOf, lastIo, setTg, setAll, setPar, wipeE, backE, allocE, isLst, partings_of hF _ hp, il] <;> try with_reducible rfl)) (w_ret (ρ1 := [.fz (.int p), .fz (.int l), .fz (.lst (rowL p))]) (d := .int (S2 p l : Nat)) ?_ rfl ⟨.inl rfl, rfl⟩))))
  by_cases h : l ≤ p
  · have e : (l : Int) < ((rowL p).length : Nat) := by rw [rowL_len]; omega
    have g : idxD (.lst (rowL p)) (.int (l : Int)) = some (.int ((S2 p l : Nat) : Int)) := idx_lst (rowL_get h)
    (simp [run, exs, ex, ev, evs, evi, evo, evo', startE, isBrw, pureE, pureEs, pureO, ioOf, lastIo, setTg, setAll, setPar, wipeE, backE, allocE, isLst, fnD, cmpD, e, g] <;> try with_reducible rfl)
  · have e : ¬ (l : Int) < ((rowL p).length : Nat) := by rw [rowL_len]; omega
    (simp [run, exs, ex, ev, evs, evi, evo, evo', startE, isBrw, pureE, pureEs, pureO, ioOf, lastIo, setTg, setAll, setPar, wipeE, backE, allocE, isLst, fnD, cmpD, e, S2_big p l (by omega)] <;> try with_reducible rfl)

end Mini
/-! Crowds and letters alone, by the kernel. -/
namespace Mini
variable {F : Nat → Fn}
def pairsAll (m : Nat) : List (Nat × Nat) := (List.range m).flatMap fun a => (List.range (m - (a + 1))).map fun i => (a, a + 1 + i)
theorem comp_all : ∀ m, 1 ≤ m → m ≤ 7 → Comp m (pairsAll m) := by
  have key : ∀ m : Fin 8, 1 ≤ m.val → (pairsAll m.val).length ≤ 21 ∧ (∀ p ∈ pairsAll m.val, p.1 < p.2 ∧ p.2 < m.val) ∧ (pairsAll m.val).Pairwise fun p q => p.1 < q.1 ∨ p.1 = q.1 ∧ p.2 < q.2 := by decide +kernel
  intro m h1 h2
  obtain ⟨a, b, c⟩ := key ⟨m, by omega⟩ h1
  exact ⟨h1, h2, a, b, c⟩
theorem comp_none : ∀ m, 1 ≤ m → m ≤ 7 → Comp m [] := fun m h1 h2 => ⟨h1, h2, by simp, by simp, .nil⟩
theorem seven {P : Nat → Prop} (h : P 1 ∧ P 2 ∧ P 3 ∧ P 4 ∧ P 5 ∧ P 6 ∧ P 7) : ∀ m, 1 ≤ m → m ≤ 7 → P m := by
  intro m h1 h2
  obtain ⟨p1, p2, p3, p4, p5, p6, p7⟩ := h
  match m, h1, h2 with
  | 1, _, _ => exact p1
  | 2, _, _ => exact p2
  | 3, _, _ => exact p3
  | 4, _, _ => exact p4
  | 5, _, _ => exact p5
  | 6, _, _ => exact p6
  | 7, _, _ => exact p7
theorem alone (hF : Lv F) (k : Nat) : ∀ m : Nat, 1 ≤ m → m ≤ 7 → F (k + 4) 78 [.int (m : Int)] none = some (compD m [], none) := by
  rw [hF.at k 4]
  generalize F k = B
  exact seven (by refine ⟨?_, ?_, ?_, ?_, ?_, ?_, ?_⟩ <;> kernel_rfl)
theorem crowd (hF : Lv F) (k : Nat) : ∀ m : Nat, 1 ≤ m → m ≤ 7 → F (k + 4) 82 [.int (m : Int)] none = some (compD m (pairsAll m), none) := by
  rw [hF.at k 4]
  generalize F k = B
  exact seven (by refine ⟨?_, ?_, ?_, ?_, ?_, ?_, ?_⟩ <;> kernel_rfl)
def firstL (m : Nat) : Sg := [97, 98, 99, 100, 101, 102, 103].take m
theorem need_kind_crowd (hF : Lv F) (k : Nat) : ∀ m : Nat, 1 ≤ m → m ≤ 7 → F (k + 6) 58 [compD m (pairsAll m), .str (firstL m)] none = some (.non, none) := by
  rw [hF.at k 6]
  generalize F k = B
  exact seven (by refine ⟨?_, ?_, ?_, ?_, ?_, ?_, ?_⟩ <;> kernel_rfl)
/-- all friends of all -/
def toldAll (m : Nat) : D := .dic ((firstL m).map fun c => (.inr [c], .str ((firstL m).filter (· ≠ c))))
theorem told_crowd (hF : Lv F) (k : Nat) : ∀ m : Nat, 1 ≤ m → m ≤ 7 → F (k + 6) 54 [compD m (pairsAll m)] none = some (toldAll m, none) := by
  rw [hF.at k 6]
  generalize F k = B
  exact seven (by refine ⟨?_, ?_, ?_, ?_, ?_, ?_, ?_⟩ <;> kernel_rfl)
theorem count_crowd0 (hF : Lv F) (k : Nat) : ∀ m : Nat, 1 ≤ m → m ≤ 7 → (F (k + 10) 200 [toldAll m, .str (firstL m)] (some (.dic []))).map (fun p => (p.1, p.2.isSome)) = some (.int 1, true) := by
  rw [hF.at k 10]
  generalize F k = B
  exact seven (by refine ⟨?_, ?_, ?_, ?_, ?_, ?_, ?_⟩ <;> kernel_rfl)
theorem count_crowd (hF : Lv F) (k m : Nat) (h1 : 1 ≤ m) (h2 : m ≤ 7) : ∃ io, F (k + 10) 200 [toldAll m, .str (firstL m)] (some (.dic [])) = some (.int 1, some io) := by
  have h := count_crowd0 hF k m h1 h2
  rw [Option.map_eq_some_iff] at h
  obtain ⟨⟨d, io⟩, e1, e2⟩ := h
  cases io with
  | none => cases e2
  | some c => cases e2; exact ⟨c, e1⟩
end Mini
/-! Numbers of words. -/
namespace Mini
variable {F : Nat → Fn}
theorem firstL_len : ∀ m : Nat, 1 ≤ m → m ≤ 7 → (firstL m).length = m := seven (by decide)
theorem row_at {p l : Nat} (h : l ≤ p) : idxD (.lst (rowL p)) (.int (l : Int)) = some (.int ((S2 p l : Nat) : Int)) := idx_lst (rowL_get h)
theorem rows_last (p : Nat) : idxD (.lst (rowsL p)) (.int (-1)) = some (.lst (rowL p)) := idx_last (by rw [rowsL_len]; exact rowsL_get (by omega))
/-- words of all letters of a crowd -/
theorem words_of (hF : Lv F) (k : Nat) {m p : Nat} (h1 : 1 ≤ m) (h2 : m ≤ 7) (hp : p ≤ 60) : F (k + 11) 86 [toldAll m, .str (firstL m), .int (p : Int)] none = some (.int (S2 p m : Nat), none) := by
  obtain ⟨io, hc⟩ := count_crowd hF k m h1 h2
  have hl := firstL_len m h1 h2
  have hlim : m ≤ LIM := by simp [LIM]; omega
  rw [go86 hF]
  refine run_of ⟨rfl, rfl⟩ (show W (exs GL (F (k + 10)) df86.body [.fz (toldAll m), .fz (.str (firstL m)), .fz (.int p)]) _ from ?_)
  by_cases h : m ≤ p
  · have e : ¬ (p : Int) < (m : Int) := by omega
    refine w_skip (ρ1 := [.fz (toldAll m), .fz (.str (firstL m)), .fz (.int p)]) ?_ (w_ret (ρ1 := [.fz (toldAll m), .fz (.str (firstL m)), .fz (.int p)]) (d := .int (S2 p m : Nat)) ?_ rfl ⟨.inl rfl, rfl⟩)
    · (simp [run, exs, ex, ev, evs, evi, evo, evo', startE, isBrw, pureE, pureEs, pureO, ioOf, lastIo, setTg, setAll, setPar, wipeE, backE, allocE, isLst, fnD, cmpD, hlim, hl, e] <;> try with_reducible rfl)
    · have b : bmul ((S2 p m : Nat) : Int) 1 = true := bmul_r _ _ (by omega) (by omega)
      (simp [run, exs, ex, ev, evs, evi, evo, evo', startE, isBrw, pureE, pureEs, pureO, ioOf, lastIo, setTg, setAll, setPar, wipeE, backE, allocE, isLst, fnD, hlim, hl, partings_of hF _ hp, rows_last, row_at h, hc, bopD, b] <;> try with_reducible rfl)
  · have e : (p : Int) < (m : Int) := by omega
    refine w_if (ρ1 := [.fz (toldAll m), .fz (.str (firstL m)), .fz (.int p)]) (x := true) ?_ (w_ret (ρ1 := [.fz (toldAll m), .fz (.str (firstL m)), .fz (.int p)]) (d := .int 0) (by (simp [run, exs, ex, ev, evs, evi, evo, evo', startE, isBrw, pureE, pureEs, pureO, ioOf, lastIo, setTg, setAll, setPar, wipeE, backE, allocE, isLst] <;> try with_reducible rfl)) rfl (.inr ⟨by simp, .inl (by rw [S2_big p m (by omega)]; rfl), rfl⟩))
    (simp [run, exs, ex, ev, evs, evi, evo, evo', startE, isBrw, pureE, pureEs, pureO, ioOf, lastIo, setTg, setAll, setPar, wipeE, backE, allocE, isLst, fnD, cmpD, hlim, hl, e] <;> try with_reducible rfl)
theorem count_words (hF : Lv F) (k : Nat) {m p : Nat} (h1 : 1 ≤ m) (h2 : m ≤ 7) (h3 : 1 ≤ p) (hp : p ≤ 60) : F (k + 12) 87 [compD m (pairsAll m), .str (firstL m), .int (p : Int)] none = some (.int (S2 p m : Nat), none) := by
  have n1 : (1 : Int) ≤ p := by omega
  have n2 : (p : Int) ≤ 60 := by omega
  have C := comp_all m h1 h2
  rw [go87 hF]
  refine run_of ⟨rfl, rfl⟩ (show W (exs GL (F (k + 11)) df87.body [.fz (compD m (pairsAll m)), .fz (.str (firstL m)), .fz (.int p)]) _ from
    w_nx (ρ1 := [.fz (compD m (pairsAll m)), .fz (.str (firstL m)), .fz (.int p)]) ?_ (w_nx (ρ1 := [.fz (compD m (pairsAll m)), .fz (.str (firstL m)), .fz (.int p)]) ?_ (w_nx (ρ1 := [.fz (compD m (pairsAll m)), .fz (.str (firstL m)), .fz (.int p)]) ?_
      (w_ret (ρ1 := [.fz (compD m (pairsAll m)), .fz (.str (firstL m)), .fz (.int p)]) (d := .int (S2 p m : Nat)) ?_ rfl ⟨.inl rfl, rfl⟩))))
  · (simp [run, exs, ex, ev, evs, evi, evo, evo', startE, isBrw, pureE, pureEs, pureO, ioOf, lastIo, setTg, setAll, setPar, wipeE, backE, allocE, isLst, need_company hF C] <;> try with_reducible rfl)
  · (simp [run, exs, ex, ev, evs, evi, evo, evo', startE, isBrw, pureE, pureEs, pureO, ioOf, lastIo, setTg, setAll, setPar, wipeE, backE, allocE, isLst, need_kind_crowd hF _ m h1 h2] <;> try with_reducible rfl)
  · (simp [run, exs, ex, ev, evs, evi, evo, evo', startE, isBrw, pureE, pureEs, pureO, ioOf, lastIo, setTg, setAll, setPar, wipeE, backE, allocE, isLst, gl4, need_number hF _ n1 n2] <;> try with_reducible rfl)
  · (simp [run, exs, ex, ev, evs, evi, evo, evo', startE, isBrw, pureE, pureEs, pureO, ioOf, lastIo, setTg, setAll, setPar, wipeE, backE, allocE, isLst, told_crowd hF _ m h1 h2, words_of hF _ h1 h2 hp] <;> try with_reducible rfl)
theorem rowsL_drop (p : Nat) : (rowsL p).drop 1 = (List.range p).map fun i => D.lst (rowL (i + 1)) := by
  unfold rowsL
  rw [show List.range (p + 1) = 0 :: (List.range p).map Nat.succ from List.range_succ_eq_map]
  simp
theorem cut_from {α : Type} (xs : List α) {i : Nat} (h : i ≤ xs.length) : cutL xs (some (i : Int)) none = xs.drop i := by
  unfold cutL
  rw [HT.sIx_nat, HT.sIx_none, Nat.min_eq_left h]
  exact List.take_of_length_le (by rw [List.length_drop]; omega)
/-- numbers by length -/
def byLen (m p : Nat) : List D := (List.range p).map fun i => D.int ((S2 (i + 1) m : Nat) : Int)
theorem count_by_length (hF : Lv F) (k : Nat) {m p : Nat} (h1 : 1 ≤ m) (h2 : m ≤ 7) (h3 : 1 ≤ p) (hp : p ≤ 60) : F (k + 12) 88 [compD m (pairsAll m), .str (firstL m), .int (p : Int)] none = some (.tup (byLen m p), none) := by
  have n1 : (1 : Int) ≤ p := by omega
  have n2 : (p : Int) ≤ 60 := by omega
  have C := comp_all m h1 h2
  obtain ⟨io, hc⟩ := count_crowd hF (k + 1) m h1 h2
  have hl := firstL_len m h1 h2
  have hlim : m ≤ LIM := by simp [LIM]; omega
  rw [go88 hF]
  have ce : ev GL (F (k + 11)) (.comp [6] (.bin .mul (.var 5) (.ite (.cmp .lt (.fn .len (.cons (.var 1) .nil)) (.fn .len (.cons (.var 6) .nil))) (.idx (.var 6) (.fn .len (.cons (.var 1) .nil))) (.int 0))) [6] (.seq (.slc (.var 4) (.some (.int 1)) .none)) .none)
      [.fz (compD m (pairsAll m)), .fz (.str (firstL m)), .fz (.int p), .fz (toldAll m), .fz (.lst (rowsL p)), .fz (.int 1), .un] = some (.lst ((List.range p).filterMap fun i => some (.int (S2 (i + 1) m : Nat))), [.fz (compD m (pairsAll m)), .fz (.str (firstL m)), .fz (.int p), .fz (toldAll m), .fz (.lst (rowsL p)), .fz (.int 1), .un]) := by
    refine ev_comp' (List.range p) (fun i => D.lst (rowL (i + 1))) _ ?_ (by simp) (by simp [LIM]; omega) fun i hi => ?_
    · have e : cutL (rowsL p) (some 1) none = (List.range p).map fun i => D.lst (rowL (i + 1)) := by
        rw [← rowsL_drop]; exact cut_from (rowsL p) (i := 1) (by rw [rowsL_len]; omega)
      (simp [run, exs, ex, ev, evs, evi, evo, evo', startE, isBrw, pureE, pureEs, pureO, ioOf, lastIo, setTg, setAll, setPar, wipeE, backE, allocE, isLst, slcD, e, seqD] <;> try with_reducible rfl)
    · by_cases h : m ≤ i + 1
      · have e : (m : Int) < (i : Int) + 1 + 1 := by omega
        have b : bmul 1 ((S2 (i + 1) m : Nat) : Int) = true := bmul_l _ _ (by omega) (by omega)
        (simp [run, exs, ex, ev, evs, evi, evo, evo', startE, isBrw, pureE, pureEs, pureO, ioOf, lastIo, setTg, setAll, setPar, wipeE, backE, allocE, isLst, lcT, fnD, cmpD, hlim, hl, rowL_len, e, row_at h, bopD, b] <;> try with_reducible rfl)
      · have e : ¬ (m : Int) < (i : Int) + 1 + 1 := by omega
        have b : bmul 1 0 = true := by decide
        (simp [run, exs, ex, ev, evs, evi, evo, evo', startE, isBrw, pureE, pureEs, pureO, ioOf, lastIo, setTg, setAll, setPar, wipeE, backE, allocE, isLst, lcT, fnD, cmpD, hlim, hl, rowL_len, e, bopD, b, S2_big (i + 1) m (by omega)] <;> try with_reducible rfl)
  refine run_of ⟨rfl, rfl⟩ (show W (exs GL (F (k + 11)) df88.body [.fz (compD m (pairsAll m)), .fz (.str (firstL m)), .fz (.int p), .un, .un, .un, .un]) _ from
    w_nx (ρ1 := [.fz (compD m (pairsAll m)), .fz (.str (firstL m)), .fz (.int p), .un, .un, .un, .un]) ?_ (w_nx (ρ1 := [.fz (compD m (pairsAll m)), .fz (.str (firstL m)), .fz (.int p), .un, .un, .un, .un]) ?_ (w_nx (ρ1 := [.fz (compD m (pairsAll m)), .fz (.str (firstL m)), .fz (.int p), .un, .un, .un, .un]) ?_
      (w_nx (ρ1 := [.fz (compD m (pairsAll m)), .fz (.str (firstL m)), .fz (.int p), .fz (toldAll m), .fz (.lst (rowsL p)), .un, .un]) ?_ (w_nx (ρ1 := [.fz (compD m (pairsAll m)), .fz (.str (firstL m)), .fz (.int p), .fz (toldAll m), .fz (.lst (rowsL p)), .fz (.int 1), .un]) ?_
        (w_ret (d := .tup (byLen m p)) (ev_fn1' ce (by simp [fnD, byLen])) rfl ⟨.inl rfl, rfl⟩))))))
  · (simp [run, exs, ex, ev, evs, evi, evo, evo', startE, isBrw, pureE, pureEs, pureO, ioOf, lastIo, setTg, setAll, setPar, wipeE, backE, allocE, isLst, need_company hF C] <;> try with_reducible rfl)
  · (simp [run, exs, ex, ev, evs, evi, evo, evo', startE, isBrw, pureE, pureEs, pureO, ioOf, lastIo, setTg, setAll, setPar, wipeE, backE, allocE, isLst, need_kind_crowd hF _ m h1 h2] <;> try with_reducible rfl)
  · (simp [run, exs, ex, ev, evs, evi, evo, evo', startE, isBrw, pureE, pureEs, pureO, ioOf, lastIo, setTg, setAll, setPar, wipeE, backE, allocE, isLst, gl4, need_number hF _ n1 n2] <;> try with_reducible rfl)
  · (simp [run, exs, ex, ev, evs, evi, evo, evo', startE, isBrw, pureE, pureEs, pureO, ioOf, lastIo, setTg, setAll, setPar, wipeE, backE, allocE, isLst, told_crowd hF _ m h1 h2, partings_of hF _ hp] <;> try with_reducible rfl)
  · (simp [run, exs, ex, ev, evs, evi, evo, evo', startE, isBrw, pureE, pureEs, pureO, ioOf, lastIo, setTg, setAll, setPar, wipeE, backE, allocE, isLst, hc] <;> try with_reducible rfl)
end Mini
/-! Sums of numbers of words. -/
namespace Mini
variable {F : Nat → Fn}
theorem intsD_map : ∀ l : List Int, intsD (l.map D.int) = some l
  | [] => rfl
  | x :: l => by simp [intsD, intsD_map l]
def lenI (m p : Nat) : List Int := (List.range p).map fun i => ((S2 (i + 1) m : Nat) : Int)
theorem byLen_map (m p : Nat) : byLen m p = (lenI m p).map D.int := by simp [byLen, lenI]
theorem byLen_len (m p : Nat) : (byLen m p).length = p := by simp [byLen]
theorem sum_drop (m p i : Nat) (h : i ≤ p) : fnD .sum [.tup (cutL (byLen m p) (some (i : Int)) none)] = some (.int ((lenI m p).drop i).sum) := by
  rw [cut_from _ (by rw [byLen_len]; exact h), byLen_map, ← List.map_drop]
  simp only [fnD, intsD_map, Option.map]
theorem count_ranges (hF : Lv F) (k : Nat) {m p l : Nat} (h1 : 1 ≤ m) (h2 : m ≤ 7) (h3 : 1 ≤ l) (h4 : l ≤ p) (hp : p ≤ 60) : F (k + 13) 98 [compD m (pairsAll m), .str (firstL m), .int (l : Int), .int (p : Int)] none = some (.int ((lenI m p).drop (l - 1)).sum, none) := by
  have n1 : (1 : Int) ≤ l := by omega
  have n2 : (l : Int) ≤ 60 := by omega
  have n3 : (l : Int) ≤ p := by omega
  have n4 : (p : Int) ≤ 60 := by omega
  have C := comp_all m h1 h2
  have el : (l : Int) - 1 = ((l - 1 : Nat) : Int) := by omega
  rw [go98 hF]
  refine run_of ⟨rfl, rfl⟩ (show W (exs GL (F (k + 12)) df98.body [.fz (compD m (pairsAll m)), .fz (.str (firstL m)), .fz (.int l), .fz (.int p)]) _ from
    w_nx (ρ1 := [.fz (compD m (pairsAll m)), .fz (.str (firstL m)), .fz (.int l), .fz (.int p)]) ?_ (w_nx (ρ1 := [.fz (compD m (pairsAll m)), .fz (.str (firstL m)), .fz (.int l), .fz (.int p)]) ?_ (w_nx (ρ1 := [.fz (compD m (pairsAll m)), .fz (.str (firstL m)), .fz (.int l), .fz (.int p)]) ?_
      (w_nx (ρ1 := [.fz (compD m (pairsAll m)), .fz (.str (firstL m)), .fz (.int l), .fz (.int p)]) ?_ (w_ret (ρ1 := [.fz (compD m (pairsAll m)), .fz (.str (firstL m)), .fz (.int l), .fz (.int p)]) (d := .int ((lenI m p).drop (l - 1)).sum) ?_ rfl ⟨.inl rfl, rfl⟩)))))
  · (simp [run, exs, ex, ev, evs, evi, evo, evo', startE, isBrw, pureE, pureEs, pureO, ioOf, lastIo, setTg, setAll, setPar, wipeE, backE, allocE, isLst, need_company hF C] <;> try with_reducible rfl)
  · (simp [run, exs, ex, ev, evs, evi, evo, evo', startE, isBrw, pureE, pureEs, pureO, ioOf, lastIo, setTg, setAll, setPar, wipeE, backE, allocE, isLst, need_kind_crowd hF _ m h1 h2] <;> try with_reducible rfl)
  · (simp [run, exs, ex, ev, evs, evi, evo, evo', startE, isBrw, pureE, pureEs, pureO, ioOf, lastIo, setTg, setAll, setPar, wipeE, backE, allocE, isLst, gl4, need_number hF _ n1 n2] <;> try with_reducible rfl)
  · (simp [run, exs, ex, ev, evs, evi, evo, evo', startE, isBrw, pureE, pureEs, pureO, ioOf, lastIo, setTg, setAll, setPar, wipeE, backE, allocE, isLst, gl4, need_number hF _ n3 n4] <;> try with_reducible rfl)
  · refine ev_fn1' (x := .tup (cutL (byLen m p) (some ((l - 1 : Nat) : Int)) none)) ?_ (sum_drop m p (l - 1) (by omega))
    (simp [run, exs, ex, ev, evs, evi, evo, evo', startE, isBrw, pureE, pureEs, pureO, ioOf, lastIo, setTg, setAll, setPar, wipeE, backE, allocE, isLst, count_by_length hF _ h1 h2 (show 1 ≤ p by omega) hp, bopD, slcD, el] <;> try with_reducible rfl)
def upTo (n p : Nat) : Int := ((List.range p).map fun i => (n : Int) ^ (i + 1)).sum
theorem count_up_to (hF : Lv F) (k : Nat) {n p : Nat} {ps : List (Nat × Nat)} (C : Comp n ps) (h3 : 1 ≤ p) (hp : p ≤ 60) : F (k + 4) 94 [compD n ps, .int (p : Int)] none = some (.int (upTo n p), none) := by
  have n1 : (1 : Int) ≤ p := by omega
  have n2 : (p : Int) ≤ 60 := by omega
  have r1 : (-1000000 : Int) ≤ (p : Int) + 1 := by omega
  have r2 : (p : Int) + 1 ≤ 1000000 := by omega
  have hhi := C.hi
  rw [go94 hF]
  refine run_of ⟨rfl, rfl⟩ (show W (exs GL (F (k + 3)) df94.body [.fz (compD n ps), .fz (.int p), .un]) _ from
    w_nx (ρ1 := [.fz (compD n ps), .fz (.int p), .un]) ?_ (w_nx (ρ1 := [.fz (compD n ps), .fz (.int p), .un]) ?_ (w_ret (ρ1 := [.fz (compD n ps), .fz (.int p), .un]) (d := .int (upTo n p)) ?_ rfl ⟨.inl rfl, rfl⟩)))
  · (simp [run, exs, ex, ev, evs, evi, evo, evo', startE, isBrw, pureE, pureEs, pureO, ioOf, lastIo, setTg, setAll, setPar, wipeE, backE, allocE, isLst, need_company hF C] <;> try with_reducible rfl)
  · (simp [run, exs, ex, ev, evs, evi, evo, evo', startE, isBrw, pureE, pureEs, pureO, ioOf, lastIo, setTg, setAll, setPar, wipeE, backE, allocE, isLst, gl4, need_number hF _ n1 n2] <;> try with_reducible rfl)
  · refine ev_fn1' (ev_compR' p (fun i => some (.int ((n : Int) ^ (i + 1)))) (a := 1) (b := p + 1) (by (simp [run, exs, ex, ev, evs, evi, evo, evo', startE, isBrw, pureE, pureEs, pureO, ioOf, lastIo, setTg, setAll, setPar, wipeE, backE, allocE, isLst, bopD, r1, r2] <;> try with_reducible rfl)) (by omega) (by simp) (by simp [LIM]; omega) fun i hi => ?_) ?_
    · have e : (1 : Int) + (i : Int) = ((i + 1 : Nat) : Int) := by omega
      have pw : F (k + 3) 67 [.int n, .int ((i : Int) + 1)] none = some (.int ((n : Int) ^ (i + 1)), none) := power hF (k + 2) (n : Int) (i + 1) ⟨by omega, by omega⟩ (by omega)
      (simp [run, exs, ex, ev, evs, evi, evo, evo', startE, isBrw, pureE, pureEs, pureO, ioOf, lastIo, setTg, setAll, setPar, wipeE, backE, allocE, isLst, lcT, compD, e, pw] <;> try with_reducible rfl)
    · have : ((List.range p).filterMap fun i => some (D.int ((n : Int) ^ (i + 1)))) = ((List.range p).map fun i => (n : Int) ^ (i + 1)).map D.int := by simp
      rw [this]
      simp only [fnD, intsD_map, Option.map]; rfl
/-- falling powers -/
def fall (n : Nat) : Nat → Nat
  | 0 => 1
  | j + 1 => fall n j * (n - j)
theorem fall_lt : ∀ n j, n ≤ 7 → j ≤ 7 → fall n j < 18446744073709551616 := by
  have key : ∀ n : Fin 8, ∀ j : Fin 8, fall n.val j.val < 18446744073709551616 := by decide +kernel
  intro n j h1 h2
  exact key ⟨n, by omega⟩ ⟨j, by omega⟩
end Mini
/-! Sums of numbers of words. -/
namespace Mini
variable {F : Nat → Fn}
def newL (n p j : Nat) : List D := (List.range j).map fun i => D.int ((fall n (i + 1) * S2 p (i + 1) : Nat) : Int)
theorem newL_len (n p j : Nat) : (newL n p j).length = j := by simp [newL]
theorem newL_succ (n p j : Nat) : newL n p (j + 1) = newL n p j ++ [D.int ((fall n (j + 1) * S2 p (j + 1) : Nat) : Int)] := by
  unfold newL
  rw [List.range_succ, List.map_append]; rfl
theorem fall_step {n j : Nat} (h : j < n) : ((fall n j : Nat) : Int) * ((n : Int) - (1 + (j : Int)) + 1) = ((fall n (j + 1) : Nat) : Int) := by
  have : (n : Int) - (1 + (j : Int)) + 1 = ((n - j : Nat) : Int) := by omega
  rw [this]; simp [fall]
theorem count_by_new (hF : Lv F) (k : Nat) {n p : Nat} {ps : List (Nat × Nat)} (C : Comp n ps) (h3 : 1 ≤ p) (hp : p ≤ 60) : F (k + 4) 174 [compD n ps, .int (p : Int)] none = some (.tup (newL n p n), none) := by
  have n1 : (1 : Int) ≤ p := by omega
  have n2 : (p : Int) ≤ 60 := by omega
  have hhi := C.hi
  have r1 : (-1000000 : Int) ≤ (n : Int) + 1 := by omega
  have r2 : (n : Int) + 1 ≤ 1000000 := by omega
  rw [go174 hF]
  refine run_of ⟨rfl, rfl⟩ (show W (exs GL (F (k + 3)) df174.body [.fz (compD n ps), .fz (.int p), .un, .un, .un, .un]) _ from
    w_nx (ρ1 := [.fz (compD n ps), .fz (.int p), .un, .un, .un, .un]) ?_ (w_nx (ρ1 := [.fz (compD n ps), .fz (.int p), .un, .un, .un, .un]) ?_ (w_nx (ρ1 := [.fz (compD n ps), .fz (.int p), .fz (.lst (rowL p)), .own (.lst []), .fz (.int 1), .un]) ?_
      (w_for (xs := rangeD 1 (n + 1)) (fun j ρ => ∃ z, blS z = true ∧ ρ = [.fz (compD n ps), .fz (.int p), .fz (.lst (rowL p)), .own (.lst (newL n p j)), .fz (.int (fall n j : Nat)), z]) (ρ1 := [.fz (compD n ps), .fz (.int p), .fz (.lst (rowL p)), .own (.lst []), .fz (.int 1), .un]) ?_ ⟨.un, rfl, rfl⟩ ?_ ?_))))
  · (simp [run, exs, ex, ev, evs, evi, evo, evo', startE, isBrw, pureE, pureEs, pureO, ioOf, lastIo, setTg, setAll, setPar, wipeE, backE, allocE, isLst, need_company hF C] <;> try with_reducible rfl)
  · (simp [run, exs, ex, ev, evs, evi, evo, evo', startE, isBrw, pureE, pureEs, pureO, ioOf, lastIo, setTg, setAll, setPar, wipeE, backE, allocE, isLst, gl4, need_number hF _ n1 n2] <;> try with_reducible rfl)
  · (simp [run, exs, ex, ev, evs, evi, evo, evo', startE, isBrw, pureE, pureEs, pureO, ioOf, lastIo, setTg, setAll, setPar, wipeE, backE, allocE, isLst, partings_of hF _ hp, rows_last, LIM] <;> try with_reducible rfl)
  · (simp [run, exs, ex, ev, evs, evi, evo, evo', startE, isBrw, pureE, pureEs, pureO, ioOf, lastIo, setTg, setAll, setPar, wipeE, backE, allocE, isLst, compD, bopD, r1, r2] <;> try with_reducible rfl)
  · rintro j x ρ hx ⟨z, hz, rfl⟩
    obtain ⟨rfl, hj⟩ := range_get hx
    have hj : j < n := by omega
    have b : bmul ((fall n j : Nat) : Int) ((n : Int) - (1 + (j : Int)) + 1) = true := bmul_r _ _ (by omega) (by omega)
    have fl := fall_lt n (j + 1) hhi (by omega)
    refine ⟨_, by (simp [run, exs, ex, ev, evs, evi, evo, evo', startE, isBrw, pureE, pureEs, pureO, ioOf, lastIo, setTg, setAll, setPar, wipeE, backE, allocE, isLst, setFz_0 _ _ _ (blS_ok hz)] <;> try with_reducible rfl), w_nx (ρ1 := [.fz (compD n ps), .fz (.int p), .fz (.lst (rowL p)), .own (.lst (newL n p j)), .fz (.int (fall n (j + 1) : Nat)), .fz (.int (1 + j))]) ?_
      (w_nx (ρ1 := [.fz (compD n ps), .fz (.int p), .fz (.lst (rowL p)), .own (.lst (newL n p (j + 1))), .fz (.int (fall n (j + 1) : Nat)), .fz (.int (1 + j))]) ?_ (w_end ⟨.inl rfl, _, rfl, rfl⟩))⟩
    · have e3 : bopD .mul (.int ((fall n j : Nat) : Int)) (.int ((n : Int) - (1 + (j : Int)) + 1)) = some (.int ((fall n (j + 1) : Nat) : Int)) := by simp only [bopD, b, if_true, fall_step hj]
      refine ex_set' (ev_bin' (x := .int ((fall n j : Nat) : Int)) (y := .int ((n : Int) - (1 + (j : Int)) + 1)) (ρ1 := [.fz (compD n ps), .fz (.int p), .fz (.lst (rowL p)), .own (.lst (newL n p j)), .fz (.int (fall n j : Nat)), .fz (.int (1 + j))]) (ρ2 := [.fz (compD n ps), .fz (.int p), .fz (.lst (rowL p)), .own (.lst (newL n p j)), .fz (.int (fall n j : Nat)), .fz (.int (1 + j))]) ?_ ?_ e3) ?_
      · (simp [run, exs, ex, ev, evs, evi, evo, evo', startE, isBrw, pureE, pureEs, pureO, ioOf, lastIo, setTg, setAll, setPar, wipeE, backE, allocE, isLst] <;> try with_reducible rfl)
      · (simp [run, exs, ex, ev, evs, evi, evo, evo', startE, isBrw, pureE, pureEs, pureO, ioOf, lastIo, setTg, setAll, setPar, wipeE, backE, allocE, isLst, compD, bopD] <;> try with_reducible rfl)
      · (simp [run, exs, ex, ev, evs, evi, evo, evo', startE, isBrw, pureE, pureEs, pureO, ioOf, lastIo, setTg, setAll, setPar, wipeE, backE, allocE, isLst] <;> try with_reducible rfl)
    · refine ex_app' (ds := newL n p j) (d := .int ((fall n (j + 1) * S2 p (j + 1) : Nat) : Int)) (ρ1 := [.fz (compD n ps), .fz (.int p), .fz (.lst (rowL p)), .own (.lst (newL n p j)), .fz (.int (fall n (j + 1) : Nat)), .fz (.int (1 + j))]) ?_ rfl rfl (by rw [newL_len]; simp [LIM]; omega) (by rw [← newL_succ]; rfl)
      have e1 : (1 : Int) + (j : Int) = ((j + 1 : Nat) : Int) := by omega
      by_cases h : j + 1 ≤ p
      · have e : ((j : Int) + 1) < (p : Int) + 1 := by omega
        have g := row_at h
        have b2 : bmul ((fall n (j + 1) : Nat) : Int) ((S2 p (j + 1) : Nat) : Int) = true := bmul_l _ _ (by omega) (by omega)
        rw [e1]
        simp only [Int.natCast_add, Int.natCast_one] at g
        (simp [run, exs, ex, ev, evs, evi, evo, evo', startE, isBrw, pureE, pureEs, pureO, ioOf, lastIo, setTg, setAll, setPar, wipeE, backE, allocE, isLst, fnD, cmpD, rowL_len, e, g, bopD, b2] <;> try with_reducible rfl)
      · have e : ¬ ((j : Int) + 1) < (p : Int) + 1 := by omega
        rw [e1, S2_big p (j + 1) (by omega)]
        (simp [run, exs, ex, ev, evs, evi, evo, evo', startE, isBrw, pureE, pureEs, pureO, ioOf, lastIo, setTg, setAll, setPar, wipeE, backE, allocE, isLst, fnD, cmpD, rowL_len, e] <;> try with_reducible rfl)
  · rintro ρ' ⟨z, hz, rfl⟩
    have e : (rangeD 1 ((n : Int) + 1)).length = n := by rw [range_len]; omega
    rw [e]
    exact w_ret (d := .tup (newL n p n)) (by (simp [run, exs, ex, ev, evs, evi, evo, evo', startE, isBrw, pureE, pureEs, pureO, ioOf, lastIo, setTg, setAll, setPar, wipeE, backE, allocE, isLst, fnD] <;> try with_reducible rfl)) rfl ⟨.inl rfl, rfl⟩
end Mini
/-! Partings: plain facts; the first full length. -/
namespace Mini
variable {F : Nat → Fn}
theorem S2_pos : ∀ p l, 1 ≤ l → l ≤ p → 1 ≤ S2 p l
  | 0, l, h1, h2 => by omega
  | p + 1, 0, h1, _ => by omega
  | p + 1, l + 1, _, h2 => by
    simp only [S2]
    by_cases h : l + 1 ≤ p
    · have := S2_pos p (l + 1) (by omega) h
      have := Nat.mul_pos (show 0 < l + 1 by omega) this
      omega
    · have e : l = p := by omega
      subst e
      cases l with
      | zero => simp [S2]
      | succ l =>
        have := S2_pos (l + 1) (l + 1) (by omega) (by omega)
        omega
theorem S2_diag : ∀ p, S2 p p = 1
  | 0 => rfl
  | p + 1 => by simp only [S2]; rw [S2_diag p, S2_big p (p + 1) (by omega)]; simp
theorem S2_zero (p : Nat) (h : 1 ≤ p) : S2 p 0 = 0 := by cases p with | zero => omega | succ p => rfl
theorem S2_zl (l : Nat) (h : 1 ≤ l) : S2 0 l = 0 := by cases l with | zero => omega | succ p => rfl
theorem S2_one : ∀ p, S2 (p + 1) 1 = 1
  | 0 => rfl
  | p + 1 => by
    have := S2_one p
    show S2 (p + 1) 0 + (0 + 1) * S2 (p + 1) 1 = 1
    rw [this]; rfl
theorem S2_two : ∀ p, S2 (p + 2) 2 + 1 = 2 ^ (p + 1)
  | 0 => rfl
  | p + 1 => by
    have h1 := S2_two p
    have h2 := S2_one (p + 1)
    have e : S2 (p + 1 + 2) 2 = S2 (p + 2) 1 + (1 + 1) * S2 (p + 2) 2 := rfl
    rw [e, Nat.pow_succ]
    have h2' : S2 (p + 2) 1 = 1 := h2
    omega
theorem S2_off : ∀ p, 2 * S2 (p + 1) p = (p + 1) * p
  | 0 => rfl
  | p + 1 => by
    have h1 := S2_off p
    have e : S2 (p + 1 + 1) (p + 1) = S2 (p + 1) p + (p + 1) * S2 (p + 1) (p + 1) := rfl
    rw [e, S2_diag (p + 1), Nat.mul_add, h1, Nat.mul_one, show (p + 1 + 1) * (p + 1) = (p + 1) * (p + 2) from Nat.mul_comm .., Nat.mul_comm 2 (p + 1), ← Nat.mul_add]
def sumF (m p j : Nat) : Nat := ((List.range j).map fun i => fall m (i + 1) * S2 p (i + 1)).sum
theorem sumF_succ (m p j : Nat) : sumF m p (j + 1) = sumF m p j + fall m (j + 1) * S2 p (j + 1) := by
  unfold sumF
  rw [List.range_succ, List.map_append, List.sum_append]; simp
theorem sumF_all : ∀ m, 1 ≤ m → m ≤ 7 → ∀ p, sumF m (p + 1) m = m ^ (p + 1) := by
  have st : ∀ p l, S2 (p + 1) (l + 1) = S2 p l + (l + 1) * S2 p (l + 1) := fun _ _ => rfl
  have z : ∀ p, S2 (p + 1) 0 = 0 := fun _ => rfl
  refine seven ⟨?_, ?_, ?_, ?_, ?_, ?_, ?_⟩ <;>
  · intro p
    induction p with
    | zero => decide
    | succ p ih =>
      rw [Nat.pow_succ]
      simp only [sumF, List.range, List.range.loop, List.map, List.sum_cons, List.sum_nil, fall] at ih ⊢
      have e1 := st (p + 1) 0
      have e2 := st (p + 1) 1
      have e3 := st (p + 1) 2
      have e4 := st (p + 1) 3
      have e5 := st (p + 1) 4
      have e6 := st (p + 1) 5
      have e7 := st (p + 1) 6
      have e8 := z p
      simp only [Nat.reduceAdd, Nat.reduceSub, Nat.reduceMul, Nat.zero_add] at *
      omega
theorem upTo_succ (m p : Nat) : upTo m (p + 1) = upTo m p + (m : Int) ^ (p + 1) := by
  unfold upTo
  rw [List.range_succ, List.map_append, List.sum_append]; simp
theorem upTo_mul (m : Nat) : ∀ p, upTo m p * ((m : Int) - 1) = (m : Int) ^ (p + 1) - m
  | 0 => by simp [upTo, Int.pow_succ]
  | p + 1 => by
    rw [upTo_succ, Int.add_mul, upTo_mul m p, Int.mul_sub, Int.mul_one, ← Int.pow_succ]
    rw [show (p + 1).succ = p + 1 + 1 from rfl]
    omega
theorem upTo_one : ∀ p, upTo 1 p = p
  | 0 => rfl
  | p + 1 => by rw [upTo_succ, upTo_one p]; simp [Int.one_pow]
theorem upTo_div (m p : Nat) (h : 2 ≤ m) : ((m : Int) ^ (p + 1) - m) / ((m : Int) - 1) = upTo m p := by
  rw [← upTo_mul m p]
  exact Int.mul_ediv_cancel _ (by omega)
/-- places of a crowd's full lengths -/
def fullL (m : Nat) : List D := (List.range 60).filterMap fun i => if m ≤ i + 1 then some (D.int ((i : Int) + 1)) else none
theorem fullL_ne : ∀ m, 1 ≤ m → m ≤ 7 → eqD (.lst (fullL m)) (.lst []) = some false := seven (by refine ⟨?_, ?_, ?_, ?_, ?_, ?_, ?_⟩ <;> kernel_rfl)
theorem fullL_0 : ∀ m : Nat, 1 ≤ m → m ≤ 7 → idxD (.lst (fullL m)) (.int 0) = some (.int (m : Int)) := seven (by refine ⟨?_, ?_, ?_, ?_, ?_, ?_, ?_⟩ <;> kernel_rfl)
theorem enum_map {α : Type} (f : Nat → D) : ∀ (n k : Nat), enumD k ((List.range' k n).map f) = (List.range' k n).map fun i => D.tup [.int (i : Nat), f i]
  | 0, _ => rfl
  | n + 1, k => by
    simp only [List.range'_succ, List.map_cons, enumD]
    rw [enum_map (α := α) f n (k + 1)]
theorem enum_range (f : Nat → D) (n : Nat) : enumD 0 ((List.range n).map f) = (List.range n).map fun i => D.tup [.int (i : Nat), f i] := by
  rw [List.range_eq_range']
  exact enum_map (α := Nat) f n 0
theorem first_full (hF : Lv F) (k : Nat) {m : Nat} (h1 : 1 ≤ m) (h2 : m ≤ 7) : F (k + 13) 95 [compD m (pairsAll m), .str (firstL m), .int 1] none = some (.int (m : Int), none) := by
  have C := comp_all m h1 h2
  have n1 : (1 : Int) ≤ (10 : Int) ^ 50 := by decide
  have nn : F (k + 12) 45 [.int 1, .int 1, .int ((10 : Int) ^ 50)] none = some (.non, none) := need_number hF (k + 9) (by decide) n1
  have hp : bopD .pow (.int 10) (.int 50) = some (.int ((10 : Int) ^ 50)) := by simp [bopD]
  have cl : F (k + 12) 88 [compD m (pairsAll m), .str (firstL m), .int 60] none = some (.tup (byLen m 60), none) := count_by_length hF k (p := 60) h1 h2 (by omega) (by omega)
  rw [go95 hF]
  generalize hX : ((10 : Int) ^ 50) = X at *
  refine run_of ⟨rfl, rfl⟩ (show W (exs GL (F (k + 12)) df95.body [.fz (compD m (pairsAll m)), .fz (.str (firstL m)), .fz (.int 1), .un, .un, .un, .un]) _ from
    w_nx (ρ1 := [.fz (compD m (pairsAll m)), .fz (.str (firstL m)), .fz (.int 1), .un, .un, .un, .un]) ?_ (w_nx (ρ1 := [.fz (compD m (pairsAll m)), .fz (.str (firstL m)), .fz (.int 1), .un, .un, .un, .un]) ?_ (w_nx (ρ1 := [.fz (compD m (pairsAll m)), .fz (.str (firstL m)), .fz (.int 1), .un, .un, .un, .un]) ?_
      (w_nx (ρ1 := [.fz (compD m (pairsAll m)), .fz (.str (firstL m)), .fz (.int 1), .fz (.tup (byLen m 60)), .un, .un, .un]) ?_ (w_nx (ρ1 := [.fz (compD m (pairsAll m)), .fz (.str (firstL m)), .fz (.int 1), .fz (.tup (byLen m 60)), .fz (.lst (fullL m)), .un, .un]) ?_
        (w_ret (ρ1 := [.fz (compD m (pairsAll m)), .fz (.str (firstL m)), .fz (.int 1), .fz (.tup (byLen m 60)), .fz (.lst (fullL m)), .un, .un]) (d := .int (m : Int)) ?_ rfl ⟨.inl rfl, rfl⟩))))))
  · (simp [run, exs, ex, ev, evs, evi, evo, evo', startE, isBrw, pureE, pureEs, pureO, ioOf, lastIo, setTg, setAll, setPar, wipeE, backE, allocE, isLst, need_company hF C] <;> try with_reducible rfl)
  · (simp [run, exs, ex, ev, evs, evi, evo, evo', startE, isBrw, pureE, pureEs, pureO, ioOf, lastIo, setTg, setAll, setPar, wipeE, backE, allocE, isLst, need_kind_crowd hF _ m h1 h2] <;> try with_reducible rfl)
  · (simp [run, exs, ex, ev, evs, evi, evo, evo', startE, isBrw, pureE, pureEs, pureO, ioOf, lastIo, setTg, setAll, setPar, wipeE, backE, allocE, isLst, nn, hp] <;> try with_reducible rfl)
  · (simp [run, exs, ex, ev, evs, evi, evo, evo', startE, isBrw, pureE, pureEs, pureO, ioOf, lastIo, setTg, setAll, setPar, wipeE, backE, allocE, isLst, gl4, cl] <;> try with_reducible rfl)
  · refine ex_set' (ev_comp' (ρ1 := [.fz (compD m (pairsAll m)), .fz (.str (firstL m)), .fz (.int 1), .fz (.tup (byLen m 60)), .un, .un, .un]) (List.range 60) (fun i => D.tup [.int (i : Nat), D.int ((S2 (i + 1) m : Nat) : Int)]) (fun i => if m ≤ i + 1 then some (D.int ((i : Int) + 1)) else none) ?_ (by simp) (by simp [LIM]) fun i hi => ?_) (by (simp [run, exs, ex, ev, evs, evi, evo, evo', startE, isBrw, pureE, pureEs, pureO, ioOf, lastIo, setTg, setAll, setPar, wipeE, backE, allocE, isLst, fullL] <;> try with_reducible rfl))
    · have e := enum_range (fun i => D.int ((S2 (i + 1) m : Nat) : Int)) 60
      (simp [run, exs, ex, ev, evs, evi, evo, evo', startE, isBrw, pureE, pureEs, pureO, ioOf, lastIo, setTg, setAll, setPar, wipeE, backE, allocE, isLst, byLen, seqD, e] <;> try with_reducible rfl)
    · by_cases h : m ≤ i + 1
      · have e : (1 : Int) ≤ ((S2 (i + 1) m : Nat) : Int) := by have := S2_pos (i + 1) m h1 h; omega
        (simp [run, exs, ex, ev, evs, evi, evo, evo', startE, isBrw, pureE, pureEs, pureO, ioOf, lastIo, setTg, setAll, setPar, wipeE, backE, allocE, isLst, lcT, cmpD, e, bopD, h] <;> try with_reducible rfl)
      · have e : S2 (i + 1) m = 0 := S2_big _ _ (by omega)
        (simp [run, exs, ex, ev, evs, evi, evo, evo', startE, isBrw, pureE, pureEs, pureO, ioOf, lastIo, setTg, setAll, setPar, wipeE, backE, allocE, isLst, lcT, cmpD, e, bopD, h] <;> try with_reducible rfl)
  · (simp [run, exs, ex, ev, evs, evi, evo, evo', startE, isBrw, pureE, pureEs, pureO, ioOf, lastIo, setTg, setAll, setPar, wipeE, backE, allocE, isLst, cmpD, fullL_ne m h1 h2, fullL_0 m h1 h2, LIM] <;> try with_reducible rfl)
end Mini
/-! Equal tuples of ints. -/
namespace Mini
open PySem
theorem pds_ints : ∀ l : List Int, pds (l.map D.int) = some (l.map PyData.int)
  | [] => rfl
  | x :: l => by simp [pds, pd, pds_ints l]
theorem can_ints : ∀ l : List Int, PyData.canLayAll0 (l.map PyData.int) = true
  | [] => rfl
  | x :: l => by simp [PyData.canLayAll0, PyData.canLay0, can_ints l]
theorem eqv_ints : ∀ l : List Int, PyData.eqvAll (l.map PyData.int) (l.map PyData.int) = true
  | [] => rfl
  | x :: l => by simp [PyData.eqvAll, PyData.eqv, eqv_ints l]
theorem dep0_ints : ∀ l : List Int, PyData.depthAll (l.map PyData.int) = 0
  | [] => rfl
  | x :: l => by simp [PyData.depthAll, PyData.depth, dep0_ints l]
theorem dep_ints (l : List Int) : SeqAt.shaped (.tuple (l.map PyData.int)) = true := by
  unfold SeqAt.shaped
  have h : (PyData.tuple (l.map PyData.int)).depth ≤ 64 := by
    simp [PyData.depth, dep0_ints l]
  simp [PyData.canLay0, can_ints l, h]
theorem eqT_ints (l : List Int) : eqD (.tup (l.map D.int)) (.tup (l.map D.int)) = some true := by
  simp only [eqD, pd, pds_ints, Option.map]
  rw [if_pos ⟨dep_ints l, dep_ints l⟩]
  simp [PyData.eqv, eqv_ints]
end Mini
/-! The least order of a word's letters: plain facts. -/
namespace Mini
theorem mem_insN (x y : Nat) : ∀ l, y ∈ insN x l ↔ y = x ∨ y ∈ l
  | [] => by simp [insN]
  | z :: l => by
    unfold insN
    split
    · simp
    · rw [List.mem_cons, mem_insN x y l, List.mem_cons]
      constructor
      · rintro (h | h | h) <;> simp [h]
      · rintro (h | h | h) <;> simp [h]
theorem mem_sortN (y : Nat) : ∀ l, y ∈ sortN l ↔ y ∈ l
  | [] => by simp [sortN]
  | x :: l => by unfold sortN; rw [mem_insN, mem_sortN y l, List.mem_cons]
/-- the least letter with none of its friends ahead -/
def pick (r : Nat → Nat → Bool) (w : Sg) : Option Nat := (sortN w).find? fun c => (w.takeWhile (· ≠ c)).all fun o => !r c o
def loF (r : Nat → Nat → Bool) : Nat → Sg → Sg
  | 0, _ => []
  | k + 1, w => match pick r w with
    | none => []
    | some c => c :: loF r k (w.filter (· ≠ c))
def lo (r : Nat → Nat → Bool) (w : Sg) : Sg := loF r w.length w
section
variable {r : Nat → Nat → Bool}
theorem pick_mem {w : Sg} {c : Nat} (h : pick r w = some c) : c ∈ w := (mem_sortN c w).mp (List.mem_of_find?_eq_some h)
theorem pick_ok {w : Sg} {c : Nat} (h : pick r w = some c) : ∀ o ∈ w.takeWhile (· ≠ c), r c o = false := by
  have := List.find?_some h
  rw [List.all_eq_true] at this
  intro o ho
  simpa using this o ho
theorem pick_some {w : Sg} (h : w ≠ []) : ∃ c, pick r w = some c := by
  cases e : pick r w with
  | some c => exact ⟨c, rfl⟩
  | none =>
    exfalso
    unfold pick at e
    rw [List.find?_eq_none] at e
    cases w with
    | nil => exact h rfl
    | cons a w =>
      have := e a ((mem_sortN a _).mpr (List.mem_cons_self ..))
      simp at this
theorem filter_lt {w : Sg} {c : Nat} (h : c ∈ w) : (w.filter (· ≠ c)).length < w.length := by
  have h1 := List.length_filter_le (fun x => decide (x ≠ c)) w
  rcases Nat.lt_or_ge (w.filter (· ≠ c)).length w.length with h2 | h2
  · exact h2
  · exfalso
    have e : (w.filter fun x => decide (x ≠ c)).length = w.length := Nat.le_antisymm h1 h2
    rw [List.length_filter_eq_length_iff] at e
    simpa using e c h
theorem loF_fuel : ∀ (k : Nat) (w : Sg), w.length ≤ k → loF r k w = lo r w := by
  intro k
  induction k using Nat.strongRecOn with
  | _ k ih =>
    intro w h
    unfold lo
    cases k with
    | zero =>
      have : w.length = 0 := by omega
      rw [this]
    | succ k =>
      cases hw : w.length with
      | zero =>
        have : w = [] := List.length_eq_zero_iff.mp hw
        subst this
        rfl
      | succ m =>
        simp only [loF]
        cases e : pick r w with
        | none => rfl
        | some c =>
          have hl := filter_lt (pick_mem e)
          simp only
          rw [ih k (by omega) _ (by omega), ih m (by omega) _ (by omega)]
theorem lo_nil : lo r [] = [] := rfl
theorem lo_cons {w : Sg} {c : Nat} (h : pick r w = some c) : lo r w = c :: lo r (w.filter (· ≠ c)) := by
  have hm := pick_mem h
  have hl := filter_lt hm
  unfold lo
  obtain ⟨m, hw⟩ : ∃ m, w.length = m + 1 := ⟨w.length - 1, by omega⟩
  rw [hw]
  simp only [loF, h]
  rw [loF_fuel m _ (by omega)]; rfl
/-- by the letters that are picked -/
theorem lo_ind {P : Sg → Sg → Prop} (h0 : P [] []) (hs : ∀ w c, pick r w = some c → P (w.filter (· ≠ c)) (lo r (w.filter (· ≠ c))) → P w (c :: lo r (w.filter (· ≠ c)))) : ∀ w, P w (lo r w) := by
  have key : ∀ (k : Nat) (w : Sg), w.length ≤ k → P w (lo r w) := by
    intro k
    induction k with
    | zero =>
      intro w h
      have : w = [] := List.length_eq_zero_iff.mp (by omega)
      subst this
      exact h0
    | succ k ih =>
      intro w h
      cases e : pick r w with
      | none =>
        have : w = [] := Classical.byContradiction fun hw => by
          obtain ⟨c, hc⟩ := pick_some (r := r) hw
          rw [hc] at e; cases e
        subst this
        exact h0
      | some c =>
        rw [lo_cons e]
        have := filter_lt (pick_mem e)
        exact hs w c e (ih _ (by omega))
  exact fun w => key w.length w (Nat.le_refl _)
theorem mem_lo (w : Sg) (x : Nat) : x ∈ lo r w ↔ x ∈ w := by
  refine lo_ind (r := r) (P := fun w l => x ∈ l ↔ x ∈ w) Iff.rfl (fun w c hc ih => ?_) w
  rw [List.mem_cons, ih, List.mem_filter]
  have hm := pick_mem hc
  by_cases e : x = c
  · subst e; simp [hm]
  · simp [e]
theorem lo_nodup (w : Sg) : (lo r w).Nodup := by
  refine lo_ind (r := r) (P := fun w l => l.Nodup) .nil (fun w c hc ih => ?_) w
  rw [List.nodup_cons]
  refine ⟨fun h => ?_, ih⟩
  rw [mem_lo, List.mem_filter] at h
  simpa using h.2
theorem lo_len {w : Sg} (h : w.Nodup) : (lo r w).length = w.length := by
  revert h
  refine lo_ind (r := r) (P := fun w l => w.Nodup → l.length = w.length) (fun _ => rfl) (fun w c hc ih h => ?_) w
  rw [List.length_cons, ih (h.filter _)]
  have hm := pick_mem hc
  clear ih hc
  induction w with
  | nil => cases hm
  | cons a w ihw =>
    rw [List.nodup_cons] at h
    by_cases e : a = c
    · subst e
      have : w.filter (fun x => decide (x ≠ a)) = w := by
        rw [List.filter_eq_self]
        intro x hx
        have : x ≠ a := fun q => h.1 (q ▸ hx)
        simpa using this
      rw [List.filter_cons_of_neg (by simp), this]; rfl
    · rw [List.filter_cons_of_pos (by simpa using e), List.length_cons, List.length_cons, ihw h.2 (by
        rcases List.mem_cons.mp hm with q | q
        · exact absurd q.symm e
        · exact q)]
/-! ### one order for what is swapped: the friends' sides stay -/
/-- in w, x stands ahead of y (by their first places) -/
def ahd (w : Sg) (x y : Nat) : Prop := x ∈ w.takeWhile (· ≠ y)
theorem ahd_filter {w : Sg} {c x y : Nat} (hx : x ≠ c) (hy : y ≠ c) : ahd (w.filter (· ≠ c)) x y ↔ ahd w x y := by
  unfold ahd
  induction w with
  | nil => simp
  | cons a w ih =>
    by_cases e : a = c
    · subst e
      rw [List.filter_cons_of_neg (by simp), ih, List.takeWhile_cons_of_pos (by simpa using Ne.symm hy), List.mem_cons]
      simp [hx]
    · rw [List.filter_cons_of_pos (by simpa using e)]
      by_cases e2 : a = y
      · subst e2; simp
      · rw [List.takeWhile_cons_of_pos (by simpa using e2), List.takeWhile_cons_of_pos (by simpa using e2), List.mem_cons, List.mem_cons, ih]
/-- two words with the same letters whose friends stand alike -/
def Like (r : Nat → Nat → Bool) (v w : Sg) : Prop := (∀ x, x ∈ v ↔ x ∈ w) ∧ ∀ x y, r y x = true → (ahd v x y ↔ ahd w x y)
theorem sortN_sorted' : ∀ l : List Nat, (sortN l).Pairwise (· ≤ ·) := by
  have ins : ∀ (x : Nat) (l : List Nat), l.Pairwise (· ≤ ·) → (insN x l).Pairwise (· ≤ ·) := by
    intro x l
    induction l with
    | nil => intro _; exact List.pairwise_singleton ..
    | cons y l ih =>
      intro h
      rw [List.pairwise_cons] at h
      unfold insN
      split
      · rename_i hxy
        rw [List.pairwise_cons]
        refine ⟨fun z hz => ?_, List.pairwise_cons.mpr h⟩
        rcases List.mem_cons.mp hz with rfl | hz
        · exact hxy
        · exact Nat.le_trans hxy (h.1 z hz)
      · rename_i hxy
        rw [List.pairwise_cons]
        refine ⟨fun z hz => ?_, ih h.2⟩
        rw [mem_insN] at hz
        rcases hz with rfl | hz
        · omega
        · exact h.1 z hz
  intro l
  induction l with
  | nil => exact .nil
  | cons x l ih => exact ins x _ ih
theorem sortN_perm' : ∀ l : List Nat, (sortN l).Perm l := by
  have ins : ∀ (x : Nat) (l : List Nat), (insN x l).Perm (x :: l) := by
    intro x l
    induction l with
    | nil => exact .refl _
    | cons y l ih =>
      unfold insN
      split
      · exact .refl _
      · exact (List.Perm.cons y ih).trans (.swap ..)
  intro l
  induction l with
  | nil => exact .refl _
  | cons x l ih => exact (ins x _).trans (ih.cons x)
end
end Mini
/-! Loops that end early; the friends of all letters. -/
namespace Mini
section
variable {G : Nat → Option D} {Φ : Fn} {ρ ρ1 : En} {ss : Ss} {Q : Fl → En → Prop}
/-- a for that may end early -/
theorem w_forB {tg : List Nat} {it : It} {b : Ss} {xs : List D} (R : Nat → En → Prop) (hi : evi G Φ it ρ = some (xs, ρ1)) (h0 : R 0 ρ1)
    (hs : ∀ j x ρ, xs[j]? = some x → R j ρ → ∃ ρ2, setTg ρ tg x = some ρ2 ∧ W (exs G Φ b ρ2) fun f ρ3 => ((f = .nx ∨ f = .cnt) ∧ R (j + 1) ρ3) ∨ (f = .brk ∧ W (exs G Φ ss ρ3) Q) ∨ (∃ d, f = .ret d ∧ Q f ρ3))
    (k : ∀ ρ', R xs.length ρ' → W (exs G Φ ss ρ') Q) : W (exs G Φ (.cons (.for tg it b) ss) ρ) Q := by
  have aux : ∀ (ys : List D) (i : Nat) (ρ : En), R i ρ → (∀ j x ρ, ys[j]? = some x → R (i + j) ρ → ∃ ρ2, setTg ρ tg x = some ρ2 ∧ W (exs G Φ b ρ2) fun f ρ3 => ((f = .nx ∨ f = .cnt) ∧ R (i + j + 1) ρ3) ∨ (f = .brk ∧ W (exs G Φ ss ρ3) Q) ∨ (∃ d, f = .ret d ∧ Q f ρ3)) →
      (∀ ρ', R (i + ys.length) ρ' → W (exs G Φ ss ρ') Q) → ∃ f ρ', forGo (fun x ρ => match setTg ρ tg x with
        | some ρ' => exs G Φ b ρ'
        | none => none) ys ρ = some (f, ρ') ∧ ((f = .nx ∧ W (exs G Φ ss ρ') Q) ∨ (∃ d, f = .ret d ∧ Q f ρ')) := by
    intro ys
    induction ys with
    | nil => intro i ρ h _ k; exact ⟨.nx, ρ, rfl, .inl ⟨rfl, k ρ h⟩⟩
    | cons y ys ih =>
      intro i ρ h hs k
      obtain ⟨ρ2, e2, f, ρ3, e3, hf⟩ := hs 0 y ρ rfl h
      rcases hf with ⟨hf, r3⟩ | ⟨rfl, q⟩ | ⟨d, rfl, q⟩
      · obtain ⟨f', ρ', e', r'⟩ := ih (i + 1) ρ3 r3 (fun j x ρ hy hr => by
          have := hs (j + 1) x ρ (by simpa using hy) (by rw [show i + (j + 1) = i + 1 + j by omega]; exact hr)
          rw [show i + (j + 1) + 1 = i + 1 + j + 1 by omega] at this
          exact this) fun ρ' r => k ρ' (by rw [List.length_cons, show i + (ys.length + 1) = i + 1 + ys.length by omega]; exact r)
        refine ⟨f', ρ', ?_, r'⟩
        unfold forGo
        simp only [e2, e3]
        rcases hf with rfl | rfl <;> exact e'
      · refine ⟨.nx, ρ3, ?_, .inl ⟨rfl, q⟩⟩
        unfold forGo
        simp only [e2, e3]
      · refine ⟨.ret d, ρ3, ?_, .inr ⟨d, rfl, q⟩⟩
        unfold forGo
        simp only [e2, e3]
  obtain ⟨f, ρ', e, r⟩ := aux xs 0 ρ1 h0 (fun j x ρ h hr => by rw [Nat.zero_add] at hr ⊢; exact hs j x ρ h hr) fun ρ' r => k ρ' (by rw [Nat.zero_add] at r; exact r)
  have e1 : ex G Φ (.for tg it b) ρ = some (f, ρ') := by simp only [ex, hi]; exact e
  rcases r with ⟨rfl, q⟩ | ⟨d, rfl, q⟩
  · exact w_nx e1 q
  · exact w_stop e1 (by simp) q
/-- a while: each turn makes the number smaller -/
theorem w_while {c : E} {b : Ss} (I : Nat → En → Prop) (n : Nat) (hn : n < WH) (h0 : I n ρ)
    (hs : ∀ n ρ, I n ρ → (∃ ρ1, ev G Φ c ρ = some (.bl false, ρ1) ∧ W (exs G Φ ss ρ1) Q) ∨ ∃ ρ1, ev G Φ c ρ = some (.bl true, ρ1) ∧ W (exs G Φ b ρ1) fun f ρ2 => ((f = .nx ∨ f = .cnt) ∧ ∃ m, m < n ∧ I m ρ2) ∨ (f = .brk ∧ W (exs G Φ ss ρ2) Q) ∨ (∃ d, f = .ret d ∧ Q f ρ2)) :
    W (exs G Φ (.cons (.while c b) ss) ρ) Q := by
  have aux : ∀ (w n : Nat) (ρ : En), n < w → I n ρ → ∃ f ρ', whileGo (fun ρ => asBl (ev G Φ c ρ)) (fun ρ => exs G Φ b ρ) w ρ = some (f, ρ') ∧ ((f = .nx ∧ W (exs G Φ ss ρ') Q) ∨ (∃ d, f = .ret d ∧ Q f ρ')) := by
    intro w
    induction w with
    | zero => intro n ρ h; omega
    | succ w ih =>
      intro n ρ h hI
      rcases hs n ρ hI with ⟨ρ1, e1, q⟩ | ⟨ρ1, e1, f, ρ2, e2, hf⟩
      · exact ⟨.nx, ρ1, by simp only [whileGo, e1, asBl], .inl ⟨rfl, q⟩⟩
      · rcases hf with ⟨hf, m, hm, r⟩ | ⟨rfl, q⟩ | ⟨d, rfl, q⟩
        · obtain ⟨f', ρ', e', r'⟩ := ih m ρ2 (by omega) r
          refine ⟨f', ρ', ?_, r'⟩
          simp only [whileGo, e1, asBl, e2]
          rcases hf with rfl | rfl <;> exact e'
        · exact ⟨.nx, ρ2, by simp only [whileGo, e1, asBl, e2], .inl ⟨rfl, q⟩⟩
        · exact ⟨.ret d, ρ2, by simp only [whileGo, e1, asBl, e2], .inr ⟨d, rfl, q⟩⟩
  obtain ⟨f, ρ', e, r⟩ := aux WH n ρ hn h0
  have e1 : ex G Φ (.while c b) ρ = some (f, ρ') := by simp only [ex]; exact e
  rcases r with ⟨rfl, q⟩ | ⟨d, rfl, q⟩
  · exact w_nx e1 q
  · exact w_stop e1 (by simp) q
end

/-! ### a table by letters -/
def letT (n : Nat) (f : Nat → D) : List (Ky × D) := (List.range n).map fun i => (Sum.inr [97 + i], f i)
theorem letT_len (n : Nat) (f : Nat → D) : (letT n f).length = n := by simp [letT]
theorem letT_congr {n : Nat} {f g : Nat → D} (h : ∀ i, i < n → f i = g i) : letT n f = letT n g := by
  unfold letT
  exact List.map_congr_left fun i hi => by rw [h i (List.mem_range.mp hi)]
theorem find_letT (f : Nat → D) (i : Nat) : ∀ (l : List Nat), i ∈ l → ((l.map fun i => ((Sum.inr [97 + i] : Ky), f i)).find? fun p => decide (p.1 = Sum.inr [97 + i])) = some (Sum.inr [97 + i], f i)
  | [], h => by cases h
  | x :: l, h => by
    rw [List.map_cons, List.find?_cons]
    by_cases e : x = i
    · subst e; simp
    · have : decide (((Sum.inr [97 + x] : Ky), f x).1 = Sum.inr [97 + i]) = false := by
        rw [decide_eq_false_iff_not]
        intro q
        have := Sum.inr.inj q
        simp at this
        exact e this
      rw [this]
      rcases List.mem_cons.mp h with h | h
      · exact absurd h.symm e
      · exact find_letT f i l h
theorem dget_letT {n i : Nat} {f : Nat → D} (h : i < n) : dget (letT n f) (.inr [97 + i]) = some (f i) := by
  unfold dget letT
  rw [find_letT f i _ (List.mem_range.mpr h)]; rfl
theorem dput_letT {n i : Nat} {f : Nat → D} {v : D} (h : i < n) : dput (letT n f) (.inr [97 + i]) v = letT n fun j => if j = i then v else f j := by
  unfold dput
  have ha : ((letT n f).any fun p => decide (p.1 = .inr [97 + i])) = true := by
    rw [List.any_eq_true]
    exact ⟨(.inr [97 + i], f i), List.mem_map.mpr ⟨i, List.mem_range.mpr h, rfl⟩, by simp⟩
  rw [if_pos ha]
  unfold letT
  rw [List.map_map]
  refine List.map_congr_left fun j hj => ?_
  simp only [Function.comp]
  by_cases e : j = i
  · subst e; simp
  · rw [if_neg (by intro q; have := Sum.inr.inj q; simp at this; exact e this), if_neg e]

/-! ### friends -/
def frT (ps : List (Nat × Nat)) (i : Nat) : Sg := ps.flatMap fun p => if p.1 = i then [97 + p.2] else if p.2 = i then [97 + p.1] else []
def toldD (n : Nat) (ps : List (Nat × Nat)) : D := .dic (letT n fun i => .str (frT ps i))
def fr (ps : List (Nat × Nat)) (a b : Nat) : Bool := ps.any fun p => (97 + p.1 == a && 97 + p.2 == b) || (97 + p.1 == b && 97 + p.2 == a)
theorem fr_symm (ps : List (Nat × Nat)) (a b : Nat) : fr ps a b = fr ps b a := by
  unfold fr
  congr 1
  funext p
  exact Bool.or_comm ..
theorem mem_frT {ps : List (Nat × Nat)} (o : ∀ p ∈ ps, p.1 < p.2) (i b : Nat) : decide (b ∈ frT ps i) = fr ps (97 + i) b := by
  rw [Bool.eq_iff_iff, decide_eq_true_eq]
  unfold frT fr
  rw [List.mem_flatMap, List.any_eq_true]
  constructor
  · rintro ⟨p, hp, h⟩
    refine ⟨p, hp, ?_⟩
    split at h
    · rename_i e; simp at h; subst h; simp [e]
    · split at h
      · rename_i e; simp at h; subst h; simp [e]
      · cases h
  · rintro ⟨p, hp, h⟩
    refine ⟨p, hp, ?_⟩
    have := o p hp
    simp only [Bool.or_eq_true, Bool.and_eq_true, beq_iff_eq] at h
    rcases h with ⟨h1, h2⟩ | ⟨h1, h2⟩
    · rw [if_pos (by omega)]; simp [← h2]
    · rw [if_neg (by omega), if_pos (by omega)]; simp [← h1]
theorem frT_len (ps : List (Nat × Nat)) (i : Nat) : (frT ps i).length ≤ ps.length := by
  induction ps with
  | nil => simp [frT]
  | cons p ps ih =>
    simp only [frT, List.flatMap_cons, List.length_append, List.length_cons] at ih ⊢
    split
    · simp at ih ⊢; omega
    · split <;> simp at ih ⊢ <;> omega
theorem frT_snoc (ps : List (Nat × Nat)) (p : Nat × Nat) (i : Nat) : frT (ps ++ [p]) i = frT ps i ++ (if p.1 = i then [97 + p.2] else if p.2 = i then [97 + p.1] else []) := by
  simp [frT]
def ALPH : D := .str [97, 98, 99, 100, 101, 102, 103]
theorem alph_idx : ∀ i : Nat, i < 7 → idxD ALPH (.int (i : Int)) = some (.str [97 + i]) := by
  intro i h
  match i, h with
  | 0, _ | 1, _ | 2, _ | 3, _ | 4, _ | 5, _ | 6, _ => rfl
variable {F : Nat → Fn}
theorem g2 : GL 2 = some ALPH := rfl
theorem idx_told {n i : Nat} {f : Nat → D} (h : i < n) : idxD (.dic (letT n f)) (.str [97 + i]) = some (f i) := by
  simp only [idxD, kyOf, Option.bind, dget_letT h]
theorem add_str {a b : Sg} (h : a.length + b.length ≤ LIM) : bopD .add (.str a) (.str b) = some (.str (a ++ b)) := by
  simp only [bopD]; rw [if_pos h]
theorem friends_of_all (hF : Lv F) {n : Nat} {ps : List (Nat × Nat)} (C : Comp n ps) (k : Nat) : F (k + 1) 54 [compD n ps] none = some (toldD n ps, none) := by
  rw [go54 hF]
  have hlim : LIM = 4000000 := rfl
  have hn := C.hi
  refine run_of ⟨rfl, rfl⟩ (show W (exs GL (F k) df54.body [.fz (compD n ps), .un, .un, .un, .un]) _ from
    w_nx (ρ1 := [.fz (compD n ps), .own (.dic (letT n fun i => .str (frT [] i))), .un, .un, .un]) ?_
      (w_for (xs := ps.map pairD) (ρ1 := [.fz (compD n ps), .own (.dic (letT n fun i => .str (frT [] i))), .un, .un, .un]) (fun j ρ => ∃ z3 z4, blS z3 = true ∧ blS z4 = true ∧ ρ = [.fz (compD n ps), .own (.dic (letT n fun i => .str (frT (ps.take j) i))), .un, z3, z4]) ?_ ⟨.un, .un, rfl, rfl, by simp⟩ ?_ ?_))
  · have h1 := C.lo
    clear C
    generalize F k = B
    refine seven (P := fun n => ex GL B _ [.fz (compD n ps), .un, .un, .un, .un] = some (.nx, [.fz (compD n ps), .own (.dic (letT n fun i => .str (frT [] i))), .un, .un, .un])) ?_ n h1 hn
    refine ⟨?_, ?_, ?_, ?_, ?_, ?_, ?_⟩ <;> kernel_rfl
  · (simp [run, exs, ex, ev, evs, evi, evo, evo', startE, isBrw, pureE, pureEs, pureO, ioOf, lastIo, setTg, setAll, setPar, wipeE, backE, allocE, isLst, compD, seqD] <;> try with_reducible rfl)
  · rintro j x ρ hx ⟨z3, z4, h3, h4, rfl⟩
    rw [List.getElem?_map, Option.map_eq_some_iff] at hx
    obtain ⟨p, hp, rfl⟩ := hx
    have hm := C.ord p (List.mem_of_getElem? hp)
    have hj : j < ps.length := (List.getElem?_eq_some_iff.mp hp).1
    have ep : ps[j] = p := Option.some.inj ((List.getElem?_eq_getElem hj).symm.trans hp)
    have len := C.len
    have i1 := alph_idx p.1 (by omega)
    have i2 := alph_idx p.2 (by omega)
    have l1 := frT_len (ps.take j) p.1
    have l2 := frT_len (ps.take j) p.2
    rw [List.length_take] at l1 l2
    have b1 : bopD .add (.str (frT (ps.take j) p.1)) (.str [97 + p.2]) = some (.str (frT (ps.take j) p.1 ++ [97 + p.2])) := add_str (by simp; omega)
    have b2 : bopD .add (.str (frT (ps.take j) p.2)) (.str [97 + p.1]) = some (.str (frT (ps.take j) p.2 ++ [97 + p.1])) := add_str (by simp; omega)
    refine ⟨[.fz (compD n ps), .own (.dic (letT n fun i => .str (frT (ps.take j) i))), .un, .fz (.int p.1), .fz (.int p.2)], by (simp [run, exs, ex, ev, evs, evi, evo, evo', startE, isBrw, pureE, pureEs, pureO, ioOf, lastIo, setTg, setAll, setPar, wipeE, backE, allocE, isLst, pairD, setFz_0 _ _ _ (blS_ok h3), setFz_0 _ _ _ (blS_ok h4)] <;> try with_reducible rfl), ?_⟩
    refine w_nx (ρ1 := [.fz (compD n ps), .own (.dic (letT n fun i => if i = p.1 then .str (frT (ps.take j) p.1 ++ [97 + p.2]) else .str (frT (ps.take j) i))), .un, .fz (.int p.1), .fz (.int p.2)])
      (ex_putD' (d := .str (frT (ps.take j) p.1 ++ [97 + p.2])) (y := .str [97 + p.1]) (kvs := letT n fun i => .str (frT (ps.take j) i)) (y' := .inr [97 + p.1]) (ρ1 := [.fz (compD n ps), .own (.dic (letT n fun i => .str (frT (ps.take j) i))), .un, .fz (.int p.1), .fz (.int p.2)])
        (ρ2 := [.fz (compD n ps), .own (.dic (letT n fun i => .str (frT (ps.take j) i))), .un, .fz (.int p.1), .fz (.int p.2)]) ?_ rfl ?_ rfl rfl (by rw [letT_len]; omega) ?_) ?_
    · (simp [run, exs, ex, ev, evs, evi, evo, evo', startE, isBrw, pureE, pureEs, pureO, ioOf, lastIo, setTg, setAll, setPar, wipeE, backE, allocE, isLst, g2, i1, i2, idx_told (f := fun i => .str (frT (ps.take j) i)) (show p.1 < n by omega), b1] <;> try with_reducible rfl)
    · (simp [run, exs, ex, ev, evs, evi, evo, evo', startE, isBrw, pureE, pureEs, pureO, ioOf, lastIo, setTg, setAll, setPar, wipeE, backE, allocE, isLst, g2, i1] <;> try with_reducible rfl)
    · rw [dput_letT (by omega)]; rfl
    have ne : ¬ p.2 = p.1 := by omega
    have t2 : idxD (.dic (letT n fun i => if i = p.1 then .str (frT (ps.take j) p.1 ++ [97 + p.2]) else .str (frT (ps.take j) i))) (.str [97 + p.2]) = some (.str (frT (ps.take j) p.2)) := by
      rw [idx_told (show p.2 < n by omega), if_neg ne]
    refine w_nx (ρ1 := [.fz (compD n ps), .own (.dic (letT n fun i => if i = p.2 then .str (frT (ps.take j) p.2 ++ [97 + p.1]) else if i = p.1 then .str (frT (ps.take j) p.1 ++ [97 + p.2]) else .str (frT (ps.take j) i))), .un, .fz (.int p.1), .fz (.int p.2)])
      (ex_putD' (d := .str (frT (ps.take j) p.2 ++ [97 + p.1])) (y := .str [97 + p.2]) (kvs := letT n fun i => if i = p.1 then .str (frT (ps.take j) p.1 ++ [97 + p.2]) else .str (frT (ps.take j) i)) (y' := .inr [97 + p.2])
        (ρ1 := [.fz (compD n ps), .own (.dic (letT n fun i => if i = p.1 then .str (frT (ps.take j) p.1 ++ [97 + p.2]) else .str (frT (ps.take j) i))), .un, .fz (.int p.1), .fz (.int p.2)])
        (ρ2 := [.fz (compD n ps), .own (.dic (letT n fun i => if i = p.1 then .str (frT (ps.take j) p.1 ++ [97 + p.2]) else .str (frT (ps.take j) i))), .un, .fz (.int p.1), .fz (.int p.2)]) ?_ rfl ?_ rfl rfl (by rw [letT_len]; omega) ?_) ?_
    · (simp [run, exs, ex, ev, evs, evi, evo, evo', startE, isBrw, pureE, pureEs, pureO, ioOf, lastIo, setTg, setAll, setPar, wipeE, backE, allocE, isLst, g2, i1, i2, t2, b2] <;> try with_reducible rfl)
    · (simp [run, exs, ex, ev, evs, evi, evo, evo', startE, isBrw, pureE, pureEs, pureO, ioOf, lastIo, setTg, setAll, setPar, wipeE, backE, allocE, isLst, g2, i2] <;> try with_reducible rfl)
    · rw [dput_letT (by omega)]; rfl
    refine w_end ⟨.inl rfl, .fz (.int p.1), .fz (.int p.2), rfl, rfl, ?_⟩
    congr 1
    refine congrArg (fun t => [Sl.own (D.dic t), Sl.un, Sl.fz (D.int p.1), Sl.fz (D.int p.2)]) (letT_congr fun i _ => ?_)
    rw [List.take_succ_eq_append_getElem hj, ep, frT_snoc]
    by_cases e1 : i = p.1
    · subst e1; simp [Ne.symm ne]
    · by_cases e2 : i = p.2
      · subst e2; simp [Ne.symm ne]
      · simp [e1, e2, Ne.symm e1, Ne.symm e2]
  · rintro ρ' ⟨z3, z4, h3, h4, rfl⟩
    rw [List.length_map, List.take_length]
    exact w_ret (d := toldD n ps) (ρ1 := [.fz (compD n ps), .fz (toldD n ps), .un, z3, z4]) (by (simp [run, exs, ex, ev, evs, evi, evo, evo', startE, isBrw, pureE, pureEs, pureO, ioOf, lastIo, setTg, setAll, setPar, wipeE, backE, allocE, isLst, toldD] <;> try with_reducible rfl)) rfl ⟨.inl rfl, rfl⟩
end Mini
/-! least_order. -/
namespace Mini
variable {F : Nat → Fn}
def sg (c : Nat) : D := .str [c]
theorem bls_map {α : Type} (f : α → Bool) : ∀ l : List α, bls (l.map fun a => D.bl (f a)) = some (l.map f)
  | [] => rfl
  | a :: l => by simp only [List.map_cons, bls, bls_map f l, Option.map]
theorem fmap_some {α : Type} (f : α → D) (l : List α) : l.filterMap (fun a => some (f a)) = l.map f := by
  induction l with
  | nil => rfl
  | cons a l ih => simp only [List.filterMap_cons, List.map_cons, ih]
theorem all_map {α : Type} (f : α → Bool) (l : List α) : fnD .all [.lst (l.filterMap fun a => some (D.bl (f a)))] = some (.bl (l.all f)) := by
  rw [fmap_some, show fnD .all [.lst (l.map fun a => D.bl (f a))] = (bls (l.map fun a => D.bl (f a))).map fun b => D.bl (b.all id) from rfl, bls_map]
  simp [Function.comp_def]
theorem any_map {α : Type} (f : α → Bool) (l : List α) : fnD .any [.lst (l.filterMap fun a => some (D.bl (f a)))] = some (.bl (l.any f)) := by
  rw [fmap_some, show fnD .any [.lst (l.map fun a => D.bl (f a))] = (bls (l.map fun a => D.bl (f a))).map fun b => D.bl (b.any id) from rfl, bls_map]
  simp [Function.comp_def]
/-- the place of a sign, and what stands ahead of it -/
theorem place_take (c : Nat) : ∀ w : Sg, c ∈ w → ∃ p, placeOf c w = some p ∧ p ≤ w.length ∧ w.take p = w.takeWhile (· ≠ c)
  | [], h => by cases h
  | x :: w, h => by
    by_cases e : x = c
    · subst e
      exact ⟨0, by simp [placeOf], Nat.zero_le _, by simp⟩
    · obtain ⟨p, h1, h2, h3⟩ := place_take c w (by
        rcases List.mem_cons.mp h with q | q
        · exact absurd q.symm e
        · exact q)
      refine ⟨p + 1, by simp [placeOf, e, h1], by simp; omega, ?_⟩
      rw [List.take_succ_cons, h3, List.takeWhile_cons_of_pos (by simpa using e)]
theorem cut_to' {α : Type} (xs : List α) {i : Nat} (h : i ≤ xs.length) : cutL xs none (some (i : Int)) = xs.take i := by
  unfold cutL
  rw [HT.sIx_nat, HT.sIx_none, Nat.min_eq_left h]; simp
/-- letters of a company of n -/
def Let (n : Nat) (w : Sg) : Prop := ∀ c ∈ w, 97 ≤ c ∧ c < 97 + n
theorem told_get {n : Nat} {ps : List (Nat × Nat)} {c : Nat} (h1 : 97 ≤ c) (h2 : c < 97 + n) : idxD (toldD n ps) (.str [c]) = some (.str (frT ps (c - 97))) := by
  have := idx_told (f := fun i => .str (frT ps i)) (show c - 97 < n by omega)
  rwa [show 97 + (c - 97) = c by omega] at this
theorem notin_told {ps : List (Nat × Nat)} (o : ∀ p ∈ ps, p.1 < p.2) {c b : Nat} (h1 : 97 ≤ c) : cmpD .notin (.str [b]) (.str (frT ps (c - 97))) = some (.bl (!fr ps c b)) := by
  have := mem_frT o (c - 97) b
  rw [show 97 + (c - 97) = c by omega] at this
  show some (D.bl (!decide (b ∈ frT ps (c - 97)))) = _
  rw [this]
theorem in_told {ps : List (Nat × Nat)} (o : ∀ p ∈ ps, p.1 < p.2) {c b : Nat} (h1 : 97 ≤ c) : cmpD .isin (.str [b]) (.str (frT ps (c - 97))) = some (.bl (fr ps c b)) := by
  have := mem_frT o (c - 97) b
  rw [show 97 + (c - 97) = c by omega] at this
  show some (D.bl (decide (b ∈ frT ps (c - 97)))) = _
  rw [this]
theorem ne_str (a b : Sg) : cmpD .ne (.str a) (.str b) = some (.bl (!decide (a = b))) := rfl
theorem eq_str (a b : Sg) : cmpD .eq (.str a) (.str b) = some (.bl (decide (a = b))) := rfl
theorem sort_str {w : Sg} (h : w.length < 64) : fnD .sorted [.str w] = some (.lst ((sortN w).map sg)) := by
  show (if w.length < 64 then some (D.lst ((sortN w).map fun c => .str [c])) else none) = _
  rw [if_pos h]; rfl
theorem rep_str {w : Sg} {c : Nat} (h : w.length < 64) : repD (.str w) (.str [c]) = some (.str (w.filter (· ≠ c))) := by
  show (if w.length ≤ LIM then some (D.str (w.filter (· ≠ c))) else none) = _
  rw [if_pos (by have : LIM = 4000000 := rfl; omega)]
theorem index_str {w : Sg} {c p : Nat} (h : placeOf c w = some p) : mtD .index (.str w) [.str [c]] = some (.int (p : Nat)) := by
  show (placeOf c w).map _ = _
  rw [h]; rfl
theorem slc_str {w : Sg} {p : Nat} (hw : w.length < 64) (h : p ≤ w.length) : slcD (.str w) none (some (p : Int)) = some (.str (w.take p)) := by
  show (if w.length ≤ LIM then some (D.str (cutL w none (some (p : Int)))) else none) = _
  rw [if_pos (by have : LIM = 4000000 := rfl; omega), cut_to' w h]
theorem seq_str (w : Sg) : seqD (.str w) = some (w.map sg) := rfl
theorem not_pick {r : Nat → Nat → Bool} {w : Sg} {j c : Nat} (hj : (sortN w)[j]? = some c) (hn : ∀ i x, i < j → (sortN w)[i]? = some x → ((w.takeWhile (· ≠ x)).all fun o => !r x o) = false) (h : ((w.takeWhile (· ≠ c)).all fun o => !r c o) = true) : pick r w = some c := by
  unfold pick
  obtain ⟨hl, he⟩ := List.getElem?_eq_some_iff.mp hj
  rw [List.find?_eq_some_iff_getElem]
  refine ⟨h, j, hl, he, fun i hi => ?_⟩
  have hl' : i < (sortN w).length := by omega
  rw [hn i _ hi (List.getElem?_eq_getElem hl')]; rfl
theorem least_order (hF : Lv F) {n : Nat} {ps : List (Nat × Nat)} (C : Comp n ps) {w0 : Sg} (hl0 : w0.length < 64) (hw0 : Let n w0) (k : Nat) : F (k + 1) 55 [toldD n ps, .str w0] none = some (.str (lo (fr ps) w0), none) := by
  rw [go55 hF]
  have ord : ∀ p ∈ ps, p.1 < p.2 := fun p hp => (C.ord p hp).1
  have hlim : LIM = 4000000 := rfl
  refine run_of ⟨rfl, rfl⟩ (show W (exs GL (F k) df55.body [.fz (toldD n ps), .fz (.str w0), .un, .un, .un, .un, .un]) _ from
    w_nx (ρ1 := [.fz (toldD n ps), .fz (.str w0), .fz (.str w0), .fz (.str []), .un, .un, .un]) (by (simp [run, exs, ex, ev, evs, evi, evo, evo', startE, isBrw, pureE, pureEs, pureO, ioOf, lastIo, setTg, setAll, setPar, wipeE, backE, allocE, isLst] <;> try with_reducible rfl)) (w_while (fun m ρ => ∃ w f a b, blS a = true ∧ blS b = true ∧ w.length = m ∧ m < 64 ∧ f.length + m ≤ 64 ∧ Let n w ∧ f ++ lo (fr ps) w = lo (fr ps) w0 ∧ ρ = [.fz (toldD n ps), .fz (.str w0), .fz (.str w), .fz (.str f), a, b, .un]) w0.length (by show w0.length < 1000000; omega) ⟨w0, [], .un, .un, rfl, rfl, rfl, hl0, by simp; omega, hw0, rfl, rfl⟩ ?_))
  rintro m ρ ⟨w, f, a, b, ha, hb, rfl, hm, hf, hw, e, rfl⟩
  by_cases hn : w = []
  · subst hn
    rw [lo_nil, List.append_nil] at e
    refine .inl ⟨[.fz (toldD n ps), .fz (.str w0), .fz (.str []), .fz (.str f), a, b, .un], by (simp [run, exs, ex, ev, evs, evi, evo, evo', startE, isBrw, pureE, pureEs, pureO, ioOf, lastIo, setTg, setAll, setPar, wipeE, backE, allocE, isLst, ne_str] <;> try with_reducible rfl), ?_⟩
    exact w_ret (d := .str f) (ρ1 := [.fz (toldD n ps), .fz (.str w0), .fz (.str []), .fz (.str f), a, b, .un]) (by (simp [run, exs, ex, ev, evs, evi, evo, evo', startE, isBrw, pureE, pureEs, pureO, ioOf, lastIo, setTg, setAll, setPar, wipeE, backE, allocE, isLst] <;> try with_reducible rfl)) rfl ⟨.inl (by rw [e]), rfl⟩
  refine .inr ⟨[.fz (toldD n ps), .fz (.str w0), .fz (.str w), .fz (.str f), a, b, .un], by (simp [run, exs, ex, ev, evs, evi, evo, evo', startE, isBrw, pureE, pureEs, pureO, ioOf, lastIo, setTg, setAll, setPar, wipeE, backE, allocE, isLst, ne_str, hn] <;> try with_reducible rfl), ?_⟩
  obtain ⟨c0, hc0⟩ := pick_some (r := fr ps) hn
  refine w_forB (xs := (sortN w).map sg) (ρ1 := [.fz (toldD n ps), .fz (.str w0), .fz (.str w), .fz (.str f), a, b, .un]) (fun j ρ => (∃ a b, blS a = true ∧ blS b = true ∧ ρ = [.fz (toldD n ps), .fz (.str w0), .fz (.str w), .fz (.str f), a, b, .un]) ∧ ∀ i x, i < j → (sortN w)[i]? = some x → ((w.takeWhile (· ≠ x)).all fun o => !fr ps x o) = false) ?_ ⟨⟨a, b, ha, hb, rfl⟩, fun i x h => by omega⟩ ?_ ?_
  · (simp [run, exs, ex, ev, evs, evi, evo, evo', startE, isBrw, pureE, pureEs, pureO, ioOf, lastIo, setTg, setAll, setPar, wipeE, backE, allocE, isLst, sort_str hm, seqD] <;> try with_reducible rfl)
  · rintro j x ρ hx ⟨⟨a, b, ha, hb, rfl⟩, hj⟩
    rw [List.getElem?_map, Option.map_eq_some_iff] at hx
    obtain ⟨c, hc, rfl⟩ := hx
    have hcw : c ∈ w := (mem_sortN c w).mp (List.mem_of_getElem? hc)
    obtain ⟨h1, h2⟩ := hw c hcw
    obtain ⟨p, p1, p2, p3⟩ := place_take c w hcw
    have tl : (w.take p).length ≤ LIM := by rw [List.length_take]; omega
    refine ⟨[.fz (toldD n ps), .fz (.str w0), .fz (.str w), .fz (.str f), .fz (sg c), b, .un], by (simp [run, exs, ex, ev, evs, evi, evo, evo', startE, isBrw, pureE, pureEs, pureO, ioOf, lastIo, setTg, setAll, setPar, wipeE, backE, allocE, isLst, setFz_0 _ _ _ (blS_ok ha)] <;> try with_reducible rfl), w_nx (ρ1 := [.fz (toldD n ps), .fz (.str w0), .fz (.str w), .fz (.str f), .fz (sg c), .fz (.str (w.take p)), .un]) ?_ ?_⟩
    · (simp [run, exs, ex, ev, evs, evi, evo, evo', startE, isBrw, pureE, pureEs, pureO, ioOf, lastIo, setTg, setAll, setPar, wipeE, backE, allocE, isLst, sg, index_str p1, slc_str hm p2, setFz_0 _ _ _ (blS_ok hb)] <;> try with_reducible rfl)
    have ec : ev GL (F k) (.fn .all (.cons (.comp [6] (.cmp .notin (.var 6) (.idx (.var 0) (.var 4))) [6] (.seq (.var 5)) .none) .nil)) [.fz (toldD n ps), .fz (.str w0), .fz (.str w), .fz (.str f), .fz (sg c), .fz (.str (w.take p)), .un] = some (.bl ((w.takeWhile (· ≠ c)).all fun o => !fr ps c o), [.fz (toldD n ps), .fz (.str w0), .fz (.str w), .fz (.str f), .fz (sg c), .fz (.str (w.take p)), .un]) := by
      rw [← p3]
      refine ev_fn1' (x := .lst ((w.take p).filterMap fun o => some (D.bl (!fr ps c o)))) (ev_comp' (w.take p) sg (fun o => some (.bl (!fr ps c o))) ?_ ?_ tl fun o _ => ?_) (all_map _ _)
      · (simp [run, exs, ex, ev, evs, evi, evo, evo', startE, isBrw, pureE, pureEs, pureO, ioOf, lastIo, setTg, setAll, setPar, wipeE, backE, allocE, isLst, seq_str] <;> try with_reducible rfl)
      · simp
      · (simp [run, exs, ex, ev, evs, evi, evo, evo', startE, isBrw, pureE, pureEs, pureO, ioOf, lastIo, setTg, setAll, setPar, wipeE, backE, allocE, isLst, lcT, sg, told_get h1 h2, notin_told ord h1] <;> try with_reducible rfl)
    refine w_if ec ?_
    by_cases g : ((w.takeWhile (· ≠ c)).all fun o => !fr ps c o) = true
    · have hp := not_pick hc hj g
      have fl := filter_lt hcw
      have ea : bopD .add (.str f) (.str [c]) = some (.str (f ++ [c])) := add_str (by simp; omega)
      rw [g]
      refine w_nx (ρ1 := [.fz (toldD n ps), .fz (.str w0), .fz (.str (w.filter (· ≠ c))), .fz (.str (f ++ [c])), .fz (sg c), .fz (.str (w.take p)), .un]) ?_ (w_stop (f := .brk) (ρ1 := [.fz (toldD n ps), .fz (.str w0), .fz (.str (w.filter (· ≠ c))), .fz (.str (f ++ [c])), .fz (sg c), .fz (.str (w.take p)), .un]) (by (simp [run, exs, ex, ev, evs, evi, evo, evo', startE, isBrw, pureE, pureEs, pureO, ioOf, lastIo, setTg, setAll, setPar, wipeE, backE, allocE, isLst] <;> try with_reducible rfl)) (by simp) (.inr ⟨by simp, .inr (.inl ⟨rfl, w_end (.inl ⟨.inl rfl, (w.filter (· ≠ c)).length, fl, _, _, _, _, rfl, rfl, rfl, by omega, by rw [List.length_append]; show f.length + 1 + _ ≤ 64; omega, fun x hx => hw x (List.mem_filter.mp hx).1, ?_, rfl⟩)⟩)⟩))
      · (simp [run, exs, ex, ev, evs, evi, evo, evo', startE, isBrw, pureE, pureEs, pureO, ioOf, lastIo, setTg, setAll, setPar, wipeE, backE, allocE, isLst, sg, ea, rep_str hm] <;> try with_reducible rfl)
      · rw [← e, lo_cons hp]; simp
    · have g : ((w.takeWhile (· ≠ c)).all fun o => !fr ps c o) = false := by simpa using g
      rw [g]
      refine w_end (.inl ⟨rfl, w_end (.inl ⟨.inl rfl, ⟨.fz (sg c), .fz (.str (w.take p)), rfl, rfl, rfl⟩, fun i x hi hx => ?_⟩)⟩)
      rcases Nat.lt_or_ge i j with h | h
      · exact hj i x h hx
      · have : i = j := by omega
        subst this
        rw [hc] at hx; cases hx
        exact g
  · rintro ρ' ⟨_, hj⟩
    exfalso
    have hm0 := List.mem_of_find?_eq_some hc0
    have hk0 := List.find?_some hc0
    obtain ⟨i, hi, he⟩ := List.mem_iff_getElem.mp hm0
    have := hj i c0 (by rw [List.length_map]; exact hi) (by rw [List.getElem?_eq_getElem hi, he])
    rw [this] at hk0
    cases hk0
end Mini
/-! Sets, kinds. -/
namespace Mini
variable {F : Nat → Fn}
theorem strs_sg : ∀ w : Sg, strsD (w.map sg) = some (w.map fun c => [c])
  | [] => rfl
  | c :: w => by simp only [List.map_cons, sg, strsD]; rw [show strsD (w.map sg) = _ from strs_sg w]; rfl
theorem joinS_sg : ∀ w : Sg, joinS [] (w.map fun c => [c]) = w
  | [] => rfl
  | [c] => rfl
  | c :: d :: w => by
    have := joinS_sg (d :: w)
    simp only [List.map_cons, joinS] at this ⊢
    rw [this]; rfl
theorem sum_sg : ∀ w : Sg, ((w.map fun c => [c]).map List.length).sum = w.length
  | [] => rfl
  | c :: w => by
    have := sum_sg w
    simp only [List.map_cons, List.sum_cons, List.length_cons, List.length_nil] at this ⊢
    omega
theorem join_sgs {w : Sg} (h : w.length < 1000) : mtD .join (.str []) [.lst (w.map sg)] = some (.str w) := by
  show ((strsD (w.map sg)).bind fun xs => if (xs.map List.length).sum + xs.length * ([] : Sg).length ≤ LIM then some (D.str (joinS [] xs)) else none) = _
  rw [strs_sg]
  have e := sum_sg w
  show (if ((w.map fun c => [c]).map List.length).sum + (w.map fun c => [c]).length * 0 ≤ LIM then some (D.str (joinS [] (w.map fun c => [c]))) else none) = _
  rw [e, joinS_sg, if_pos (by have : LIM = 4000000 := rfl; omega)]
theorem firstL_eq : ∀ n, 1 ≤ n → n ≤ 7 → firstL n = (List.range n).map (97 + ·) := seven (by decide +kernel)
theorem mem_firstL {n c : Nat} (h1 : 1 ≤ n) (h2 : n ≤ 7) : c ∈ firstL n ↔ 97 ≤ c ∧ c < 97 + n := by
  rw [firstL_eq n h1 h2, List.mem_map]
  constructor
  · rintro ⟨i, hi, rfl⟩; rw [List.mem_range] at hi; omega
  · intro h; exact ⟨c - 97, List.mem_range.mpr (by omega), by omega⟩
theorem slc_alph : ∀ n : Nat, 1 ≤ n → n ≤ 7 → slcD ALPH none (some (n : Int)) = some (.str (firstL n)) := seven (by refine ⟨?_, ?_, ?_, ?_, ?_, ?_, ?_⟩ <;> rfl)
theorem in_str (c : Nat) (z : Sg) : cmpD .isin (.str [c]) (.str z) = some (.bl (decide (c ∈ z))) := rfl
theorem len_str {w : Sg} (h : w.length < 1000) : fnD .len [.str w] = some (.int w.length) := by
  show (if w.length ≤ LIM then some (D.int w.length) else none) = _
  rw [if_pos (by have : LIM = 4000000 := rfl; omega)]
theorem idx_str {w : Sg} {j : Nat} {c : Nat} (hw : w.length < 1000) (h : w[j]? = some c) : idxD (.str w) (.int (j : Int)) = some (.str [c]) := by
  obtain ⟨hl, _⟩ := List.getElem?_eq_some_iff.mp h
  show (if w.length ≤ LIM then (ixL w (j : Int)).map fun c => D.str [c] else none) = _
  rw [if_pos (by have : LIM = 4000000 := rfl; omega)]
  have e : L2.ixN w.length (j : Int) = some j := by
    unfold L2.ixN
    rw [if_pos (by omega)]; simp; exact hl
  simp only [ixL, e, Option.bind, h]; rfl
theorem lt_sg (a b : Nat) : cmpD .lt (.str [a]) (.str [b]) = some (.bl (decide (a < b))) := by
  show some (D.bl (decide ([a] < [b]))) = _
  congr 2
  rw [Bool.eq_iff_iff, decide_eq_true_eq, decide_eq_true_eq]
  constructor
  · intro h
    rcases List.cons_lt_cons_iff.mp h with h | h
    · exact h
    · exact absurd h.2 (List.lt_irrefl _)
  · intro h; exact List.cons_lt_cons_iff.mpr (.inl h)
/-- a set: letters that rise -/
structure LSet (n : Nat) (w : Sg) : Prop where
  ok : Let n w
  up : w.Pairwise (· < ·)
  len : w.length ≤ n
theorem is_set (hF : Lv F) {n : Nat} {ps : List (Nat × Nat)} (C : Comp n ps) {w : Sg} (hw : LSet n w) (k : Nat) : F (k + 1) 52 [compD n ps, .str w] none = some (.bl true, none) := by
  rw [go52 hF]
  have hn := C.hi
  have h1 := C.lo
  have hl := hw.len
  have lw : w.length < 1000 := by omega
  have c1 : ¬ ((n : Int) < (w.length : Int)) := by omega
  have hlim : LIM = 4000000 := rfl
  refine run_of ⟨rfl, rfl⟩ (show W (exs GL (F k) df52.body [.fz (compD n ps), .fz (.str w), .un, .un]) _ from
    w_skip (ρ1 := [.fz (compD n ps), .fz (.str w), .un, .un]) ?_ (w_skip (ρ1 := [.fz (compD n ps), .fz (.str w), .un, .un]) ?_ (w_ret (d := .bl true) (ρ1 := [.fz (compD n ps), .fz (.str w), .un, .un]) ?_ rfl ⟨.inl rfl, rfl⟩)))
  · (simp [run, exs, ex, ev, evs, evi, evo, evo', startE, isBrw, pureE, pureEs, pureO, ioOf, lastIo, setTg, setAll, setPar, wipeE, backE, allocE, isLst, isiD, compD, len_str lw, cmpD, c1] <;> try with_reducible rfl)
  · have hall : (w.all fun c => decide (c ∈ firstL n)) = true := by
      rw [List.all_eq_true]
      intro c hc
      rw [decide_eq_true_eq, mem_firstL h1 hn]
      exact hw.ok c hc
    have e := ev_fn1' (G := GL) (Φ := F k) (ρ := [.fz (compD n ps), .fz (.str w), .un, .un]) (b := .all) (a := .comp [2] (.cmp .isin (.var 2) (.slc (.glob 2) .none (.some (.idx (.var 0) (.int 0))))) [2] (.seq (.var 1)) .none)
      (ev_comp' w sg (fun c => some (.bl (decide (c ∈ firstL n)))) (by (simp [run, exs, ex, ev, evs, evi, evo, evo', startE, isBrw, pureE, pureEs, pureO, ioOf, lastIo, setTg, setAll, setPar, wipeE, backE, allocE, isLst, seq_str] <;> try with_reducible rfl)) (by simp) (by omega) fun c _ => by (simp [run, exs, ex, ev, evs, evi, evo, evo', startE, isBrw, pureE, pureEs, pureO, ioOf, lastIo, setTg, setAll, setPar, wipeE, backE, allocE, isLst, lcT, sg, compD, g2, slc_alph n h1 hn, in_str] <;> try with_reducible rfl)) (all_map _ _)
    rw [hall] at e
    exact ev_not' e
  · have hm : (((w.length : Int) - 1) - 0).toNat = w.length - 1 := by omega
    have hall : ((List.range (w.length - 1)).all fun j => decide (w.getD j 0 < w.getD (j + 1) 0)) = true := by
      rw [List.all_eq_true]
      intro j hj
      rw [List.mem_range] at hj
      rw [decide_eq_true_eq, List.getD_eq_getElem?_getD, List.getD_eq_getElem?_getD, List.getElem?_eq_getElem (by omega), List.getElem?_eq_getElem (by omega)]
      exact List.pairwise_iff_getElem.mp hw.up j (j + 1) (by omega) (by omega) (Nat.lt_succ_self _)
    have e := ev_fn1' (G := GL) (Φ := F k) (ρ := [.fz (compD n ps), .fz (.str w), .un, .un]) (b := .all) (a := .comp [3] (.cmp .lt (.idx (.var 1) (.var 3)) (.idx (.var 1) (.bin .add (.var 3) (.int 1)))) [3] (.range1 (.bin .sub (.fn .len (.cons (.var 1) .nil)) (.int 1))) .none)
      (ev_compR' (a := 0) (b := (w.length : Int) - 1) (w.length - 1) (fun j => some (.bl (decide (w.getD j 0 < w.getD (j + 1) 0)))) (by
        have b1 : (-1000000 : Int) ≤ (w.length : Int) - 1 := by omega
        have b2 : (w.length : Int) - 1 ≤ 1000000 := by omega
        (simp [run, exs, ex, ev, evs, evi, evo, evo', startE, isBrw, pureE, pureEs, pureO, ioOf, lastIo, setTg, setAll, setPar, wipeE, backE, allocE, isLst, len_str lw, bopD, b1, b2] <;> try with_reducible rfl)) hm (by simp) (by omega) fun j hj => by
        have i1 := idx_str (j := j) lw (List.getElem?_eq_getElem (show j < w.length by omega))
        have i2 := idx_str (j := j + 1) lw (List.getElem?_eq_getElem (show j + 1 < w.length by omega))
        have q1 : w.getD j 0 = w[j]'(by omega) := by rw [List.getD_eq_getElem?_getD, List.getElem?_eq_getElem (by omega)]; rfl
        have q2 : w.getD (j + 1) 0 = w[j + 1]'(by omega) := by rw [List.getD_eq_getElem?_getD, List.getElem?_eq_getElem (by omega)]; rfl
        rw [q1, q2]
        have i3 : idxD (.str w) (.int ((j : Int) + 1)) = some (.str [w[j + 1]'(by omega)]) := i2
        (simp [run, exs, ex, ev, evs, evi, evo, evo', startE, isBrw, pureE, pureEs, pureO, ioOf, lastIo, setTg, setAll, setPar, wipeE, backE, allocE, isLst, lcT, i1, i3, bopD, lt_sg] <;> try with_reducible rfl)) (all_map _ _)
    rw [hall] at e
    exact e
/-- a kind: letters, each once, in the least order -/
structure Kind (n : Nat) (ps : List (Nat × Nat)) (w : Sg) : Prop where
  ok : Let n w
  nd : w.Nodup
  lo : lo (fr ps) w = w
theorem nodup_len : ∀ (n : Nat) (w : Sg), Let n w → w.Nodup → w.length ≤ n
  | 0, [], _, _ => Nat.le_refl _
  | 0, c :: w, h, _ => by have := h c (List.mem_cons_self ..); omega
  | n + 1, w, h, nd => by
    have h1 := nodup_len n (w.filter (· ≠ 97 + n)) (fun c hc => by
      rw [List.mem_filter] at hc
      have := h c hc.1
      have h2 : c ≠ 97 + n := by simpa using hc.2
      omega) (nd.filter _)
    have h2 : w.length ≤ (w.filter (· ≠ 97 + n)).length + 1 := by
      clear h1 h
      induction w with
      | nil => simp
      | cons a w ih =>
        rw [List.nodup_cons] at nd
        by_cases e : a = 97 + n
        · have : w.filter (fun x => decide (x ≠ 97 + n)) = w := by
            rw [List.filter_eq_self]
            intro x hx
            have : x ≠ 97 + n := fun q => nd.1 (by rw [e, ← q]; exact hx)
            simpa using this
          rw [List.filter_cons_of_neg (by simpa using e), this]; simp
        · rw [List.filter_cons_of_pos (by simpa using e), List.length_cons, List.length_cons]
          have := ih nd.2
          omega
    omega
theorem sortN_up : ∀ w : Sg, w.Nodup → (sortN w).Pairwise (· < ·) := by
  intro w nd
  have h1 := sortN_sorted' w
  have h2 : (sortN w).Nodup := (sortN_perm' w).nodup_iff.mpr nd
  exact (h1.and h2).imp fun ⟨a, b⟩ => Nat.lt_of_le_of_ne a b
theorem sorted_set {n : Nat} {w : Sg} (hw : Let n w) (nd : w.Nodup) : LSet n (sortN w) :=
  ⟨fun c hc => hw c ((mem_sortN c w).mp hc), sortN_up w nd, by rw [(sortN_perm' w).length_eq]; exact nodup_len n w hw nd⟩
theorem is_kind (hF : Lv F) {n : Nat} {ps : List (Nat × Nat)} (C : Comp n ps) {w : Sg} (hw : Kind n ps w) (k : Nat) : F (k + 2) 57 [compD n ps, .str w] none = some (.bl true, none) := by
  rw [go57 hF]
  have hn := C.hi
  have hl := nodup_len n w hw.ok hw.nd
  have lw : w.length < 1000 := by omega
  have lw2 : w.length < 64 := by omega
  have c1 : ¬ ((n : Int) < (w.length : Int)) := by omega
  have s1 := is_set hF C (sorted_set hw.ok hw.nd) k
  have jn := join_sgs (w := sortN w) (by rw [(sortN_perm' w).length_eq]; omega)
  have t1 := friends_of_all hF C k
  have l1 := least_order hF C lw2 hw.ok k
  rw [hw.lo] at l1
  have c2 : cmpD .gt (.int (w.length : Int)) (.int (n : Int)) = some (.bl false) := by simp [cmpD, c1]
  have i0 : idxD (compD n ps) (.int 0) = some (.int n) := rfl
  refine run_of ⟨rfl, rfl⟩ (show W (exs GL (F (k + 1)) df57.body [.fz (compD n ps), .fz (.str w)]) _ from
    w_skip (ρ1 := [.fz (compD n ps), .fz (.str w)]) ?_ (w_ret (d := .bl true) (ρ1 := [.fz (compD n ps), .fz (.str w)]) ?_ rfl ⟨.inl rfl, rfl⟩))
  · (simp [run, exs, ex, ev, evs, evi, evo, evo', startE, isBrw, pureE, pureEs, pureO, ioOf, lastIo, setTg, setAll, setPar, wipeE, backE, allocE, isLst, isiD, i0, len_str lw, c2, sort_str lw2, jn, s1] <;> try with_reducible rfl)
  · (simp [run, exs, ex, ev, evs, evi, evo, evo', startE, isBrw, pureE, pureEs, pureO, ioOf, lastIo, setTg, setAll, setPar, wipeE, backE, allocE, isLst, t1, l1, eq_str] <;> try with_reducible rfl)
theorem need_kind (hF : Lv F) {n : Nat} {ps : List (Nat × Nat)} (C : Comp n ps) {w : Sg} (hw : Kind n ps w) (k : Nat) : F (k + 3) 58 [compD n ps, .str w] none = some (.non, none) := by
  rw [go58 hF]
  have s1 := is_kind hF C hw k
  refine run_of ⟨rfl, rfl⟩ (show W (exs GL (F (k + 2)) df58.body [.fz (compD n ps), .fz (.str w)]) _ from
    w_skip (ρ1 := [.fz (compD n ps), .fz (.str w)]) (by (simp [run, exs, ex, ev, evs, evi, evo, evo', startE, isBrw, pureE, pureEs, pureO, ioOf, lastIo, setTg, setAll, setPar, wipeE, backE, allocE, isLst, s1] <;> try with_reducible rfl)) (w_end ⟨.inr ⟨rfl, rfl⟩, rfl⟩))
theorem need_whole (hF : Lv F) {n : Nat} {ps : List (Nat × Nat)} (C : Comp n ps) {w : Sg} (hw : Kind n ps w) (hl : w.length = n) (k : Nat) : F (k + 4) 59 [compD n ps, .str w] none = some (.non, none) := by
  rw [go59 hF]
  have hn := C.hi
  have s1 := need_kind hF C hw k
  have s2 := need_company hF C k
  have c2 : cmpD .lt (.int (w.length : Int)) (.int (n : Int)) = some (.bl false) := by simp [cmpD, hl]
  have i0 : idxD (compD n ps) (.int 0) = some (.int n) := rfl
  refine run_of ⟨rfl, rfl⟩ (show W (exs GL (F (k + 3)) df59.body [.fz (compD n ps), .fz (.str w)]) _ from
    w_nx (ρ1 := [.fz (compD n ps), .fz (.str w)]) (by (simp [run, exs, ex, ev, evs, evi, evo, evo', startE, isBrw, pureE, pureEs, pureO, ioOf, lastIo, setTg, setAll, setPar, wipeE, backE, allocE, isLst, s2] <;> try with_reducible rfl)) (w_nx (ρ1 := [.fz (compD n ps), .fz (.str w)]) (by (simp [run, exs, ex, ev, evs, evi, evo, evo', startE, isBrw, pureE, pureEs, pureO, ioOf, lastIo, setTg, setAll, setPar, wipeE, backE, allocE, isLst, s1] <;> try with_reducible rfl)) (w_skip (ρ1 := [.fz (compD n ps), .fz (.str w)]) (by (simp [run, exs, ex, ev, evs, evi, evo, evo', startE, isBrw, pureE, pureEs, pureO, ioOf, lastIo, setTg, setAll, setPar, wipeE, backE, allocE, isLst, i0, len_str (w := w) (by omega), c2] <;> try with_reducible rfl)) (w_end ⟨.inr ⟨rfl, rfl⟩, rfl⟩))))
end Mini
/-! The law's helpers: pairs, friends, first letters. -/
namespace Mini
open PySem
variable {F : Nat → Fn}
/-! ### a pair among pairs -/
def pairP (p : Nat × Nat) : PyData := .tuple [.int p.1, .int p.2]
theorem pd_pair (p : Nat × Nat) : pd (pairD p) = some (pairP p) := rfl
theorem pds_pairs : ∀ ps : List (Nat × Nat), pds (ps.map pairD) = some (ps.map pairP)
  | [] => rfl
  | p :: ps => by simp only [List.map_cons, pds, pd_pair, pds_pairs ps]
theorem can_pairs : ∀ ps : List (Nat × Nat), PyData.canLayAll0 (ps.map pairP) = true
  | [] => rfl
  | p :: ps => by simp [PyData.canLayAll0, PyData.canLay0, pairP, can_pairs ps]
theorem dep_pairs : ∀ ps : List (Nat × Nat), PyData.depthAll (ps.map pairP) ≤ 1
  | [] => by simp [PyData.depthAll]
  | p :: ps => by
    have := dep_pairs ps
    simp [PyData.depthAll, PyData.depth, pairP] at this ⊢
    omega
theorem shaped_pair (p : Nat × Nat) : SeqAt.shaped (pairP p) = true := by
  unfold SeqAt.shaped
  simp [PyData.canLay0, PyData.canLayAll0, pairP, PyData.depth, PyData.depthAll]
theorem shaped_pairs (ps : List (Nat × Nat)) : SeqAt.shaped (.list (ps.map pairP)) = true := by
  unfold SeqAt.shaped
  have := dep_pairs ps
  simp [PyData.canLay0, can_pairs ps, PyData.depth]
  omega
theorem eqv_pair (p q : Nat × Nat) : PyData.eqv (pairP p) (pairP q) = decide (p = q) := by
  simp only [pairP, PyData.eqv, PyData.eqvAll, Bool.and_true]
  rw [Bool.eq_iff_iff, Bool.and_eq_true, decide_eq_true_eq]
  simp only [beq_iff_eq, decide_eq_true_eq, Prod.ext_iff]
  omega
theorem in_pairs (p : Nat × Nat) (ps : List (Nat × Nat)) : inD (pairD p) (ps.map pairD) = some (decide (p ∈ ps)) := by
  unfold inD
  have hf : ¬ (flatD (pairD p) = true ∧ (ps.map pairD).all flatD = true) := fun h => by cases h.1
  rw [if_neg hf, pd_pair, pds_pairs]
  simp only
  rw [if_pos ⟨shaped_pair p, shaped_pairs ps⟩, List.any_map]
  congr 1
  rw [Bool.eq_iff_iff, List.any_eq_true, decide_eq_true_eq]
  simp only [Function.comp, eqv_pair, decide_eq_true_eq]
  constructor
  · rintro ⟨x, hx, rfl⟩; exact hx
  · intro h; exact ⟨p, h, rfl⟩
/-! ### friends -/
theorem lt_sgs (a b : Nat) : ([a] < [b]) ↔ a < b := by
  constructor
  · intro h
    rcases List.cons_lt_cons_iff.mp h with h | h
    · exact h
    · exact absurd h.2 (List.lt_irrefl _)
  · intro h; exact List.cons_lt_cons_iff.mpr (.inl h)
theorem min_sg (a b : Nat) : fnD .min [.str [a], .str [b]] = some (.str [min a b]) := by
  show some (D.str (if [b] < [a] then [b] else [a])) = _
  by_cases h : b < a
  · rw [if_pos ((lt_sgs b a).mpr h), Nat.min_eq_right (by omega)]
  · rw [if_neg (fun q => h ((lt_sgs b a).mp q)), Nat.min_eq_left (by omega)]
theorem max_sg (a b : Nat) : fnD .max [.str [a], .str [b]] = some (.str [max a b]) := by
  show some (D.str (if [a] < [b] then [b] else [a])) = _
  by_cases h : a < b
  · rw [if_pos ((lt_sgs a b).mpr h), Nat.max_eq_right (by omega)]
  · rw [if_neg (fun q => h ((lt_sgs a b).mp q)), Nat.max_eq_left (by omega)]
theorem index_alph : ∀ i : Nat, i < 7 → mtD .index ALPH [.str [97 + i]] = some (.int (i : Int)) := by
  intro i h
  match i, h with
  | 0, _ | 1, _ | 2, _ | 3, _ | 4, _ | 5, _ | 6, _ => rfl
theorem index_alph' {c : Nat} (h1 : 97 ≤ c) (h2 : c < 104) : mtD .index ALPH [.str [c]] = some (.int ((c - 97 : Nat) : Int)) := by
  have := index_alph (c - 97) (by omega)
  rwa [show 97 + (c - 97) = c by omega] at this
theorem fr_pair {ps : List (Nat × Nat)} (o : ∀ p ∈ ps, p.1 < p.2) {a b : Nat} (ha : 97 ≤ a) (hb : 97 ≤ b) : decide ((min a b - 97, max a b - 97) ∈ ps) = fr ps a b := by
  rw [Bool.eq_iff_iff, decide_eq_true_eq]
  unfold fr
  rw [List.any_eq_true]
  constructor
  · intro h
    refine ⟨_, h, ?_⟩
    have := o _ h
    simp only [Bool.or_eq_true, Bool.and_eq_true, beq_iff_eq] at this ⊢
    omega
  · rintro ⟨p, hp, h⟩
    have := o p hp
    have e : (min a b - 97, max a b - 97) = p := by
      simp only [Bool.or_eq_true, Bool.and_eq_true, beq_iff_eq] at h
      rw [Prod.ext_iff]
      simp only
      omega
    rw [e]; exact hp
theorem law_friend (hF : Lv F) {n : Nat} {ps : List (Nat × Nat)} (o : ∀ p ∈ ps, p.1 < p.2) {a b : Nat} (a1 : 97 ≤ a) (a2 : a < 104) (b1 : 97 ≤ b) (b2 : b < 104) (k : Nat) : F (k + 1) 404 [compD n ps, .str [a], .str [b]] none = some (.bl (fr ps a b), none) := by
  rw [go404 hF]
  have m1 := index_alph' (c := min a b) (by omega) (by omega)
  have m2 := index_alph' (c := max a b) (by omega) (by omega)
  have i1 : idxD (compD n ps) (.int 1) = some (.tup (ps.map pairD)) := rfl
  have key : cmpD .isin (.tup [.int ((min a b - 97 : Nat) : Int), .int ((max a b - 97 : Nat) : Int)]) (.tup (ps.map pairD)) = some (.bl (fr ps a b)) := by
    show (inD (pairD (min a b - 97, max a b - 97)) (ps.map pairD)).map D.bl = _
    rw [in_pairs, fr_pair o a1 b1]; rfl
  refine run_of ⟨rfl, rfl⟩ (show W (exs GL (F k) df404.body [.fz (compD n ps), .fz (.str [a]), .fz (.str [b]), .un]) _ from
    w_nx (ρ1 := [.fz (compD n ps), .fz (.str [a]), .fz (.str [b]), .fz ALPH]) (by (simp [run, exs, ex, ev, evs, evi, evo, evo', startE, isBrw, pureE, pureEs, pureO, ioOf, lastIo, setTg, setAll, setPar, wipeE, backE, allocE, isLst, ALPH] <;> try with_reducible rfl)) (w_ret (d := .bl (fr ps a b)) (ρ1 := [.fz (compD n ps), .fz (.str [a]), .fz (.str [b]), .fz ALPH]) ?_ rfl ⟨.inl rfl, rfl⟩))
  refine ev_cmp' (x := .tup [.int ((min a b - 97 : Nat) : Int), .int ((max a b - 97 : Nat) : Int)]) (y := .tup (ps.map pairD)) (ρ1 := [.fz (compD n ps), .fz (.str [a]), .fz (.str [b]), .fz ALPH]) ?_ (by (simp [run, exs, ex, ev, evs, evi, evo, evo', startE, isBrw, pureE, pureEs, pureO, ioOf, lastIo, setTg, setAll, setPar, wipeE, backE, allocE, isLst, i1] <;> try with_reducible rfl)) key
  have n1 := min_sg a b
  have n2 := max_sg a b
  (simp [run, exs, ex, ev, evs, evi, evo, evo', startE, isBrw, pureE, pureEs, pureO, ioOf, lastIo, setTg, setAll, setPar, wipeE, backE, allocE, isLst, n1, n2, m1, m2, LIM] <;> try with_reducible rfl)
/-! ### first letters -/
theorem fmap_congr {α β : Type} {f g : α → Option β} : ∀ {l : List α}, (∀ a ∈ l, f a = g a) → l.filterMap f = l.filterMap g
  | [], _ => rfl
  | a :: l, h => by
    rw [List.filterMap_cons, List.filterMap_cons, h a (List.mem_cons_self ..), fmap_congr fun b hb => h b (List.mem_cons_of_mem _ hb)]
def firsts (w : Sg) : Sg := (List.range w.length).filterMap fun j => if w.getD j 0 ∈ w.take j then none else some (w.getD j 0)
theorem firsts_nodup {w : Sg} (h : w.Nodup) : firsts w = w := by
  unfold firsts
  have e : ∀ j ∈ List.range w.length, (if w.getD j 0 ∈ w.take j then none else some (w.getD j 0)) = some (w.getD j 0) := by
    intro j hj
    rw [List.mem_range] at hj
    rw [if_neg]
    intro q
    rw [List.getD_eq_getElem?_getD, List.getElem?_eq_getElem hj, Option.getD_some] at q
    obtain ⟨i, hi, ei⟩ := List.mem_iff_getElem.mp q
    rw [List.length_take] at hi
    rw [List.getElem_take] at ei
    exact List.pairwise_iff_getElem.mp h i j (by omega) hj (by omega) ei
  have e2 : (List.range w.length).filterMap (fun j => if w.getD j 0 ∈ w.take j then none else some (w.getD j 0)) = (List.range w.length).filterMap fun j => some (w.getD j 0) := by
    exact fmap_congr e
  rw [e2]
  have : (fun j => some (w.getD j 0)) = some ∘ fun j => w.getD j 0 := rfl
  rw [this, List.filterMap_eq_map]
  apply List.ext_getElem
  · simp
  · intro i h1 h2
    simp [List.getElem?_eq_getElem h2]
theorem sg_filterMap (f : Nat → Option Nat) (l : List Nat) : l.filterMap (fun j => (f j).map sg) = (l.filterMap f).map sg := by
  induction l with
  | nil => rfl
  | cons a l ih =>
    simp only [List.filterMap_cons]
    cases f a with
    | none => exact ih
    | some x => exact congrArg (sg x :: ·) ih
theorem notin_str (c : Nat) (z : Sg) : cmpD .notin (.str [c]) (.str z) = some (.bl (!decide (c ∈ z))) := rfl
theorem law_firsts (hF : Lv F) {w : Sg} (hw : w.length < 64) (k : Nat) : F (k + 1) 409 [.str w] none = some (.str (firsts w), none) := by
  rw [go409 hF]
  have hlim : LIM = 4000000 := rfl
  have fl : (firsts w).length < 1000 := by
    have := List.length_filterMap_le (fun j => if w.getD j 0 ∈ w.take j then none else some (w.getD j 0)) (List.range w.length)
    rw [List.length_range] at this
    show (List.filterMap _ _).length < 1000
    omega
  refine run_of ⟨rfl, rfl⟩ (show W (exs GL (F k) df409.body [.fz (.str w), .un]) _ from w_ret (d := .str (firsts w)) (ρ1 := [.fz (.str w), .un]) ?_ rfl ⟨.inl rfl, rfl⟩)
  refine ev_mt' (x := .str []) (ρ1 := [.fz (.str w), .un]) (ds := [.lst ((firsts w).map sg)]) (by (simp [run, exs, ex, ev, evs, evi, evo, evo', startE, isBrw, pureE, pureEs, pureO, ioOf, lastIo, setTg, setAll, setPar, wipeE, backE, allocE, isLst] <;> try with_reducible rfl)) (evs_cons' (x := .lst ((firsts w).map sg)) (ρ1 := [.fz (.str w), .un]) ?_ (by (simp [run, exs, ex, ev, evs, evi, evo, evo', startE, isBrw, pureE, pureEs, pureO, ioOf, lastIo, setTg, setAll, setPar, wipeE, backE, allocE, isLst] <;> try with_reducible rfl))) (join_sgs fl)
  have e := ev_compR' (G := GL) (Φ := F k) (ρ := [.fz (.str w), .un]) (ρ1 := [.fz (.str w), .un]) (own := [1]) (elt := .idx (.var 0) (.var 1)) (tg := [1]) (it := .range1 (.fn .len (.cons (.var 0) .nil)))
    (c := .some (.cmp .notin (.idx (.var 0) (.var 1)) (.slc (.var 0) .none (.some (.var 1))))) (a := 0) (b := w.length) w.length (fun j => (if w.getD j 0 ∈ w.take j then none else some (w.getD j 0)).map sg)
    (by
      have b1 : (-1000000 : Int) ≤ (w.length : Int) := by omega
      have b2 : (w.length : Int) ≤ 1000000 := by omega
      (simp [run, exs, ex, ev, evs, evi, evo, evo', startE, isBrw, pureE, pureEs, pureO, ioOf, lastIo, setTg, setAll, setPar, wipeE, backE, allocE, isLst, len_str (w := w) (by omega), b1, b2] <;> try with_reducible rfl)) (by omega) (by simp) (by omega) fun j hj => by
      have i1 := idx_str (w := w) (j := j) (by omega) (List.getElem?_eq_getElem hj)
      have q1 : w.getD j 0 = w[j] := by rw [List.getD_eq_getElem?_getD, List.getElem?_eq_getElem hj]; rfl
      have s1 := slc_str (w := w) (p := j) hw (by omega)
      rw [q1]
      by_cases h : w[j] ∈ w.take j
      · rw [if_pos h]
        (simp [run, exs, ex, ev, evs, evi, evo, evo', startE, isBrw, pureE, pureEs, pureO, ioOf, lastIo, setTg, setAll, setPar, wipeE, backE, allocE, isLst, lcT, i1, s1, notin_str, h] <;> try with_reducible rfl)
      · rw [if_neg h]
        (simp [run, exs, ex, ev, evs, evi, evo, evo', startE, isBrw, pureE, pureEs, pureO, ioOf, lastIo, setTg, setAll, setPar, wipeE, backE, allocE, isLst, lcT, i1, s1, notin_str, h, sg] <;> try with_reducible rfl)
  rw [sg_filterMap] at e
  exact e
end Mini
/-! The law's kind of a word. -/
namespace Mini
open PySem
variable {F : Nat → Fn}
theorem argBest_min {lt : Nat → Nat → Bool} (v : Nat → Nat) : ∀ n, (∀ i j, i ≤ n → j ≤ n → lt i j = decide (v i < v j)) → argBest lt n ≤ n ∧ ∀ i, i ≤ n → v (argBest lt n) ≤ v i
  | 0, _ => ⟨Nat.le_refl _, fun i hi => by rw [Nat.le_zero.mp hi]; exact Nat.le_refl _⟩
  | n + 1, h => by
    obtain ⟨h1, h2⟩ := argBest_min v n fun i j hi hj => h i j (by omega) (by omega)
    unfold argBest
    rw [h (n + 1) (argBest lt n) (Nat.le_refl _) (by omega)]
    by_cases e : v (n + 1) < v (argBest lt n)
    · simp only [e, decide_true, if_true]
      refine ⟨Nat.le_refl _, fun i hi => ?_⟩
      rcases Nat.lt_or_ge n i with q | q
      · have : i = n + 1 := by omega
        subst this; exact Nat.le_refl _
      · have := h2 i q; omega
    · simp only [e, decide_false, Bool.false_eq_true, if_false]
      refine ⟨by omega, fun i hi => ?_⟩
      rcases Nat.lt_or_ge n i with q | q
      · have : i = n + 1 := by omega
        subst this; omega
      · exact h2 i q
theorem min_sgs {l : List Nat} (h : l ≠ []) : ∃ m, fnD .min [.lst (l.map sg)] = some (sg m) ∧ m ∈ l ∧ ∀ x ∈ l, m ≤ x := by
  have hl : 0 < l.length := List.length_pos_iff.mpr h
  have hb := argBest_min (lt := fun i j => decide ((l.map fun c => [c]).getD i [] < (l.map fun c => [c]).getD j [])) (fun i => l.getD i 0) (l.length - 1) fun i j hi hj => by
    have g : ∀ i, i ≤ l.length - 1 → (l.map fun c => [c]).getD i [] = [l.getD i 0] := fun i hi => by
      rw [List.getD_eq_getElem?_getD, List.getD_eq_getElem?_getD, List.getElem?_map, List.getElem?_eq_getElem (by omega)]; rfl
    rw [g i hi, g j hj]
    rw [Bool.eq_iff_iff, decide_eq_true_eq, decide_eq_true_eq]
    exact lt_sgs _ _
  obtain ⟨b1, b2⟩ := hb
  have hlt : argBest (fun i j => decide ((l.map fun c => [c]).getD i [] < (l.map fun c => [c]).getD j [])) (l.length - 1) < l.length := by omega
  refine ⟨l[argBest (fun i j => decide ((l.map fun c => [c]).getD i [] < (l.map fun c => [c]).getD j [])) (l.length - 1)]'hlt, ?_, List.getElem_mem _, fun x hx => ?_⟩
  · show bestD false (l.map sg) = _
    unfold bestD
    have he : (l.map sg).isEmpty = false := by cases l with | nil => exact absurd rfl h | cons _ _ => rfl
    rw [he]
    simp only [Bool.false_eq_true, if_false, strs_sg, List.length_map, List.getElem?_map]
    rw [List.getElem?_eq_getElem hlt]; rfl
  · obtain ⟨i, hi, rfl⟩ := List.mem_iff_getElem.mp hx
    have := b2 i (by omega)
    rw [List.getD_eq_getElem?_getD, List.getD_eq_getElem?_getD, List.getElem?_eq_getElem hlt, List.getElem?_eq_getElem hi] at this
    exact this
/-! ### a list of signs is empty -/
theorem pds_sgs : ∀ l : Sg, pds (l.map sg) = some (l.map fun c => PyData.str (toS [c]))
  | [] => rfl
  | c :: l => by simp only [List.map_cons, pds, sg, pd]; rw [show pds (l.map sg) = _ from pds_sgs l]
theorem can_sgs : ∀ l : Sg, (∀ c ∈ l, c < 200) → PyData.canLayAll0 (l.map fun c => PyData.str (toS [c])) = true
  | [], _ => rfl
  | c :: l, hc => by
    have h : PyData.strOk (toS [c]) = true := by
      have := hc c (List.mem_cons_self ..)
      simp [PyData.strOk, toS]; omega
    simp [PyData.canLayAll0, PyData.canLay0, can_sgs l fun x hx => hc x (List.mem_cons_of_mem _ hx), h]
theorem dep_sgs : ∀ l : Sg, PyData.depthAll (l.map fun c => PyData.str (toS [c])) = 0
  | [] => rfl
  | c :: l => by simp [PyData.depthAll, PyData.depth, dep_sgs l]
theorem shaped_sgs (l : Sg) (hc : ∀ c ∈ l, c < 200) : SeqAt.shaped (.list (l.map fun c => PyData.str (toS [c]))) = true := by
  unfold SeqAt.shaped
  simp [PyData.canLay0, can_sgs l hc, PyData.depth, dep_sgs l]
theorem eq_nil (l : Sg) (hc : ∀ c ∈ l, c < 200) : cmpD .eq (.lst (l.map sg)) (.lst []) = some (.bl (decide (l = []))) := by
  have h0 : SeqAt.shaped (.list []) = true := shaped_sgs [] (by simp)
  show (eqD (.lst (l.map sg)) (.lst [])).map D.bl = _
  simp only [eqD, pd, pds_sgs, pds, Option.map]
  rw [if_pos ⟨shaped_sgs l hc, h0⟩]
  cases l with
  | nil => rfl
  | cons c l => rfl
/-! ### the letters that may come first -/
def good (r : Nat → Nat → Bool) (w : Sg) (c : Nat) : Bool := (w.takeWhile (· ≠ c)).all fun o => !r c o
theorem pick_min {r : Nat → Nat → Bool} {w : Sg} {m : Nat} (h1 : m ∈ w) (h2 : good r w m = true) (h3 : ∀ x ∈ w, good r w x = true → m ≤ x) : pick r w = some m := by
  obtain ⟨c, hc⟩ := pick_some (r := r) (w := w) (fun e => by rw [e] at h1; cases h1)
  have hm := pick_mem hc
  have hg : good r w c = true := List.find?_some hc
  have le1 := h3 c hm hg
  have le2 : c ≤ m := by
    unfold pick at hc
    rw [List.find?_eq_some_iff_append] at hc
    obtain ⟨_, as, bs, e, hn⟩ := hc
    have hs := sortN_sorted' w
    rw [e] at hs
    have hmem := (mem_sortN m w).mpr h1
    rw [e, List.mem_append, List.mem_cons] at hmem
    rcases hmem with q | q | q
    · have := hn m q
      unfold good at h2
      rw [h2] at this; cases this
    · omega
    · exact List.rel_of_pairwise_cons (List.pairwise_append.mp hs).2.1 q
  have : c = m := by omega
  rw [hc, this]
theorem takeWhile_nodup {w : Sg} (nd : w.Nodup) {j : Nat} (hj : j < w.length) : w.takeWhile (· ≠ w[j]) = w.take j := by
  obtain ⟨p, h1, h2, h3⟩ := place_take w[j] w (List.getElem_mem _)
  rw [← h3]
  have hp : ∀ (w : Sg) (c p : Nat), placeOf c w = some p → w[p]? = some c := by
    intro w c
    induction w with
    | nil => intro p h; cases h
    | cons a w ih =>
      intro p h
      simp only [placeOf] at h
      split at h
      · rename_i e; cases h; rw [e]; rfl
      · rw [Option.map_eq_some_iff] at h
        obtain ⟨q, hq, rfl⟩ := h
        simpa using ih q hq
  have e := hp w _ p h1
  obtain ⟨hl, he⟩ := List.getElem?_eq_some_iff.mp e
  have : p = j := by
    rcases Nat.lt_trichotomy p j with q | q | q
    · exact absurd he (List.pairwise_iff_getElem.mp nd p j hl hj q)
    · exact q
    · exact absurd he.symm (List.pairwise_iff_getElem.mp nd j p hj hl q)
  rw [this]
def freeL (r : Nat → Nat → Bool) (w : Sg) (i : Nat) : List Nat := ((List.range i).filter fun j => (w.take j).all fun o => !r o (w.getD j 0)).map fun j => w.getD j 0
theorem freeL_succ (r : Nat → Nat → Bool) (w : Sg) (i : Nat) : freeL r w (i + 1) = freeL r w i ++ (if ((w.take i).all fun o => !r o (w.getD i 0)) = true then [w.getD i 0] else []) := by
  unfold freeL
  rw [List.range_succ, List.filter_append, List.map_append]
  congr 1
  by_cases h : ((w.take i).all fun o => !r o (w.getD i 0)) = true
  · simp only [List.filter_cons, h, if_true, List.filter_nil, List.map_cons, List.map_nil]
  · simp only [List.filter_cons, h, if_false, List.filter_nil, List.map_nil]; rfl
theorem mem_freeL {r : Nat → Nat → Bool} (rs : ∀ a b, r a b = r b a) {w : Sg} (nd : w.Nodup) {x : Nat} : x ∈ freeL r w w.length ↔ x ∈ w ∧ good r w x = true := by
  unfold freeL good
  rw [List.mem_map]
  have al : ∀ j (hj : j < w.length), ((w.take j).all fun o => !r o (w.getD j 0)) = (w.takeWhile (· ≠ w[j])).all fun o => !r w[j] o := fun j hj => by
    rw [takeWhile_nodup nd hj]
    have q1 : w.getD j 0 = w[j] := by rw [List.getD_eq_getElem?_getD, List.getElem?_eq_getElem hj]; rfl
    rw [q1]
    congr 1
    funext o
    rw [rs]
  constructor
  · rintro ⟨j, hj, rfl⟩
    rw [List.mem_filter, List.mem_range] at hj
    obtain ⟨hj, hg⟩ := hj
    have q1 : w.getD j 0 = w[j] := by rw [List.getD_eq_getElem?_getD, List.getElem?_eq_getElem hj]; rfl
    rw [q1]
    exact ⟨List.getElem_mem _, by rw [← al j hj]; exact hg⟩
  · rintro ⟨hx, hg⟩
    obtain ⟨j, hj, rfl⟩ := List.mem_iff_getElem.mp hx
    have q1 : w.getD j 0 = w[j] := by rw [List.getD_eq_getElem?_getD, List.getElem?_eq_getElem hj]; rfl
    exact ⟨j, by rw [List.mem_filter, List.mem_range]; exact ⟨hj, by rw [al j hj]; exact hg⟩, q1⟩
theorem filter_one {w : Sg} (nd : w.Nodup) {c : Nat} (h : c ∈ w) : (w.filter (· ≠ c)).length + 1 = w.length := by
  induction w with
  | nil => cases h
  | cons a w ih =>
    rw [List.nodup_cons] at nd
    by_cases e : a = c
    · subst e
      have : w.filter (fun x => decide (x ≠ a)) = w := by
        rw [List.filter_eq_self]
        intro x hx
        have : x ≠ a := fun q => nd.1 (q ▸ hx)
        simpa using this
      rw [List.filter_cons_of_neg (by simp), this]; rfl
    · rw [List.filter_cons_of_pos (by simpa using e), List.length_cons, List.length_cons, ih nd.2 (by
        rcases List.mem_cons.mp h with q | q
        · exact absurd q.symm e
        · exact q)]
theorem firsts_mem {w : Sg} {x : Nat} (h : x ∈ firsts w) : x ∈ w := by
  unfold firsts at h
  rw [List.mem_filterMap] at h
  obtain ⟨j, hj, h⟩ := h
  rw [List.mem_range] at hj
  split at h
  · cases h
  · cases h
    rw [List.getD_eq_getElem?_getD, List.getElem?_eq_getElem hj]
    exact List.getElem_mem _
theorem firsts_nd (w : Sg) : (firsts w).Nodup := by
  unfold firsts
  have h : (List.range w.length).Pairwise fun a b => a < b ∧ b < w.length := List.pairwise_lt_range.imp_of_mem fun {a b} ha hb h => ⟨h, List.mem_range.mp hb⟩
  refine List.Pairwise.filterMap _ (fun a a' ⟨h1, h2⟩ b hb b' hb' e => ?_) h
  subst e
  split at hb
  · cases hb
  · split at hb'
    · cases hb'
    · rename_i n1 n2
      cases hb
      have q : w.getD a 0 = w.getD a' 0 := by
        have := Option.some.inj hb'
        exact this.symm
      refine n2 ?_
      rw [← q, List.getD_eq_getElem?_getD, List.getElem?_eq_getElem (by omega)]
      refine List.mem_iff_getElem.mpr ⟨a, by rw [List.length_take]; omega, ?_⟩
      rw [List.getElem_take]; rfl
theorem firsts_len (w : Sg) : (firsts w).length ≤ w.length := by
  have := List.length_filterMap_le (fun j => if w.getD j 0 ∈ w.take j then none else some (w.getD j 0)) (List.range w.length)
  rw [List.length_range] at this
  exact this
theorem w_ite_app {G : Nat → Option D} {Φ : Fn} {ρ ρ2 : En} {c : E} {s : S} {x : Bool} {Q : Fl → En → Prop} (h : ev G Φ c ρ = some (.bl x, ρ)) (hs : x = true → ex G Φ s ρ = some (.nx, ρ2)) (q1 : x = true → Q .nx ρ2) (q0 : x = false → Q .nx ρ) : W (exs G Φ (.cons (.ite c (.cons s .nil) .nil) .nil) ρ) Q := by
  refine w_if h ?_
  cases x with
  | true => exact w_nx (hs rfl) (w_end (.inl ⟨rfl, w_end (q1 rfl)⟩))
  | false => exact w_end (.inl ⟨rfl, w_end (q0 rfl)⟩)
theorem law_kind (hF : Lv F) {n : Nat} {ps : List (Nat × Nat)} (C : Comp n ps) {w0 : Sg} (hl : w0.length < 64) (hw0 : Let n w0) (k : Nat) : F (k + 2) 410 [compD n ps, .str w0] none = some (.str (lo (fr ps) (firsts w0)), none) := by
  rw [go410 hF]
  have hlim : LIM = 4000000 := rfl
  have hn := C.hi
  have ord : ∀ p ∈ ps, p.1 < p.2 := fun p hp => (C.ord p hp).1
  have f1 := law_firsts hF hl k
  have fl := firsts_len w0
  have b0 : (-1000000 : Int) ≤ ((firsts w0).length : Int) := by omega
  have b1 : ((firsts w0).length : Int) ≤ 1000000 := by omega
  refine run_of ⟨rfl, rfl⟩ (show W (exs GL (F (k + 1)) df410.body [.fz (compD n ps), .fz (.str w0), .un, .un, .un, .un, .un, .un]) _ from
    w_nx (ρ1 := [.fz (compD n ps), .fz (.str w0), .fz (.str (firsts w0)), .fz (.str []), .un, .un, .un, .un]) (by (simp [run, exs, ex, ev, evs, evi, evo, evo', startE, isBrw, pureE, pureEs, pureO, ioOf, lastIo, setTg, setAll, setPar, wipeE, backE, allocE, isLst, f1, LIM] <;> try with_reducible rfl)) (w_for (xs := rangeD 0 (firsts w0).length) (ρ1 := [.fz (compD n ps), .fz (.str w0), .fz (.str (firsts w0)), .fz (.str []), .un, .un, .un, .un]) (fun j ρ => ∃ w f t e a, blS t = true ∧ okS e = true ∧ blS a = true ∧ w.length + j = (firsts w0).length ∧ f.length ≤ j ∧ w.Nodup ∧ Let n w ∧ f ++ lo (fr ps) w = lo (fr ps) (firsts w0) ∧ ρ = [.fz (compD n ps), .fz (.str w0), .fz (.str w), .fz (.str f), t, e, a, .un]) ?_ ?_ ?_ ?_))
  · (simp [run, exs, ex, ev, evs, evi, evo, evo', startE, isBrw, pureE, pureEs, pureO, ioOf, lastIo, setTg, setAll, setPar, wipeE, backE, allocE, isLst, len_str (w := firsts w0) (by omega), b0, b1] <;> try with_reducible rfl)
  · exact ⟨firsts w0, [], .un, .un, .un, rfl, rfl, rfl, rfl, by simp, firsts_nd w0, fun c hc => hw0 c (firsts_mem hc), rfl, rfl⟩
  · rintro j x ρ hx ⟨w, f, t, e, a, ht, he, ha, hwl, hfl, nd, hw, hlo, rfl⟩
    have hjl : j < (firsts w0).length := by
      have := (List.getElem?_eq_some_iff.mp hx).1
      rw [range_len] at this; omega
    have wl : w.length < 64 := by omega
    have wn : w ≠ [] := fun q => by rw [q] at hwl; simp at hwl; omega
    have c0 : (-1000000 : Int) ≤ (w.length : Int) := by omega
    have c1 : (w.length : Int) ≤ 1000000 := by omega
    refine ⟨[.fz (compD n ps), .fz (.str w0), .fz (.str w), .fz (.str f), .fz x, e, a, .un], by (simp [run, exs, ex, ev, evs, evi, evo, evo', startE, isBrw, pureE, pureEs, pureO, ioOf, lastIo, setTg, setAll, setPar, wipeE, backE, allocE, isLst, setFz_0 _ _ _ (blS_ok ht)] <;> try with_reducible rfl), w_nx (ρ1 := [.fz (compD n ps), .fz (.str w0), .fz (.str w), .fz (.str f), .fz x, .own (.lst []), a, .un]) (by (simp [run, exs, ex, ev, evs, evi, evo, evo', startE, isBrw, pureE, pureEs, pureO, ioOf, lastIo, setTg, setAll, setPar, wipeE, backE, allocE, isLst, setOwn_0 _ _ _ he, LIM] <;> try with_reducible rfl)) ?_⟩
    refine w_for (xs := rangeD 0 w.length) (ρ1 := [.fz (compD n ps), .fz (.str w0), .fz (.str w), .fz (.str f), .fz x, .own (.lst []), a, .un]) (fun i ρ => ∃ a, blS a = true ∧ ρ = [.fz (compD n ps), .fz (.str w0), .fz (.str w), .fz (.str f), .fz x, .own (.lst ((freeL (fr ps) w i).map sg)), a, .un]) (by (simp [run, exs, ex, ev, evs, evi, evo, evo', startE, isBrw, pureE, pureEs, pureO, ioOf, lastIo, setTg, setAll, setPar, wipeE, backE, allocE, isLst, len_str (w := w) (by omega), c0, c1] <;> try with_reducible rfl)) ⟨a, ha, rfl⟩ ?_ ?_
    · rintro i y ρ hy ⟨a, ha, rfl⟩
      obtain ⟨rfl, hi⟩ := range_get hy
      have hi : i < w.length := by omega
      have i1 := idx_str (w := w) (j := i) (by omega) (List.getElem?_eq_getElem hi)
      have s1 := slc_str (w := w) (p := i) wl (by omega)
      have q1 : w.getD i 0 = w[i] := by rw [List.getD_eq_getElem?_getD, List.getElem?_eq_getElem hi]; rfl
      obtain ⟨h1, h2⟩ := hw w[i] (List.getElem_mem _)
      have lf : (freeL (fr ps) w i).length ≤ i := by
        unfold freeL
        rw [List.length_map]
        have := List.length_filter_le (fun j => (w.take j).all fun o => !fr ps o (w.getD j 0)) (List.range i)
        rwa [List.length_range] at this
      have z : (0 : Int) + (i : Int) = i := by omega
      rw [z]
      have ec : ev GL (F (k + 1)) (.cmp .eq (.comp [7] (.var 7) [7] (.seq (.slc (.var 2) .none (.some (.var 6)))) (.some (.call 404 (.cons (.var 0) (.cons (.var 7) (.cons (.idx (.var 2) (.var 6)) .nil)))))) (.lst .nil)) [.fz (compD n ps), .fz (.str w0), .fz (.str w), .fz (.str f), .fz x, .own (.lst ((freeL (fr ps) w i).map sg)), .fz (.int i), .un]
          = some (.bl ((w.take i).all fun o => !fr ps o (w.getD i 0)), [.fz (compD n ps), .fz (.str w0), .fz (.str w), .fz (.str f), .fz x, .own (.lst ((freeL (fr ps) w i).map sg)), .fz (.int i), .un]) := by
        have key : decide (((w.take i).filterMap fun o => if fr ps o (w.getD i 0) = true then some o else none) = []) = (w.take i).all fun o => !fr ps o (w.getD i 0) := by
          rw [Bool.eq_iff_iff, decide_eq_true_eq, List.all_eq_true, List.filterMap_eq_nil_iff]
          refine forall_congr' fun o => forall_congr' fun _ => ?_
          cases fr ps o (w.getD i 0) <;> simp
        rw [← key]
        have e := ev_comp' (G := GL) (Φ := F (k + 1)) (ρ := [.fz (compD n ps), .fz (.str w0), .fz (.str w), .fz (.str f), .fz x, .own (.lst ((freeL (fr ps) w i).map sg)), .fz (.int i), .un]) (ρ1 := [.fz (compD n ps), .fz (.str w0), .fz (.str w), .fz (.str f), .fz x, .own (.lst ((freeL (fr ps) w i).map sg)), .fz (.int i), .un]) (own := [7]) (elt := .var 7) (tg := [7]) (it := .seq (.slc (.var 2) .none (.some (.var 6)))) (c := .some (.call 404 (.cons (.var 0) (.cons (.var 7) (.cons (.idx (.var 2) (.var 6)) .nil)))))
          (w.take i) sg (fun o => (if fr ps o (w.getD i 0) = true then some o else none).map sg) (by (simp [run, exs, ex, ev, evs, evi, evo, evo', startE, isBrw, pureE, pureEs, pureO, ioOf, lastIo, setTg, setAll, setPar, wipeE, backE, allocE, isLst, s1, seq_str] <;> try with_reducible rfl)) (by simp) (by rw [List.length_take]; omega) ?_
        rw [sg_filterMap] at e
        exact ev_cmp' e (by (simp [run, exs, ex, ev, evs, evi, evo, evo', startE, isBrw, pureE, pureEs, pureO, ioOf, lastIo, setTg, setAll, setPar, wipeE, backE, allocE, isLst, LIM] <;> try with_reducible rfl)) (eq_nil _ fun c hc => by
          rw [List.mem_filterMap] at hc
          obtain ⟨o, ho, hc⟩ := hc
          split at hc
          · cases hc; have := hw c (List.mem_of_mem_take ho); omega
          · cases hc) rfl
        intro o ho
        have hom := hw o (List.mem_of_mem_take ho)
        have fr1 := law_friend hF (n := n) ord (a := o) (b := w[i]) hom.1 (by omega) h1 (by omega) k
        rw [q1]
        cases hfr : fr ps o w[i] with
        | true => rw [hfr] at fr1; (simp [run, exs, ex, ev, evs, evi, evo, evo', startE, isBrw, pureE, pureEs, pureO, ioOf, lastIo, setTg, setAll, setPar, wipeE, backE, allocE, isLst, lcT, sg, i1, fr1] <;> try with_reducible rfl)
        | false => rw [hfr] at fr1; (simp [run, exs, ex, ev, evs, evi, evo, evo', startE, isBrw, pureE, pureEs, pureO, ioOf, lastIo, setTg, setAll, setPar, wipeE, backE, allocE, isLst, lcT, sg, i1, fr1] <;> try with_reducible rfl)
      refine ⟨[.fz (compD n ps), .fz (.str w0), .fz (.str w), .fz (.str f), .fz x, .own (.lst ((freeL (fr ps) w i).map sg)), .fz (.int i), .un], by (simp [run, exs, ex, ev, evs, evi, evo, evo', startE, isBrw, pureE, pureEs, pureO, ioOf, lastIo, setTg, setAll, setPar, wipeE, backE, allocE, isLst, setFz_0 _ _ _ (blS_ok ha)] <;> try with_reducible rfl), w_ite_app (ρ2 := [.fz (compD n ps), .fz (.str w0), .fz (.str w), .fz (.str f), .fz x, .own (.lst ((freeL (fr ps) w i).map sg ++ [sg w[i]])), .fz (.int i), .un]) ec (fun _ => ?_) (fun hg => ⟨.inl rfl, .fz (.int i), rfl, ?_⟩) (fun hg => ⟨.inl rfl, .fz (.int i), rfl, ?_⟩)⟩
      · exact ex_app' (d := sg w[i]) (ds := (freeL (fr ps) w i).map sg) (ρ1 := [.fz (compD n ps), .fz (.str w0), .fz (.str w), .fz (.str f), .fz x, .own (.lst ((freeL (fr ps) w i).map sg)), .fz (.int i), .un]) (by (simp [run, exs, ex, ev, evs, evi, evo, evo', startE, isBrw, pureE, pureEs, pureO, ioOf, lastIo, setTg, setAll, setPar, wipeE, backE, allocE, isLst, i1, sg] <;> try with_reducible rfl)) rfl rfl (by rw [List.length_map]; omega) (by (simp [run, exs, ex, ev, evs, evi, evo, evo', startE, isBrw, pureE, pureEs, pureO, ioOf, lastIo, setTg, setAll, setPar, wipeE, backE, allocE, isLst] <;> try with_reducible rfl))
      · rw [freeL_succ, if_pos hg, q1, List.map_append]; rfl
      · rw [freeL_succ, if_neg (by rw [hg]; simp), List.append_nil]
    · rintro ρ' ⟨a, ha, rfl⟩
      rw [range_len, show ((w.length : Int) - 0).toNat = w.length by omega]
      obtain ⟨c, hc⟩ := pick_some (r := fr ps) wn
      have mfree : ∀ x, x ∈ freeL (fr ps) w w.length ↔ x ∈ w ∧ good (fr ps) w x = true := fun x => mem_freeL (fr_symm ps) nd
      have hne : freeL (fr ps) w w.length ≠ [] := fun q => by
        have := (mfree c).mpr ⟨pick_mem hc, List.find?_some hc⟩
        rw [q] at this; cases this
      obtain ⟨m, m1, m2, m3⟩ := min_sgs hne
      have hp : pick (fr ps) w = some m := pick_min ((mfree m).mp m2).1 ((mfree m).mp m2).2 fun x hx hg => m3 x ((mfree x).mpr ⟨hx, hg⟩)
      have ea : bopD .add (.str f) (.str [m]) = some (.str (f ++ [m])) := add_str (by show f.length + 1 ≤ _; omega)
      have fo := filter_one nd (pick_mem hp)
      refine w_nx (ρ1 := [.fz (compD n ps), .fz (.str w0), .fz (.str (w.filter (· ≠ m))), .fz (.str (f ++ [m])), .fz x, .own (.lst ((freeL (fr ps) w w.length).map sg)), a, .un]) ?_ (w_end ⟨.inl rfl, w.filter (· ≠ m), f ++ [m], .fz x, .own (.lst ((freeL (fr ps) w w.length).map sg)), a, rfl, rfl, ha, by omega, by rw [List.length_append]; show f.length + 1 ≤ j + 1; omega, nd.filter _, fun c hc => hw c (List.mem_filter.mp hc).1, ?_, rfl⟩)
      · (simp [run, exs, ex, ev, evs, evi, evo, evo', startE, isBrw, pureE, pureEs, pureO, ioOf, lastIo, setTg, setAll, setPar, wipeE, backE, allocE, isLst, m1, sg, ea, rep_str wl, LIM] <;> try with_reducible rfl)
      · rw [← hlo, lo_cons hp]; simp
  · rintro ρ' ⟨w, f, t, e, a, ht, he, ha, hwl, hfl, nd, hw, hlo, rfl⟩
    rw [range_len] at hwl
    have : w = [] := List.length_eq_zero_iff.mp (by omega)
    subst this
    rw [lo_nil, List.append_nil] at hlo
    exact w_ret (d := .str f) (ρ1 := [.fz (compD n ps), .fz (.str w0), .fz (.str []), .fz (.str f), t, e, a, .un]) (by (simp [run, exs, ex, ev, evs, evi, evo, evo', startE, isBrw, pureE, pureEs, pureO, ioOf, lastIo, setTg, setAll, setPar, wipeE, backE, allocE, isLst] <;> try with_reducible rfl)) rfl ⟨.inl (by rw [hlo]), rfl⟩
end Mini
/-! The least order again, and what it depends on. -/
namespace Mini
section
variable {r : Nat → Nat → Bool}
theorem ahd_total : ∀ {w : Sg} {x y : Nat}, x ∈ w → x ≠ y → ¬ ahd w y x → ahd w x y
  | [], _, _, h, _, _ => by cases h
  | a :: w, x, y, h, ne, nh => by
    unfold ahd at nh ⊢
    by_cases e : a = y
    · subst e
      rw [List.takeWhile_cons_of_pos (by simpa using Ne.symm ne)] at nh
      exact absurd (List.mem_cons_self ..) nh
    · rw [List.takeWhile_cons_of_pos (by simpa using e)]
      by_cases e2 : a = x
      · subst e2; exact List.mem_cons_self ..
      · rw [List.takeWhile_cons_of_pos (by simpa using e2)] at nh
        refine List.mem_cons_of_mem _ (ahd_total (w := w) ?_ ne fun q => nh (List.mem_cons_of_mem _ q))
        rcases List.mem_cons.mp h with q | q
        · exact absurd q.symm e2
        · exact q
theorem good_iff {w : Sg} {c : Nat} : good r w c = true ↔ ∀ o, ahd w o c → r c o = false := by
  unfold good ahd
  rw [List.all_eq_true]
  refine forall_congr' fun o => forall_congr' fun _ => ?_
  simp
/-- friends keep their sides -/
theorem lo_ahd (rs : ∀ a b, r a b = r b a) (w : Sg) : ∀ x y, r y x = true → x ≠ y → x ∈ w → (ahd (lo r w) x y ↔ ahd w x y) := by
  refine lo_ind (r := r) (P := fun w l => ∀ x y, r y x = true → x ≠ y → x ∈ w → (ahd l x y ↔ ahd w x y)) (fun x y _ _ h => by cases h) (fun w c hc ih x y hr ne hx => ?_) w
  have hm := pick_mem hc
  have hg : good r w c = true := List.find?_some hc
  rw [good_iff] at hg
  by_cases e1 : y = c
  · subst e1
    constructor
    · intro h
      unfold ahd at h
      rw [List.takeWhile_cons_of_neg (by simp)] at h
      cases h
    · intro h
      rw [hg x h] at hr; cases hr
  · by_cases e2 : x = c
    · subst e2
      constructor
      · intro _
        refine ahd_total hm ne fun q => ?_
        rw [rs, hg y q] at hr; cases hr
      · intro _
        unfold ahd
        rw [List.takeWhile_cons_of_pos (by simpa using ne)]
        exact List.mem_cons_self ..
    · have a1 := ahd_filter (w := w) e2 e1
      rw [← a1, ← ih x y hr ne (List.mem_filter.mpr ⟨hx, by simpa using e2⟩)]
      unfold ahd
      rw [List.takeWhile_cons_of_pos (by simpa using Ne.symm e1), List.mem_cons]
      simp [e2]
theorem ahd_mem {w : Sg} {x y : Nat} (h : ahd w x y) : x ∈ w := List.takeWhile_subset _ h
theorem pick_like (rr : ∀ a, r a a = false) {v w : Sg} (L : Like r v w) {c : Nat} (h : pick r v = some c) : pick r w = some c := by
  have hm := pick_mem h
  have hg : good r v c = true := List.find?_some h
  have g : ∀ x, good r v x = true ↔ good r w x = true := fun x => by
    rw [good_iff, good_iff]
    constructor
    · intro q o ho
      cases e : r x o with
      | false => rfl
      | true => have := q o ((L.2 o x e).mpr ho); rw [this] at e; cases e
    · intro q o ho
      cases e : r x o with
      | false => rfl
      | true => have := q o ((L.2 o x e).mp ho); rw [this] at e; cases e
  refine pick_min ((L.1 c).mp hm) ((g c).mp hg) fun x hx hgx => ?_
  have hx' := (L.1 x).mpr hx
  have hgx' := (g x).mpr hgx
  unfold pick at h
  rw [List.find?_eq_some_iff_append] at h
  obtain ⟨_, as, bs, e, hn⟩ := h
  have hs := sortN_sorted' v
  rw [e] at hs
  have hmem := (mem_sortN x v).mpr hx'
  rw [e, List.mem_append, List.mem_cons] at hmem
  rcases hmem with q | q | q
  · have := hn x q
    unfold good at hgx'
    rw [hgx'] at this; cases this
  · omega
  · exact List.rel_of_pairwise_cons (List.pairwise_append.mp hs).2.1 q
theorem like_filter {v w : Sg} (L : Like r v w) (c : Nat) : Like r (v.filter (· ≠ c)) (w.filter (· ≠ c)) := by
  refine ⟨fun x => by rw [List.mem_filter, List.mem_filter, L.1], fun x y hr => ?_⟩
  by_cases e2 : x = c
  · subst e2
    constructor
    · intro h; have := ahd_mem h; rw [List.mem_filter] at this; simp at this
    · intro h; have := ahd_mem h; rw [List.mem_filter] at this; simp at this
  · by_cases e1 : y = c
    · subst e1
      have all : ∀ u : Sg, ahd (u.filter (· ≠ y)) x y ↔ x ∈ u := fun u => by
        unfold ahd
        have : (u.filter fun z => decide (z ≠ y)).takeWhile (fun z => decide (z ≠ y)) = u.filter fun z => decide (z ≠ y) := by
          induction u with
          | nil => rfl
          | cons a u ih =>
            by_cases q : a = y
            · rw [List.filter_cons_of_neg (by simpa using q), ih]
            · rw [List.filter_cons_of_pos (by simpa using q), List.takeWhile_cons_of_pos (by simpa using q), ih]
        rw [this, List.mem_filter]
        simp [e2]
      rw [all, all, L.1]
    · rw [ahd_filter e2 e1, ahd_filter e2 e1]
      exact L.2 x y hr
theorem lo_like (rr : ∀ a, r a a = false) (v : Sg) : ∀ w, Like r v w → lo r v = lo r w := by
  refine lo_ind (r := r) (P := fun v l => ∀ w, Like r v w → l = lo r w) (fun w L => ?_) (fun v c hc ih w L => ?_) v
  · have : w = [] := List.eq_nil_iff_forall_not_mem.mpr fun x hx => by have := (L.1 x).mpr hx; cases this
    rw [this]; rfl
  · rw [lo_cons (pick_like rr L hc), ih _ (like_filter L c)]
theorem like_lo (rs : ∀ a b, r a b = r b a) (rr : ∀ a, r a a = false) (w : Sg) : Like r (lo r w) w := by
  refine ⟨mem_lo w, fun x y hr => ?_⟩
  by_cases ne : x = y
  · subst ne; rw [rr] at hr; cases hr
  · by_cases hx : x ∈ w
    · exact lo_ahd rs w x y hr ne hx
    · constructor
      · intro h; exact absurd ((mem_lo w x).mp (ahd_mem h)) hx
      · intro h; exact absurd (ahd_mem h) hx
theorem lo_idem (rs : ∀ a b, r a b = r b a) (rr : ∀ a, r a a = false) (w : Sg) : lo r (lo r w) = lo r w := lo_like rr _ _ (like_lo rs rr w)
end
theorem fr_irr {ps : List (Nat × Nat)} (o : ∀ p ∈ ps, p.1 < p.2) (a : Nat) : fr ps a a = false := by
  rw [Bool.eq_false_iff]
  intro h
  unfold fr at h
  rw [List.any_eq_true] at h
  obtain ⟨p, hp, h⟩ := h
  have := o p hp
  simp only [Bool.or_eq_true, Bool.and_eq_true, beq_iff_eq] at h
  omega
theorem kind_lo {n : Nat} {ps : List (Nat × Nat)} (C : Comp n ps) {w : Sg} (hw : Let n w) : Kind n ps (lo (fr ps) w) :=
  ⟨fun c hc => hw c ((mem_lo w c).mp hc), lo_nodup w, lo_idem (fr_symm ps) (fr_irr fun p hp => (C.ord p hp).1) w⟩
end Mini
/-! The heads put last; rounds. -/
namespace Mini
variable {F : Nat → Fn}
theorem fm_filter {α : Type} (p : α → Bool) : ∀ l : List α, (l.filterMap fun a => if p a = true then some a else none) = l.filter p
  | [] => rfl
  | a :: l => by
    rw [List.filterMap_cons, List.filter_cons]
    cases h : p a with
    | true => simp [fm_filter p l]
    | false => simp [fm_filter p l]
theorem in_sgs (c : Nat) (l : Sg) : inD (sg c) (l.map sg) = some (decide (c ∈ l)) := by
  unfold inD
  have h1 : (l.map sg).all flatD = true := by rw [List.all_eq_true]; intro x hx; rw [List.mem_map] at hx; obtain ⟨a, _, rfl⟩ := hx; rfl
  rw [if_pos ⟨rfl, h1⟩]
  congr 1
  rw [Bool.eq_iff_iff, List.any_eq_true, decide_eq_true_eq]
  constructor
  · rintro ⟨x, hx, h⟩
    rw [List.mem_map] at hx
    obtain ⟨a, ha, rfl⟩ := hx
    have : [a] = [c] := of_decide_eq_true h
    rw [List.cons.injEq] at this
    rw [← this.1]; exact ha
  · intro h
    exact ⟨sg c, List.mem_map.mpr ⟨c, h, rfl⟩, by show decide ([c] = [c]) = true; simp⟩
theorem notin_sgs (c : Nat) (l : Sg) : cmpD .notin (.str [c]) (.lst (l.map sg)) = some (.bl (!decide (c ∈ l))) := by
  show (inD (sg c) (l.map sg)).map _ = _
  rw [in_sgs]; rfl
def heads (r : Nat → Nat → Bool) (w : Sg) : Sg := w.filter (good r w)
def mvw (r : Nat → Nat → Bool) (w : Sg) : Sg := (w.filter fun c => !decide (c ∈ heads r w)) ++ heads r w
def nx (r : Nat → Nat → Bool) (w : Sg) : Sg := lo r (mvw r w)
theorem mvw_perm (r : Nat → Nat → Bool) (w : Sg) : (mvw r w).Perm w := by
  have e : (w.filter fun c => !decide (c ∈ heads r w)) = w.filter fun c => !good r w c := by
    apply List.filter_congr
    intro c hc
    congr 1
    rw [Bool.eq_iff_iff, decide_eq_true_eq]
    unfold heads
    rw [List.mem_filter]
    simp [hc]
  unfold mvw
  rw [e]
  exact List.perm_append_comm.trans (List.filter_append_perm (good r w) w)
theorem nx_len {r : Nat → Nat → Bool} {w : Sg} (nd : w.Nodup) : (nx r w).length = w.length := by
  unfold nx
  rw [lo_len ((mvw_perm r w).nodup_iff.mpr nd), (mvw_perm r w).length_eq]
theorem nx_kind {n : Nat} {ps : List (Nat × Nat)} (C : Comp n ps) {w : Sg} (hw : Let n w) : Kind n ps (nx (fr ps) w) :=
  kind_lo C fun c hc => hw c ((mvw_perm _ w).mem_iff.mp hc)
theorem not_any {α : Type} (f : α → Bool) (l : List α) : (!l.any f) = l.all fun a => !f a := by
  induction l with
  | nil => rfl
  | cons a l ih => rw [List.any_cons, List.all_cons, Bool.not_or, ih]
theorem first_and_last (hF : Lv F) {n : Nat} {ps : List (Nat × Nat)} (C : Comp n ps) {w : Sg} (hw : Kind n ps w) (hl : w.length = n) (k : Nat) : F (k + 5) 274 [compD n ps, .str w] none = some (.str (nx (fr ps) w), none) := by
  rw [go274 hF]
  have hlim : LIM = 4000000 := rfl
  have hn := C.hi
  have ord : ∀ p ∈ ps, p.1 < p.2 := fun p hp => (C.ord p hp).1
  have s1 := need_whole hF C hw hl k
  have s2 := friends_of_all hF C (k + 3)
  have hlet : Let n (mvw (fr ps) w) := fun c hc => hw.ok c ((mvw_perm _ w).mem_iff.mp hc)
  have hml : (mvw (fr ps) w).length = w.length := (mvw_perm _ w).length_eq
  have s3 := least_order hF C (w0 := mvw (fr ps) w) (by omega) hlet (k + 3)
  have lh : (heads (fr ps) w).length ≤ w.length := List.length_filter_le ..
  have lr : (w.filter fun c => !decide (c ∈ heads (fr ps) w)).length ≤ w.length := List.length_filter_le ..
  have j1 := join_sgs (w := heads (fr ps) w) (by omega)
  have j2 := join_sgs (w := w.filter fun c => !decide (c ∈ heads (fr ps) w)) (by omega)
  have ea : bopD .add (.str (w.filter fun c => !decide (c ∈ heads (fr ps) w))) (.str (heads (fr ps) w)) = some (.str (mvw (fr ps) w)) := add_str (by omega)
  refine run_of ⟨rfl, rfl⟩ (show W (exs GL (F (k + 4)) df274.body [.fz (compD n ps), .fz (.str w), .un, .un, .un, .un, .un]) _ from
    w_nx (ρ1 := [.fz (compD n ps), .fz (.str w), .un, .un, .un, .un, .un]) (by (simp [run, exs, ex, ev, evs, evi, evo, evo', startE, isBrw, pureE, pureEs, pureO, ioOf, lastIo, setTg, setAll, setPar, wipeE, backE, allocE, isLst, s1] <;> try with_reducible rfl)) (w_nx (ρ1 := [.fz (compD n ps), .fz (.str w), .fz (toldD n ps), .un, .un, .un, .un]) (by (simp [run, exs, ex, ev, evs, evi, evo, evo', startE, isBrw, pureE, pureEs, pureO, ioOf, lastIo, setTg, setAll, setPar, wipeE, backE, allocE, isLst, s2] <;> try with_reducible rfl)) (w_nx (ρ1 := [.fz (compD n ps), .fz (.str w), .fz (toldD n ps), .fz (.lst ((heads (fr ps) w).map sg)), .un, .un, .un]) ?_ (w_nx (ρ1 := [.fz (compD n ps), .fz (.str w), .fz (toldD n ps), .fz (.lst ((heads (fr ps) w).map sg)), .un, .un, .fz (.str (w.filter fun c => !decide (c ∈ heads (fr ps) w)))]) ?_
      (w_ret (d := .str (nx (fr ps) w)) (ρ1 := [.fz (compD n ps), .fz (.str w), .fz (toldD n ps), .fz (.lst ((heads (fr ps) w).map sg)), .un, .un, .fz (.str (w.filter fun c => !decide (c ∈ heads (fr ps) w)))]) ?_ rfl ⟨.inl rfl, rfl⟩)))))
  · refine ex_set' (d := .lst ((heads (fr ps) w).map sg)) (ρ1 := [.fz (compD n ps), .fz (.str w), .fz (toldD n ps), .un, .un, .un, .un]) ?_ (by (simp [run, exs, ex, ev, evs, evi, evo, evo', startE, isBrw, pureE, pureEs, pureO, ioOf, lastIo, setTg, setAll, setPar, wipeE, backE, allocE, isLst] <;> try with_reducible rfl))
    have e := ev_comp' (G := GL) (Φ := F (k + 4)) (ρ := [.fz (compD n ps), .fz (.str w), .fz (toldD n ps), .un, .un, .un, .un]) (ρ1 := [.fz (compD n ps), .fz (.str w), .fz (toldD n ps), .un, .un, .un, .un]) (own := [4]) (elt := .var 4) (tg := [4]) (it := .seq (.var 1))
      (c := .some (.not (.fn .any (.cons (.comp [5] (.cmp .isin (.var 5) (.idx (.var 2) (.var 4))) [5] (.seq (.slc (.var 1) .none (.some (.mt .index (.var 1) (.cons (.var 4) .nil))))) .none) .nil))))
      w sg (fun c => (if good (fr ps) w c = true then some c else none).map sg) (by (simp [run, exs, ex, ev, evs, evi, evo, evo', startE, isBrw, pureE, pureEs, pureO, ioOf, lastIo, setTg, setAll, setPar, wipeE, backE, allocE, isLst, seq_str] <;> try with_reducible rfl)) (by simp) (by omega) ?_
    · rw [sg_filterMap, fm_filter] at e
      exact e
    · intro c hc
      obtain ⟨h1, h2⟩ := hw.ok c hc
      obtain ⟨p, p1, p2, p3⟩ := place_take c w hc
      have ec : ev GL (F (k + 4)) (.fn .any (.cons (.comp [5] (.cmp .isin (.var 5) (.idx (.var 2) (.var 4))) [5] (.seq (.slc (.var 1) .none (.some (.mt .index (.var 1) (.cons (.var 4) .nil))))) .none) .nil)) [.fz (compD n ps), .fz (.str w), .fz (toldD n ps), .un, .fz (sg c), .un, .un] = some (.bl ((w.takeWhile (· ≠ c)).any fun o => fr ps c o), [.fz (compD n ps), .fz (.str w), .fz (toldD n ps), .un, .fz (sg c), .un, .un]) := by
        rw [← p3]
        refine ev_fn1' (x := .lst ((w.take p).filterMap fun o => some (D.bl (fr ps c o)))) (ev_comp' (w.take p) sg (fun o => some (.bl (fr ps c o))) ?_ ?_ (by rw [List.length_take]; omega) fun o _ => ?_) (any_map _ _)
        · (simp [run, exs, ex, ev, evs, evi, evo, evo', startE, isBrw, pureE, pureEs, pureO, ioOf, lastIo, setTg, setAll, setPar, wipeE, backE, allocE, isLst, sg, index_str p1, slc_str (w := w) (p := p) (by omega) p2, seq_str] <;> try with_reducible rfl)
        · simp
        · (simp [run, exs, ex, ev, evs, evi, evo, evo', startE, isBrw, pureE, pureEs, pureO, ioOf, lastIo, setTg, setAll, setPar, wipeE, backE, allocE, isLst, lcT, sg, told_get h1 h2, in_told ord h1] <;> try with_reducible rfl)
      have en := ev_not' ec
      have eg : (!(w.takeWhile (· ≠ c)).any fun o => fr ps c o) = good (fr ps) w c := not_any _ _
      rw [eg] at en
      have st : setTg [.fz (compD n ps), .fz (.str w), .fz (toldD n ps), .un, .un, .un, .un] [4] (sg c) = some [.fz (compD n ps), .fz (.str w), .fz (toldD n ps), .un, .fz (sg c), .un, .un] := by (simp [run, exs, ex, ev, evs, evi, evo, evo', startE, isBrw, pureE, pureEs, pureO, ioOf, lastIo, setTg, setAll, setPar, wipeE, backE, allocE, isLst] <;> try with_reducible rfl)
      unfold lcT
      have wp : wipeE [.fz (compD n ps), .fz (.str w), .fz (toldD n ps), .un, .un, .un, .un] [4] = [.fz (compD n ps), .fz (.str w), .fz (toldD n ps), .un, .un, .un, .un] := rfl
      have wp2 : wipeE [.fz (compD n ps), .fz (.str w), .fz (toldD n ps), .un, .fz (sg c), .un, .un] [4] = [.fz (compD n ps), .fz (.str w), .fz (toldD n ps), .un, .un, .un, .un] := rfl
      rw [wp, st]
      simp only [evo', en]
      cases hg : good (fr ps) w c with
      | true => simp [isBrw, wp2]
      | false => simp [wp2]
  · refine ex_set' (d := .str (w.filter fun c => !decide (c ∈ heads (fr ps) w))) (ρ1 := [.fz (compD n ps), .fz (.str w), .fz (toldD n ps), .fz (.lst ((heads (fr ps) w).map sg)), .un, .un, .un]) ?_ (by (simp [run, exs, ex, ev, evs, evi, evo, evo', startE, isBrw, pureE, pureEs, pureO, ioOf, lastIo, setTg, setAll, setPar, wipeE, backE, allocE, isLst] <;> try with_reducible rfl))
    have e := ev_comp' (G := GL) (Φ := F (k + 4)) (ρ := [.fz (compD n ps), .fz (.str w), .fz (toldD n ps), .fz (.lst ((heads (fr ps) w).map sg)), .un, .un, .un]) (ρ1 := [.fz (compD n ps), .fz (.str w), .fz (toldD n ps), .fz (.lst ((heads (fr ps) w).map sg)), .un, .un, .un]) (own := [4]) (elt := .var 4) (tg := [4]) (it := .seq (.var 1))
      (c := .some (.cmp .notin (.var 4) (.var 3))) w sg (fun c => (if (!decide (c ∈ heads (fr ps) w)) = true then some c else none).map sg) (by (simp [run, exs, ex, ev, evs, evi, evo, evo', startE, isBrw, pureE, pureEs, pureO, ioOf, lastIo, setTg, setAll, setPar, wipeE, backE, allocE, isLst, seq_str] <;> try with_reducible rfl)) (by simp) (by omega) ?_
    · rw [sg_filterMap, fm_filter fun c => !decide (c ∈ heads (fr ps) w)] at e
      refine ev_mt' (x := .str []) (ρ1 := [.fz (compD n ps), .fz (.str w), .fz (toldD n ps), .fz (.lst ((heads (fr ps) w).map sg)), .un, .un, .un]) (by (simp [run, exs, ex, ev, evs, evi, evo, evo', startE, isBrw, pureE, pureEs, pureO, ioOf, lastIo, setTg, setAll, setPar, wipeE, backE, allocE, isLst] <;> try with_reducible rfl)) (evs_cons' e (by (simp [run, exs, ex, ev, evs, evi, evo, evo', startE, isBrw, pureE, pureEs, pureO, ioOf, lastIo, setTg, setAll, setPar, wipeE, backE, allocE, isLst] <;> try with_reducible rfl))) j2
    · intro c hc
      by_cases h : c ∈ heads (fr ps) w
      · (simp [run, exs, ex, ev, evs, evi, evo, evo', startE, isBrw, pureE, pureEs, pureO, ioOf, lastIo, setTg, setAll, setPar, wipeE, backE, allocE, isLst, lcT, sg, notin_sgs, h] <;> try with_reducible rfl)
      · (simp [run, exs, ex, ev, evs, evi, evo, evo', startE, isBrw, pureE, pureEs, pureO, ioOf, lastIo, setTg, setAll, setPar, wipeE, backE, allocE, isLst, lcT, sg, notin_sgs, h] <;> try with_reducible rfl)
  · refine ev_call' (ds := [toldD n ps, .str (mvw (fr ps) w)]) ?_ s3
    refine evs_cons' (ρ1 := [.fz (compD n ps), .fz (.str w), .fz (toldD n ps), .fz (.lst ((heads (fr ps) w).map sg)), .un, .un, .fz (.str (w.filter fun c => !decide (c ∈ heads (fr ps) w)))]) (by (simp [run, exs, ex, ev, evs, evi, evo, evo', startE, isBrw, pureE, pureEs, pureO, ioOf, lastIo, setTg, setAll, setPar, wipeE, backE, allocE, isLst] <;> try with_reducible rfl)) (evs_cons' (x := .str (mvw (fr ps) w)) (ρ1 := [.fz (compD n ps), .fz (.str w), .fz (toldD n ps), .fz (.lst ((heads (fr ps) w).map sg)), .un, .un, .fz (.str (w.filter fun c => !decide (c ∈ heads (fr ps) w)))]) ?_ (by (simp [run, exs, ex, ev, evs, evi, evo, evo', startE, isBrw, pureE, pureEs, pureO, ioOf, lastIo, setTg, setAll, setPar, wipeE, backE, allocE, isLst] <;> try with_reducible rfl)))
    refine ev_bin' (ρ1 := [.fz (compD n ps), .fz (.str w), .fz (toldD n ps), .fz (.lst ((heads (fr ps) w).map sg)), .un, .un, .fz (.str (w.filter fun c => !decide (c ∈ heads (fr ps) w)))]) (by (simp [run, exs, ex, ev, evs, evi, evo, evo', startE, isBrw, pureE, pureEs, pureO, ioOf, lastIo, setTg, setAll, setPar, wipeE, backE, allocE, isLst] <;> try with_reducible rfl)) ?_ ea
    exact ev_mt' (x := .str []) (ρ1 := [.fz (compD n ps), .fz (.str w), .fz (toldD n ps), .fz (.lst ((heads (fr ps) w).map sg)), .un, .un, .fz (.str (w.filter fun c => !decide (c ∈ heads (fr ps) w)))]) (by (simp [run, exs, ex, ev, evs, evi, evo, evo', startE, isBrw, pureE, pureEs, pureO, ioOf, lastIo, setTg, setAll, setPar, wipeE, backE, allocE, isLst] <;> try with_reducible rfl)) (evs_cons' (by (simp [run, exs, ex, ev, evs, evi, evo, evo', startE, isBrw, pureE, pureEs, pureO, ioOf, lastIo, setTg, setAll, setPar, wipeE, backE, allocE, isLst] <;> try with_reducible rfl)) (by (simp [run, exs, ex, ev, evs, evi, evo, evo', startE, isBrw, pureE, pureEs, pureO, ioOf, lastIo, setTg, setAll, setPar, wipeE, backE, allocE, isLst] <;> try with_reducible rfl))) j1
end Mini
/-! rounds; alike. -/
namespace Mini
variable {F : Nat → Fn}
def iter (r : Nat → Nat → Bool) (w : Sg) : Nat → Sg
  | 0 => w
  | m + 1 => nx r (iter r w m)
theorem iter_kind {n : Nat} {ps : List (Nat × Nat)} (C : Comp n ps) {w : Sg} (hw : Kind n ps w) (hl : w.length = n) : ∀ m, Kind n ps (iter (fr ps) w m) ∧ (iter (fr ps) w m).length = n
  | 0 => ⟨hw, hl⟩
  | m + 1 => by
    obtain ⟨h1, h2⟩ := iter_kind C hw hl m
    exact ⟨nx_kind C h1.ok, by show (nx _ _).length = n; rw [nx_len h1.nd, h2]⟩
theorem least {P : Nat → Prop} : ∀ N, (∃ m, m ≤ N ∧ P m) → ∃ M, M ≤ N ∧ P M ∧ ∀ m, m < M → ¬ P m
  | 0, ⟨m, h, p⟩ => ⟨0, Nat.le_refl _, by rwa [Nat.le_zero.mp h] at p, fun m h => by omega⟩
  | N + 1, ⟨m, h, p⟩ => by
    by_cases e : ∃ m, m ≤ N ∧ P m
    · obtain ⟨M, h1, h2, h3⟩ := least N e
      exact ⟨M, by omega, h2, h3⟩
    · have hm : m = N + 1 := by
        rcases Nat.lt_or_ge N m with q | q
        · omega
        · exact absurd ⟨m, q, p⟩ e
      subst hm
      exact ⟨N + 1, Nat.le_refl _, p, fun m hm hp => e ⟨m, by omega, hp⟩⟩
def enc : Sg → Nat
  | [] => 0
  | c :: w => (c - 97) + 7 * enc w
theorem enc_lt : ∀ {w : Sg}, Let 7 w → enc w < 7 ^ w.length
  | [], _ => by simp [enc]
  | c :: w, h => by
    have h1 := h c (List.mem_cons_self ..)
    have h2 := enc_lt (w := w) fun x hx => h x (List.mem_cons_of_mem _ hx)
    simp only [enc, List.length_cons, Nat.pow_succ]
    omega
theorem enc_inj : ∀ {v w : Sg}, Let 7 v → Let 7 w → v.length = w.length → enc v = enc w → v = w
  | [], [], _, _, _, _ => rfl
  | [], _ :: _, _, _, h, _ => by simp at h
  | _ :: _, [], _, _, h, _ => by simp at h
  | a :: v, b :: w, hv, hw, hl, h => by
    have h1 := hv a (List.mem_cons_self ..)
    have h2 := hw b (List.mem_cons_self ..)
    simp only [enc] at h
    have e : a = b := by omega
    subst e
    rw [enc_inj (fun x hx => hv x (List.mem_cons_of_mem _ hx)) (fun x hx => hw x (List.mem_cons_of_mem _ hx)) (by simpa using hl) (by omega)]
theorem let7 {n : Nat} (h : n ≤ 7) {w : Sg} (hw : Let n w) : Let 7 w := fun c hc => by have := hw c hc; omega
def again (f : Nat → Sg) (m : Nat) : Prop := f m ∈ (List.range m).map f
theorem nodup_upto {f : Nat → Sg} : ∀ m, (∀ i, i < m → ¬ again f i) → ((List.range m).map f).Nodup
  | 0, _ => by simp
  | m + 1, h => by
    rw [List.range_succ, List.map_append, List.nodup_append]
    refine ⟨nodup_upto m fun i hi => h i (by omega), by simp, fun x hx y hy => ?_⟩
    simp at hy
    subst hy
    intro e
    subst e
    exact h m (Nat.lt_succ_self _) hx
theorem again_ex {n : Nat} (hn : n ≤ 7) {f : Nat → Sg} (hf : ∀ i, Let n (f i) ∧ (f i).length = n) : ∃ M, M ≤ 823543 ∧ again f M ∧ ∀ m, m < M → ¬ again f m := by
  refine least 823543 (Classical.byContradiction fun hne => ?_)
  have nd := nodup_upto (f := f) 823544 fun i hi hp => hne ⟨i, by omega, hp⟩
  have nd2 : (((List.range 823544).map f).map fun w => 97 + enc w).Nodup := by
    rw [List.nodup_iff_pairwise_ne, List.pairwise_map]
    refine List.Pairwise.imp_of_mem (fun {a b} ha hb hab e => hab ?_) (List.nodup_iff_pairwise_ne.mp nd)
    rw [List.mem_map] at ha hb
    obtain ⟨i, _, rfl⟩ := ha
    obtain ⟨j, _, rfl⟩ := hb
    exact enc_inj (let7 hn (hf i).1) (let7 hn (hf j).1) (by rw [(hf i).2, (hf j).2]) (by omega)
  have := nodup_len 823543 _ (fun c hc => by
    rw [List.mem_map] at hc
    obtain ⟨w, hw, rfl⟩ := hc
    rw [List.mem_map] at hw
    obtain ⟨i, _, rfl⟩ := hw
    have h1 := enc_lt (let7 hn (hf i).1)
    have h2 : 7 ^ (f i).length ≤ 7 ^ 7 := Nat.pow_le_pow_right (by omega) (by rw [(hf i).2]; exact hn)
    have h3 : 7 ^ 7 = 823543 := rfl
    omega) nd2
  rw [List.length_map, List.length_map, List.length_range] at this
  omega
theorem in_strs (c : Sg) (l : List Sg) : inD (.str c) (l.map D.str) = some (decide (c ∈ l)) := by
  unfold inD
  have h1 : (l.map D.str).all flatD = true := by rw [List.all_eq_true]; intro x hx; rw [List.mem_map] at hx; obtain ⟨a, _, rfl⟩ := hx; rfl
  rw [if_pos ⟨rfl, h1⟩]
  congr 1
  rw [Bool.eq_iff_iff, List.any_eq_true, decide_eq_true_eq]
  constructor
  · rintro ⟨x, hx, h⟩
    rw [List.mem_map] at hx
    obtain ⟨a, ha, rfl⟩ := hx
    have : a = c := of_decide_eq_true h
    rw [← this]; exact ha
  · intro h
    exact ⟨.str c, List.mem_map.mpr ⟨c, h, rfl⟩, by show decide (c = c) = true; simp⟩
theorem notin_strs (c : Sg) (l : List Sg) : cmpD .notin (.str c) (.lst (l.map D.str)) = some (.bl (!decide (c ∈ l))) := by
  have e : cmpD .notin (.str c) (.lst (l.map D.str)) = (inD (.str c) (l.map D.str)).map fun b => .bl (!b) := by rcases c with _ | ⟨a, _ | ⟨b, c⟩⟩ <;> rfl
  rw [e, in_strs]; rfl
theorem isin_strs (c : Sg) (l : List Sg) : cmpD .isin (.str c) (.lst (l.map D.str)) = some (.bl (decide (c ∈ l))) := by
  have e : cmpD .isin (.str c) (.lst (l.map D.str)) = (inD (.str c) (l.map D.str)).map D.bl := by rcases c with _ | ⟨a, _ | ⟨b, c⟩⟩ <;> rfl
  rw [e, in_strs]; rfl
def upL (f : Nat → Sg) (m : Nat) : List Sg := (List.range m).map f
theorem upL_succ (f : Nat → Sg) (m : Nat) : (upL f (m + 1)).map D.str = (upL f m).map D.str ++ [.str (f m)] := by
  unfold upL
  rw [List.range_succ, List.map_append, List.map_append]; rfl
theorem rounds (hF : Lv F) {n : Nat} {ps : List (Nat × Nat)} (C : Comp n ps) {w : Sg} (hw : Kind n ps w) (hl : w.length = n) {M : Nat} (hM : M ≤ 823543) (ag : again (iter (fr ps) w) M) (na : ∀ m, m < M → ¬ again (iter (fr ps) w) m) (k : Nat) :
    F (k + 6) 275 [compD n ps, .str w] none = some (.lst ((upL (iter (fr ps) w) M).map D.str), none) := by
  rw [go275 hF]
  have s1 := need_company hF C (k + 2)
  have s2 := need_kind hF C hw (k + 2)
  have hlim : LIM = 4000000 := rfl
  refine run_of ⟨rfl, rfl⟩ (show W (exs GL (F (k + 5)) df275.body [.fz (compD n ps), .fz (.str w), .un]) _ from
    w_nx (ρ1 := [.fz (compD n ps), .fz (.str w), .un]) (by (simp [run, exs, ex, ev, evs, evi, evo, evo', startE, isBrw, pureE, pureEs, pureO, ioOf, lastIo, setTg, setAll, setPar, wipeE, backE, allocE, isLst, s1] <;> try with_reducible rfl)) (w_nx (ρ1 := [.fz (compD n ps), .fz (.str w), .un]) (by (simp [run, exs, ex, ev, evs, evi, evo, evo', startE, isBrw, pureE, pureEs, pureO, ioOf, lastIo, setTg, setAll, setPar, wipeE, backE, allocE, isLst, s2] <;> try with_reducible rfl)) (w_nx (ρ1 := [.fz (compD n ps), .fz (.str (iter (fr ps) w 0)), .own (.lst ((upL (iter (fr ps) w) 0).map D.str))]) (by (simp [run, exs, ex, ev, evs, evi, evo, evo', startE, isBrw, pureE, pureEs, pureO, ioOf, lastIo, setTg, setAll, setPar, wipeE, backE, allocE, isLst, LIM, upL, iter] <;> try with_reducible rfl))
      (w_while (fun q ρ => ∃ m, m ≤ M ∧ q = M - m ∧ ρ = [.fz (compD n ps), .fz (.str (iter (fr ps) w m)), .own (.lst ((upL (iter (fr ps) w) m).map D.str))]) M (by show M < 1000000; omega) ⟨0, Nat.zero_le _, rfl, rfl⟩ ?_))))
  rintro q ρ ⟨m, hm, rfl, rfl⟩
  have len : ((upL (iter (fr ps) w) m).map D.str).length < LIM := by rw [List.length_map]; unfold upL; rw [List.length_map, List.length_range]; omega
  rcases Nat.lt_or_ge m M with h | h
  · right
    have hno : ¬ iter (fr ps) w m ∈ upL (iter (fr ps) w) m := na m h
    have t1 := notin_strs (iter (fr ps) w m) (upL (iter (fr ps) w) m)
    rw [decide_eq_false hno] at t1
    obtain ⟨k1, k2⟩ := iter_kind C hw hl m
    have f1 := first_and_last hF C k1 k2 k
    refine ⟨[.fz (compD n ps), .fz (.str (iter (fr ps) w m)), .own (.lst ((upL (iter (fr ps) w) m).map D.str))], by (simp [run, exs, ex, ev, evs, evi, evo, evo', startE, isBrw, pureE, pureEs, pureO, ioOf, lastIo, setTg, setAll, setPar, wipeE, backE, allocE, isLst, t1] <;> try with_reducible rfl), w_nx (ρ1 := [.fz (compD n ps), .fz (.str (iter (fr ps) w m)), .own (.lst ((upL (iter (fr ps) w) m).map D.str ++ [.str (iter (fr ps) w m)]))]) ?_ (w_nx (ρ1 := [.fz (compD n ps), .fz (.str (iter (fr ps) w (m + 1))), .own (.lst ((upL (iter (fr ps) w) (m + 1)).map D.str))]) ?_ (w_end (.inl ⟨.inl rfl, M - (m + 1), by omega, m + 1, by omega, rfl, rfl⟩)))⟩
    · exact ex_app' (d := .str (iter (fr ps) w m)) (ds := (upL (iter (fr ps) w) m).map D.str) (ρ1 := [.fz (compD n ps), .fz (.str (iter (fr ps) w m)), .own (.lst ((upL (iter (fr ps) w) m).map D.str))]) (by (simp [run, exs, ex, ev, evs, evi, evo, evo', startE, isBrw, pureE, pureEs, pureO, ioOf, lastIo, setTg, setAll, setPar, wipeE, backE, allocE, isLst] <;> try with_reducible rfl)) rfl rfl len (by (simp [run, exs, ex, ev, evs, evi, evo, evo', startE, isBrw, pureE, pureEs, pureO, ioOf, lastIo, setTg, setAll, setPar, wipeE, backE, allocE, isLst] <;> try with_reducible rfl))
    · rw [upL_succ]
      (simp [run, exs, ex, ev, evs, evi, evo, evo', startE, isBrw, pureE, pureEs, pureO, ioOf, lastIo, setTg, setAll, setPar, wipeE, backE, allocE, isLst, f1, iter] <;> try with_reducible rfl)
  · left
    have hm : m = M := by omega
    subst hm
    have hin : iter (fr ps) w m ∈ upL (iter (fr ps) w) m := ag
    have t1 := notin_strs (iter (fr ps) w m) (upL (iter (fr ps) w) m)
    rw [decide_eq_true hin] at t1
    refine ⟨[.fz (compD n ps), .fz (.str (iter (fr ps) w m)), .own (.lst ((upL (iter (fr ps) w) m).map D.str))], by (simp [run, exs, ex, ev, evs, evi, evo, evo', startE, isBrw, pureE, pureEs, pureO, ioOf, lastIo, setTg, setAll, setPar, wipeE, backE, allocE, isLst, t1] <;> try with_reducible rfl), w_ret (d := .lst ((upL (iter (fr ps) w) m).map D.str)) (ρ1 := [.fz (compD n ps), .fz (.str (iter (fr ps) w m)), .fz (.lst ((upL (iter (fr ps) w) m).map D.str))]) (by (simp [run, exs, ex, ev, evs, evi, evo, evo', startE, isBrw, pureE, pureEs, pureO, ioOf, lastIo, setTg, setAll, setPar, wipeE, backE, allocE, isLst] <;> try with_reducible rfl)) rfl ⟨.inl rfl, rfl⟩⟩
/-! ### alike -/
theorem alike_str (hF : Lv F) (a : Sg) (k : Nat) : F (k + 1) 405 [.str a, .str a] none = some (.bl true, none) := by
  rw [go405 hF]
  have c1 : cmpD .isN (.str a) .non = some (.bl false) := rfl
  have c2 : cmpD .eq (.str a) (.str a) = some (.bl true) := by rw [eq_str]; simp
  have c3 : cmpD .eq (.bl true) (.bl true) = some (.bl true) := rfl
  (simp [run, exs, ex, ev, evs, evi, evo, evo', startE, isBrw, pureE, pureEs, pureO, ioOf, lastIo, setTg, setAll, setPar, wipeE, backE, allocE, isLst, df405, isiD, c1, c2, c3, lastIo] <;> try with_reducible rfl)
theorem alike_strs (hF : Lv F) (l : List Sg) (hl : l.length ≤ 1000) (k : Nat) : F (k + 2) 405 [.lst (l.map D.str), .lst (l.map D.str)] none = some (.bl true, none) := by
  rw [go405 hF]
  have hlim : LIM = 4000000 := rfl
  have c3 : cmpD .ne (.bl true) (.bl true) = some (.bl false) := rfl
  have c4 : cmpD .ne (.int l.length) (.int l.length) = some (.bl false) := by simp [cmpD, eqD]
  have c5 : cmpD .eq (.lst []) (.lst []) = some (.bl true) := rfl
  have l1 : fnD .len [.lst (l.map D.str)] = some (.int l.length) := by show some (D.int (l.map D.str).length) = _; rw [List.length_map]
  have b1 : (-1000000 : Int) ≤ (l.length : Int) := by omega
  have b2 : (l.length : Int) ≤ 1000000 := by omega
  have e := ev_compR' (G := GL) (Φ := F (k + 1)) (ρ := [.fz (.lst (l.map D.str)), .fz (.lst (l.map D.str)), .un]) (ρ1 := [.fz (.lst (l.map D.str)), .fz (.lst (l.map D.str)), .un]) (own := [2]) (elt := .var 2) (tg := [2]) (it := .range1 (.fn .len (.cons (.var 1) .nil)))
    (c := .some (.not (.call 405 (.cons (.idx (.var 0) (.var 2)) (.cons (.idx (.var 1) (.var 2)) .nil))))) (a := 0) (b := l.length) l.length (fun _ => none) (by (simp [run, exs, ex, ev, evs, evi, evo, evo', startE, isBrw, pureE, pureEs, pureO, ioOf, lastIo, setTg, setAll, setPar, wipeE, backE, allocE, isLst, l1, b1, b2] <;> try with_reducible rfl)) (by omega) (by simp) (by omega) fun j hj => by
      have i1 : idxD (.lst (l.map D.str)) (.int (j : Int)) = some (.str l[j]) := idx_lst (by rw [List.getElem?_map, List.getElem?_eq_getElem hj]; rfl)
      have a1 := alike_str hF l[j] k
      (simp [run, exs, ex, ev, evs, evi, evo, evo', startE, isBrw, pureE, pureEs, pureO, ioOf, lastIo, setTg, setAll, setPar, wipeE, backE, allocE, isLst, lcT, i1, a1] <;> try with_reducible rfl)
  have e0 : (List.range l.length).filterMap (fun _ => (none : Option D)) = [] := by simp
  rw [e0] at e
  have e1 := ev_cmp' (op := .eq) e (b := .lst .nil) (y := .lst []) (ρ2 := [.fz (.lst (l.map D.str)), .fz (.lst (l.map D.str)), .un]) (by (simp [run, exs, ex, ev, evs, evi, evo, evo', startE, isBrw, pureE, pureEs, pureO, ioOf, lastIo, setTg, setAll, setPar, wipeE, backE, allocE, isLst, LIM] <;> try with_reducible rfl)) c5 rfl
  refine run_of ⟨rfl, rfl⟩ (show W (exs GL (F (k + 1)) df405.body [.fz (.lst (l.map D.str)), .fz (.lst (l.map D.str)), .un]) _ from
    w_if (x := true) (ρ1 := [.fz (.lst (l.map D.str)), .fz (.lst (l.map D.str)), .un]) (by (simp [run, exs, ex, ev, evs, evi, evo, evo', startE, isBrw, pureE, pureEs, pureO, ioOf, lastIo, setTg, setAll, setPar, wipeE, backE, allocE, isLst, isiD] <;> try with_reducible rfl)) (w_skip (ρ1 := [.fz (.lst (l.map D.str)), .fz (.lst (l.map D.str)), .un]) (by (simp [run, exs, ex, ev, evs, evi, evo, evo', startE, isBrw, pureE, pureEs, pureO, ioOf, lastIo, setTg, setAll, setPar, wipeE, backE, allocE, isLst, isiD, c3] <;> try with_reducible rfl)) (w_skip (ρ1 := [.fz (.lst (l.map D.str)), .fz (.lst (l.map D.str)), .un]) (by (simp [run, exs, ex, ev, evs, evi, evo, evo', startE, isBrw, pureE, pureEs, pureO, ioOf, lastIo, setTg, setAll, setPar, wipeE, backE, allocE, isLst, l1, c4] <;> try with_reducible rfl)) (w_ret e1 rfl (.inr ⟨by simp, .inl rfl, rfl⟩)))))
end Mini
/-! The law's companies and whole kinds. -/
namespace Mini
variable {F : Nat → Fn}
theorem law_pairs (hF : Lv F) (k : Nat) : ∀ m : Nat, 1 ≤ m → m ≤ 7 → F (k + 1) 401 [.int (m : Int)] none = some (.lst ((pairsAll m).map pairD), none) := by
  rw [hF.at k 1]
  generalize F k = B
  exact seven (by refine ⟨?_, ?_, ?_, ?_, ?_, ?_, ?_⟩ <;> kernel_rfl)
theorem comp_sub {n : Nat} {ps qs : List (Nat × Nat)} (C : Comp n ps) (h : qs.Sublist ps) : Comp n qs :=
  ⟨C.lo, C.hi, Nat.le_trans h.length_le C.len, fun p hp => C.ord p (h.subset hp), C.srt.sublist h⟩
theorem comp_goI {α : Type} {turn : D → En → Option (Option D × En)} (toD : α → D) (R : En → Prop) : ∀ (l : List α) (acc : List D) (ρ : En), R ρ → (∀ a ∈ l, ∀ ρ, R ρ → ∃ b ρ', turn (toD a) ρ = some (if b = true then some (toD a) else none, ρ') ∧ R ρ') → acc.length + l.length ≤ LIM →
    ∃ l' ρ', List.Sublist l' l ∧ compGo turn (l.map toD) ρ acc = some (acc ++ l'.map toD, ρ') ∧ R ρ'
  | [], acc, ρ, r, _, _ => ⟨[], ρ, .slnil, by simp [compGo], r⟩
  | a :: l, acc, ρ, r, h, hl => by
    obtain ⟨b, ρ1, e1, r1⟩ := h a (List.mem_cons_self ..) ρ r
    simp only [List.length_cons] at hl
    cases b with
    | false =>
      obtain ⟨l', ρ2, s, e2, r2⟩ := comp_goI toD R l acc ρ1 r1 (fun x hx => h x (List.mem_cons_of_mem _ hx)) (by omega)
      refine ⟨l', ρ2, s.cons _, ?_, r2⟩
      simp only [Bool.false_eq_true, if_false] at e1
      simp only [List.map_cons, compGo, e1]; exact e2
    | true =>
      obtain ⟨l', ρ2, s, e2, r2⟩ := comp_goI toD R l (acc ++ [toD a]) ρ1 r1 (fun x hx => h x (List.mem_cons_of_mem _ hx)) (by simp; omega)
      refine ⟨a :: l', ρ2, s.cons_cons _, ?_, r2⟩
      simp only [if_true] at e1
      simp only [List.map_cons, compGo, e1]
      rw [if_pos (by omega), e2]; simp
section
variable {G : Nat → Option D} {Φ : Fn} {ρ ρ1 ρ2 : En}
theorem ev_compI {own : List Nat} {elt : E} {tg : List Nat} {it : It} {c : Oe} {α : Type} (l : List α) (toD : α → D) (R : En → Prop) (hi : evi G Φ it ρ = some (l.map toD, ρ1)) (hc : clean ρ1 own = true) (hl : l.length ≤ LIM) (h0 : R (wipeE ρ1 own))
    (h : ∀ a ∈ l, ∀ ρ, R ρ → ∃ b ρ', lcT G Φ own elt tg c (toD a) ρ = some (if b = true then some (toD a) else none, ρ') ∧ R ρ') : ∃ l' ρ5, List.Sublist l' l ∧ R ρ5 ∧ ev G Φ (.comp own elt tg it c) ρ = some (.lst (l'.map toD), backE ρ1 ρ5 own) := by
  obtain ⟨l', ρ5, s, e, r⟩ := comp_goI (turn := lcT G Φ own elt tg c) toD R l [] _ h0 h (by simpa using hl)
  refine ⟨l', ρ5, s, r, ?_⟩
  simp only [ev, hi, hc, if_true]
  show (match compGo (lcT G Φ own elt tg c) (l.map toD) (wipeE ρ1 own) [] with
    | some (ds, ρ5) => some (D.lst ds, backE ρ1 ρ5 own)
    | none => none) = _
  rw [e, List.nil_append]
theorem ev_popa' {i : Nat} {e : E} {j : Int} {ds : List D} {n : Nat} {d : D} (h : ev G Φ e ρ = some (.int j, ρ1)) (g0 : isLst (getOwn ρ i) = true) (g : getOwn ρ1 i = some (.lst ds)) (hx : L2.ixN ds.length j = some n) (hd : ds[n]? = some d) (c : chg ρ1 i (.lst (ds.eraseIdx n)) = some ρ2) (nb : isBrw e = false := by rfl) : ev G Φ (.popa i e) ρ = some (d, ρ2) := by
  simp only [ev, nb, g0, h, g, hx, hd, c]; rfl
end
theorem law_company (hF : Lv F) {d : D} (h : Row d) {m : Int} (h0 : 0 < m) (h1 : m ≤ 7) (k : Nat) : ∃ n ps d', F (k + 2) 402 [.int m] (some d) = some (compD n ps, some d') ∧ Comp n ps ∧ (n : Int) ≤ m ∧ Row d' := by
  obtain ⟨a, r1, e1, a0, a1, Q1⟩ := taken_ok hF h (m := m) h0 (by omega) k
  obtain ⟨b, r2, e2, b0, b1, Q2⟩ := taken_ok hF Q1 (m := 3) (by omega) (by omega) k
  obtain ⟨n, hn⟩ : ∃ n : Nat, (n : Int) = 1 + a := ⟨(1 + a).toNat, by omega⟩
  obtain ⟨y, hy, y0, y1⟩ : ∃ y : Int, idxD (.lst [.int 2, .int 3, .int 5]) (.int b) = some (.int y) ∧ 0 < y ∧ y < 1073741824 := by
    have : b = 0 ∨ b = 1 ∨ b = 2 := by omega
    rcases this with rfl | rfl | rfl
    · exact ⟨2, rfl, by omega, by omega⟩
    · exact ⟨3, rfl, by omega, by omega⟩
    · exact ⟨5, rfl, by omega, by omega⟩
  have n1 : 1 ≤ n := by omega
  have n7 : n ≤ 7 := by omega
  have ba : bopD .add (.int 1) (.int a) = some (.int n) := by rw [hn]; rfl
  have p1 := law_pairs hF k n n1 n7
  have C0 := comp_all n n1 n7
  have hlim : LIM = 4000000 := rfl
  obtain ⟨ps, ρ5, sub, ⟨r3, Q3, rfl⟩, ec⟩ := ev_compI (G := GL) (Φ := F (k + 1)) (ρ := [.io r2, .fz (.int m), .fz (.int n), .fz (.int y), .un, .un]) (ρ1 := [.io r2, .fz (.int m), .fz (.int n), .fz (.int y), .un, .un]) (own := [5]) (elt := .var 5) (tg := [5]) (it := .seq (.call 401 (.cons (.var 2) .nil))) (c := .some (.cmp .gt (.call 400 (.io 0 (.cons (.var 3) .nil))) (.int 0)))
    (pairsAll n) pairD (fun ρ => ∃ r, Row r ∧ ρ = [.io r, .fz (.int m), .fz (.int n), .fz (.int y), .un, .un]) (by (simp [run, exs, ex, ev, evs, evi, evo, evo', startE, isBrw, pureE, pureEs, pureO, ioOf, lastIo, setTg, setAll, setPar, wipeE, backE, allocE, isLst, p1, seqD] <;> try with_reducible rfl)) (by simp) (by have := C0.len; omega) ⟨r2, Q2, rfl⟩ (by
      rintro p hp ρ ⟨r, Q, rfl⟩
      obtain ⟨g, r', e', g0, g1, Q'⟩ := taken_ok hF Q (m := y) y0 y1 k
      refine ⟨decide (0 < g), [.io r', .fz (.int m), .fz (.int n), .fz (.int y), .un, .un], ?_, r', Q', rfl⟩
      by_cases hg : 0 < g
      · (simp [run, exs, ex, ev, evs, evi, evo, evo', startE, isBrw, pureE, pureEs, pureO, ioOf, lastIo, setTg, setAll, setPar, wipeE, backE, allocE, isLst, lcT, e', cmpD, hg] <;> try with_reducible rfl)
      · (simp [run, exs, ex, ev, evs, evi, evo, evo', startE, isBrw, pureE, pureEs, pureO, ioOf, lastIo, setTg, setAll, setPar, wipeE, backE, allocE, isLst, lcT, e', cmpD, hg] <;> try with_reducible rfl))
  have C1 := comp_sub C0 sub
  obtain ⟨g, r4, e4, g0, g1, Q4⟩ := taken_ok hF Q3 (m := 4) (by omega) (by omega) k
  have cg : cmpD .eq (.int g) (.int 0) = some (.bl (decide (g = 0))) := by simp [cmpD, eqD]
  have fin : ∀ qs : List (Nat × Nat), ∀ ρ, ρ = [.io r4, .fz (.int m), .fz (.int n), .fz (.int y), .fz (.lst (qs.map pairD)), .un] → W (exs GL (F (k + 1)) (.cons (.ret (.tup (.cons (.var 2) (.cons (.fn .tuple (.cons (.var 4) .nil)) .nil)))) .nil) ρ) fun f ρ => (f = .ret (compD n qs) ∨ f = .nx ∧ compD n qs = .non) ∧ lastIo (some 0) ρ = some (some r4) := fun qs ρ hρ => by
    subst hρ
    exact w_ret (d := compD n qs) (ρ1 := [.io r4, .fz (.int m), .fz (.int n), .fz (.int y), .fz (.lst (qs.map pairD)), .un]) (by (simp [run, exs, ex, ev, evs, evi, evo, evo', startE, isBrw, pureE, pureEs, pureO, ioOf, lastIo, setTg, setAll, setPar, wipeE, backE, allocE, isLst, fnD, LIM, compD] <;> try with_reducible rfl)) rfl ⟨.inl rfl, rfl⟩
  have go : ∃ qs, qs.Sublist ps ∧ W (exs GL (F (k + 1)) df402.body [.io d, .fz (.int m), .un, .un, .un, .un]) fun f ρ => (f = .ret (compD n qs) ∨ f = .nx ∧ compD n qs = .non) ∧ lastIo (some 0) ρ = some (some r4) := by
    by_cases hg : g = 0
    · have ec2 := ev_comp' (G := GL) (Φ := F (k + 1)) (ρ := [.io r4, .fz (.int m), .fz (.int n), .fz (.int y), .fz (.lst (ps.map pairD)), .un]) (ρ1 := [.io r4, .fz (.int m), .fz (.int n), .fz (.int y), .fz (.lst (ps.map pairD)), .un]) (own := [5]) (elt := .var 5) (tg := [5]) (it := .seq (.var 4)) (c := .some (.cmp .lt (.bin .sub (.idx (.var 5) (.int 1)) (.idx (.var 5) (.int 0))) (.int 2)))
        ps pairD (fun p => (if decide ((p.2 : Int) - p.1 < 2) = true then some p else none).map pairD) (by (simp [run, exs, ex, ev, evs, evi, evo, evo', startE, isBrw, pureE, pureEs, pureO, ioOf, lastIo, setTg, setAll, setPar, wipeE, backE, allocE, isLst, seqD] <;> try with_reducible rfl)) (by simp) (by have := C1.len; omega) (by
          intro p hp
          by_cases hlt : (p.2 : Int) - p.1 < 2
          · (simp [run, exs, ex, ev, evs, evi, evo, evo', startE, isBrw, pureE, pureEs, pureO, ioOf, lastIo, setTg, setAll, setPar, wipeE, backE, allocE, isLst, lcT, pairD, bopD, cmpD, hlt] <;> try with_reducible rfl)
          · (simp [run, exs, ex, ev, evs, evi, evo, evo', startE, isBrw, pureE, pureEs, pureO, ioOf, lastIo, setTg, setAll, setPar, wipeE, backE, allocE, isLst, lcT, pairD, bopD, cmpD, hlt] <;> try with_reducible rfl))
      have pm : ∀ l : List (Nat × Nat), l.filterMap (fun p => (if decide ((p.2 : Int) - p.1 < 2) = true then some p else none).map pairD) = (l.filter fun p => decide ((p.2 : Int) - p.1 < 2)).map pairD := fun l => by
        induction l with
        | nil => rfl
        | cons p l ih =>
          rw [List.filterMap_cons, List.filter_cons]
          by_cases q : decide ((p.2 : Int) - p.1 < 2) = true
          · rw [if_pos q, if_pos q, List.map_cons, ← ih]; rfl
          · rw [if_neg q, if_neg q, ← ih]; rfl
      rw [pm] at ec2
      refine ⟨ps.filter fun p => decide ((p.2 : Int) - p.1 < 2), List.filter_sublist .., ?_⟩
      refine w_nx (ρ1 := [.io r2, .fz (.int m), .fz (.int n), .fz (.int y), .un, .un]) (by (simp [run, exs, ex, ev, evs, evi, evo, evo', startE, isBrw, pureE, pureEs, pureO, ioOf, lastIo, setTg, setAll, setPar, wipeE, backE, allocE, isLst, e1, e2, hy, ba, LIM] <;> try with_reducible rfl)) (w_nx (ρ1 := [.io r3, .fz (.int m), .fz (.int n), .fz (.int y), .fz (.lst (ps.map pairD)), .un]) (ex_set' ec (by (simp [run, exs, ex, ev, evs, evi, evo, evo', startE, isBrw, pureE, pureEs, pureO, ioOf, lastIo, setTg, setAll, setPar, wipeE, backE, allocE, isLst] <;> try with_reducible rfl))) (w_if (x := true) (ρ1 := [.io r4, .fz (.int m), .fz (.int n), .fz (.int y), .fz (.lst (ps.map pairD)), .un]) (by (simp [run, exs, ex, ev, evs, evi, evo, evo', startE, isBrw, pureE, pureEs, pureO, ioOf, lastIo, setTg, setAll, setPar, wipeE, backE, allocE, isLst, e4, show cmpD .eq (.int 0) (.int 0) = some (.bl true) from rfl, hg] <;> try with_reducible rfl)) (w_nx (ex_set' ec2 (by (simp [run, exs, ex, ev, evs, evi, evo, evo', startE, isBrw, pureE, pureEs, pureO, ioOf, lastIo, setTg, setAll, setPar, wipeE, backE, allocE, isLst] <;> try with_reducible rfl))) (w_end (.inl ⟨rfl, fin _ _ rfl⟩)))))
    · refine ⟨ps, .refl _, ?_⟩
      refine w_nx (ρ1 := [.io r2, .fz (.int m), .fz (.int n), .fz (.int y), .un, .un]) (by (simp [run, exs, ex, ev, evs, evi, evo, evo', startE, isBrw, pureE, pureEs, pureO, ioOf, lastIo, setTg, setAll, setPar, wipeE, backE, allocE, isLst, e1, e2, hy, ba, LIM] <;> try with_reducible rfl)) (w_nx (ρ1 := [.io r3, .fz (.int m), .fz (.int n), .fz (.int y), .fz (.lst (ps.map pairD)), .un]) (ex_set' ec (by (simp [run, exs, ex, ev, evs, evi, evo, evo', startE, isBrw, pureE, pureEs, pureO, ioOf, lastIo, setTg, setAll, setPar, wipeE, backE, allocE, isLst] <;> try with_reducible rfl))) (w_skip (ρ1 := [.io r4, .fz (.int m), .fz (.int n), .fz (.int y), .fz (.lst (ps.map pairD)), .un]) (by (simp [run, exs, ex, ev, evs, evi, evo, evo', startE, isBrw, pureE, pureEs, pureO, ioOf, lastIo, setTg, setAll, setPar, wipeE, backE, allocE, isLst, e4, cg, hg] <;> try with_reducible rfl)) (fin _ _ rfl)))
  obtain ⟨qs, sub2, hW⟩ := go
  refine ⟨n, qs, r4, ?_, comp_sub C1 sub2, by omega, Q4⟩
  rw [go402 hF]
  exact run_of ⟨rfl, rfl⟩ hW
end Mini
/-! A whole kind that is drawn. -/
namespace Mini
variable {F : Nat → Fn}
theorem erase_map {α β : Type} (f : α → β) : ∀ (l : List α) (i : Nat), (l.map f).eraseIdx i = (l.eraseIdx i).map f
  | [], _ => rfl
  | a :: l, 0 => rfl
  | a :: l, i + 1 => by
    have := erase_map f l i
    simp only [List.map_cons, List.eraseIdx_cons_succ, this]
theorem erase_perm {α : Type} : ∀ (l : List α) (i : Nat) (h : i < l.length), (l[i] :: l.eraseIdx i).Perm l
  | [], i, h => by simp at h
  | a :: l, 0, h => .refl _
  | a :: l, i + 1, h => by
    have := erase_perm l i (by simpa using h)
    simp only [List.getElem_cons_succ, List.eraseIdx_cons_succ]
    exact (List.Perm.swap ..).trans (this.cons a)
theorem list_alph {n : Nat} (h1 : 1 ≤ n) (h2 : n ≤ 7) : fnD .list [.str (firstL n)] = some (.lst ((firstL n).map sg)) := by
  show (if (firstL n).length ≤ LIM then some (D.lst ((firstL n).map fun c => .str [c])) else none) = _
  rw [if_pos]; rfl
  rw [firstL_eq n h1 h2, List.length_map, List.length_range]
  have : LIM = 4000000 := rfl
  omega
theorem firstL_nd {n : Nat} (h1 : 1 ≤ n) (h2 : n ≤ 7) : (firstL n).Nodup := by
  rw [firstL_eq n h1 h2]
  rw [List.nodup_iff_pairwise_ne, List.pairwise_map]
  exact List.pairwise_lt_range.imp fun h => by omega
theorem firstL_len7 {n : Nat} (h1 : 1 ≤ n) (h2 : n ≤ 7) : (firstL n).length = n := by
  rw [firstL_eq n h1 h2]; simp
theorem law_whole (hF : Lv F) {n : Nat} {ps : List (Nat × Nat)} (C : Comp n ps) {d : D} (h : Row d) (k : Nat) : ∃ w d', F (k + 3) 433 [compD n ps] (some d) = some (.str w, some d') ∧ Kind n ps w ∧ w.length = n ∧ Row d' := by
  have n1 := C.lo
  have n7 := C.hi
  have hlim : LIM = 4000000 := rfl
  have s0 : slcD (.str [97, 98, 99, 100, 101, 102, 103]) none (some (n : Int)) = some (.str (firstL n)) := slc_alph n n1 n7
  have i0 : idxD (compD n ps) (.int 0) = some (.int n) := rfl
  have b0 : (-1000000 : Int) ≤ (n : Int) := by omega
  have b1 : (n : Int) ≤ 1000000 := by omega
  have go : ∃ w d', W (exs GL (F (k + 2)) df433.body [.io d, .fz (compD n ps), .un, .un, .un]) (fun f ρ => (f = .ret (.str w) ∨ f = .nx ∧ D.str w = .non) ∧ lastIo (some 0) ρ = some (some d')) ∧ Kind n ps w ∧ w.length = n ∧ Row d' := by
    have key : W (exs GL (F (k + 2)) df433.body [.io d, .fz (compD n ps), .un, .un, .un]) (fun f ρ => ∃ w d', f = .ret (.str w) ∧ lastIo (some 0) ρ = some (some d') ∧ Kind n ps w ∧ w.length = n ∧ Row d') := by
      refine w_nx (ρ1 := [.io d, .fz (compD n ps), .own (.lst ((firstL n).map sg)), .fz (.str []), .un]) (by (simp [run, exs, ex, ev, evs, evi, evo, evo', startE, isBrw, pureE, pureEs, pureO, ioOf, lastIo, setTg, setAll, setPar, wipeE, backE, allocE, isLst, i0, s0, list_alph n1 n7] <;> try with_reducible rfl)) (w_for (xs := rangeD 0 n) (ρ1 := [.io d, .fz (compD n ps), .own (.lst ((firstL n).map sg)), .fz (.str []), .un])
        (fun j ρ => ∃ r l f z, Row r ∧ blS z = true ∧ l.length + j = n ∧ (f ++ l).Perm (firstL n) ∧ ρ = [.io r, .fz (compD n ps), .own (.lst (List.map sg l)), .fz (.str f), z]) (by (simp [run, exs, ex, ev, evs, evi, evo, evo', startE, isBrw, pureE, pureEs, pureO, ioOf, lastIo, setTg, setAll, setPar, wipeE, backE, allocE, isLst, i0, b0, b1] <;> try with_reducible rfl)) ⟨d, firstL n, [], .un, h, rfl, firstL_len7 n1 n7, .refl _, rfl⟩ ?_ ?_)
      · rintro j x ρ hx ⟨r, l, f, z, Q, hz, hl, hp, rfl⟩
        have hj : j < n := by
          have := (List.getElem?_eq_some_iff.mp hx).1
          rw [range_len] at this; omega
        have fl : f.length + l.length = n := by
          have := hp.length_eq
          rwa [List.length_append, firstL_len7 n1 n7] at this
        obtain ⟨a, r1, e1, a0, a1, Q1⟩ := taken_ok hF Q (m := (l.length : Int)) (by omega) (by omega) (k + 1)
        obtain ⟨i, hi⟩ : ∃ i : Nat, (i : Int) = a := ⟨a.toNat, by omega⟩
        subst hi
        have hil : i < l.length := by omega
        have l1 : fnD .len [.lst (List.map sg l)] = some (.int l.length) := by show some (D.int (List.map sg l).length) = _; rw [List.length_map]
        have ea : bopD .add (.str f) (sg l[i]) = some (.str (f ++ [l[i]])) := add_str (by show f.length + 1 ≤ _; omega)
        refine ⟨[.io r, .fz (compD n ps), .own (.lst (List.map sg l)), .fz (.str f), .fz x], by (simp [run, exs, ex, ev, evs, evi, evo, evo', startE, isBrw, pureE, pureEs, pureO, ioOf, lastIo, setTg, setAll, setPar, wipeE, backE, allocE, isLst, setFz_0 _ _ _ (blS_ok hz)] <;> try with_reducible rfl), w_nx (ρ1 := [.io r1, .fz (compD n ps), .own (.lst (List.map sg (l.eraseIdx i))), .fz (.str (f ++ [l[i]])), .fz x]) ?_ (w_end ⟨.inl rfl, r1, l.eraseIdx i, f ++ [l[i]], .fz x, Q1, rfl, by rw [List.length_eraseIdx_of_lt hil]; omega, ?_, rfl⟩)⟩
        · refine ex_set' (d := .str (f ++ [l[i]])) (ρ1 := [.io r1, .fz (compD n ps), .own (.lst (List.map sg (l.eraseIdx i))), .fz (.str f), .fz x]) ?_ (by (simp [run, exs, ex, ev, evs, evi, evo, evo', startE, isBrw, pureE, pureEs, pureO, ioOf, lastIo, setTg, setAll, setPar, wipeE, backE, allocE, isLst] <;> try with_reducible rfl))
          refine ev_bin' (ρ1 := [.io r, .fz (compD n ps), .own (.lst (List.map sg l)), .fz (.str f), .fz x]) (by (simp [run, exs, ex, ev, evs, evi, evo, evo', startE, isBrw, pureE, pureEs, pureO, ioOf, lastIo, setTg, setAll, setPar, wipeE, backE, allocE, isLst] <;> try with_reducible rfl)) ?_ ea
          refine ev_popa' (j := (i : Int)) (ds := List.map sg l) (n := i) (ρ1 := [.io r1, .fz (compD n ps), .own (.lst (List.map sg l)), .fz (.str f), .fz x]) (by (simp [run, exs, ex, ev, evs, evi, evo, evo', startE, isBrw, pureE, pureEs, pureO, ioOf, lastIo, setTg, setAll, setPar, wipeE, backE, allocE, isLst, l1, e1] <;> try with_reducible rfl)) rfl rfl (ixN_ok (by rw [List.length_map]; exact hil)) (by rw [List.getElem?_map, List.getElem?_eq_getElem hil]; rfl) ?_
          rw [show (List.map sg l).eraseIdx i = List.map sg (l.eraseIdx i) from (erase_map sg l i)]
          (simp [run, exs, ex, ev, evs, evi, evo, evo', startE, isBrw, pureE, pureEs, pureO, ioOf, lastIo, setTg, setAll, setPar, wipeE, backE, allocE, isLst] <;> try with_reducible rfl)
        · have := (erase_perm l i hil).append_left f
          rw [List.append_assoc]
          exact this.trans hp
      · rintro ρ' ⟨r, l, f, z, Q, hz, hl, hp, rfl⟩
        rw [range_len, show ((n : Int) - 0).toNat = n by omega] at hl
        have : l = [] := List.length_eq_zero_iff.mp (by omega)
        subst this
        rw [List.append_nil] at hp
        have nd : f.Nodup := hp.nodup_iff.mpr (firstL_nd n1 n7)
        have hlet : Let n f := fun c hc => (mem_firstL n1 n7).mp (hp.mem_iff.mp hc)
        have hlen : f.length = n := by rw [hp.length_eq, firstL_len7 n1 n7]
        have e := law_kind hF C (w0 := f) (by omega) hlet k
        rw [firsts_nodup nd] at e
        refine w_ret (d := .str (lo (fr ps) f)) (ρ1 := [.io r, .fz (compD n ps), .own (.lst []), .fz (.str f), z]) (by (simp [run, exs, ex, ev, evs, evi, evo, evo', startE, isBrw, pureE, pureEs, pureO, ioOf, lastIo, setTg, setAll, setPar, wipeE, backE, allocE, isLst, e] <;> try with_reducible rfl)) rfl ⟨_, r, rfl, rfl, kind_lo C hlet, by rw [lo_len nd, hlen], Q⟩
    obtain ⟨f, ρ, e, w, d', rfl, hl, hk, hw, Q⟩ := key
    exact ⟨w, d', ⟨_, ρ, e, .inl rfl, hl⟩, hk, hw, Q⟩
  obtain ⟨w, d', hW, hk, hl, Q⟩ := go
  refine ⟨w, d', ?_, hk, hl, Q⟩
  rw [go433 hF]
  exact run_of ⟨rfl, rfl⟩ hW
end Mini
/-! The least order of a word is that of its first letters. -/
namespace Mini
theorem takeWhile_all {w : Sg} {y : Nat} (h : y ∉ w) : w.takeWhile (· ≠ y) = w := by
  induction w with
  | nil => rfl
  | cons a w ih =>
    rw [List.mem_cons, not_or] at h
    rw [List.takeWhile_cons_of_pos (by simpa using Ne.symm h.1), ih h.2]
theorem takeWhile_snoc {w : Sg} {y : Nat} (z : Sg) : y ∈ w → (w ++ z).takeWhile (· ≠ y) = w.takeWhile (· ≠ y) := by
  induction w with
  | nil => intro h; cases h
  | cons a w ih =>
    intro h
    by_cases e : a = y
    · subst e; simp
    · rw [List.cons_append, List.takeWhile_cons_of_pos (by simpa using e), List.takeWhile_cons_of_pos (by simpa using e), ih (by
        rcases List.mem_cons.mp h with q | q
        · exact absurd q.symm e
        · exact q)]
theorem ahd_in {w : Sg} {x y c : Nat} (h : y ∈ w) : ahd (w ++ [c]) x y ↔ ahd w x y := by
  unfold ahd; rw [takeWhile_snoc _ h]
theorem ahd_out {w : Sg} {x y : Nat} (h : y ∉ w) : ahd w x y ↔ x ∈ w := by
  unfold ahd; rw [takeWhile_all h]
theorem ahd_new {w : Sg} {x y c : Nat} (h : y ∉ w) : ahd (w ++ [c]) x y ↔ x ∈ w ∨ (x = c ∧ c ≠ y) := by
  by_cases e : c = y
  · subst e
    unfold ahd
    have : (w ++ [c]).takeWhile (fun z => decide (z ≠ c)) = w := by
      induction w with
      | nil => simp
      | cons a w ih =>
        rw [List.mem_cons, not_or] at h
        rw [List.cons_append, List.takeWhile_cons_of_pos (by simpa using Ne.symm h.1), ih h.2]
    rw [this]
    simp
  · rw [ahd_out (w := w ++ [c]) (by rw [List.mem_append, List.mem_singleton, not_or]; exact ⟨h, Ne.symm e⟩), List.mem_append, List.mem_singleton]
    simp [e]
theorem firsts_snoc (w : Sg) (c : Nat) : firsts (w ++ [c]) = if c ∈ w then firsts w else firsts w ++ [c] := by
  unfold firsts
  rw [List.length_append, List.length_singleton, List.range_succ, List.filterMap_append]
  have e1 : (List.range w.length).filterMap (fun j => if (w ++ [c]).getD j 0 ∈ (w ++ [c]).take j then none else some ((w ++ [c]).getD j 0)) = (List.range w.length).filterMap fun j => if w.getD j 0 ∈ w.take j then none else some (w.getD j 0) := by
    refine fmap_congr fun j hj => ?_
    rw [List.mem_range] at hj
    have q : (w ++ [c]).getD j 0 = w.getD j 0 := by
      rw [List.getD_eq_getElem?_getD, List.getD_eq_getElem?_getD, List.getElem?_append_left hj]
    rw [q, List.take_append_of_le_length (by omega)]
  rw [e1]
  have q : (w ++ [c]).getD w.length 0 = c := by
    rw [List.getD_eq_getElem?_getD, List.getElem?_append_right (Nat.le_refl _)]; simp
  have t : (w ++ [c]).take w.length = w := by simp
  simp only [List.filterMap_cons, q, t, List.filterMap_nil]
  by_cases h : c ∈ w
  · simp [h]
  · simp [h]
theorem firsts_like0 (w : Sg) : (∀ x, x ∈ firsts w ↔ x ∈ w) ∧ ∀ x y, ahd (firsts w) x y ↔ ahd w x y := by
  generalize hn : w.length = n
  induction n generalizing w with
  | zero =>
    have : w = [] := List.length_eq_zero_iff.mp hn
    subst this
    exact ⟨fun x => Iff.rfl, fun x y => Iff.rfl⟩
  | succ n ih =>
    obtain ⟨v, c, rfl⟩ : ∃ v c, w = v ++ [c] := ⟨w.dropLast, w.getLast (by intro e; rw [e] at hn; simp at hn), (List.dropLast_concat_getLast _).symm⟩
    obtain ⟨i1, i2⟩ := ih v (by simpa using hn)
    rw [firsts_snoc]
    by_cases h : c ∈ v
    · rw [if_pos h]
      refine ⟨fun x => ?_, fun x y => ?_⟩
      · rw [i1, List.mem_append, List.mem_singleton]
        exact ⟨.inl, fun q => q.elim id fun e => e ▸ h⟩
      · rw [i2]
        by_cases hy : y ∈ v
        · rw [ahd_in hy]
        · rw [ahd_new hy, ahd_out hy]
          exact ⟨.inl, fun q => q.elim id fun e => e.1 ▸ h⟩
    · rw [if_neg h]
      refine ⟨fun x => ?_, fun x y => ?_⟩
      · rw [List.mem_append, List.mem_append, i1]
      · by_cases hy : y ∈ v
        · rw [ahd_in hy, ahd_in ((i1 y).mpr hy), i2]
        · rw [ahd_new hy, ahd_new (fun q => hy ((i1 y).mp q)), i1]
theorem lo_firsts {r : Nat → Nat → Bool} (rr : ∀ a, r a a = false) (w : Sg) : lo r (firsts w) = lo r w := by
  obtain ⟨h1, h2⟩ := firsts_like0 w
  exact lo_like rr _ _ ⟨h1, fun x y _ => h2 x y⟩
end Mini
/-! The least word of a kind and length: plain facts. -/
namespace Mini
section
variable {r : Nat → Nat → Bool}
theorem ahd_head {c : Nat} {v : Sg} {x : Nat} : ¬ ahd (c :: v) x c := by
  unfold ahd
  rw [List.takeWhile_cons_of_neg (by simp)]
  exact fun h => by cases h
theorem ahd_head' {c : Nat} {v : Sg} {y : Nat} (h : y ≠ c) : ahd (c :: v) c y := by
  unfold ahd
  rw [List.takeWhile_cons_of_pos (by simpa using Ne.symm h)]
  exact List.mem_cons_self ..
theorem like_cons (rs : ∀ a b, r a b = r b a) {c : Nat} {v w : Sg} : Like r (c :: v) w ↔ c ∈ w ∧ good r w c = true ∧ Like r (v.filter (· ≠ c)) (w.filter (· ≠ c)) := by
  constructor
  · intro L
    refine ⟨(L.1 c).mp (List.mem_cons_self ..), good_iff.mpr fun o ho => ?_, ?_⟩
    · cases h : r c o with
      | false => rfl
      | true => exact absurd ((L.2 o c h).mpr ho) ahd_head
    · have := like_filter L c
      rwa [List.filter_cons_of_neg (by simp)] at this
  · rintro ⟨hc, hg, L⟩
    rw [good_iff] at hg
    refine ⟨fun x => ?_, fun x y hxy => ?_⟩
    · by_cases e : x = c
      · subst e; simp [hc]
      · have := L.1 x
        simp only [List.mem_filter, decide_eq_true_eq] at this
        simp [e] at this ⊢
        exact this
    · by_cases ey : y = c
      · subst ey
        refine ⟨fun h => absurd h ahd_head, fun h => ?_⟩
        rw [hg x h] at hxy; cases hxy
      · by_cases ex : x = c
        · subst ex
          refine ⟨fun _ => ahd_total hc (Ne.symm ey) fun h => ?_, fun _ => ahd_head' ey⟩
          have := hg y h
          rw [rs, hxy] at this; cases this
        · rw [← ahd_filter (w := c :: v) ex ey, ← ahd_filter (w := w) ex ey, List.filter_cons_of_neg (by simp)]
          exact L.2 x y hxy
/-- what follows a beginning p, told what is left of the kind -/
def fits (r : Nat → Nat → Bool) : Sg → Sg → Sg → Bool
  | _, rest, [] => decide (rest = [])
  | p, rest, c :: w => (decide (c ∈ p) || (decide (c ∈ rest) && good r rest c)) && fits r (p ++ [c]) (rest.filter (· ≠ c)) w
theorem filter_not {c : Nat} {w : Sg} (h : c ∉ w) : w.filter (· ≠ c) = w := by
  rw [List.filter_eq_self]
  intro x hx
  have : x ≠ c := fun q => h (q ▸ hx)
  simpa using this
theorem fits_like (rs : ∀ a b, r a b = r b a) : ∀ (w p rest : Sg), (∀ x ∈ p, x ∉ rest) → (fits r p rest w = true ↔ Like r (w.filter fun x => !decide (x ∈ p)) rest)
  | [], p, rest, _ => by
    unfold fits
    rw [decide_eq_true_eq, List.filter_nil]
    constructor
    · rintro rfl; exact ⟨fun x => Iff.rfl, fun x y _ => Iff.rfl⟩
    · intro L
      cases rest with
      | nil => rfl
      | cons a l => exact absurd ((L.1 a).mpr (List.mem_cons_self ..)) (by simp)
  | c :: w, p, rest, hd => by
    have hd' : ∀ x ∈ p ++ [c], x ∉ rest.filter (· ≠ c) := fun x hx h => by
      rw [List.mem_filter] at h
      rcases List.mem_append.mp hx with hx | hx
      · exact hd x hx h.1
      · rw [List.mem_singleton] at hx; simp [hx] at h
    have ih := fits_like rs w (p ++ [c]) (rest.filter (· ≠ c)) hd'
    unfold fits
    rw [Bool.and_eq_true, ih]
    by_cases hc : c ∈ p
    · have e1 : rest.filter (· ≠ c) = rest := filter_not (hd c hc)
      have e2 : (w.filter fun x => !decide (x ∈ p ++ [c])) = w.filter fun x => !decide (x ∈ p) := by
        refine List.filter_congr fun x _ => ?_
        congr 1
        rw [Bool.eq_iff_iff, decide_eq_true_eq, decide_eq_true_eq, List.mem_append, List.mem_singleton]
        constructor
        · rintro (h | rfl)
          · exact h
          · exact hc
        · exact .inl
      rw [e1, e2, List.filter_cons_of_neg (by simpa using hc)]
      simp [hc]
    · have e2 : (w.filter fun x => !decide (x ∈ p ++ [c])) = (w.filter fun x => !decide (x ∈ p)).filter (· ≠ c) := by
        rw [List.filter_filter]
        refine List.filter_congr fun x _ => ?_
        rw [Bool.eq_iff_iff]
        simp [not_or, and_comm]
      rw [List.filter_cons_of_pos (by simpa using hc), like_cons rs, e2]
      simp [hc, and_assoc]
theorem fits_lo (rs : ∀ a b, r a b = r b a) (rr : ∀ a, r a a = false) {K w : Sg} (hK : lo r K = K) : fits r [] K w = true ↔ lo r w = K := by
  rw [fits_like rs w [] K (fun x h => by cases h)]
  have e : (w.filter fun x => !decide (x ∈ ([] : Sg))) = w := by simp
  rw [e]
  constructor
  · intro L; rw [lo_like rr _ _ L, hK]
  · intro h
    have L := like_lo rs rr w
    rw [h] at L
    exact ⟨fun x => (L.1 x).symm, fun x y hxy => (L.2 x y hxy).symm⟩
theorem fits_len : ∀ (w p rest : Sg), rest.Nodup → fits r p rest w = true → rest.length ≤ w.length
  | [], p, rest, _, h => by
    unfold fits at h
    rw [decide_eq_true_eq] at h
    rw [h]; exact Nat.le_refl _
  | c :: w, p, rest, nd, h => by
    unfold fits at h
    rw [Bool.and_eq_true] at h
    have := fits_len w _ _ (nd.filter _) h.2
    rw [List.length_cons]
    by_cases hc : c ∈ rest
    · have := filter_one nd hc; omega
    · rw [filter_not hc] at this; omega
/-! ### the least one -/
def minL : Sg → Nat
  | [] => 0
  | c :: x => x.foldl min c
theorem foldl_min : ∀ (x : Sg) (c : Nat), (x.foldl min c = c ∨ x.foldl min c ∈ x) ∧ x.foldl min c ≤ c ∧ ∀ a ∈ x, x.foldl min c ≤ a
  | [], c => ⟨.inl rfl, Nat.le_refl _, fun a h => by cases h⟩
  | b :: x, c => by
    obtain ⟨h1, h2, h3⟩ := foldl_min x (min c b)
    rw [List.foldl_cons]
    refine ⟨?_, by omega, fun a ha => ?_⟩
    · rcases h1 with h1 | h1
      · rw [h1]
        rcases Nat.le_total c b with h | h
        · left; omega
        · right; rw [Nat.min_eq_right h]; exact List.mem_cons_self ..
      · exact .inr (List.mem_cons_of_mem _ h1)
    · rcases List.mem_cons.mp ha with rfl | ha
      · omega
      · exact h3 a ha
theorem minL_mem {l : Sg} (h : l ≠ []) : minL l ∈ l := by
  cases l with
  | nil => exact absurd rfl h
  | cons c x =>
    rcases (foldl_min x c).1 with e | e
    · show x.foldl min c ∈ _
      rw [e]; exact List.mem_cons_self ..
    · exact List.mem_cons_of_mem _ e
theorem minL_le {l : Sg} {a : Nat} (h : a ∈ l) : minL l ≤ a := by
  cases l with
  | nil => cases h
  | cons c x =>
    rcases List.mem_cons.mp h with rfl | h
    · exact (foldl_min x a).2.1
    · exact (foldl_min x c).2.2 a h
theorem minL_eq {l : Sg} {m : Nat} (h : m ∈ l) (hl : ∀ x ∈ l, m ≤ x) : m = minL l := by
  have h1 := hl _ (minL_mem (l := l) fun e => by rw [e] at h; cases h)
  have h2 := minL_le h
  omega
def freeS (r : Nat → Nat → Bool) (w : Sg) : Sg := (sortN w).filter (good r w)
theorem mem_freeS {w : Sg} {x : Nat} : x ∈ freeS r w ↔ x ∈ w ∧ good r w x = true := by
  unfold freeS
  rw [List.mem_filter, mem_sortN]
theorem freeS_ne {w : Sg} (h : w ≠ []) : freeS r w ≠ [] := by
  obtain ⟨c, hc⟩ := pick_some (r := r) h
  intro e
  have : c ∈ freeS r w := mem_freeS.mpr ⟨pick_mem hc, List.find?_some hc⟩
  rw [e] at this; cases this
theorem freeS_up (w : Sg) : (freeS r w).Pairwise (· ≤ ·) := (sortN_sorted' w).filter _
def cand (r : Nat → Nat → Bool) (p rest : Sg) (m : Nat) : Sg := (freeS r rest).take 1 ++ if rest.length < m ∧ p ≠ [] then [minL p] else []
def gr (r : Nat → Nat → Bool) : Sg → Sg → Nat → Sg
  | _, _, 0 => []
  | p, rest, m + 1 => minL (cand r p rest (m + 1)) :: gr r (p ++ [minL (cand r p rest (m + 1))]) (rest.filter (· ≠ minL (cand r p rest (m + 1)))) m
theorem gr_len : ∀ (m : Nat) (p rest : Sg), (gr r p rest m).length = m
  | 0, _, _ => rfl
  | m + 1, p, rest => by unfold gr; rw [List.length_cons, gr_len m]
theorem cand_ne {p rest : Sg} {m : Nat} (h : p ≠ [] ∨ rest ≠ []) (hm : rest.length < m + 1) (h0 : rest = [] → 0 < m + 1) : cand r p rest (m + 1) ≠ [] := by
  unfold cand
  by_cases hr : rest = []
  · subst hr
    have hp : p ≠ [] := by
      rcases h with h | h
      · exact h
      · exact absurd rfl h
    rw [if_pos ⟨hm, hp⟩]
    simp
  · have := freeS_ne (r := r) hr
    cases e : freeS r rest with
    | nil => exact absurd e this
    | cons a l => simp
theorem cand_ne' {p rest : Sg} {m : Nat} (h : p ≠ [] ∨ rest ≠ []) (hm : rest.length ≤ m + 1) : cand r p rest (m + 1) ≠ [] := by
  by_cases hr : rest = []
  · subst hr; exact cand_ne h (by simp) (fun _ => by omega)
  · have := freeS_ne (r := r) hr
    unfold cand
    cases e : freeS r rest with
    | nil => exact absurd e this
    | cons a l => simp
theorem cand_mem {p rest : Sg} {m x : Nat} (h : x ∈ cand r p rest m) : (x ∈ rest ∧ good r rest x = true) ∨ (x ∈ p ∧ rest.length < m) := by
  unfold cand at h
  rcases List.mem_append.mp h with h | h
  · exact .inl (mem_freeS.mp (List.mem_of_mem_take h))
  · split at h
    · rename_i hc
      rw [List.mem_singleton] at h
      subst h
      exact .inr ⟨minL_mem hc.2, hc.1⟩
    · cases h
theorem cand_le {p rest : Sg} {m d : Nat} (h : (d ∈ rest ∧ good r rest d = true) ∨ (d ∈ p ∧ rest.length < m)) : minL (cand r p rest m) ≤ d := by
  rcases h with h | ⟨h1, h2⟩
  · have hf := mem_freeS.mpr h
    have up := freeS_up (r := r) rest
    cases e : freeS r rest with
    | nil => rw [e] at hf; cases hf
    | cons a l =>
      have ha : minL (cand r p rest m) ≤ a := minL_le (by unfold cand; rw [e]; simp)
      rw [e] at hf up
      rcases List.mem_cons.mp hf with rfl | hf
      · exact ha
      · exact Nat.le_trans ha (List.rel_of_pairwise_cons up hf)
  · have : minL p ∈ cand r p rest m := by
      unfold cand
      rw [if_pos ⟨h2, fun e => by rw [e] at h1; cases h1⟩]
      simp
    exact Nat.le_trans (minL_le this) (minL_le h1)
theorem gr_fits : ∀ (m : Nat) (p rest : Sg), rest.Nodup → (∀ x ∈ p, x ∉ rest) → (p ≠ [] ∨ rest ≠ []) → rest.length ≤ m → fits r p rest (gr r p rest m) = true
  | 0, p, rest, _, _, _, h => by
    have : rest = [] := List.length_eq_zero_iff.mp (by omega)
    unfold gr fits
    simp [this]
  | m + 1, p, rest, nd, hd, hn, h => by
    unfold gr fits
    have hm := cand_mem (minL_mem (cand_ne' (r := r) hn h))
    generalize minL (cand r p rest (m + 1)) = c at hm
    have hd' : ∀ x ∈ p ++ [c], x ∉ rest.filter (· ≠ c) := fun x hx h => by
      rw [List.mem_filter] at h
      rcases List.mem_append.mp hx with hx | hx
      · exact hd x hx h.1
      · rw [List.mem_singleton] at hx; simp [hx] at h
    have hl : (rest.filter (· ≠ c)).length ≤ m := by
      by_cases hc : c ∈ rest
      · have := filter_one nd hc; omega
      · rw [filter_not hc]
        rcases hm with hm | hm
        · exact absurd hm.1 hc
        · omega
    have ih := gr_fits m (p ++ [c]) (rest.filter (· ≠ c)) (nd.filter _) hd' (.inl (by simp)) hl
    rw [ih, Bool.and_true]
    rcases hm with hm | hm
    · simp [hm.1, hm.2]
    · simp [hm.1]
/-- a ≤ b, by signs -/
def leW (a b : Sg) : Prop := a = b ∨ a < b
theorem gr_le : ∀ (m : Nat) (p rest w : Sg), rest.Nodup → (∀ x ∈ p, x ∉ rest) → w.length = m → fits r p rest w = true → leW (gr r p rest m) w
  | 0, p, rest, w, _, _, hw, _ => by
    have : w = [] := List.length_eq_zero_iff.mp hw
    subst this
    exact .inl rfl
  | m + 1, p, rest, [], _, _, hw, _ => by simp at hw
  | m + 1, p, rest, d :: w, nd, hd, hw, hf => by
    unfold fits at hf
    rw [Bool.and_eq_true] at hf
    rw [List.length_cons] at hw
    obtain ⟨h1, h2⟩ := hf
    have hl := fits_len w _ _ (nd.filter _) h2
    have hd' : ∀ x ∈ p ++ [d], x ∉ rest.filter (· ≠ d) := fun x hx h => by
      rw [List.mem_filter] at h
      rcases List.mem_append.mp hx with hx | hx
      · exact hd x hx h.1
      · rw [List.mem_singleton] at hx; simp [hx] at h
    have hm : minL (cand r p rest (m + 1)) ≤ d := by
      refine cand_le ?_
      rw [Bool.or_eq_true, decide_eq_true_eq, Bool.and_eq_true, decide_eq_true_eq] at h1
      rcases h1 with h1 | h1
      · rw [filter_not (hd d h1)] at hl
        exact .inr ⟨h1, by omega⟩
      · exact .inl h1
    unfold gr
    rcases Nat.lt_or_ge (minL (cand r p rest (m + 1))) d with h | h
    · exact .inr (List.cons_lt_cons_iff.mpr (.inl h))
    · have e : minL (cand r p rest (m + 1)) = d := Nat.le_antisymm hm h
      rw [e]
      rcases gr_le m (p ++ [d]) (rest.filter (· ≠ d)) w (nd.filter _) hd' (by omega) h2 with q | q
      · exact .inl (by rw [q])
      · exact .inr (List.cons_lt_cons_iff.mpr (.inr ⟨rfl, q⟩))
end
end Mini
/-! Letters changed by a map: plain facts. -/
namespace Mini
theorem ahd_map {f : Nat → Nat} {a b : Nat} : ∀ {v : Sg}, ahd (v.map f) a b ↔ ∃ x ∈ v, f x = a ∧ ∀ y, f y = b → ahd v x y
  | [] => by
    constructor
    · intro h; cases h
    · rintro ⟨x, hx, _⟩; cases hx
  | c :: v => by
    constructor
    · intro h
      unfold ahd at h
      rw [List.map_cons] at h
      by_cases hc : f c = b
      · rw [List.takeWhile_cons_of_neg (by simpa using hc)] at h; cases h
      · rw [List.takeWhile_cons_of_pos (by simpa using hc)] at h
        rcases List.mem_cons.mp h with h | h
        · refine ⟨c, List.mem_cons_self .., h.symm, fun y hy => ?_⟩
          have : c ≠ y := fun e => hc (e ▸ hy)
          unfold ahd
          rw [List.takeWhile_cons_of_pos (by simpa using this)]
          exact List.mem_cons_self ..
        · obtain ⟨x, hx, e, hall⟩ := ahd_map.mp h
          refine ⟨x, List.mem_cons_of_mem _ hx, e, fun y hy => ?_⟩
          have : c ≠ y := fun e => hc (e ▸ hy)
          unfold ahd
          rw [List.takeWhile_cons_of_pos (by simpa using this)]
          exact List.mem_cons_of_mem _ (hall y hy)
    · rintro ⟨x, hx, e, hall⟩
      have hc : f c ≠ b := fun q => by
        have := hall c q
        unfold ahd at this
        rw [List.takeWhile_cons_of_neg (by simp)] at this; cases this
      unfold ahd
      rw [List.map_cons, List.takeWhile_cons_of_pos (by simpa using hc)]
      by_cases q : x = c
      · subst q; rw [e]; exact List.mem_cons_self ..
      · refine List.mem_cons_of_mem _ (ahd_map.mpr ⟨x, ?_, e, fun y hy => ?_⟩)
        · rcases List.mem_cons.mp hx with h | h
          · exact absurd h q
          · exact h
        · have h := hall y hy
          have : c ≠ y := fun e => hc (e ▸ hy)
          unfold ahd at h ⊢
          rw [List.takeWhile_cons_of_pos (by simpa using this)] at h
          rcases List.mem_cons.mp h with h | h
          · exact absurd h q
          · exact h
theorem map_like {r1 r2 : Nat → Nat → Bool} {f : Nat → Nat} {v w : Sg} (L : Like r1 v w) (h : ∀ x ∈ v, ∀ y ∈ v, r2 (f y) (f x) = true → r1 y x = true) : Like r2 (v.map f) (w.map f) := by
  refine ⟨fun a => ?_, fun a b hab => ?_⟩
  · rw [List.mem_map, List.mem_map]
    constructor
    · rintro ⟨x, hx, e⟩; exact ⟨x, (L.1 x).mp hx, e⟩
    · rintro ⟨x, hx, e⟩; exact ⟨x, (L.1 x).mpr hx, e⟩
  · rw [ahd_map, ahd_map]
    have out : ∀ x y, x ∈ v → y ∉ v → (ahd v x y ↔ ahd w x y) := fun x y hx hy => by
      rw [ahd_out hy, ahd_out fun h => hy ((L.1 y).mpr h)]
      exact L.1 x
    constructor
    · rintro ⟨x, hx, e, hall⟩
      refine ⟨x, (L.1 x).mp hx, e, fun y hy => ?_⟩
      by_cases hv : y ∈ v
      · exact (L.2 x y (h x hx y hv (by rw [hy, e]; exact hab))).mp (hall y hy)
      · exact (out x y hx hv).mp (hall y hy)
    · rintro ⟨x, hx, e, hall⟩
      have hx' := (L.1 x).mpr hx
      refine ⟨x, hx', e, fun y hy => ?_⟩
      by_cases hv : y ∈ v
      · exact (L.2 x y (h x hx' y hv (by rw [hy, e]; exact hab))).mpr (hall y hy)
      · exact (out x y hx' hv).mpr (hall y hy)
/-! ### the first bad pair -/
theorem mem_pairsAll {n : Nat} {p : Nat × Nat} : p ∈ pairsAll n ↔ p.1 < p.2 ∧ p.2 < n := by
  unfold pairsAll
  rw [List.mem_flatMap]
  constructor
  · rintro ⟨a, ha, h⟩
    rw [List.mem_map] at h
    obtain ⟨i, hi, rfl⟩ := h
    rw [List.mem_range] at ha hi
    simp only
    omega
  · rintro ⟨h1, h2⟩
    refine ⟨p.1, List.mem_range.mpr (by omega), ?_⟩
    rw [List.mem_map]
    exact ⟨p.2 - (p.1 + 1), List.mem_range.mpr (by omega), by obtain ⟨a, b⟩ := p; simp only at h1 h2 ⊢; rw [show a + 1 + (b - (a + 1)) = b by omega]⟩
theorem find_sorted {l : List (Nat × Nat)} (s : l.Pairwise pLt) {bad : Nat × Nat → Bool} {p : Nat × Nat} (hp : p ∈ l) (hb : bad p = true) (hn : ∀ q ∈ l, pLt q p → bad q = false) : l.find? bad = some p := by
  induction l with
  | nil => cases hp
  | cons a l ih =>
    rw [List.pairwise_cons] at s
    rcases List.mem_cons.mp hp with e | hp
    · subst e; rw [List.find?_cons, hb]
    · rw [List.find?_cons, hn a (List.mem_cons_self ..) (s.1 p hp)]
      exact ih s.2 hp fun q hq => hn q (List.mem_cons_of_mem _ hq)
/-- a pair of strangers whose letters are friends -/
def badP (r1 r2 : Nat → Nat → Bool) (w : Sg) (p : Nat × Nat) : Bool := !r1 (97 + p.1) (97 + p.2) && r2 (w.getD p.1 0) (w.getD p.2 0)
def bentL (r1 r2 : Nat → Nat → Bool) (n : Nat) (w : Sg) : List (Nat × Nat) := (pairsAll n).filter (badP r1 r2 w)
/-- no bad pair -/
def okW (r1 r2 : Nat → Nat → Bool) (w : Sg) : Bool := decide (bentL r1 r2 w.length w = [])
theorem okW_iff {r1 r2 : Nat → Nat → Bool} {w : Sg} : okW r1 r2 w = true ↔ ∀ p q, p < q → q < w.length → badP r1 r2 w (p, q) = false := by
  unfold okW bentL
  rw [decide_eq_true_eq, List.filter_eq_nil_iff]
  constructor
  · intro h p q h1 h2
    have := h (p, q) (mem_pairsAll.mpr ⟨h1, h2⟩)
    simpa using this
  · intro h p hp
    have := mem_pairsAll.mp hp
    rw [h p.1 p.2 this.1 this.2]; simp
theorem getD_left {w : Sg} {c i : Nat} (h : i < w.length) : (w ++ [c]).getD i 0 = w.getD i 0 := by
  rw [List.getD_eq_getElem?_getD, List.getD_eq_getElem?_getD, List.getElem?_append_left h]
theorem getD_last {w : Sg} {c : Nat} : (w ++ [c]).getD w.length 0 = c := by
  rw [List.getD_eq_getElem?_getD, List.getElem?_append_right (Nat.le_refl _)]; simp
theorem okW_snoc {r1 r2 : Nat → Nat → Bool} {w : Sg} {c : Nat} : okW r1 r2 (w ++ [c]) = (okW r1 r2 w && (List.range w.length).all fun p => r1 (97 + p) (97 + w.length) || !r2 (w.getD p 0) c) := by
  rw [Bool.eq_iff_iff, Bool.and_eq_true, okW_iff, okW_iff, List.all_eq_true]
  have len : (w ++ [c]).length = w.length + 1 := by simp
  rw [len]
  constructor
  · intro h
    refine ⟨fun p q h1 h2 => ?_, fun p hp => ?_⟩
    · have := h p q h1 (by omega)
      unfold badP at this ⊢
      rwa [getD_left (by show p < w.length; omega), getD_left (by show q < w.length; omega)] at this
    · rw [List.mem_range] at hp
      have := h p w.length hp (by omega)
      unfold badP at this
      rw [getD_left hp, getD_last] at this
      cases e1 : r1 (97 + p) (97 + w.length) <;> cases e2 : r2 (w.getD p 0) c <;> simp_all
  · rintro ⟨h1, h2⟩ p q hpq hq
    unfold badP
    rcases Nat.lt_or_ge q w.length with h | h
    · have := h1 p q hpq h
      unfold badP at this
      rw [getD_left (by show p < w.length; omega), getD_left (by show q < w.length; omega)]
      exact this
    · have hq' : q = w.length := by omega
      subst hq'
      have := h2 p (List.mem_range.mpr hpq)
      rw [getD_left hpq, getD_last]
      cases e1 : r1 (97 + p) (97 + w.length) <;> cases e2 : r2 (w.getD p 0) c <;> simp_all
end Mini
/-! Drawn words and kinds. -/
namespace Mini
variable {F : Nat → Fn}
theorem comp_goS {α : Type} {turn : D → En → Option (Option D × En)} (toD : α → D) (R : En → Prop) (P : D → Prop) : ∀ (l : List α) (acc : List D) (ρ : En), R ρ → (∀ a ∈ l, ∀ ρ, R ρ → ∃ y ρ', turn (toD a) ρ = some (some y, ρ') ∧ P y ∧ R ρ') → acc.length + l.length ≤ LIM →
    ∃ ys ρ', ys.length = l.length ∧ (∀ y ∈ ys, P y) ∧ compGo turn (l.map toD) ρ acc = some (acc ++ ys, ρ') ∧ R ρ'
  | [], acc, ρ, r, _, _ => ⟨[], ρ, rfl, by simp, by simp [compGo], r⟩
  | a :: l, acc, ρ, r, h, hl => by
    obtain ⟨y, ρ1, e1, p1, r1⟩ := h a (List.mem_cons_self ..) ρ r
    simp only [List.length_cons] at hl
    obtain ⟨ys, ρ2, h1, h2, e2, r2⟩ := comp_goS toD R P l (acc ++ [y]) ρ1 r1 (fun x hx => h x (List.mem_cons_of_mem _ hx)) (by simp; omega)
    refine ⟨y :: ys, ρ2, by simp [h1], fun z hz => ?_, ?_, r2⟩
    · rcases List.mem_cons.mp hz with rfl | hz
      · exact p1
      · exact h2 z hz
    · simp only [List.map_cons, compGo, e1]
      rw [if_pos (by omega), e2]; simp
theorem ev_compS {G : Nat → Option D} {Φ : Fn} {ρ ρ1 : En} {own : List Nat} {elt : E} {tg : List Nat} {it : It} {c : Oe} {α : Type} (l : List α) (toD : α → D) (R : En → Prop) (P : D → Prop) (hi : evi G Φ it ρ = some (l.map toD, ρ1)) (hc : clean ρ1 own = true) (hl : l.length ≤ LIM) (h0 : R (wipeE ρ1 own))
    (h : ∀ a ∈ l, ∀ ρ, R ρ → ∃ y ρ', lcT G Φ own elt tg c (toD a) ρ = some (some y, ρ') ∧ P y ∧ R ρ') : ∃ ys ρ5, ys.length = l.length ∧ (∀ y ∈ ys, P y) ∧ R ρ5 ∧ ev G Φ (.comp own elt tg it c) ρ = some (.lst ys, backE ρ1 ρ5 own) := by
  obtain ⟨ys, ρ5, h1, h2, e, r⟩ := comp_goS (turn := lcT G Φ own elt tg c) toD R P l [] _ h0 h (by simpa using hl)
  refine ⟨ys, ρ5, h1, h2, r, ?_⟩
  simp only [ev, hi, hc, if_true]
  show (match compGo (lcT G Φ own elt tg c) (l.map toD) (wipeE ρ1 own) [] with
    | some (ds, ρ5) => some (D.lst ds, backE ρ1 ρ5 own)
    | none => none) = _
  rw [e, List.nil_append]
theorem sgs_of {n : Nat} : ∀ ys : List D, (∀ y ∈ ys, ∃ c, y = sg c ∧ 97 ≤ c ∧ c < 97 + n) → ∃ w : Sg, ys = w.map sg ∧ Let n w
  | [], _ => ⟨[], rfl, fun c h => by cases h⟩
  | y :: ys, h => by
    obtain ⟨c, rfl, h1, h2⟩ := h y (List.mem_cons_self ..)
    obtain ⟨w, rfl, hw⟩ := sgs_of ys fun z hz => h z (List.mem_cons_of_mem _ hz)
    refine ⟨c :: w, rfl, fun x hx => ?_⟩
    rcases List.mem_cons.mp hx with rfl | hx
    · exact ⟨h1, h2⟩
    · exact hw x hx
theorem law_word (hF : Lv F) {n : Nat} {ps : List (Nat × Nat)} (C : Comp n ps) {d : D} (h : Row d) {m : Int} (h0 : 0 < m) (h1 : m < 900) (k : Nat) : ∃ w d', F (k + 2) 408 [compD n ps, .int m] (some d) = some (.str w, some d') ∧ Let n w ∧ w ≠ [] ∧ (w.length : Int) ≤ m ∧ Row d' := by
  have n1 := C.lo
  have n7 := C.hi
  have hlim : LIM = 4000000 := rfl
  obtain ⟨a, r1, e1, a0, a1, Q1⟩ := taken_ok hF h (m := m) h0 (by omega) k
  obtain ⟨j, hj⟩ : ∃ j : Nat, (j : Int) = a := ⟨a.toNat, by omega⟩
  subst hj
  have ba : bopD .add (.int 1) (.int (j : Int)) = some (.int (1 + (j : Int))) := rfl
  have b0 : (-1000000 : Int) ≤ 1 + (j : Int) := by omega
  have b1 : 1 + (j : Int) ≤ 1000000 := by omega
  have i0 : idxD (compD n ps) (.int 0) = some (.int n) := rfl
  have rg : rangeD 0 (1 + (j : Int)) = (List.range (1 + j)).map fun i => D.int ((0 : Int) + (i : Nat)) := by
    unfold rangeD
    rw [show (1 + (j : Int) - 0).toNat = 1 + j by omega]
  obtain ⟨ys, ρ5, hl, hp, ⟨r2, Q2, rfl⟩, ec⟩ := ev_compS (G := GL) (Φ := F (k + 1)) (ρ := [.io d, .fz (compD n ps), .fz (.int m), .un]) (ρ1 := [.io r1, .fz (compD n ps), .fz (.int m), .un]) (own := [3]) (elt := .idx (.str [97, 98, 99, 100, 101, 102, 103]) (.call 400 (.io 0 (.cons (.idx (.var 1) (.int 0)) .nil)))) (tg := [3]) (it := .range1 (.bin .add (.int 1) (.call 400 (.io 0 (.cons (.var 2) .nil))))) (c := .none)
    (List.range (1 + j)) (fun i => D.int ((0 : Int) + (i : Nat))) (fun ρ => ∃ r, Row r ∧ ρ = [.io r, .fz (compD n ps), .fz (.int m), .un]) (fun y => ∃ c, y = sg c ∧ 97 ≤ c ∧ c < 97 + n) (by rw [← rg]; (simp [run, exs, ex, ev, evs, evi, evo, evo', startE, isBrw, pureE, pureEs, pureO, ioOf, lastIo, setTg, setAll, setPar, wipeE, backE, allocE, isLst, e1, ba, b0, b1] <;> try with_reducible rfl)) (by simp) (by rw [List.length_range]; omega) ⟨r1, Q1, rfl⟩ (by
      rintro i hi ρ ⟨r, Q, rfl⟩
      obtain ⟨g, r', e', g0, g1, Q'⟩ := taken_ok hF Q (m := (n : Int)) (by omega) (by omega) k
      obtain ⟨q, hq⟩ : ∃ q : Nat, (q : Int) = g := ⟨g.toNat, by omega⟩
      subst hq
      have ix : idxD (.str [97, 98, 99, 100, 101, 102, 103]) (.int (q : Int)) = some (.str [97 + q]) := alph_idx q (by omega)
      refine ⟨sg (97 + q), [.io r', .fz (compD n ps), .fz (.int m), .un], ?_, ⟨97 + q, rfl, by omega, by omega⟩, r', Q', rfl⟩
      (simp [run, exs, ex, ev, evs, evi, evo, evo', startE, isBrw, pureE, pureEs, pureO, ioOf, lastIo, setTg, setAll, setPar, wipeE, backE, allocE, isLst, lcT, e', i0, ix, sg] <;> try with_reducible rfl))
  obtain ⟨w, rfl, hw⟩ := sgs_of ys hp
  rw [List.length_map, List.length_range] at hl
  refine ⟨w, r2, ?_, hw, fun q => by rw [q] at hl; simp at hl; omega, by omega, Q2⟩
  rw [go408 hF]
  have jn := join_sgs (w := w) (by omega)
  refine run_of ⟨rfl, rfl⟩ (show W (exs GL (F (k + 1)) df408.body [.io d, .fz (compD n ps), .fz (.int m), .un]) _ from w_ret (d := .str w) (ρ1 := [.io r2, .fz (compD n ps), .fz (.int m), .un]) ?_ rfl ⟨.inl rfl, rfl⟩)
  exact ev_mt' (x := .str []) (ρ1 := [.io d, .fz (compD n ps), .fz (.int m), .un]) (by (simp [run, exs, ex, ev, evs, evi, evo, evo', startE, isBrw, pureE, pureEs, pureO, ioOf, lastIo, setTg, setAll, setPar, wipeE, backE, allocE, isLst] <;> try with_reducible rfl)) (evs_cons' ec (by (simp [run, exs, ex, ev, evs, evi, evo, evo', startE, isBrw, pureE, pureEs, pureO, ioOf, lastIo, setTg, setAll, setPar, wipeE, backE, allocE, isLst] <;> try with_reducible rfl))) jn
end Mini
/-! Drawn kinds; words, their kinds. -/
namespace Mini
variable {F : Nat → Fn}
theorem join_txt {w : Sg} (h : w.length < 1000) : mtD .join (.str []) [.str w] = some (.str w) := by
  show (if w.length + w.length * ([] : Sg).length ≤ LIM then some (D.str (joinS [] (w.map fun c => [c]))) else none) = _
  rw [joinS_sg, if_pos (by show w.length + w.length * 0 ≤ _; have : LIM = 4000000 := rfl; omega)]
theorem law_drawn_kind (hF : Lv F) {n : Nat} {ps : List (Nat × Nat)} (C : Comp n ps) {d : D} (h : Row d) (k : Nat) : ∃ w d', F (k + 3) 428 [compD n ps] (some d) = some (.str w, some d') ∧ Kind n ps w ∧ Row d' := by
  have n1 := C.lo
  have n7 := C.hi
  obtain ⟨w1, r1, e1, l1, _, len1, Q1⟩ := law_word hF C h (m := 2 * (n : Int)) (by omega) (by omega) k
  obtain ⟨a, r2, e2, a0, a1, Q2⟩ := taken_ok hF Q1 (m := 9) (by omega) (by omega) (k + 1)
  have i0 : idxD (compD n ps) (.int 0) = some (.int n) := rfl
  have bm : bopD .mul (.int 2) (.int (n : Int)) = some (.int (2 * (n : Int))) := by simp [bopD, bmul]
  have cg : cmpD .gt (.int a) (.int 0) = some (.bl (decide (0 < a))) := rfl
  have key : ∃ w, Let n w ∧ w.length < 64 ∧ idxD (.lst [.str [], .str w1]) (.int (if decide (0 < a) = true then 1 else 0)) = some (.str w) := by
    by_cases q : 0 < a
    · exact ⟨w1, l1, by omega, by simp [q]; rfl⟩
    · exact ⟨[], fun c h => (by cases h), by simp, by simp [q]; rfl⟩
  obtain ⟨w, lw, hw, ix⟩ := key
  have lk := law_kind hF C hw lw k
  refine ⟨lo (fr ps) (firsts w), r2, ?_, kind_lo C fun c hc => lw c (firsts_mem hc), Q2⟩
  rw [go428 hF]
  have jn := join_txt (w := w) (by omega)
  have fi : fnD .int [.bl (decide (0 < a))] = some (.int (if decide (0 < a) = true then 1 else 0)) := rfl
  refine run_of ⟨rfl, rfl⟩ (show W (exs GL (F (k + 2)) df428.body [.io d, .fz (compD n ps)]) _ from w_ret (d := .str (lo (fr ps) (firsts w))) (ρ1 := [.io r2, .fz (compD n ps)]) ?_ rfl ⟨.inl rfl, rfl⟩)
  refine ev_call' (ds := [compD n ps, .str w]) (evs_cons' (ρ1 := [.io d, .fz (compD n ps)]) (by (simp [run, exs, ex, ev, evs, evi, evo, evo', startE, isBrw, pureE, pureEs, pureO, ioOf, lastIo, setTg, setAll, setPar, wipeE, backE, allocE, isLst] <;> try with_reducible rfl)) (evs_cons' (x := .str w) (ρ1 := [.io r2, .fz (compD n ps)]) ?_ (by (simp [run, exs, ex, ev, evs, evi, evo, evo', startE, isBrw, pureE, pureEs, pureO, ioOf, lastIo, setTg, setAll, setPar, wipeE, backE, allocE, isLst] <;> try with_reducible rfl)))) lk
  refine ev_mt' (x := .str []) (ds := [.str w]) (ρ1 := [.io d, .fz (compD n ps)]) (by (simp [run, exs, ex, ev, evs, evi, evo, evo', startE, isBrw, pureE, pureEs, pureO, ioOf, lastIo, setTg, setAll, setPar, wipeE, backE, allocE, isLst] <;> try with_reducible rfl)) (evs_cons' (x := .str w) (ρ1 := [.io r2, .fz (compD n ps)]) ?_ (by (simp [run, exs, ex, ev, evs, evi, evo, evo', startE, isBrw, pureE, pureEs, pureO, ioOf, lastIo, setTg, setAll, setPar, wipeE, backE, allocE, isLst] <;> try with_reducible rfl))) jn
  refine ev_idx' (x := .lst [.str [], .str w1]) (y := .int (if decide (0 < a) = true then 1 else 0)) (ρ1 := [.io r1, .fz (compD n ps)]) ?_ (ev_fn1' (x := .bl (decide (0 < a))) ?_ fi) ix
  · (simp [run, exs, ex, ev, evs, evi, evo, evo', startE, isBrw, pureE, pureEs, pureO, ioOf, lastIo, setTg, setAll, setPar, wipeE, backE, allocE, isLst, i0, bm, e1, LIM] <;> try with_reducible rfl)
  · (simp [run, exs, ex, ev, evs, evi, evo, evo', startE, isBrw, pureE, pureEs, pureO, ioOf, lastIo, setTg, setAll, setPar, wipeE, backE, allocE, isLst, e2, cg] <;> try with_reducible rfl)
theorem take_snoc {α : Type} {w : List α} {j : Nat} (h : j < w.length) : w.take (j + 1) = w.take j ++ [w[j]] := List.take_succ_eq_append_getElem h
theorem first_stands (hF : Lv F) {w : Sg} (hw : w.length < 1000) (k : Nat) : F (k + 1) 56 [.str w] none = some (.str (firsts w), none) := by
  rw [go56 hF]
  have hlim : LIM = 4000000 := rfl
  refine run_of ⟨rfl, rfl⟩ (show W (exs GL (F k) df56.body [.fz (.str w), .un, .un]) _ from
    w_nx (ρ1 := [.fz (.str w), .fz (.str []), .un]) (by (simp [run, exs, ex, ev, evs, evi, evo, evo', startE, isBrw, pureE, pureEs, pureO, ioOf, lastIo, setTg, setAll, setPar, wipeE, backE, allocE, isLst] <;> try with_reducible rfl)) (w_for (xs := w.map sg) (ρ1 := [.fz (.str w), .fz (.str []), .un]) (fun j ρ => ∃ z, blS z = true ∧ ρ = [.fz (.str w), .fz (.str (firsts (w.take j))), z]) (by (simp [run, exs, ex, ev, evs, evi, evo, evo', startE, isBrw, pureE, pureEs, pureO, ioOf, lastIo, setTg, setAll, setPar, wipeE, backE, allocE, isLst, seq_str] <;> try with_reducible rfl)) ⟨.un, rfl, rfl⟩ ?_ ?_))
  · rintro j x ρ hx ⟨z, hz, rfl⟩
    rw [List.getElem?_map, Option.map_eq_some_iff] at hx
    obtain ⟨c, hc, rfl⟩ := hx
    obtain ⟨hj, ej⟩ := List.getElem?_eq_some_iff.mp hc
    have fl := firsts_len (w.take j)
    rw [List.length_take] at fl
    have ea : bopD .add (.str (firsts (w.take j))) (.str [c]) = some (.str (firsts (w.take j) ++ [c])) := add_str (by show (firsts (w.take j)).length + 1 ≤ _; omega)
    have fm := (firsts_like0 (w.take j)).1 c
    refine ⟨[.fz (.str w), .fz (.str (firsts (w.take j))), .fz (sg c)], by (simp [run, exs, ex, ev, evs, evi, evo, evo', startE, isBrw, pureE, pureEs, pureO, ioOf, lastIo, setTg, setAll, setPar, wipeE, backE, allocE, isLst, setFz_0 _ _ _ (blS_ok hz)] <;> try with_reducible rfl), w_ite_app (x := !decide (c ∈ firsts (w.take j))) (ρ2 := [.fz (.str w), .fz (.str (firsts (w.take j) ++ [c])), .fz (sg c)]) (by (simp [run, exs, ex, ev, evs, evi, evo, evo', startE, isBrw, pureE, pureEs, pureO, ioOf, lastIo, setTg, setAll, setPar, wipeE, backE, allocE, isLst, sg, notin_str] <;> try with_reducible rfl)) (fun _ => by (simp [run, exs, ex, ev, evs, evi, evo, evo', startE, isBrw, pureE, pureEs, pureO, ioOf, lastIo, setTg, setAll, setPar, wipeE, backE, allocE, isLst, sg, ea] <;> try with_reducible rfl)) (fun hg => ⟨.inl rfl, .fz (sg c), rfl, ?_⟩) (fun hg => ⟨.inl rfl, .fz (sg c), rfl, ?_⟩)⟩
    · have : ¬ c ∈ w.take j := fun q => by simp [fm.mpr q] at hg
      rw [take_snoc hj, ej, firsts_snoc, if_neg this]
    · have : c ∈ w.take j := fm.mp (by simpa using hg)
      rw [take_snoc hj, ej, firsts_snoc, if_pos this]
  · rintro ρ' ⟨z, hz, rfl⟩
    rw [List.length_map, List.take_length]
    exact w_ret (d := .str (firsts w)) (ρ1 := [.fz (.str w), .fz (.str (firsts w)), z]) (by (simp [run, exs, ex, ev, evs, evi, evo, evo', startE, isBrw, pureE, pureEs, pureO, ioOf, lastIo, setTg, setAll, setPar, wipeE, backE, allocE, isLst] <;> try with_reducible rfl)) rfl ⟨.inl rfl, rfl⟩
theorem is_word (hF : Lv F) {n : Nat} {ps : List (Nat × Nat)} (C : Comp n ps) {w : Sg} (hw : Let n w) (h1 : w ≠ []) {m : Nat} (hm : w.length ≤ m) (m1 : m < 900) (k : Nat) : F (k + 1) 48 [compD n ps, .str w, .int m] none = some (.bl true, none) := by
  rw [go48 hF]
  have hn := C.hi
  have n1 := C.lo
  have hlim : LIM = 4000000 := rfl
  have lw : w.length < 1000 := by omega
  have hl : 0 < w.length := List.length_pos_iff.mpr h1
  have c1 : cmpD .le (.int 1) (.int (w.length : Int)) = some (.bl true) := by simp [cmpD]; omega
  have c2 : cmpD .le (.int (w.length : Int)) (.int (m : Int)) = some (.bl true) := by simp [cmpD]; omega
  refine run_of ⟨rfl, rfl⟩ (show W (exs GL (F k) df48.body [.fz (compD n ps), .fz (.str w), .fz (.int m), .un]) _ from
    w_skip (ρ1 := [.fz (compD n ps), .fz (.str w), .fz (.int m), .un]) (by (simp [run, exs, ex, ev, evs, evi, evo, evo', startE, isBrw, pureE, pureEs, pureO, ioOf, lastIo, setTg, setAll, setPar, wipeE, backE, allocE, isLst, isiD, len_str lw, c1, c2] <;> try with_reducible rfl)) (w_ret (d := .bl true) (ρ1 := [.fz (compD n ps), .fz (.str w), .fz (.int m), .un]) ?_ rfl ⟨.inl rfl, rfl⟩))
  have hall : (w.all fun c => decide (c ∈ firstL n)) = true := by
    rw [List.all_eq_true]
    intro c hc
    rw [decide_eq_true_eq, mem_firstL n1 hn]
    exact hw c hc
  have e := ev_fn1' (G := GL) (Φ := F k) (ρ := [.fz (compD n ps), .fz (.str w), .fz (.int m), .un]) (b := .all) (a := .comp [3] (.cmp .isin (.var 3) (.slc (.glob 2) .none (.some (.idx (.var 0) (.int 0))))) [3] (.seq (.var 1)) .none)
    (ev_comp' w sg (fun c => some (.bl (decide (c ∈ firstL n)))) (by (simp [run, exs, ex, ev, evs, evi, evo, evo', startE, isBrw, pureE, pureEs, pureO, ioOf, lastIo, setTg, setAll, setPar, wipeE, backE, allocE, isLst, seq_str] <;> try with_reducible rfl)) (by simp) (by omega) fun c _ => by (simp [run, exs, ex, ev, evs, evi, evo, evo', startE, isBrw, pureE, pureEs, pureO, ioOf, lastIo, setTg, setAll, setPar, wipeE, backE, allocE, isLst, lcT, sg, compD, g2, slc_alph n n1 hn, in_str] <;> try with_reducible rfl)) (all_map _ _)
  rw [hall] at e
  exact e
theorem need_word (hF : Lv F) {n : Nat} {ps : List (Nat × Nat)} (C : Comp n ps) {w : Sg} (hw : Let n w) (h1 : w ≠ []) (hm : w.length ≤ 60) (k : Nat) : F (k + 2) 49 [compD n ps, .str w] none = some (.non, none) := by
  rw [go49 hF]
  have s1 := is_word hF C hw h1 (m := 60) hm (by omega) k
  have s1 : F (k + 1) 48 [compD n ps, .str w, .int 60] none = some (.bl true, none) := s1
  have g4 : GL 4 = some (.int 60) := rfl
  refine run_of ⟨rfl, rfl⟩ (show W (exs GL (F (k + 1)) df49.body [.fz (compD n ps), .fz (.str w)]) _ from
    w_skip (ρ1 := [.fz (compD n ps), .fz (.str w)]) (by (simp [run, exs, ex, ev, evs, evi, evo, evo', startE, isBrw, pureE, pureEs, pureO, ioOf, lastIo, setTg, setAll, setPar, wipeE, backE, allocE, isLst, s1, g4] <;> try with_reducible rfl)) (w_end ⟨.inr ⟨rfl, rfl⟩, rfl⟩))
theorem need_both (hF : Lv F) {n : Nat} {ps : List (Nat × Nat)} (C : Comp n ps) {w : Sg} (hw : Let n w) (h1 : w ≠ []) (hm : w.length ≤ 60) (k : Nat) : F (k + 4) 285 [compD n ps, .str w] none = some (.non, none) := by
  rw [go285 hF]
  have s1 := need_company hF C k
  have s2 := need_word hF C hw h1 hm (k + 1)
  refine run_of ⟨rfl, rfl⟩ (show W (exs GL (F (k + 3)) df285.body [.fz (compD n ps), .fz (.str w)]) _ from
    w_nx (ρ1 := [.fz (compD n ps), .fz (.str w)]) (by (simp [run, exs, ex, ev, evs, evi, evo, evo', startE, isBrw, pureE, pureEs, pureO, ioOf, lastIo, setTg, setAll, setPar, wipeE, backE, allocE, isLst, s1] <;> try with_reducible rfl)) (w_nx (ρ1 := [.fz (compD n ps), .fz (.str w)]) (by (simp [run, exs, ex, ev, evs, evi, evo, evo', startE, isBrw, pureE, pureEs, pureO, ioOf, lastIo, setTg, setAll, setPar, wipeE, backE, allocE, isLst, s2] <;> try with_reducible rfl)) (w_end ⟨.inr ⟨rfl, rfl⟩, rfl⟩)))
theorem kind_of (hF : Lv F) {n : Nat} {ps : List (Nat × Nat)} (C : Comp n ps) {w : Sg} (hw : Let n w) (hm : w.length ≤ 60) (k : Nat) : F (k + 2) 286 [compD n ps, .str w] none = some (.str (lo (fr ps) (firsts w)), none) := by
  rw [go286 hF]
  have s1 := friends_of_all hF C k
  have s2 := first_stands hF (w := w) (by omega) k
  have fl := firsts_len w
  have s3 := least_order hF C (w0 := firsts w) (by omega) (fun c hc => hw c (firsts_mem hc)) k
  refine run_of ⟨rfl, rfl⟩ (show W (exs GL (F (k + 1)) df286.body [.fz (compD n ps), .fz (.str w)]) _ from
    w_ret (d := .str (lo (fr ps) (firsts w))) (ρ1 := [.fz (compD n ps), .fz (.str w)]) (by (simp [run, exs, ex, ev, evs, evi, evo, evo', startE, isBrw, pureE, pureEs, pureO, ioOf, lastIo, setTg, setAll, setPar, wipeE, backE, allocE, isLst, s1, s2, s3] <;> try with_reducible rfl)) rfl ⟨.inl rfl, rfl⟩)
theorem kind_ok (hF : Lv F) {n : Nat} {ps : List (Nat × Nat)} (C : Comp n ps) {w : Sg} (hw : Let n w) (h1 : w ≠ []) (hm : w.length ≤ 60) (k : Nat) : F (k + 5) 287 [compD n ps, .str w] none = some (.str (lo (fr ps) (firsts w)), none) := by
  rw [go287 hF]
  have s1 := need_both hF C hw h1 hm k
  have s2 := kind_of hF C hw hm (k + 2)
  refine run_of ⟨rfl, rfl⟩ (show W (exs GL (F (k + 4)) df287.body [.fz (compD n ps), .fz (.str w)]) _ from
    w_nx (ρ1 := [.fz (compD n ps), .fz (.str w)]) (by (simp [run, exs, ex, ev, evs, evi, evo, evo', startE, isBrw, pureE, pureEs, pureO, ioOf, lastIo, setTg, setAll, setPar, wipeE, backE, allocE, isLst, s1] <;> try with_reducible rfl)) (w_ret (d := .str (lo (fr ps) (firsts w))) (ρ1 := [.fz (compD n ps), .fz (.str w)]) (by (simp [run, exs, ex, ev, evs, evi, evo, evo', startE, isBrw, pureE, pureEs, pureO, ioOf, lastIo, setTg, setAll, setPar, wipeE, backE, allocE, isLst, s2] <;> try with_reducible rfl)) rfl ⟨.inl rfl, rfl⟩))
/-! ### all words of a length -/
def allW (n : Nat) : Nat → List Sg
  | 0 => [[]]
  | m + 1 => (allW n m).flatMap fun w => (firstL n).map fun c => w ++ [c]
theorem firstL_len' {n : Nat} (h1 : 1 ≤ n) (h2 : n ≤ 7) : (firstL n).length = n := firstL_len7 h1 h2
theorem flat_len (n : Nat) (h1 : 1 ≤ n) (h2 : n ≤ 7) : ∀ l : List Sg, (l.flatMap fun w => (firstL n).map fun c => w ++ [c]).length = l.length * n
  | [] => by simp
  | w :: l => by
    rw [List.flatMap_cons, List.length_append, flat_len n h1 h2 l, List.length_map, firstL_len' h1 h2, List.length_cons, Nat.succ_mul]; omega
theorem allW_len (n : Nat) (h1 : 1 ≤ n) (h2 : n ≤ 7) : ∀ m, (allW n m).length = n ^ m
  | 0 => rfl
  | m + 1 => by
    show ((allW n m).flatMap _).length = _
    rw [flat_len n h1 h2, allW_len n h1 h2 m, Nat.pow_succ]
theorem allW_word {n : Nat} (h1 : 1 ≤ n) (h2 : n ≤ 7) : ∀ m w, w ∈ allW n m ↔ Let n w ∧ w.length = m
  | 0, w => by
    show w ∈ [[]] ↔ _
    rw [List.mem_singleton]
    constructor
    · rintro rfl; exact ⟨fun c h => (by cases h), rfl⟩
    · rintro ⟨_, h⟩; exact List.length_eq_zero_iff.mp h
  | m + 1, w => by
    show w ∈ (allW n m).flatMap _ ↔ _
    rw [List.mem_flatMap]
    constructor
    · rintro ⟨v, hv, h⟩
      obtain ⟨l, e⟩ := (allW_word h1 h2 m v).mp hv
      rw [List.mem_map] at h
      obtain ⟨c, hc, rfl⟩ := h
      refine ⟨fun x hx => ?_, by simp [e]⟩
      rcases List.mem_append.mp hx with hx | hx
      · exact l x hx
      · rw [List.mem_singleton] at hx; subst hx; exact (mem_firstL h1 h2).mp hc
    · rintro ⟨l, e⟩
      have hne : w ≠ [] := fun q => by rw [q] at e; simp at e
      refine ⟨w.dropLast, (allW_word h1 h2 m _).mpr ⟨fun c hc => l c (List.dropLast_subset _ hc), by simp [e]⟩, ?_⟩
      rw [List.mem_map]
      exact ⟨w.getLast hne, (mem_firstL h1 h2).mpr (l _ (List.getLast_mem hne)), List.dropLast_concat_getLast hne⟩
theorem firstL_up {n : Nat} (h1 : 1 ≤ n) (h2 : n ≤ 7) : (firstL n).Pairwise (· < ·) := by
  rw [firstL_eq n h1 h2]
  rw [List.pairwise_map]
  exact List.pairwise_lt_range.imp fun h => by omega
theorem lt_append : ∀ {v w : Sg} (a b : Sg), v.length = w.length → v < w → v ++ a < w ++ b
  | [], [], a, b, _, h => absurd h (List.lt_irrefl _)
  | [], y :: w, a, b, hl, _ => by simp at hl
  | x :: v, [], a, b, hl, _ => by simp at hl
  | x :: v, y :: w, a, b, hl, h => by
    rcases List.cons_lt_cons_iff.mp h with q | q
    · exact List.cons_lt_cons_iff.mpr (.inl q)
    · exact List.cons_lt_cons_iff.mpr (.inr ⟨q.1, lt_append a b (by simpa using hl) q.2⟩)
theorem lt_append_same (a b : Sg) : ∀ {v : Sg}, a < b → v ++ a < v ++ b
  | [], h => h
  | x :: v, h => List.cons_lt_cons_iff.mpr (.inr ⟨rfl, lt_append_same a b h⟩)
theorem allW_up {n : Nat} (h1 : 1 ≤ n) (h2 : n ≤ 7) : ∀ m, (allW n m).Pairwise (· < ·)
  | 0 => List.pairwise_singleton ..
  | m + 1 => by
    show ((allW n m).flatMap _).Pairwise _
    rw [List.pairwise_flatMap]
    refine ⟨fun w _ => ?_, ?_⟩
    · rw [List.pairwise_map]
      exact (firstL_up h1 h2).imp fun h => lt_append_same _ _ (List.cons_lt_cons_iff.mpr (.inl h))
    · refine (allW_up h1 h2 m).imp_of_mem fun {v w} hv hw h => ?_
      rintro x hx y hy
      rw [List.mem_map] at hx hy
      obtain ⟨c, _, rfl⟩ := hx
      obtain ⟨d, _, rfl⟩ := hy
      exact lt_append _ _ (by rw [((allW_word h1 h2 m v).mp hv).2, ((allW_word h1 h2 m w).mp hw).2]) h
theorem law_all_words (hF : Lv F) {n : Nat} {ps : List (Nat × Nat)} (C : Comp n ps) {m : Nat} (hm : n ^ m ≤ 100000) (m9 : m < 60) (k : Nat) : F (k + 1) 413 [compD n ps, .int m] none = some (.lst ((allW n m).map D.str), none) := by
  rw [go413 hF]
  have hlim : LIM = 4000000 := rfl
  have hn := C.hi
  have n1 := C.lo
  have i0 : idxD (compD n ps) (.int 0) = some (.int n) := rfl
  have sa : slcD (.str [97, 98, 99, 100, 101, 102, 103]) none (some (n : Int)) = some (.str (firstL n)) := slc_alph n n1 hn
  have fl := firstL_len' n1 hn
  have b0 : (-1000000 : Int) ≤ (m : Int) := by omega
  have b1 : (m : Int) ≤ 1000000 := by omega
  refine run_of ⟨rfl, rfl⟩ (show W (exs GL (F k) df413.body [.fz (compD n ps), .fz (.int m), .un, .un, .un, .un, .un]) _ from
    w_nx (ρ1 := [.fz (compD n ps), .fz (.int m), .fz (.lst ([.str []])), .un, .un, .un, .un]) (by (simp [run, exs, ex, ev, evs, evi, evo, evo', startE, isBrw, pureE, pureEs, pureO, ioOf, lastIo, setTg, setAll, setPar, wipeE, backE, allocE, isLst, LIM] <;> try with_reducible rfl)) (w_for (xs := rangeD 0 m) (ρ1 := [.fz (compD n ps), .fz (.int m), .fz (.lst ([.str []])), .un, .un, .un, .un]) (fun j ρ => ∃ t l w, blS t = true ∧ blS l = true ∧ blS w = true ∧ ρ = [.fz (compD n ps), .fz (.int m), .fz (.lst ((allW n j).map D.str)), t, l, w, .un]) (by (simp [run, exs, ex, ev, evs, evi, evo, evo', startE, isBrw, pureE, pureEs, pureO, ioOf, lastIo, setTg, setAll, setPar, wipeE, backE, allocE, isLst, b0, b1] <;> try with_reducible rfl)) ⟨.un, .un, .un, rfl, rfl, rfl, rfl⟩ ?_ ?_))
  · rintro j x ρ hx ⟨t, l, w, ht, hl, hw, rfl⟩
    have jm : j < m := by
      have := (List.getElem?_eq_some_iff.mp hx).1
      rw [range_len] at this; omega
    have lj := allW_len n n1 hn j
    have lj1 : n ^ (j + 1) ≤ 100000 := Nat.le_trans (Nat.pow_le_pow_right n1 jm) hm
    have ljs : n ^ j * n ≤ 100000 := by rw [← Nat.pow_succ]; exact lj1
    have lj0 : n ^ j ≤ 100000 := Nat.le_trans (Nat.le_mul_of_pos_right _ n1) ljs
    refine ⟨[.fz (compD n ps), .fz (.int m), .fz (.lst ((allW n j).map D.str)), .fz x, l, w, .un], by (simp [run, exs, ex, ev, evs, evi, evo, evo', startE, isBrw, pureE, pureEs, pureO, ioOf, lastIo, setTg, setAll, setPar, wipeE, backE, allocE, isLst, setFz_0 _ _ _ (blS_ok ht)] <;> try with_reducible rfl), w_nx (ρ1 := [.fz (compD n ps), .fz (.int m), .fz (.lst ((allW n j).map D.str)), .fz x, .fz (.lst []), w, .un]) (by (simp [run, exs, ex, ev, evs, evi, evo, evo', startE, isBrw, pureE, pureEs, pureO, ioOf, lastIo, setTg, setAll, setPar, wipeE, backE, allocE, isLst, setFz_0 _ _ _ (blS_ok hl), LIM] <;> try with_reducible rfl)) ?_⟩
    refine w_for (xs := (allW n j).map D.str) (ρ1 := [.fz (compD n ps), .fz (.int m), .fz (.lst ((allW n j).map D.str)), .fz x, .fz (.lst []), w, .un]) (fun i ρ => ∃ w, blS w = true ∧ ρ = [.fz (compD n ps), .fz (.int m), .fz (.lst ((allW n j).map D.str)), .fz x, .fz (.lst ((((allW n j).take i).flatMap fun w => (firstL n).map fun c => w ++ [c]).map D.str)), w, .un]) (by (simp [run, exs, ex, ev, evs, evi, evo, evo', startE, isBrw, pureE, pureEs, pureO, ioOf, lastIo, setTg, setAll, setPar, wipeE, backE, allocE, isLst, seqD] <;> try with_reducible rfl)) ⟨w, hw, rfl⟩ ?_ ?_
    · rintro i y ρ hy ⟨w, hw, rfl⟩
      rw [List.getElem?_map, Option.map_eq_some_iff] at hy
      obtain ⟨v, hv, rfl⟩ := hy
      obtain ⟨hi, ei⟩ := List.getElem?_eq_some_iff.mp hv
      obtain ⟨lv, vl⟩ := (allW_word n1 hn j v).mp (List.mem_of_getElem? hv)
      refine ⟨[.fz (compD n ps), .fz (.int m), .fz (.lst ((allW n j).map D.str)), .fz x, .fz (.lst ((((allW n j).take i).flatMap fun w => (firstL n).map fun c => w ++ [c]).map D.str)), .fz (.str v), .un], by (simp [run, exs, ex, ev, evs, evi, evo, evo', startE, isBrw, pureE, pureEs, pureO, ioOf, lastIo, setTg, setAll, setPar, wipeE, backE, allocE, isLst, setFz_0 _ _ _ (blS_ok hw)] <;> try with_reducible rfl), w_nx (ρ1 := [.fz (compD n ps), .fz (.int m), .fz (.lst ((allW n j).map D.str)), .fz x, .fz (.lst ((((allW n j).take (i + 1)).flatMap fun w => (firstL n).map fun c => w ++ [c]).map D.str)), .fz (.str v), .un]) ?_ (w_end ⟨.inl rfl, .fz (.str v), rfl, rfl⟩)⟩
      have e := ev_comp' (G := GL) (Φ := F k) (ρ := [.fz (compD n ps), .fz (.int m), .fz (.lst ((allW n j).map D.str)), .fz x, .fz (.lst ((((allW n j).take i).flatMap fun w => (firstL n).map fun c => w ++ [c]).map D.str)), .fz (.str v), .un]) (ρ1 := [.fz (compD n ps), .fz (.int m), .fz (.lst ((allW n j).map D.str)), .fz x, .fz (.lst ((((allW n j).take i).flatMap fun w => (firstL n).map fun c => w ++ [c]).map D.str)), .fz (.str v), .un]) (own := [6]) (elt := .bin .add (.var 5) (.var 6)) (tg := [6])
        (it := .seq (.slc (.str [97, 98, 99, 100, 101, 102, 103]) .none (.some (.idx (.var 0) (.int 0))))) (c := .none) (firstL n) sg (fun c => some (.str (v ++ [c]))) (by (simp [run, exs, ex, ev, evs, evi, evo, evo', startE, isBrw, pureE, pureEs, pureO, ioOf, lastIo, setTg, setAll, setPar, wipeE, backE, allocE, isLst, i0, sa, seq_str] <;> try with_reducible rfl)) (by simp) (by omega) (fun c _ => by
          have ea : bopD .add (.str v) (.str [c]) = some (.str (v ++ [c])) := add_str (by show v.length + 1 ≤ _; omega)
          (simp [run, exs, ex, ev, evs, evi, evo, evo', startE, isBrw, pureE, pureEs, pureO, ioOf, lastIo, setTg, setAll, setPar, wipeE, backE, allocE, isLst, lcT, sg, ea] <;> try with_reducible rfl))
      rw [fmap_some] at e
      have len := flat_len n n1 hn ((allW n j).take i)
      rw [List.length_take, Nat.min_eq_left (by omega)] at len
      have hin : i * n + n ≤ 100000 := by
        have : (i + 1) * n ≤ n ^ j * n := Nat.mul_le_mul_right _ (by omega)
        rw [Nat.succ_mul] at this; omega
      have eb : bopD .add (.lst ((((allW n j).take i).flatMap fun w => (firstL n).map fun c => w ++ [c]).map D.str)) (.lst ((firstL n).map fun c => D.str (v ++ [c]))) = some (.lst ((((allW n j).take (i + 1)).flatMap fun w => (firstL n).map fun c => w ++ [c]).map D.str)) := by
        show (if _ + _ ≤ LIM then some (D.lst (_ ++ _)) else none) = _
        rw [if_pos (by rw [List.length_map, List.length_map, len, fl]; omega), take_snoc hi, ei, List.flatMap_append, List.map_append]
        simp [Function.comp_def]
      exact ex_set' (ev_bin' (by (simp [run, exs, ex, ev, evs, evi, evo, evo', startE, isBrw, pureE, pureEs, pureO, ioOf, lastIo, setTg, setAll, setPar, wipeE, backE, allocE, isLst] <;> try with_reducible rfl)) e eb rfl) (by (simp [run, exs, ex, ev, evs, evi, evo, evo', startE, isBrw, pureE, pureEs, pureO, ioOf, lastIo, setTg, setAll, setPar, wipeE, backE, allocE, isLst] <;> try with_reducible rfl))
    · rintro ρ' ⟨w, hw, rfl⟩
      rw [List.length_map, List.take_length]
      exact w_nx (ρ1 := [.fz (compD n ps), .fz (.int m), .fz (.lst ((allW n (j + 1)).map D.str)), .fz x, .fz (.lst ((allW n (j + 1)).map D.str)), w, .un]) (by (simp [run, exs, ex, ev, evs, evi, evo, evo', startE, isBrw, pureE, pureEs, pureO, ioOf, lastIo, setTg, setAll, setPar, wipeE, backE, allocE, isLst] <;> try with_reducible rfl); rfl) (w_end ⟨.inl rfl, .fz x, _, w, rfl, rfl, hw, rfl⟩)
  · rintro ρ' ⟨t, l, w, ht, hl, hw, rfl⟩
    rw [range_len, show ((m : Int) - 0).toNat = m by omega]
    exact w_ret (d := .lst ((allW n m).map D.str)) (ρ1 := [.fz (compD n ps), .fz (.int m), .fz (.lst ((allW n m).map D.str)), t, l, w, .un]) (by (simp [run, exs, ex, ev, evs, evi, evo, evo', startE, isBrw, pureE, pureEs, pureO, ioOf, lastIo, setTg, setAll, setPar, wipeE, backE, allocE, isLst] <;> try with_reducible rfl)) rfl ⟨.inl rfl, rfl⟩
end Mini
/-! free_letters, first_word. -/
namespace Mini
open PySem
variable {F : Nat → Fn}
theorem cut_upto {α : Type} (xs : List α) (i : Nat) : cutL xs none (some (i : Int)) = xs.take i := by
  unfold cutL
  rw [HT.sIx_nat, HT.sIx_none]
  rcases Nat.le_total i xs.length with h | h
  · rw [Nat.min_eq_left h]; simp
  · rw [Nat.min_eq_right h, List.take_of_length_le h]; simp
theorem free_letters (hF : Lv F) {n : Nat} {ps : List (Nat × Nat)} (C : Comp n ps) {w : Sg} (hl : w.length < 64) (hw : Let n w) (k : Nat) : F (k + 1) 199 [toldD n ps, .str w] none = some (.lst ((freeS (fr ps) w).map sg), none) := by
  rw [go199 hF]
  have hlim : LIM = 4000000 := rfl
  have ord : ∀ p ∈ ps, p.1 < p.2 := fun p hp => (C.ord p hp).1
  refine run_of ⟨rfl, rfl⟩ (show W (exs GL (F k) df199.body [.fz (toldD n ps), .fz (.str w), .un, .un]) _ from w_ret (d := .lst ((freeS (fr ps) w).map sg)) (ρ1 := [.fz (toldD n ps), .fz (.str w), .un, .un]) ?_ rfl ⟨.inl rfl, rfl⟩)
  have sl : (sortN w).length = w.length := (sortN_perm' w).length_eq
  have e := ev_comp' (G := GL) (Φ := F k) (ρ := [.fz (toldD n ps), .fz (.str w), .un, .un]) (ρ1 := [.fz (toldD n ps), .fz (.str w), .un, .un]) (own := [2]) (elt := .var 2) (tg := [2]) (it := .seq (.fn .sorted (.cons (.var 1) .nil)))
    (c := .some (.not (.fn .any (.cons (.comp [3] (.cmp .isin (.var 3) (.idx (.var 0) (.var 2))) [3] (.seq (.slc (.var 1) .none (.some (.mt .index (.var 1) (.cons (.var 2) .nil))))) .none) .nil))))
    (sortN w) sg (fun c => (if good (fr ps) w c = true then some c else none).map sg) (by (simp [run, exs, ex, ev, evs, evi, evo, evo', startE, isBrw, pureE, pureEs, pureO, ioOf, lastIo, setTg, setAll, setPar, wipeE, backE, allocE, isLst, sort_str hl, seqD] <;> try with_reducible rfl)) (by simp) (by omega) (by
      intro c hc
      have hcw : c ∈ w := (mem_sortN c w).mp hc
      obtain ⟨h1, h2⟩ := hw c hcw
      obtain ⟨p, p1, p2, p3⟩ := place_take c w hcw
      have tl : (w.take p).length ≤ LIM := by rw [List.length_take]; omega
      have ec : ev GL (F k) (.fn .any (.cons (.comp [3] (.cmp .isin (.var 3) (.idx (.var 0) (.var 2))) [3] (.seq (.slc (.var 1) .none (.some (.mt .index (.var 1) (.cons (.var 2) .nil))))) .none) .nil)) [.fz (toldD n ps), .fz (.str w), .fz (sg c), .un] = some (.bl ((w.take p).any fun o => fr ps c o), [.fz (toldD n ps), .fz (.str w), .fz (sg c), .un]) := by
        refine ev_fn1' (x := .lst ((w.take p).filterMap fun o => some (D.bl (fr ps c o)))) (ev_comp' (w.take p) sg (fun o => some (.bl (fr ps c o))) ?_ ?_ tl fun o _ => ?_) (any_map _ _)
        · (simp [run, exs, ex, ev, evs, evi, evo, evo', startE, isBrw, pureE, pureEs, pureO, ioOf, lastIo, setTg, setAll, setPar, wipeE, backE, allocE, isLst, sg, index_str p1, slc_str hl p2, seq_str] <;> try with_reducible rfl)
        · simp
        · (simp [run, exs, ex, ev, evs, evi, evo, evo', startE, isBrw, pureE, pureEs, pureO, ioOf, lastIo, setTg, setAll, setPar, wipeE, backE, allocE, isLst, lcT, sg, told_get h1 h2, in_told ord h1] <;> try with_reducible rfl)
      have en := ev_not' ec
      rw [p3, not_any] at en
      have eg : ((w.takeWhile (· ≠ c)).all fun a => !fr ps c a) = good (fr ps) w c := rfl
      rw [eg] at en
      have st : setTg [.fz (toldD n ps), .fz (.str w), .un, .un] [2] (sg c) = some [.fz (toldD n ps), .fz (.str w), .fz (sg c), .un] := by (simp [run, exs, ex, ev, evs, evi, evo, evo', startE, isBrw, pureE, pureEs, pureO, ioOf, lastIo, setTg, setAll, setPar, wipeE, backE, allocE, isLst] <;> try with_reducible rfl)
      have wp : wipeE [.fz (toldD n ps), .fz (.str w), .un, .un] [2] = [.fz (toldD n ps), .fz (.str w), .un, .un] := rfl
      have wp2 : wipeE [.fz (toldD n ps), .fz (.str w), .fz (sg c), .un] [2] = [.fz (toldD n ps), .fz (.str w), .un, .un] := rfl
      unfold lcT
      rw [wp, st]
      simp only [evo', en]
      cases hg : good (fr ps) w c with
      | true => simp [isBrw, wp2]
      | false => simp [wp2])
  rw [sg_filterMap, fm_filter (good (fr ps) w)] at e
  exact e
theorem w_ite_set {G : Nat → Option D} {Φ : Fn} {ρ ρ2 : En} {c : E} {s : S} {ss : Ss} {x : Bool} {Q : Fl → En → Prop} (h : ev G Φ c ρ = some (.bl x, ρ)) (hs : x = true → ex G Φ s ρ = some (.nx, ρ2)) (h0 : x = false → ρ = ρ2) (q : W (exs G Φ ss ρ2) Q) : W (exs G Φ (.cons (.ite c (.cons s .nil) .nil) ss) ρ) Q := by
  refine w_if h ?_
  cases x with
  | true => exact w_nx (hs rfl) (w_end (.inl ⟨rfl, q⟩))
  | false => exact w_end (.inl ⟨rfl, by rw [h0 rfl]; exact q⟩)
theorem min_str {p : Sg} (h : p ≠ []) : fnD .min [.str p] = some (sg (minL p)) := by
  cases p with
  | nil => exact absurd rfl h
  | cons c x => rfl
theorem min_cand {l : Sg} (h : l ≠ []) : fnD .min [.lst (l.map sg)] = some (sg (minL l)) := by
  obtain ⟨m, e, h1, h2⟩ := min_sgs h
  rw [e, minL_eq h1 h2]
theorem first_word_none (hF : Lv F) {n : Nat} {ps : List (Nat × Nat)} (C : Comp n ps) {K : Sg} (hK : Kind n ps K) {m : Nat} (m1 : 1 ≤ m) (m60 : m ≤ 60) (h : K = [] ∨ m < K.length) (k : Nat) : F (k + 4) 208 [compD n ps, .str K, .int m] none = some (.non, none) := by
  rw [go208 hF]
  have hn := C.hi
  have hlim : LIM = 4000000 := rfl
  have s1 := need_company hF C k
  have s2 := need_kind hF C hK k
  have s3 := need_number hF k (i := (m : Int)) (lo := 1) (hi := 60) (by omega) (by omega)
  have g4 : GL 4 = some (.int 60) := rfl
  have kl := nodup_len n K hK.ok hK.nd
  refine run_of ⟨rfl, rfl⟩ (show W (exs GL (F (k + 3)) df208.body [.fz (compD n ps), .fz (.str K), .fz (.int m), .un, .un, .un, .un, .un]) _ from
    w_nx (ρ1 := [.fz (compD n ps), .fz (.str K), .fz (.int m), .un, .un, .un, .un, .un]) (by (simp [run, exs, ex, ev, evs, evi, evo, evo', startE, isBrw, pureE, pureEs, pureO, ioOf, lastIo, setTg, setAll, setPar, wipeE, backE, allocE, isLst, s1] <;> try with_reducible rfl)) (w_nx (ρ1 := [.fz (compD n ps), .fz (.str K), .fz (.int m), .un, .un, .un, .un, .un]) (by (simp [run, exs, ex, ev, evs, evi, evo, evo', startE, isBrw, pureE, pureEs, pureO, ioOf, lastIo, setTg, setAll, setPar, wipeE, backE, allocE, isLst, s2] <;> try with_reducible rfl)) (w_nx (ρ1 := [.fz (compD n ps), .fz (.str K), .fz (.int m), .un, .un, .un, .un, .un]) (by (simp [run, exs, ex, ev, evs, evi, evo, evo', startE, isBrw, pureE, pureEs, pureO, ioOf, lastIo, setTg, setAll, setPar, wipeE, backE, allocE, isLst, s3, g4] <;> try with_reducible rfl))
      (w_if (x := true) (ρ1 := [.fz (compD n ps), .fz (.str K), .fz (.int m), .un, .un, .un, .un, .un]) ?_ (w_ret (d := .non) (ρ1 := [.fz (compD n ps), .fz (.str K), .fz (.int m), .un, .un, .un, .un, .un]) (by (simp [run, exs, ex, ev, evs, evi, evo, evo', startE, isBrw, pureE, pureEs, pureO, ioOf, lastIo, setTg, setAll, setPar, wipeE, backE, allocE, isLst] <;> try with_reducible rfl)) rfl (.inr ⟨by simp, .inl rfl, rfl⟩))))))
  have l1 := len_str (w := K) (by omega)
  by_cases q : K = []
  · (simp [run, exs, ex, ev, evs, evi, evo, evo', startE, isBrw, pureE, pureEs, pureO, ioOf, lastIo, setTg, setAll, setPar, wipeE, backE, allocE, isLst, eq_str, q] <;> try with_reducible rfl)
  · have h : m < K.length := by
      rcases h with h | h
      · exact absurd h q
      · exact h
    have c1 : cmpD .lt (.int (m : Int)) (.int (K.length : Int)) = some (.bl true) := by simp [cmpD]; omega
    (simp [run, exs, ex, ev, evs, evi, evo, evo', startE, isBrw, pureE, pureEs, pureO, ioOf, lastIo, setTg, setAll, setPar, wipeE, backE, allocE, isLst, eq_str, q, l1, c1] <;> try with_reducible rfl)
theorem first_word (hF : Lv F) {n : Nat} {ps : List (Nat × Nat)} (C : Comp n ps) {K : Sg} (hK : Kind n ps K) {m : Nat} (m60 : m ≤ 60) (h1 : K ≠ []) (h2 : K.length ≤ m) (k : Nat) : F (k + 4) 208 [compD n ps, .str K, .int m] none = some (.str (gr (fr ps) [] K m), none) := by
  rw [go208 hF]
  have hn := C.hi
  have hlim : LIM = 4000000 := rfl
  have hp : 0 < K.length := List.length_pos_iff.mpr h1
  have s1 := need_company hF C k
  have s2 := need_kind hF C hK k
  have s3 := need_number hF k (i := (m : Int)) (lo := 1) (hi := 60) (by omega) (by omega)
  have g4 : GL 4 = some (.int 60) := rfl
  have kl := nodup_len n K hK.ok hK.nd
  have l1 := len_str (w := K) (by omega)
  have t1 := friends_of_all hF C (k + 2)
  have c1 : cmpD .lt (.int (m : Int)) (.int (K.length : Int)) = some (.bl false) := by simp [cmpD]; omega
  refine run_of ⟨rfl, rfl⟩ (show W (exs GL (F (k + 3)) df208.body [.fz (compD n ps), .fz (.str K), .fz (.int m), .un, .un, .un, .un, .un]) _ from
    w_nx (ρ1 := [.fz (compD n ps), .fz (.str K), .fz (.int m), .un, .un, .un, .un, .un]) (by (simp [run, exs, ex, ev, evs, evi, evo, evo', startE, isBrw, pureE, pureEs, pureO, ioOf, lastIo, setTg, setAll, setPar, wipeE, backE, allocE, isLst, s1] <;> try with_reducible rfl)) (w_nx (ρ1 := [.fz (compD n ps), .fz (.str K), .fz (.int m), .un, .un, .un, .un, .un]) (by (simp [run, exs, ex, ev, evs, evi, evo, evo', startE, isBrw, pureE, pureEs, pureO, ioOf, lastIo, setTg, setAll, setPar, wipeE, backE, allocE, isLst, s2] <;> try with_reducible rfl)) (w_nx (ρ1 := [.fz (compD n ps), .fz (.str K), .fz (.int m), .un, .un, .un, .un, .un]) (by (simp [run, exs, ex, ev, evs, evi, evo, evo', startE, isBrw, pureE, pureEs, pureO, ioOf, lastIo, setTg, setAll, setPar, wipeE, backE, allocE, isLst, s3, g4] <;> try with_reducible rfl))
      (w_skip (ρ1 := [.fz (compD n ps), .fz (.str K), .fz (.int m), .un, .un, .un, .un, .un]) (by (simp [run, exs, ex, ev, evs, evi, evo, evo', startE, isBrw, pureE, pureEs, pureO, ioOf, lastIo, setTg, setAll, setPar, wipeE, backE, allocE, isLst, eq_str, h1, l1, c1] <;> try with_reducible rfl)) (w_nx (ρ1 := [.fz (compD n ps), .fz (.str K), .fz (.int m), .fz (toldD n ps), .fz (.str K), .fz (.str []), .un, .un]) (by (simp [run, exs, ex, ev, evs, evi, evo, evo', startE, isBrw, pureE, pureEs, pureO, ioOf, lastIo, setTg, setAll, setPar, wipeE, backE, allocE, isLst, t1] <;> try with_reducible rfl))
        (w_while (fun q ρ => ∃ p rest a b, blS a = true ∧ blS b = true ∧ p.length + q = m ∧ rest.Nodup ∧ Let n rest ∧ (∀ x ∈ p, x ∉ rest) ∧ (p ≠ [] ∨ rest ≠ []) ∧ rest.length ≤ q ∧ p ++ gr (fr ps) p rest q = gr (fr ps) [] K m ∧ ρ = [.fz (compD n ps), .fz (.str K), .fz (.int m), .fz (toldD n ps), .fz (.str rest), .fz (.str p), a, b]) m (by show m < 1000000; omega) ⟨[], K, .un, .un, rfl, rfl, by simp, hK.nd, hK.ok, fun x h => (by cases h), .inr h1, h2, rfl, rfl⟩ ?_))))))
  rintro q ρ ⟨p, rest, a, b, ha, hb, hq, nd, lr, hd, hne, hlen, e, rfl⟩
  have lp := len_str (w := p) (by omega)
  cases q with
  | zero =>
    have c2 : cmpD .lt (.int (p.length : Int)) (.int (m : Int)) = some (.bl false) := by simp [cmpD]; omega
    have e' : p = gr (fr ps) [] K m := by
      rw [← e]; unfold gr; simp
    exact .inl ⟨[.fz (compD n ps), .fz (.str K), .fz (.int m), .fz (toldD n ps), .fz (.str rest), .fz (.str p), a, b], by (simp [run, exs, ex, ev, evs, evi, evo, evo', startE, isBrw, pureE, pureEs, pureO, ioOf, lastIo, setTg, setAll, setPar, wipeE, backE, allocE, isLst, lp, c2] <;> try with_reducible rfl), w_ret (d := .str p) (ρ1 := [.fz (compD n ps), .fz (.str K), .fz (.int m), .fz (toldD n ps), .fz (.str rest), .fz (.str p), a, b]) (by (simp [run, exs, ex, ev, evs, evi, evo, evo', startE, isBrw, pureE, pureEs, pureO, ioOf, lastIo, setTg, setAll, setPar, wipeE, backE, allocE, isLst] <;> try with_reducible rfl)) rfl ⟨.inl (by rw [← e']), rfl⟩⟩
  | succ q =>
    have c2 : cmpD .lt (.int (p.length : Int)) (.int (m : Int)) = some (.bl true) := by simp [cmpD]; omega
    refine .inr ⟨[.fz (compD n ps), .fz (.str K), .fz (.int m), .fz (toldD n ps), .fz (.str rest), .fz (.str p), a, b], by (simp [run, exs, ex, ev, evs, evi, evo, evo', startE, isBrw, pureE, pureEs, pureO, ioOf, lastIo, setTg, setAll, setPar, wipeE, backE, allocE, isLst, lp, c2] <;> try with_reducible rfl), ?_⟩
    have rl := nodup_len n rest lr nd
    have fl := free_letters hF C (w := rest) (by omega) lr (k + 2)
    have sl : slcD (.lst ((freeS (fr ps) rest).map sg)) none (some 1) = some (.lst (((freeS (fr ps) rest).take 1).map sg)) := by
      show some (D.lst (cutL _ none (some ((1 : Nat) : Int)))) = _
      rw [cut_upto, List.map_take]
    have lr2 := len_str (w := rest) (by omega)
    have cn := cand_ne' (r := fr ps) hne hlen
    have mc := min_cand cn
    have cm := cand_mem (minL_mem cn)
    refine w_nx (ρ1 := [.fz (compD n ps), .fz (.str K), .fz (.int m), .fz (toldD n ps), .fz (.str rest), .fz (.str p), .fz (.lst (((freeS (fr ps) rest).take 1).map sg)), b]) (by (simp [run, exs, ex, ev, evs, evi, evo, evo', startE, isBrw, pureE, pureEs, pureO, ioOf, lastIo, setTg, setAll, setPar, wipeE, backE, allocE, isLst, fl, sl, setFz_0 _ _ _ (blS_ok ha)] <;> try with_reducible rfl)) ?_
    refine w_ite_set (x := decide (rest.length < q + 1) && !decide (p = [])) (ρ2 := [.fz (compD n ps), .fz (.str K), .fz (.int m), .fz (toldD n ps), .fz (.str rest), .fz (.str p), .fz (.lst ((cand (fr ps) p rest (q + 1)).map sg)), b]) ?_ (fun hx => ?_) (fun hx => ?_) ?_
    · have sb : bopD .sub (.int (m : Int)) (.int (p.length : Int)) = some (.int ((m : Int) - (p.length : Int))) := rfl
      by_cases q1 : rest.length < q + 1
      · have c3 : cmpD .lt (.int (rest.length : Int)) (.int ((m : Int) - (p.length : Int))) = some (.bl true) := by simp [cmpD]; omega
        (simp [run, exs, ex, ev, evs, evi, evo, evo', startE, isBrw, pureE, pureEs, pureO, ioOf, lastIo, setTg, setAll, setPar, wipeE, backE, allocE, isLst, lr2, lp, sb, c3, ne_str, q1] <;> try with_reducible rfl)
      · have c3 : cmpD .lt (.int (rest.length : Int)) (.int ((m : Int) - (p.length : Int))) = some (.bl false) := by simp [cmpD]; omega
        (simp [run, exs, ex, ev, evs, evi, evo, evo', startE, isBrw, pureE, pureEs, pureO, ioOf, lastIo, setTg, setAll, setPar, wipeE, backE, allocE, isLst, lr2, lp, sb, c3, q1] <;> try with_reducible rfl)
    · rw [Bool.and_eq_true, decide_eq_true_eq, Bool.not_eq_true', decide_eq_false_iff_not] at hx
      have mp := min_str hx.2
      have ab : bopD .add (.lst (((freeS (fr ps) rest).take 1).map sg)) (.lst [sg (minL p)]) = some (.lst ((cand (fr ps) p rest (q + 1)).map sg)) := by
        show (if _ + _ ≤ LIM then some (D.lst (_ ++ _)) else none) = _
        unfold cand
        rw [if_pos (by rw [List.length_map, List.length_take]; show _ + 1 ≤ _; omega), if_pos hx, List.map_append]; rfl
      exact ex_set' (ev_bin' (by (simp [run, exs, ex, ev, evs, evi, evo, evo', startE, isBrw, pureE, pureEs, pureO, ioOf, lastIo, setTg, setAll, setPar, wipeE, backE, allocE, isLst] <;> try with_reducible rfl)) (by (simp [run, exs, ex, ev, evs, evi, evo, evo', startE, isBrw, pureE, pureEs, pureO, ioOf, lastIo, setTg, setAll, setPar, wipeE, backE, allocE, isLst, mp, LIM] <;> try with_reducible rfl)) ab rfl) (by (simp [run, exs, ex, ev, evs, evi, evo, evo', startE, isBrw, pureE, pureEs, pureO, ioOf, lastIo, setTg, setAll, setPar, wipeE, backE, allocE, isLst] <;> try with_reducible rfl))
    · have : cand (fr ps) p rest (q + 1) = (freeS (fr ps) rest).take 1 := by
        unfold cand
        rw [if_neg (fun h => by simp [h.1, h.2] at hx), List.append_nil]
      rw [this]
    · generalize hc : minL (cand (fr ps) p rest (q + 1)) = c at mc cm
      have ea : bopD .add (.str p) (.str [c]) = some (.str (p ++ [c])) := add_str (by show p.length + 1 ≤ _; omega)
      have er := rep_str (w := rest) (c := c) (by omega)
      have cl : 97 ≤ c ∧ c < 97 + n ∨ c ∈ p := by
        rcases cm with h | h
        · exact .inl (lr c h.1)
        · exact .inr h.1
      refine w_nx (ρ1 := [.fz (compD n ps), .fz (.str K), .fz (.int m), .fz (toldD n ps), .fz (.str rest), .fz (.str p), .fz (.lst ((cand (fr ps) p rest (q + 1)).map sg)), .fz (sg c)]) (by (simp [run, exs, ex, ev, evs, evi, evo, evo', startE, isBrw, pureE, pureEs, pureO, ioOf, lastIo, setTg, setAll, setPar, wipeE, backE, allocE, isLst, mc, setFz_0 _ _ _ (blS_ok hb)] <;> try with_reducible rfl)) (w_nx (ρ1 := [.fz (compD n ps), .fz (.str K), .fz (.int m), .fz (toldD n ps), .fz (.str (rest.filter (· ≠ c))), .fz (.str (p ++ [c])), .fz (.lst ((cand (fr ps) p rest (q + 1)).map sg)), .fz (sg c)]) (by (simp [run, exs, ex, ev, evs, evi, evo, evo', startE, isBrw, pureE, pureEs, pureO, ioOf, lastIo, setTg, setAll, setPar, wipeE, backE, allocE, isLst, sg, ea, er] <;> try with_reducible rfl)) (w_end (.inl ⟨.inl rfl, q, Nat.lt_succ_self _, p ++ [c], rest.filter (· ≠ c), _, _, rfl, rfl, ?_, nd.filter _, fun x hx => lr x (List.mem_filter.mp hx).1, ?_, .inl (by simp), ?_, ?_, rfl⟩)))
      · rw [List.length_append]; show p.length + 1 + q = m; omega
      · intro x hx h
        rw [List.mem_filter] at h
        rcases List.mem_append.mp hx with hx | hx
        · exact hd x hx h.1
        · rw [List.mem_singleton] at hx; simp [hx] at h
      · by_cases hcr : c ∈ rest
        · have := filter_one nd hcr; omega
        · rw [filter_not hcr]
          rcases cm with hm | hm
          · exact absurd hm.1 hcr
          · omega
      · rw [← e, show gr (fr ps) p rest (q + 1) = minL (cand (fr ps) p rest (q + 1)) :: gr (fr ps) (p ++ [minL (cand (fr ps) p rest (q + 1))]) (rest.filter (· ≠ minL (cand (fr ps) p rest (q + 1)))) q from rfl, hc]
        simp
end Mini
/-! What is alike; maps. -/
namespace Mini
open PySem
variable {F : Nat → Fn}
theorem alike_bl (hF : Lv F) (a : Bool) (k : Nat) : F (k + 1) 405 [.bl a, .bl a] none = some (.bl true, none) := by
  rw [go405 hF]
  have c1 : cmpD .isN (.bl a) .non = some (.bl false) := rfl
  have c2 : cmpD .eq (.bl a) (.bl a) = some (.bl true) := by cases a <;> rfl
  have c3 : cmpD .eq (.bl true) (.bl true) = some (.bl true) := rfl
  (simp [run, exs, ex, ev, evs, evi, evo, evo', startE, isBrw, pureE, pureEs, pureO, ioOf, lastIo, setTg, setAll, setPar, wipeE, backE, allocE, isLst, df405, isiD, c1, c2, c3, lastIo] <;> try with_reducible rfl)
theorem alike_int (hF : Lv F) (a : Int) (k : Nat) : F (k + 1) 405 [.int a, .int a] none = some (.bl true, none) := by
  rw [go405 hF]
  have c1 : cmpD .isN (.int a) .non = some (.bl false) := rfl
  have c2 : cmpD .eq (.int a) (.int a) = some (.bl true) := by simp [cmpD, eqD]
  have c3 : cmpD .eq (.bl false) (.bl false) = some (.bl true) := rfl
  (simp [run, exs, ex, ev, evs, evi, evo, evo', startE, isBrw, pureE, pureEs, pureO, ioOf, lastIo, setTg, setAll, setPar, wipeE, backE, allocE, isLst, df405, isiD, c1, c2, c3, lastIo] <;> try with_reducible rfl)
theorem alike_none (hF : Lv F) (k : Nat) : F (k + 1) 405 [.non, .non] none = some (.bl true, none) := by
  rw [go405 hF]
  refine run_of ⟨rfl, rfl⟩ (show W (exs GL (F k) df405.body [.fz .non, .fz .non, .un]) _ from
    w_skip (ρ1 := [.fz .non, .fz .non, .un]) (by (simp [run, exs, ex, ev, evs, evi, evo, evo', startE, isBrw, pureE, pureEs, pureO, ioOf, lastIo, setTg, setAll, setPar, wipeE, backE, allocE, isLst, isiD] <;> try with_reducible rfl)) (w_if (x := true) (ρ1 := [.fz .non, .fz .non, .un]) (by (simp [run, exs, ex, ev, evs, evi, evo, evo', startE, isBrw, pureE, pureEs, pureO, ioOf, lastIo, setTg, setAll, setPar, wipeE, backE, allocE, isLst, isiD, cmpD, isNon] <;> try with_reducible rfl)) (w_ret (d := .bl true) (ρ1 := [.fz .non, .fz .non, .un]) (by (simp [run, exs, ex, ev, evs, evi, evo, evo', startE, isBrw, pureE, pureEs, pureO, ioOf, lastIo, setTg, setAll, setPar, wipeE, backE, allocE, isLst, isiD, cmpD, eqD] <;> try with_reducible rfl)) rfl (.inr ⟨by simp, .inl rfl, rfl⟩))))
theorem alike_lst (hF : Lv F) {ds : List D} (hl : ds.length ≤ 100000) {k : Nat} (h : ∀ d ∈ ds, F (k + 1) 405 [d, d] none = some (.bl true, none)) : F (k + 2) 405 [.lst ds, .lst ds] none = some (.bl true, none) := by
  rw [go405 hF]
  have hlim : LIM = 4000000 := rfl
  have c3 : cmpD .ne (.bl true) (.bl true) = some (.bl false) := rfl
  have c4 : cmpD .ne (.int ds.length) (.int ds.length) = some (.bl false) := by simp [cmpD, eqD]
  have c5 : cmpD .eq (.lst []) (.lst []) = some (.bl true) := rfl
  have l1 : fnD .len [.lst ds] = some (.int ds.length) := rfl
  have b1 : (-1000000 : Int) ≤ (ds.length : Int) := by omega
  have b2 : (ds.length : Int) ≤ 1000000 := by omega
  have e := ev_compR' (G := GL) (Φ := F (k + 1)) (ρ := [.fz (.lst ds), .fz (.lst ds), .un]) (ρ1 := [.fz (.lst ds), .fz (.lst ds), .un]) (own := [2]) (elt := .var 2) (tg := [2]) (it := .range1 (.fn .len (.cons (.var 1) .nil)))
    (c := .some (.not (.call 405 (.cons (.idx (.var 0) (.var 2)) (.cons (.idx (.var 1) (.var 2)) .nil))))) (a := 0) (b := ds.length) ds.length (fun _ => none) (by (simp [run, exs, ex, ev, evs, evi, evo, evo', startE, isBrw, pureE, pureEs, pureO, ioOf, lastIo, setTg, setAll, setPar, wipeE, backE, allocE, isLst, l1, b1, b2] <;> try with_reducible rfl)) (by omega) (by simp) (by omega) fun j hj => by
      have i1 : idxD (.lst ds) (.int (j : Int)) = some ds[j] := idx_lst (List.getElem?_eq_getElem hj)
      have a1 := h ds[j] (List.getElem_mem _)
      (simp [run, exs, ex, ev, evs, evi, evo, evo', startE, isBrw, pureE, pureEs, pureO, ioOf, lastIo, setTg, setAll, setPar, wipeE, backE, allocE, isLst, lcT, i1, a1] <;> try with_reducible rfl)
  have e0 : (List.range ds.length).filterMap (fun _ => (none : Option D)) = [] := by simp
  rw [e0] at e
  have e1 := ev_cmp' (op := .eq) e (b := .lst .nil) (y := .lst []) (ρ2 := [.fz (.lst ds), .fz (.lst ds), .un]) (by (simp [run, exs, ex, ev, evs, evi, evo, evo', startE, isBrw, pureE, pureEs, pureO, ioOf, lastIo, setTg, setAll, setPar, wipeE, backE, allocE, isLst, LIM] <;> try with_reducible rfl)) c5 rfl
  refine run_of ⟨rfl, rfl⟩ (show W (exs GL (F (k + 1)) df405.body [.fz (.lst ds), .fz (.lst ds), .un]) _ from
    w_if (x := true) (ρ1 := [.fz (.lst ds), .fz (.lst ds), .un]) (by (simp [run, exs, ex, ev, evs, evi, evo, evo', startE, isBrw, pureE, pureEs, pureO, ioOf, lastIo, setTg, setAll, setPar, wipeE, backE, allocE, isLst, isiD] <;> try with_reducible rfl)) (w_skip (ρ1 := [.fz (.lst ds), .fz (.lst ds), .un]) (by (simp [run, exs, ex, ev, evs, evi, evo, evo', startE, isBrw, pureE, pureEs, pureO, ioOf, lastIo, setTg, setAll, setPar, wipeE, backE, allocE, isLst, isiD, c3] <;> try with_reducible rfl)) (w_skip (ρ1 := [.fz (.lst ds), .fz (.lst ds), .un]) (by (simp [run, exs, ex, ev, evs, evi, evo, evo', startE, isBrw, pureE, pureEs, pureO, ioOf, lastIo, setTg, setAll, setPar, wipeE, backE, allocE, isLst, l1, c4] <;> try with_reducible rfl)) (w_ret e1 rfl (.inr ⟨by simp, .inl rfl, rfl⟩)))))
theorem alike_tup (hF : Lv F) {ds : List D} (hl : ds.length ≤ 100000) {k : Nat} (h : ∀ d ∈ ds, F (k + 1) 405 [d, d] none = some (.bl true, none)) : F (k + 2) 405 [.tup ds, .tup ds] none = some (.bl true, none) := by
  rw [go405 hF]
  have hlim : LIM = 4000000 := rfl
  have c3 : cmpD .ne (.bl false) (.bl false) = some (.bl false) := rfl
  have c4 : cmpD .ne (.int ds.length) (.int ds.length) = some (.bl false) := by simp [cmpD, eqD]
  have c5 : cmpD .eq (.lst []) (.lst []) = some (.bl true) := rfl
  have l1 : fnD .len [.tup ds] = some (.int ds.length) := rfl
  have b1 : (-1000000 : Int) ≤ (ds.length : Int) := by omega
  have b2 : (ds.length : Int) ≤ 1000000 := by omega
  have e := ev_compR' (G := GL) (Φ := F (k + 1)) (ρ := [.fz (.tup ds), .fz (.tup ds), .un]) (ρ1 := [.fz (.tup ds), .fz (.tup ds), .un]) (own := [2]) (elt := .var 2) (tg := [2]) (it := .range1 (.fn .len (.cons (.var 1) .nil)))
    (c := .some (.not (.call 405 (.cons (.idx (.var 0) (.var 2)) (.cons (.idx (.var 1) (.var 2)) .nil))))) (a := 0) (b := ds.length) ds.length (fun _ => none) (by (simp [run, exs, ex, ev, evs, evi, evo, evo', startE, isBrw, pureE, pureEs, pureO, ioOf, lastIo, setTg, setAll, setPar, wipeE, backE, allocE, isLst, l1, b1, b2] <;> try with_reducible rfl)) (by omega) (by simp) (by omega) fun j hj => by
      have i1 : idxD (.tup ds) (.int (j : Int)) = some ds[j] := idx_tup (List.getElem?_eq_getElem hj)
      have a1 := h ds[j] (List.getElem_mem _)
      (simp [run, exs, ex, ev, evs, evi, evo, evo', startE, isBrw, pureE, pureEs, pureO, ioOf, lastIo, setTg, setAll, setPar, wipeE, backE, allocE, isLst, lcT, i1, a1] <;> try with_reducible rfl)
  have e0 : (List.range ds.length).filterMap (fun _ => (none : Option D)) = [] := by simp
  rw [e0] at e
  have e1 := ev_cmp' (op := .eq) e (b := .lst .nil) (y := .lst []) (ρ2 := [.fz (.tup ds), .fz (.tup ds), .un]) (by (simp [run, exs, ex, ev, evs, evi, evo, evo', startE, isBrw, pureE, pureEs, pureO, ioOf, lastIo, setTg, setAll, setPar, wipeE, backE, allocE, isLst, LIM] <;> try with_reducible rfl)) c5 rfl
  refine run_of ⟨rfl, rfl⟩ (show W (exs GL (F (k + 1)) df405.body [.fz (.tup ds), .fz (.tup ds), .un]) _ from
    w_if (x := true) (ρ1 := [.fz (.tup ds), .fz (.tup ds), .un]) (by (simp [run, exs, ex, ev, evs, evi, evo, evo', startE, isBrw, pureE, pureEs, pureO, ioOf, lastIo, setTg, setAll, setPar, wipeE, backE, allocE, isLst, isiD] <;> try with_reducible rfl)) (w_skip (ρ1 := [.fz (.tup ds), .fz (.tup ds), .un]) (by (simp [run, exs, ex, ev, evs, evi, evo, evo', startE, isBrw, pureE, pureEs, pureO, ioOf, lastIo, setTg, setAll, setPar, wipeE, backE, allocE, isLst, isiD, c3] <;> try with_reducible rfl)) (w_skip (ρ1 := [.fz (.tup ds), .fz (.tup ds), .un]) (by (simp [run, exs, ex, ev, evs, evi, evo, evo', startE, isBrw, pureE, pureEs, pureO, ioOf, lastIo, setTg, setAll, setPar, wipeE, backE, allocE, isLst, l1, c4] <;> try with_reducible rfl)) (w_ret e1 rfl (.inr ⟨by simp, .inl rfl, rfl⟩)))))
/-! ### maps -/
theorem need_map (hF : Lv F) {n m : Nat} {ps qs : List (Nat × Nat)} (C : Comp n ps) (C2 : Comp m qs) {w : Sg} (hw : Let m w) (hl : w.length = n) (k : Nat) : F (k + 4) 150 [compD n ps, compD m qs, .str w] none = some (.non, none) := by
  rw [go150 hF]
  have hn := C.hi
  have n1 := C.lo
  have s1 := need_company hF C k
  have s2 := need_company hF C2 k
  have s3 := is_word hF C2 hw (fun e => by rw [e] at hl; simp at hl; omega) (m := n) (by omega) (by omega) (k + 2)
  have i0 : idxD (compD n ps) (.int 0) = some (.int n) := rfl
  have lw := len_str (w := w) (by omega)
  have c1 : cmpD .ne (.int (w.length : Int)) (.int (n : Int)) = some (.bl false) := by simp [cmpD, eqD, hl]
  exact run_of ⟨rfl, rfl⟩ (show W (exs GL (F (k + 3)) df150.body [.fz (compD n ps), .fz (compD m qs), .fz (.str w)]) _ from
    w_nx (ρ1 := [.fz (compD n ps), .fz (compD m qs), .fz (.str w)]) (by (simp [run, exs, ex, ev, evs, evi, evo, evo', startE, isBrw, pureE, pureEs, pureO, ioOf, lastIo, setTg, setAll, setPar, wipeE, backE, allocE, isLst, s1] <;> try with_reducible rfl)) (w_nx (ρ1 := [.fz (compD n ps), .fz (compD m qs), .fz (.str w)]) (by (simp [run, exs, ex, ev, evs, evi, evo, evo', startE, isBrw, pureE, pureEs, pureO, ioOf, lastIo, setTg, setAll, setPar, wipeE, backE, allocE, isLst, s2] <;> try with_reducible rfl)) (w_skip (ρ1 := [.fz (compD n ps), .fz (compD m qs), .fz (.str w)]) (by (simp [run, exs, ex, ev, evs, evi, evo, evo', startE, isBrw, pureE, pureEs, pureO, ioOf, lastIo, setTg, setAll, setPar, wipeE, backE, allocE, isLst, s3, i0, lw, c1] <;> try with_reducible rfl)) (w_end ⟨.inr ⟨rfl, rfl⟩, rfl⟩))))
def pairS (p : Nat × Nat) : D := .tup [sg (97 + p.1), sg (97 + p.2)]
def brokD : Option (Nat × Nat) → D
  | none => .non
  | some p => pairS p
theorem first_broken_of (hF : Lv F) {n m : Nat} {ps qs : List (Nat × Nat)} (C : Comp n ps) (C2 : Comp m qs) {w : Sg} (hw : Let m w) (hl : w.length = n) (k : Nat) : F (k + 2) 151 [compD n ps, compD m qs, .str w] none = some (brokD (bentL (fr ps) (fr qs) n w).head?, none) := by
  rw [go151 hF]
  have hn := C.hi
  have n1 := C.lo
  have hlim : LIM = 4000000 := rfl
  have s1 := friends_of_all hF C k
  have s2 := friends_of_all hF C2 k
  have i0 : idxD (compD n ps) (.int 0) = some (.int n) := rfl
  have o1 : ∀ p ∈ ps, p.1 < p.2 := fun p hp => (C.ord p hp).1
  have o2 : ∀ p ∈ qs, p.1 < p.2 := fun p hp => (C2.ord p hp).1
  have b0 : (-1000000 : Int) ≤ (n : Int) := by omega
  have b1 : (n : Int) ≤ 1000000 := by omega
  have hd : (bentL (fr ps) (fr qs) n w).head? = (pairsAll n).find? (badP (fr ps) (fr qs) w) := by unfold bentL; rw [List.head?_filter]
  refine run_of ⟨rfl, rfl⟩ (show W (exs GL (F (k + 1)) df151.body [.fz (compD n ps), .fz (compD m qs), .fz (.str w), .un, .un, .un, .un]) _ from
    w_nx (ρ1 := [.fz (compD n ps), .fz (compD m qs), .fz (.str w), .fz (toldD m qs), .fz (toldD n ps), .un, .un]) (by (simp [run, exs, ex, ev, evs, evi, evo, evo', startE, isBrw, pureE, pureEs, pureO, ioOf, lastIo, setTg, setAll, setPar, wipeE, backE, allocE, isLst, s1, s2] <;> try with_reducible rfl)) (w_forB (xs := rangeD 0 n) (ρ1 := [.fz (compD n ps), .fz (compD m qs), .fz (.str w), .fz (toldD m qs), .fz (toldD n ps), .un, .un]) (fun j ρ => (∃ a b, blS a = true ∧ blS b = true ∧ ρ = [.fz (compD n ps), .fz (compD m qs), .fz (.str w), .fz (toldD m qs), .fz (toldD n ps), a, b]) ∧ ∀ p q, p < j → p < q → q < n → badP (fr ps) (fr qs) w (p, q) = false) (by (simp [run, exs, ex, ev, evs, evi, evo, evo', startE, isBrw, pureE, pureEs, pureO, ioOf, lastIo, setTg, setAll, setPar, wipeE, backE, allocE, isLst, i0, b0, b1] <;> try with_reducible rfl)) ⟨⟨.un, .un, rfl, rfl, rfl⟩, fun p q h => by omega⟩ ?_ ?_))
  · rintro j x ρ hx ⟨⟨a, b, ha, hb, rfl⟩, hj⟩
    obtain ⟨rfl, hjn⟩ := range_get hx
    have hjn : j < n := by omega
    have z : (0 : Int) + (j : Int) = j := by omega
    rw [z]
    have ax := alph_idx j (by omega)
    have ad : bopD .add (.int (j : Int)) (.int 1) = some (.int ((j : Int) + 1)) := rfl
    have b2 : (-1000000 : Int) ≤ (j : Int) + 1 := by omega
    have b3 : (j : Int) + 1 ≤ 1000000 := by omega
    refine ⟨[.fz (compD n ps), .fz (compD m qs), .fz (.str w), .fz (toldD m qs), .fz (toldD n ps), .fz (.int j), b], by (simp [run, exs, ex, ev, evs, evi, evo, evo', startE, isBrw, pureE, pureEs, pureO, ioOf, lastIo, setTg, setAll, setPar, wipeE, backE, allocE, isLst, setFz_0 _ _ _ (blS_ok ha)] <;> try with_reducible rfl), w_forB (xs := rangeD ((j : Int) + 1) n) (ρ1 := [.fz (compD n ps), .fz (compD m qs), .fz (.str w), .fz (toldD m qs), .fz (toldD n ps), .fz (.int j), b]) (fun i ρ => (∃ b, blS b = true ∧ ρ = [.fz (compD n ps), .fz (compD m qs), .fz (.str w), .fz (toldD m qs), .fz (toldD n ps), .fz (.int j), b]) ∧ ∀ q, j < q → q < j + 1 + i → q < n → badP (fr ps) (fr qs) w (j, q) = false) (by (simp [run, exs, ex, ev, evs, evi, evo, evo', startE, isBrw, pureE, pureEs, pureO, ioOf, lastIo, setTg, setAll, setPar, wipeE, backE, allocE, isLst, ad, i0, b0, b1, b2, b3] <;> try with_reducible rfl)) ⟨⟨b, hb, rfl⟩, fun q h1 h2 => by omega⟩ ?_ ?_⟩
    · rintro i y ρ hy ⟨⟨b, hb, rfl⟩, hi⟩
      obtain ⟨rfl, hin⟩ := range_get hy
      obtain ⟨q, hq⟩ : ∃ q : Nat, q = j + 1 + i := ⟨_, rfl⟩
      have zq : (j : Int) + 1 + (i : Int) = (q : Int) := by omega
      rw [zq]
      have hqn : q < n := by omega
      have aq := alph_idx q (by omega)
      have w1 := idx_str (w := w) (j := j) (by omega) (List.getElem?_eq_getElem (by omega))
      have w2 := idx_str (w := w) (j := q) (by omega) (List.getElem?_eq_getElem (by omega))
      have g1 : w.getD j 0 = w[j]'(by omega) := by rw [List.getD_eq_getElem?_getD, List.getElem?_eq_getElem (by omega)]; rfl
      have g2' : w.getD q 0 = w[q]'(by omega) := by rw [List.getD_eq_getElem?_getD, List.getElem?_eq_getElem (by omega)]; rfl
      have l1 := hw (w[j]'(by omega)) (List.getElem_mem _)
      have t1 := told_get (ps := ps) (n := n) (c := 97 + j) (by omega) (by omega)
      have t2 := told_get (ps := qs) l1.1 l1.2
      have n2 := notin_told o1 (c := 97 + j) (b := 97 + q) (by omega)
      have n3 := in_told o2 (b := w[q]'(by omega)) l1.1
      rw [show 97 + j - 97 = j by omega] at t1 n2
      have bd : badP (fr ps) (fr qs) w (j, q) = (!fr ps (97 + j) (97 + q) && fr qs (w[j]'(by omega)) (w[q]'(by omega))) := by
        unfold badP; simp only [g1, g2']
      refine ⟨[.fz (compD n ps), .fz (compD m qs), .fz (.str w), .fz (toldD m qs), .fz (toldD n ps), .fz (.int j), .fz (.int q)], by (simp [run, exs, ex, ev, evs, evi, evo, evo', startE, isBrw, pureE, pureEs, pureO, ioOf, lastIo, setTg, setAll, setPar, wipeE, backE, allocE, isLst, setFz_0 _ _ _ (blS_ok hb)] <;> try with_reducible rfl), w_if (x := badP (fr ps) (fr qs) w (j, q)) (ρ1 := [.fz (compD n ps), .fz (compD m qs), .fz (.str w), .fz (toldD m qs), .fz (toldD n ps), .fz (.int j), .fz (.int q)]) ?_ ?_⟩
      · rw [bd]
        cases e1 : fr ps (97 + j) (97 + q) with
        | true => rw [e1] at n2; (simp [run, exs, ex, ev, evs, evi, evo, evo', startE, isBrw, pureE, pureEs, pureO, ioOf, lastIo, setTg, setAll, setPar, wipeE, backE, allocE, isLst, g2, aq, ax, t1, n2] <;> try with_reducible rfl)
        | false => rw [e1] at n2; (simp [run, exs, ex, ev, evs, evi, evo, evo', startE, isBrw, pureE, pureEs, pureO, ioOf, lastIo, setTg, setAll, setPar, wipeE, backE, allocE, isLst, g2, aq, ax, t1, n2, w1, w2, t2, n3] <;> try with_reducible rfl)
      · cases hb' : badP (fr ps) (fr qs) w (j, q) with
        | true =>
          have fs : (pairsAll n).find? (badP (fr ps) (fr qs) w) = some (j, q) := find_sorted (comp_all n n1 hn).srt (mem_pairsAll.mpr ⟨by show j < q; omega, hqn⟩) hb' fun p hp hlt => by
            have := mem_pairsAll.mp hp
            rcases hlt with h | ⟨h1, h2⟩
            · exact hj p.1 p.2 h this.1 this.2
            · have h1 : p.1 = j := h1
              have := hi p.2 (by omega) (by have : p.2 < q := h2; omega) this.2
              rw [← h1] at this; exact this
          exact w_ret (d := pairS (j, q)) (ρ1 := [.fz (compD n ps), .fz (compD m qs), .fz (.str w), .fz (toldD m qs), .fz (toldD n ps), .fz (.int j), .fz (.int q)]) (by (simp [run, exs, ex, ev, evs, evi, evo, evo', startE, isBrw, pureE, pureEs, pureO, ioOf, lastIo, setTg, setAll, setPar, wipeE, backE, allocE, isLst, g2, aq, ax, LIM, pairS, sg] <;> try with_reducible rfl)) rfl (.inr ⟨by simp, .inr (.inr ⟨_, rfl, .inr (.inr ⟨_, rfl, .inl (by rw [hd, fs]; rfl), rfl⟩)⟩)⟩)
        | false =>
          exact w_end (.inl ⟨rfl, w_end (.inl ⟨.inl rfl, ⟨.fz (.int q), rfl, rfl⟩, fun q' h1 h2 h3 => by
            rcases Nat.lt_or_ge q' (j + 1 + i) with h | h
            · exact hi q' h1 h h3
            · have : q' = q := by omega
              rw [this]; exact hb'⟩)⟩)
    · rintro ρ' ⟨⟨b, hb, rfl⟩, hi⟩
      rw [range_len] at hi
      refine w_end (.inl ⟨.inl rfl, ⟨_, b, rfl, hb, rfl⟩, fun p q h1 h2 h3 => ?_⟩)
      rcases Nat.lt_or_ge p j with h | h
      · exact hj p q h h2 h3
      · have : p = j := by omega
        subst this
        exact hi q h2 (by omega) h3
  · rintro ρ' ⟨⟨a, b, ha, hb, rfl⟩, hj⟩
    rw [range_len] at hj
    have fs : (pairsAll n).find? (badP (fr ps) (fr qs) w) = none := by
      rw [List.find?_eq_none]
      intro p hp
      have := mem_pairsAll.mp hp
      rw [hj p.1 p.2 (by omega) this.1 this.2]; simp
    exact w_ret (d := .non) (ρ1 := [.fz (compD n ps), .fz (compD m qs), .fz (.str w), .fz (toldD m qs), .fz (toldD n ps), a, b]) (by (simp [run, exs, ex, ev, evs, evi, evo, evo', startE, isBrw, pureE, pureEs, pureO, ioOf, lastIo, setTg, setAll, setPar, wipeE, backE, allocE, isLst] <;> try with_reducible rfl)) rfl ⟨.inl (by rw [hd, fs]; rfl), rfl⟩
theorem is_none (o : Option (Nat × Nat)) : cmpD .isN (brokD o) .non = some (.bl o.isNone) := by
  cases o <;> rfl
theorem keeps_ok (hF : Lv F) {n m : Nat} {ps qs : List (Nat × Nat)} (C : Comp n ps) (C2 : Comp m qs) {w : Sg} (hw : Let m w) (hl : w.length = n) (k : Nat) : F (k + 5) 152 [compD n ps, compD m qs, .str w] none = some (.bl (bentL (fr ps) (fr qs) n w).head?.isNone, none) := by
  rw [go152 hF]
  have s1 := need_map hF C C2 hw hl k
  have s2 := first_broken_of hF C C2 hw hl (k + 2)
  have s3 := is_none (bentL (fr ps) (fr qs) n w).head?
  exact run_of ⟨rfl, rfl⟩ (show W (exs GL (F (k + 4)) df152.body [.fz (compD n ps), .fz (compD m qs), .fz (.str w)]) _ from
    w_nx (ρ1 := [.fz (compD n ps), .fz (compD m qs), .fz (.str w)]) (by (simp [run, exs, ex, ev, evs, evi, evo, evo', startE, isBrw, pureE, pureEs, pureO, ioOf, lastIo, setTg, setAll, setPar, wipeE, backE, allocE, isLst, s1] <;> try with_reducible rfl)) (w_ret (d := .bl (bentL (fr ps) (fr qs) n w).head?.isNone) (ρ1 := [.fz (compD n ps), .fz (compD m qs), .fz (.str w)]) (by (simp [run, exs, ex, ev, evs, evi, evo, evo', startE, isBrw, pureE, pureEs, pureO, ioOf, lastIo, setTg, setAll, setPar, wipeE, backE, allocE, isLst, s2, s3] <;> try with_reducible rfl)) rfl ⟨.inl rfl, rfl⟩))
theorem first_broken (hF : Lv F) {n m : Nat} {ps qs : List (Nat × Nat)} (C : Comp n ps) (C2 : Comp m qs) {w : Sg} (hw : Let m w) (hl : w.length = n) (k : Nat) : F (k + 5) 153 [compD n ps, compD m qs, .str w] none = some (brokD (bentL (fr ps) (fr qs) n w).head?, none) := by
  rw [go153 hF]
  have s1 := need_map hF C C2 hw hl k
  have s2 := first_broken_of hF C C2 hw hl (k + 2)
  exact run_of ⟨rfl, rfl⟩ (show W (exs GL (F (k + 4)) df153.body [.fz (compD n ps), .fz (compD m qs), .fz (.str w)]) _ from
    w_nx (ρ1 := [.fz (compD n ps), .fz (compD m qs), .fz (.str w)]) (by (simp [run, exs, ex, ev, evs, evi, evo, evo', startE, isBrw, pureE, pureEs, pureO, ioOf, lastIo, setTg, setAll, setPar, wipeE, backE, allocE, isLst, s1] <;> try with_reducible rfl)) (w_ret (d := brokD (bentL (fr ps) (fr qs) n w).head?) (ρ1 := [.fz (compD n ps), .fz (compD m qs), .fz (.str w)]) (by (simp [run, exs, ex, ev, evs, evi, evo, evo', startE, isBrw, pureE, pureEs, pureO, ioOf, lastIo, setTg, setAll, setPar, wipeE, backE, allocE, isLst, s2] <;> try with_reducible rfl)) rfl ⟨.inl rfl, rfl⟩))
def mpf (w : Sg) (c : Nat) : Nat := w.getD (c - 97) 0
theorem map_txt {n m : Nat} {w K : Sg} (hw : Let m w) (hl : w.length = n) (hn : n ≤ 7) (hK : Let n K) {c : Nat} (hc : c ∈ K) : mtD .index ALPH [sg c] = some (.int ((c - 97 : Nat) : Int)) ∧ idxD (.str w) (.int ((c - 97 : Nat) : Int)) = some (sg (mpf w c)) ∧ 97 ≤ mpf w c ∧ mpf w c < 97 + m := by
  obtain ⟨h1, h2⟩ := hK c hc
  have hj : c - 97 < w.length := by omega
  have e : mpf w c = w[c - 97] := by
    unfold mpf
    rw [List.getD_eq_getElem?_getD, List.getElem?_eq_getElem hj]; rfl
  refine ⟨index_alph' h1 (by omega), ?_, ?_⟩
  · rw [e]; exact idx_str (by omega) (List.getElem?_eq_getElem hj)
  · rw [e]; exact hw _ (List.getElem_mem _)
theorem map_let {n m : Nat} {w K : Sg} (hw : Let m w) (hl : w.length = n) (hn : n ≤ 7) (hK : Let n K) : Let m (K.map (mpf w)) := by
  intro x hx
  rw [List.mem_map] at hx
  obtain ⟨c, hc, rfl⟩ := hx
  exact (map_txt hw hl hn hK hc).2.2
theorem image_of (hF : Lv F) {n m : Nat} {qs : List (Nat × Nat)} (C2 : Comp m qs) {w K : Sg} (hw : Let m w) (hl : w.length = n) (hn : n ≤ 7) (hK : Let n K) (kl : K.length < 60) (k : Nat) : F (k + 2) 155 [toldD m qs, .str w, .str K] none = some (.str (lo (fr qs) (firsts (K.map (mpf w)))), none) := by
  rw [go155 hF]
  have hlim : LIM = 4000000 := rfl
  have s1 := first_stands hF (w := K.map (mpf w)) (by rw [List.length_map]; omega) k
  have fl := firsts_len (K.map (mpf w))
  rw [List.length_map] at fl
  have ml := map_let hw hl hn hK
  have s2 := least_order hF C2 (w0 := firsts (K.map (mpf w))) (by omega) (fun c hc => ml c (firsts_mem hc)) k
  have jn := join_sgs (w := K.map (mpf w)) (by rw [List.length_map]; omega)
  refine run_of ⟨rfl, rfl⟩ (show W (exs GL (F (k + 1)) df155.body [.fz (toldD m qs), .fz (.str w), .fz (.str K), .un]) _ from
    w_ret (d := .str (lo (fr qs) (firsts (K.map (mpf w))))) (ρ1 := [.fz (toldD m qs), .fz (.str w), .fz (.str K), .un]) ?_ rfl ⟨.inl rfl, rfl⟩)
  have e := ev_comp' (G := GL) (Φ := F (k + 1)) (ρ := [.fz (toldD m qs), .fz (.str w), .fz (.str K), .un]) (ρ1 := [.fz (toldD m qs), .fz (.str w), .fz (.str K), .un]) (own := [3]) (elt := .idx (.var 1) (.mt .index (.glob 2) (.cons (.var 3) .nil))) (tg := [3]) (it := .seq (.var 2)) (c := .none)
    K sg (fun c => some (sg (mpf w c))) (by (simp [run, exs, ex, ev, evs, evi, evo, evo', startE, isBrw, pureE, pureEs, pureO, ioOf, lastIo, setTg, setAll, setPar, wipeE, backE, allocE, isLst, seq_str] <;> try with_reducible rfl)) (by simp) (by omega) (fun c hc => by
      obtain ⟨h1, h2, _⟩ := map_txt hw hl hn hK hc
      (simp [run, exs, ex, ev, evs, evi, evo, evo', startE, isBrw, pureE, pureEs, pureO, ioOf, lastIo, setTg, setAll, setPar, wipeE, backE, allocE, isLst, lcT, g2, h1, h2] <;> try with_reducible rfl))
  rw [fmap_some, show K.map (fun c => sg (mpf w c)) = (K.map (mpf w)).map sg by rw [List.map_map]; rfl] at e
  have ej := ev_mt' (m := .join) (o := .str []) (x := .str []) (ρ1 := [.fz (toldD m qs), .fz (.str w), .fz (.str K), .un]) (by (simp [run, exs, ex, ev, evs, evi, evo, evo', startE, isBrw, pureE, pureEs, pureO, ioOf, lastIo, setTg, setAll, setPar, wipeE, backE, allocE, isLst] <;> try with_reducible rfl)) (evs_cons' e evs_nil) jn
  exact ev_call' (evs_cons' (ρ1 := [.fz (toldD m qs), .fz (.str w), .fz (.str K), .un]) (by (simp [run, exs, ex, ev, evs, evi, evo, evo', startE, isBrw, pureE, pureEs, pureO, ioOf, lastIo, setTg, setAll, setPar, wipeE, backE, allocE, isLst] <;> try with_reducible rfl)) (evs_cons' (ev_call' (evs_cons' ej evs_nil) s1) evs_nil)) s2
theorem image_ok (hF : Lv F) {n m : Nat} {ps qs : List (Nat × Nat)} (C : Comp n ps) (C2 : Comp m qs) {w K : Sg} (hw : Let m w) (hl : w.length = n) (hK : Kind n ps K) (k : Nat) : F (k + 5) 154 [compD n ps, compD m qs, .str w, .str K] none = some (.str (lo (fr qs) (firsts (K.map (mpf w)))), none) := by
  rw [go154 hF]
  have hn := C.hi
  have s1 := need_map hF C C2 hw hl k
  have s2 := need_kind hF C hK (k + 1)
  have s3 := friends_of_all hF C2 (k + 3)
  have kl := nodup_len n K hK.ok hK.nd
  have s4 := image_of hF C2 hw hl hn hK.ok (by omega) (k + 2)
  exact run_of ⟨rfl, rfl⟩ (show W (exs GL (F (k + 4)) df154.body [.fz (compD n ps), .fz (compD m qs), .fz (.str w), .fz (.str K)]) _ from
    w_nx (ρ1 := [.fz (compD n ps), .fz (compD m qs), .fz (.str w), .fz (.str K)]) (by (simp [run, exs, ex, ev, evs, evi, evo, evo', startE, isBrw, pureE, pureEs, pureO, ioOf, lastIo, setTg, setAll, setPar, wipeE, backE, allocE, isLst, s1] <;> try with_reducible rfl)) (w_nx (ρ1 := [.fz (compD n ps), .fz (compD m qs), .fz (.str w), .fz (.str K)]) (by (simp [run, exs, ex, ev, evs, evi, evo, evo', startE, isBrw, pureE, pureEs, pureO, ioOf, lastIo, setTg, setAll, setPar, wipeE, backE, allocE, isLst, s2] <;> try with_reducible rfl)) (w_ret (d := .str (lo (fr qs) (firsts (K.map (mpf w))))) (ρ1 := [.fz (compD n ps), .fz (compD m qs), .fz (.str w), .fz (.str K)]) (by (simp [run, exs, ex, ev, evs, evi, evo, evo', startE, isBrw, pureE, pureEs, pureO, ioOf, lastIo, setTg, setAll, setPar, wipeE, backE, allocE, isLst, s3, s4] <;> try with_reducible rfl)) rfl ⟨.inl rfl, rfl⟩)))
end Mini
/-! All maps. -/
namespace Mini
open PySem
variable {F : Nat → Fn}
def cnd (r1 r2 : Nat → Nat → Bool) (w : Sg) (c : Nat) : Bool := (List.range w.length).all fun p => r1 (97 + p) (97 + w.length) || !r2 (w.getD p 0) c
def extW (r1 r2 : Nat → Nat → Bool) (m : Nat) (w : Sg) : List Sg := ((firstL m).filter (cnd r1 r2 w)).map fun c => w ++ [c]
def mapL (r1 r2 : Nat → Nat → Bool) (m j : Nat) : List Sg := (allW m j).filter (okW r1 r2)
theorem rows_ext (r1 r2 : Nat → Nat → Bool) (m : Nat) : ∀ l : List Sg, (l.flatMap fun w => (firstL m).map fun c => w ++ [c]).filter (okW r1 r2) = (l.filter (okW r1 r2)).flatMap (extW r1 r2 m)
  | [] => rfl
  | w :: l => by
    rw [List.flatMap_cons, List.filter_append, rows_ext r1 r2 m l, List.filter_map]
    have e : (okW r1 r2 ∘ fun c => w ++ [c]) = fun c => okW r1 r2 w && cnd r1 r2 w c := by
      funext c
      show okW r1 r2 (w ++ [c]) = _
      rw [okW_snoc]; rfl
    rw [e]
    cases h : okW r1 r2 w with
    | true =>
      rw [List.filter_cons_of_pos h, List.flatMap_cons]
      simp only [Bool.true_and]; rfl
    | false =>
      rw [List.filter_cons_of_neg (by rw [h]; simp)]
      simp
theorem mapL_succ (r1 r2 : Nat → Nat → Bool) (m j : Nat) : mapL r1 r2 m (j + 1) = (mapL r1 r2 m j).flatMap (extW r1 r2 m) := rows_ext r1 r2 m (allW m j)
theorem ext_len (r1 r2 : Nat → Nat → Bool) {m : Nat} (h1 : 1 ≤ m) (h2 : m ≤ 7) : ∀ l : List Sg, (l.flatMap (extW r1 r2 m)).length ≤ l.length * m
  | [] => by simp
  | w :: l => by
    rw [List.flatMap_cons, List.length_append, List.length_cons, Nat.succ_mul]
    have := ext_len r1 r2 h1 h2 l
    have h3 : (extW r1 r2 m w).length ≤ m := by
      unfold extW
      rw [List.length_map]
      exact Nat.le_trans (List.length_filter_le ..) (by rw [firstL_len' h1 h2]; exact Nat.le_refl _)
    omega
theorem rows_of (hF : Lv F) {n m : Nat} {ps qs : List (Nat × Nat)} (C : Comp n ps) (C2 : Comp m qs) (hm : m ^ n ≤ 3000) (k : Nat) : F (k + 2) 156 [compD n ps, compD m qs] none = some (.lst ((mapL (fr ps) (fr qs) m n).map D.str), none) := by
  rw [go156 hF]
  have hn := C.hi
  have n1 := C.lo
  have hm7 := C2.hi
  have m1 := C2.lo
  have hlim : LIM = 4000000 := rfl
  have s1 := friends_of_all hF C k
  have s2 := friends_of_all hF C2 k
  have i0 : idxD (compD n ps) (.int 0) = some (.int n) := rfl
  have i1 : idxD (compD m qs) (.int 0) = some (.int m) := rfl
  have sa := slc_alph m m1 hm7
  have fl := firstL_len' m1 hm7
  have o1 : ∀ p ∈ ps, p.1 < p.2 := fun p hp => (C.ord p hp).1
  have o2 : ∀ p ∈ qs, p.1 < p.2 := fun p hp => (C2.ord p hp).1
  have b0 : (-1000000 : Int) ≤ (n : Int) := by omega
  have b1 : (n : Int) ≤ 1000000 := by omega
  have g8 : GL 8 = some (.int 3000) := rfl
  have rlen : ∀ j, j ≤ n → (mapL (fr ps) (fr qs) m j).length ≤ 3000 := fun j hj => by
    have h1 : (mapL (fr ps) (fr qs) m j).length ≤ (allW m j).length := List.length_filter_le ..
    rw [allW_len m m1 hm7] at h1
    exact Nat.le_trans h1 (Nat.le_trans (Nat.pow_le_pow_right m1 hj) hm)
  refine run_of ⟨rfl, rfl⟩ (show W (exs GL (F (k + 1)) df156.body [.fz (compD n ps), .fz (compD m qs), .un, .un, .un, .un, .un, .un, .un, .un]) _ from
    w_nx (ρ1 := [.fz (compD n ps), .fz (compD m qs), .fz (toldD m qs), .fz (toldD n ps), .un, .un, .un, .un, .un, .un]) (by (simp [run, exs, ex, ev, evs, evi, evo, evo', startE, isBrw, pureE, pureEs, pureO, ioOf, lastIo, setTg, setAll, setPar, wipeE, backE, allocE, isLst, s1, s2, LIM] <;> try with_reducible rfl)) (w_nx (ρ1 := [.fz (compD n ps), .fz (compD m qs), .fz (toldD m qs), .fz (toldD n ps), .fz (.lst ([.str []])), .un, .un, .un, .un, .un]) (by (simp [run, exs, ex, ev, evs, evi, evo, evo', startE, isBrw, pureE, pureEs, pureO, ioOf, lastIo, setTg, setAll, setPar, wipeE, backE, allocE, isLst, LIM] <;> try with_reducible rfl))
      (w_for (xs := rangeD 0 n) (ρ1 := [.fz (compD n ps), .fz (compD m qs), .fz (toldD m qs), .fz (toldD n ps), .fz (.lst ([.str []])), .un, .un, .un, .un, .un]) (fun j ρ => ∃ t l a b, blS t = true ∧ okS l = true ∧ blS a = true ∧ blS b = true ∧ ρ = [.fz (compD n ps), .fz (compD m qs), .fz (toldD m qs), .fz (toldD n ps), .fz (.lst ((mapL (fr ps) (fr qs) m j).map D.str)), t, l, a, b, .un]) (by (simp [run, exs, ex, ev, evs, evi, evo, evo', startE, isBrw, pureE, pureEs, pureO, ioOf, lastIo, setTg, setAll, setPar, wipeE, backE, allocE, isLst, i0, b0, b1] <;> try with_reducible rfl)) ⟨.un, .un, .un, .un, rfl, rfl, rfl, rfl, rfl⟩ ?_ ?_)))
  · rintro j x ρ hx ⟨t, l, a, b, ht, hl, ha, hb, rfl⟩
    obtain ⟨rfl, hjn⟩ := range_get hx
    have hjn : j < n := by omega
    have z : (0 : Int) + (j : Int) = j := by omega
    rw [z]
    have rj := rlen j (by omega)
    have ax := alph_idx j (by omega)
    have b2 : (-1000000 : Int) ≤ (j : Int) := by omega
    have b3 : (j : Int) ≤ 1000000 := by omega
    refine ⟨[.fz (compD n ps), .fz (compD m qs), .fz (toldD m qs), .fz (toldD n ps), .fz (.lst ((mapL (fr ps) (fr qs) m j).map D.str)), .fz (.int j), l, a, b, .un], by (simp [run, exs, ex, ev, evs, evi, evo, evo', startE, isBrw, pureE, pureEs, pureO, ioOf, lastIo, setTg, setAll, setPar, wipeE, backE, allocE, isLst, setFz_0 _ _ _ (blS_ok ht)] <;> try with_reducible rfl), w_nx (ρ1 := [.fz (compD n ps), .fz (compD m qs), .fz (toldD m qs), .fz (toldD n ps), .fz (.lst ((mapL (fr ps) (fr qs) m j).map D.str)), .fz (.int j), .own (.lst []), a, b, .un]) (by (simp [run, exs, ex, ev, evs, evi, evo, evo', startE, isBrw, pureE, pureEs, pureO, ioOf, lastIo, setTg, setAll, setPar, wipeE, backE, allocE, isLst, setOwn_0 _ _ _ hl, LIM] <;> try with_reducible rfl)) ?_⟩
    refine w_for (xs := (mapL (fr ps) (fr qs) m j).map D.str) (ρ1 := [.fz (compD n ps), .fz (compD m qs), .fz (toldD m qs), .fz (toldD n ps), .fz (.lst ((mapL (fr ps) (fr qs) m j).map D.str)), .fz (.int j), .own (.lst []), a, b, .un]) (fun i ρ => ∃ a b, blS a = true ∧ blS b = true ∧ ρ = [.fz (compD n ps), .fz (compD m qs), .fz (toldD m qs), .fz (toldD n ps), .fz (.lst ((mapL (fr ps) (fr qs) m j).map D.str)), .fz (.int j), .own (.lst ((((mapL (fr ps) (fr qs) m j).take i).flatMap (extW (fr ps) (fr qs) m)).map D.str)), a, b, .un]) (by (simp [run, exs, ex, ev, evs, evi, evo, evo', startE, isBrw, pureE, pureEs, pureO, ioOf, lastIo, setTg, setAll, setPar, wipeE, backE, allocE, isLst, seqD] <;> try with_reducible rfl)) ⟨a, b, ha, hb, rfl⟩ ?_ ?_
    · rintro i y ρ hy ⟨a, b, ha, hb, rfl⟩
      rw [List.getElem?_map, Option.map_eq_some_iff] at hy
      obtain ⟨w, hw, rfl⟩ := hy
      obtain ⟨hi, ei⟩ := List.getElem?_eq_some_iff.mp hw
      obtain ⟨lw, wl⟩ := (allW_word m1 hm7 j w).mp (List.mem_filter.mp (List.mem_of_getElem? hw)).1
      have il := ext_len (fr ps) (fr qs) m1 hm7 ((mapL (fr ps) (fr qs) m j).take i)
      rw [List.length_take, Nat.min_eq_left (by omega)] at il
      have im : i * m ≤ 3000 * 7 := Nat.mul_le_mul (by omega) hm7
      refine ⟨[.fz (compD n ps), .fz (compD m qs), .fz (toldD m qs), .fz (toldD n ps), .fz (.lst ((mapL (fr ps) (fr qs) m j).map D.str)), .fz (.int j), .own (.lst ((((mapL (fr ps) (fr qs) m j).take i).flatMap (extW (fr ps) (fr qs) m)).map D.str)), .fz (.str w), b, .un], by (simp [run, exs, ex, ev, evs, evi, evo, evo', startE, isBrw, pureE, pureEs, pureO, ioOf, lastIo, setTg, setAll, setPar, wipeE, backE, allocE, isLst, setFz_0 _ _ _ (blS_ok ha)] <;> try with_reducible rfl), ?_⟩
      refine w_for (xs := (firstL m).map sg) (ρ1 := [.fz (compD n ps), .fz (compD m qs), .fz (toldD m qs), .fz (toldD n ps), .fz (.lst ((mapL (fr ps) (fr qs) m j).map D.str)), .fz (.int j), .own (.lst ((((mapL (fr ps) (fr qs) m j).take i).flatMap (extW (fr ps) (fr qs) m)).map D.str)), .fz (.str w), b, .un]) (fun s ρ => ∃ b, blS b = true ∧ ρ = [.fz (compD n ps), .fz (compD m qs), .fz (toldD m qs), .fz (toldD n ps), .fz (.lst ((mapL (fr ps) (fr qs) m j).map D.str)), .fz (.int j), .own (.lst ((((mapL (fr ps) (fr qs) m j).take i).flatMap (extW (fr ps) (fr qs) m) ++ (((firstL m).take s).filter (cnd (fr ps) (fr qs) w)).map fun c => w ++ [c]).map D.str)), .fz (.str w), b, .un]) (by (simp [run, exs, ex, ev, evs, evi, evo, evo', startE, isBrw, pureE, pureEs, pureO, ioOf, lastIo, setTg, setAll, setPar, wipeE, backE, allocE, isLst, g2, i1, sa, seq_str] <;> try with_reducible rfl)) ⟨b, hb, by simp⟩ ?_ ?_
      · rintro s y ρ hs ⟨b, hb, rfl⟩
        rw [List.getElem?_map, Option.map_eq_some_iff] at hs
        obtain ⟨c, hc, rfl⟩ := hs
        obtain ⟨hsl, es⟩ := List.getElem?_eq_some_iff.mp hc
        obtain ⟨c1, c2⟩ := (mem_firstL m1 hm7).mp (List.mem_of_getElem? hc)
        have t2 := told_get (ps := qs) c1 c2
        have t1 := told_get (ps := ps) (n := n) (c := 97 + j) (by omega) (by omega)
        rw [show 97 + j - 97 = j by omega] at t1
        have ll : (((mapL (fr ps) (fr qs) m j).take i).flatMap (extW (fr ps) (fr qs) m) ++ (((firstL m).take s).filter (cnd (fr ps) (fr qs) w)).map fun c => w ++ [c]).length < LIM := by
          rw [List.length_append, List.length_map]
          have h1 := List.length_filter_le (cnd (fr ps) (fr qs) w) ((firstL m).take s)
          rw [List.length_take] at h1
          omega
        have ea : bopD .add (.str w) (.str [c]) = some (.str (w ++ [c])) := add_str (by show w.length + 1 ≤ _; omega)
        have ec : ev GL (F (k + 1)) (.fn .all (.cons (.comp [9] (.or (.cmp .isin (.idx (.glob 2) (.var 9)) (.idx (.var 3) (.idx (.glob 2) (.var 5)))) (.cmp .notin (.idx (.var 7) (.var 9)) (.idx (.var 2) (.var 8)))) [9] (.range1 (.var 5)) .none) .nil)) [.fz (compD n ps), .fz (compD m qs), .fz (toldD m qs), .fz (toldD n ps), .fz (.lst ((mapL (fr ps) (fr qs) m j).map D.str)), .fz (.int j), .own (.lst ((((mapL (fr ps) (fr qs) m j).take i).flatMap (extW (fr ps) (fr qs) m) ++ (((firstL m).take s).filter (cnd (fr ps) (fr qs) w)).map fun c => w ++ [c]).map D.str)), .fz (.str w), .fz (sg c), .un]
            = some (.bl (cnd (fr ps) (fr qs) w c), [.fz (compD n ps), .fz (compD m qs), .fz (toldD m qs), .fz (toldD n ps), .fz (.lst ((mapL (fr ps) (fr qs) m j).map D.str)), .fz (.int j), .own (.lst ((((mapL (fr ps) (fr qs) m j).take i).flatMap (extW (fr ps) (fr qs) m) ++ (((firstL m).take s).filter (cnd (fr ps) (fr qs) w)).map fun c => w ++ [c]).map D.str)), .fz (.str w), .fz (sg c), .un]) := by
          have e := ev_compR' (G := GL) (Φ := F (k + 1)) (ρ := [.fz (compD n ps), .fz (compD m qs), .fz (toldD m qs), .fz (toldD n ps), .fz (.lst ((mapL (fr ps) (fr qs) m j).map D.str)), .fz (.int j), .own (.lst ((((mapL (fr ps) (fr qs) m j).take i).flatMap (extW (fr ps) (fr qs) m) ++ (((firstL m).take s).filter (cnd (fr ps) (fr qs) w)).map fun c => w ++ [c]).map D.str)), .fz (.str w), .fz (sg c), .un]) (ρ1 := [.fz (compD n ps), .fz (compD m qs), .fz (toldD m qs), .fz (toldD n ps), .fz (.lst ((mapL (fr ps) (fr qs) m j).map D.str)), .fz (.int j), .own (.lst ((((mapL (fr ps) (fr qs) m j).take i).flatMap (extW (fr ps) (fr qs) m) ++ (((firstL m).take s).filter (cnd (fr ps) (fr qs) w)).map fun c => w ++ [c]).map D.str)), .fz (.str w), .fz (sg c), .un]) (own := [9]) (tg := [9]) (it := .range1 (.var 5)) (c := .none)
            (elt := .or (.cmp .isin (.idx (.glob 2) (.var 9)) (.idx (.var 3) (.idx (.glob 2) (.var 5)))) (.cmp .notin (.idx (.var 7) (.var 9)) (.idx (.var 2) (.var 8)))) (a := 0) (b := j) j (fun p => some (.bl (fr ps (97 + p) (97 + w.length) || !fr qs (w.getD p 0) c))) (by (simp [run, exs, ex, ev, evs, evi, evo, evo', startE, isBrw, pureE, pureEs, pureO, ioOf, lastIo, setTg, setAll, setPar, wipeE, backE, allocE, isLst, b2, b3] <;> try with_reducible rfl)) (by omega) (by simp) (by omega) fun p hp => by
              have ap := alph_idx p (by omega)
              have w1 := idx_str (w := w) (j := p) (by omega) (List.getElem?_eq_getElem (by omega))
              have g1 : w.getD p 0 = w[p]'(by omega) := by rw [List.getD_eq_getElem?_getD, List.getElem?_eq_getElem (by omega)]; rfl
              have n2 := in_told o1 (c := 97 + j) (b := 97 + p) (by omega)
              rw [show 97 + j - 97 = j by omega] at n2
              have n3 := notin_told o2 (b := w[p]'(by omega)) c1
              have key : (fr ps (97 + p) (97 + w.length) || !fr qs (w.getD p 0) c) = (fr ps (97 + j) (97 + p) || !fr qs c (w[p]'(by omega))) := by
                rw [g1, show 97 + w.length = 97 + j by omega, fr_symm ps (97 + p), fr_symm qs (w[p]'(by omega))]
              rw [key]
              cases e1 : fr ps (97 + j) (97 + p) with
              | true => rw [e1] at n2; (simp [run, exs, ex, ev, evs, evi, evo, evo', startE, isBrw, pureE, pureEs, pureO, ioOf, lastIo, setTg, setAll, setPar, wipeE, backE, allocE, isLst, lcT, g2, ap, ax, t1, n2] <;> try with_reducible rfl)
              | false => rw [e1] at n2; (simp [run, exs, ex, ev, evs, evi, evo, evo', startE, isBrw, pureE, pureEs, pureO, ioOf, lastIo, setTg, setAll, setPar, wipeE, backE, allocE, isLst, lcT, sg, g2, ap, ax, t1, n2, w1, t2, n3] <;> try with_reducible rfl)
          have e2 := ev_fn1' e (all_map _ _)
          rw [show ((List.range j).all fun p => fr ps (97 + p) (97 + w.length) || !fr qs (w.getD p 0) c) = cnd (fr ps) (fr qs) w c by unfold cnd; rw [wl]] at e2
          exact e2
        refine ⟨[.fz (compD n ps), .fz (compD m qs), .fz (toldD m qs), .fz (toldD n ps), .fz (.lst ((mapL (fr ps) (fr qs) m j).map D.str)), .fz (.int j), .own (.lst ((((mapL (fr ps) (fr qs) m j).take i).flatMap (extW (fr ps) (fr qs) m) ++ (((firstL m).take s).filter (cnd (fr ps) (fr qs) w)).map fun c => w ++ [c]).map D.str)), .fz (.str w), .fz (sg c), .un], by (simp [run, exs, ex, ev, evs, evi, evo, evo', startE, isBrw, pureE, pureEs, pureO, ioOf, lastIo, setTg, setAll, setPar, wipeE, backE, allocE, isLst, setFz_0 _ _ _ (blS_ok hb)] <;> try with_reducible rfl), w_ite_app (x := cnd (fr ps) (fr qs) w c) (ρ2 := [.fz (compD n ps), .fz (compD m qs), .fz (toldD m qs), .fz (toldD n ps), .fz (.lst ((mapL (fr ps) (fr qs) m j).map D.str)), .fz (.int j), .own (.lst ((((mapL (fr ps) (fr qs) m j).take i).flatMap (extW (fr ps) (fr qs) m) ++ (((firstL m).take s).filter (cnd (fr ps) (fr qs) w)).map fun c => w ++ [c]).map D.str ++ [.str (w ++ [c])])), .fz (.str w), .fz (sg c), .un]) ec (fun _ => ?_) (fun hg => ⟨.inl rfl, .fz (sg c), rfl, ?_⟩) (fun hg => ⟨.inl rfl, .fz (sg c), rfl, ?_⟩)⟩
        · exact ex_app' (d := .str (w ++ [c])) (ds := (((mapL (fr ps) (fr qs) m j).take i).flatMap (extW (fr ps) (fr qs) m) ++ (((firstL m).take s).filter (cnd (fr ps) (fr qs) w)).map fun c => w ++ [c]).map D.str) (ρ1 := [.fz (compD n ps), .fz (compD m qs), .fz (toldD m qs), .fz (toldD n ps), .fz (.lst ((mapL (fr ps) (fr qs) m j).map D.str)), .fz (.int j), .own (.lst ((((mapL (fr ps) (fr qs) m j).take i).flatMap (extW (fr ps) (fr qs) m) ++ (((firstL m).take s).filter (cnd (fr ps) (fr qs) w)).map fun c => w ++ [c]).map D.str)), .fz (.str w), .fz (sg c), .un]) (by (simp [run, exs, ex, ev, evs, evi, evo, evo', startE, isBrw, pureE, pureEs, pureO, ioOf, lastIo, setTg, setAll, setPar, wipeE, backE, allocE, isLst, sg, ea] <;> try with_reducible rfl)) rfl rfl (by rw [List.length_map]; exact ll) (by (simp [run, exs, ex, ev, evs, evi, evo, evo', startE, isBrw, pureE, pureEs, pureO, ioOf, lastIo, setTg, setAll, setPar, wipeE, backE, allocE, isLst] <;> try with_reducible rfl))
        · rw [take_snoc hsl, es, List.filter_append, List.filter_cons_of_pos hg]
          simp
        · rw [take_snoc hsl, es, List.filter_append, List.filter_cons_of_neg (by rw [hg]; simp)]
          simp
      · rintro ρ' ⟨b, hb, rfl⟩
        rw [List.length_map, List.take_length]
        refine w_end ⟨.inl rfl, .fz (.str w), b, rfl, hb, ?_⟩
        rw [take_snoc hi, ei, List.flatMap_append]
        simp [extW]
    · rintro ρ' ⟨a, b, ha, hb, rfl⟩
      rw [List.length_map, List.take_length, ← mapL_succ]
      have r1 := rlen (j + 1) (by omega)
      have ln : fnD .len [.lst ((mapL (fr ps) (fr qs) m (j + 1)).map D.str)] = some (.int (mapL (fr ps) (fr qs) m (j + 1)).length) := by show some (D.int ((mapL (fr ps) (fr qs) m (j + 1)).map D.str).length) = _; rw [List.length_map]
      have c1 : cmpD .gt (.int ((mapL (fr ps) (fr qs) m (j + 1)).length : Int)) (.int 3000) = some (.bl false) := by simp [cmpD]; omega
      exact w_nx (ρ1 := [.fz (compD n ps), .fz (compD m qs), .fz (toldD m qs), .fz (toldD n ps), .fz (.lst ((mapL (fr ps) (fr qs) m (j + 1)).map D.str)), .fz (.int j), .fz (.lst ((mapL (fr ps) (fr qs) m (j + 1)).map D.str)), a, b, .un]) (by (simp [run, exs, ex, ev, evs, evi, evo, evo', startE, isBrw, pureE, pureEs, pureO, ioOf, lastIo, setTg, setAll, setPar, wipeE, backE, allocE, isLst] <;> try with_reducible rfl)) (w_skip (ρ1 := [.fz (compD n ps), .fz (compD m qs), .fz (toldD m qs), .fz (toldD n ps), .fz (.lst ((mapL (fr ps) (fr qs) m (j + 1)).map D.str)), .fz (.int j), .fz (.lst ((mapL (fr ps) (fr qs) m (j + 1)).map D.str)), a, b, .un]) (by (simp [run, exs, ex, ev, evs, evi, evo, evo', startE, isBrw, pureE, pureEs, pureO, ioOf, lastIo, setTg, setAll, setPar, wipeE, backE, allocE, isLst, ln, g8, c1] <;> try with_reducible rfl)) (w_end ⟨.inl rfl, _, _, a, b, rfl, rfl, ha, hb, rfl⟩))
  · rintro ρ' ⟨t, l, a, b, ht, hl, ha, hb, rfl⟩
    rw [range_len, show ((n : Int) - 0).toNat = n by omega]
    exact w_ret (d := .lst ((mapL (fr ps) (fr qs) m n).map D.str)) (ρ1 := [.fz (compD n ps), .fz (compD m qs), .fz (toldD m qs), .fz (toldD n ps), .fz (.lst ((mapL (fr ps) (fr qs) m n).map D.str)), t, l, a, b, .un]) (by (simp [run, exs, ex, ev, evs, evi, evo, evo', startE, isBrw, pureE, pureEs, pureO, ioOf, lastIo, setTg, setAll, setPar, wipeE, backE, allocE, isLst] <;> try with_reducible rfl)) rfl ⟨.inl rfl, rfl⟩
theorem maps_ok (hF : Lv F) {n m : Nat} {ps qs : List (Nat × Nat)} (C : Comp n ps) (C2 : Comp m qs) (hm : m ^ n ≤ 3000) (k : Nat) : F (k + 4) 157 [compD n ps, compD m qs] none = some (.lst ((mapL (fr ps) (fr qs) m n).map D.str), none) := by
  rw [go157 hF]
  have s1 := need_company hF C k
  have s2 := need_company hF C2 k
  have s3 := rows_of hF C C2 hm (k + 1)
  exact run_of ⟨rfl, rfl⟩ (show W (exs GL (F (k + 3)) df157.body [.fz (compD n ps), .fz (compD m qs)]) _ from
    w_nx (ρ1 := [.fz (compD n ps), .fz (compD m qs)]) (by (simp [run, exs, ex, ev, evs, evi, evo, evo', startE, isBrw, pureE, pureEs, pureO, ioOf, lastIo, setTg, setAll, setPar, wipeE, backE, allocE, isLst, s1] <;> try with_reducible rfl)) (w_nx (ρ1 := [.fz (compD n ps), .fz (compD m qs)]) (by (simp [run, exs, ex, ev, evs, evi, evo, evo', startE, isBrw, pureE, pureEs, pureO, ioOf, lastIo, setTg, setAll, setPar, wipeE, backE, allocE, isLst, s2] <;> try with_reducible rfl)) (w_ret (d := .lst ((mapL (fr ps) (fr qs) m n).map D.str)) (ρ1 := [.fz (compD n ps), .fz (compD m qs)]) (by (simp [run, exs, ex, ev, evs, evi, evo, evo', startE, isBrw, pureE, pureEs, pureO, ioOf, lastIo, setTg, setAll, setPar, wipeE, backE, allocE, isLst, s3] <;> try with_reducible rfl)) rfl ⟨.inl rfl, rfl⟩)))
theorem count_maps (hF : Lv F) {n m : Nat} {ps qs : List (Nat × Nat)} (C : Comp n ps) (C2 : Comp m qs) (hm : m ^ n ≤ 3000) (k : Nat) : F (k + 5) 158 [compD n ps, compD m qs] none = some (.int ((mapL (fr ps) (fr qs) m n).map D.str).length, none) := by
  rw [go158 hF]
  have s3 := maps_ok hF C C2 hm k
  have ln : fnD .len [.lst ((mapL (fr ps) (fr qs) m n).map D.str)] = some (.int ((mapL (fr ps) (fr qs) m n).map D.str).length) := rfl
  exact run_of ⟨rfl, rfl⟩ (show W (exs GL (F (k + 4)) df158.body [.fz (compD n ps), .fz (compD m qs)]) _ from
    w_ret (d := .int ((mapL (fr ps) (fr qs) m n).map D.str).length) (ρ1 := [.fz (compD n ps), .fz (compD m qs)]) (by (simp [run, exs, ex, ev, evs, evi, evo, evo', startE, isBrw, pureE, pureEs, pureO, ioOf, lastIo, setTg, setAll, setPar, wipeE, backE, allocE, isLst, s3, ln] <;> try with_reducible rfl)) rfl ⟨.inl rfl, rfl⟩)
/-! ### lists of pairs of signs -/
def pairSP (p : Nat × Nat) : PyData := .tuple [.str (toS [97 + p.1]), .str (toS [97 + p.2])]
theorem pds_pairS : ∀ ps : List (Nat × Nat), pds (ps.map pairS) = some (ps.map pairSP)
  | [] => rfl
  | p :: ps => by
    have : pd (pairS p) = some (pairSP p) := rfl
    simp only [List.map_cons, pds, this, pds_pairS ps]
theorem strOk1 {c : Nat} (h : c < 1000) : PyData.strOk (toS [c]) = true := by
  simp [PyData.strOk, toS]; omega
theorem can_pairS : ∀ ps : List (Nat × Nat), (∀ p ∈ ps, p.1 < 7 ∧ p.2 < 7) → PyData.canLayAll0 (ps.map pairSP) = true
  | [], _ => rfl
  | p :: ps, h => by
    have h1 := h p (List.mem_cons_self ..)
    simp [PyData.canLayAll0, PyData.canLay0, pairSP, can_pairS ps fun q hq => h q (List.mem_cons_of_mem _ hq), strOk1 (show 97 + p.1 < 1000 by omega), strOk1 (show 97 + p.2 < 1000 by omega)]
theorem dep_pairS : ∀ ps : List (Nat × Nat), PyData.depthAll (ps.map pairSP) ≤ 1
  | [] => by simp [PyData.depthAll]
  | p :: ps => by
    have := dep_pairS ps
    simp [PyData.depthAll, PyData.depth, pairSP] at this ⊢
    omega
theorem shaped_pairS (ps : List (Nat × Nat)) (h : ∀ p ∈ ps, p.1 < 7 ∧ p.2 < 7) : SeqAt.shaped (.list (ps.map pairSP)) = true := by
  unfold SeqAt.shaped
  have := dep_pairS ps
  simp [PyData.canLay0, can_pairS ps h, PyData.depth]
  omega
theorem eqD_nilP (l : List (Nat × Nat)) (h : ∀ p ∈ l, p.1 < 7 ∧ p.2 < 7) : eqD (.lst (l.map pairS)) (.lst []) = some (decide (l = [])) := by
  have h0 : SeqAt.shaped (.list []) = true := shaped_pairS [] (by simp)
  simp only [eqD, pd, pds_pairS, pds, Option.map]
  rw [if_pos ⟨shaped_pairS l h, h0⟩]
  cases l with
  | nil => rfl
  | cons c l => rfl
theorem eq_nilP (l : List (Nat × Nat)) (h : ∀ p ∈ l, p.1 < 7 ∧ p.2 < 7) : cmpD .eq (.lst (l.map pairS)) (.lst []) = some (.bl (decide (l = []))) := by
  show (eqD _ _).map D.bl = _
  rw [eqD_nilP l h]; rfl
theorem ne_nilP (l : List (Nat × Nat)) (h : ∀ p ∈ l, p.1 < 7 ∧ p.2 < 7) : cmpD .ne (.lst (l.map pairS)) (.lst []) = some (.bl (!decide (l = []))) := by
  show (eqD _ _).map (fun x => D.bl (!x)) = _
  rw [eqD_nilP l h]; rfl
end Mini
/-! Law k47: maps. -/
namespace Mini
open PySem
variable {F : Nat → Fn}
theorem bent_lt {r1 r2 : Nat → Nat → Bool} {n : Nat} (hn : n ≤ 7) {w : Sg} : ∀ p ∈ bentL r1 r2 n w, p.1 < 7 ∧ p.2 < 7 := fun p hp => by
  have := mem_pairsAll.mp (List.mem_filter.mp hp).1
  omega
theorem head_none {α : Type} (l : List α) : l.head?.isNone = decide (l = []) := by cases l <;> rfl
theorem brok_idx {l : List (Nat × Nat)} (h : l ≠ []) : idxD (.lst (l.map pairS)) (.int 0) = some (brokD l.head?) := by
  cases l with
  | nil => exact absurd rfl h
  | cons p l => exact idx_lst (i := 0) rfl
theorem alike_brok (hF : Lv F) (o : Option (Nat × Nat)) (k : Nat) : F (k + 2) 405 [brokD o, brokD o] none = some (.bl true, none) := by
  cases o with
  | none => exact alike_none hF (k + 1)
  | some p =>
    refine alike_tup hF (by show 2 ≤ _; omega) fun d hd => ?_
    rcases List.mem_cons.mp hd with rfl | hd
    · exact alike_str hF _ k
    · rcases List.mem_cons.mp hd with rfl | hd
      · exact alike_str hF _ k
      · cases hd
theorem fr_mem {ps : List (Nat × Nat)} (o : ∀ p ∈ ps, p.1 < p.2) {p : Nat × Nat} (h : p.1 < p.2) : decide (p ∈ ps) = fr ps (97 + p.1) (97 + p.2) := by
  have := fr_pair o (a := 97 + p.1) (b := 97 + p.2) (by omega) (by omega)
  rw [show (min (97 + p.1) (97 + p.2) - 97, max (97 + p.1) (97 + p.2) - 97) = p by rw [Prod.ext_iff]; simp only; omega] at this
  exact this
/-- words alike come to words alike -/
theorem keep_kind {n m : Nat} {ps qs : List (Nat × Nat)} (C : Comp n ps) (C2 : Comp m qs) {t w : Sg} (ht : Let m t) (tl : t.length = n) (hw : Let n w) (hk : okW (fr ps) (fr qs) t = true) : lo (fr qs) (firsts ((lo (fr ps) (firsts w)).map (mpf t))) = lo (fr qs) (firsts (w.map (mpf t))) := by
  have r1 := fr_irr (ps := ps) fun p hp => (C.ord p hp).1
  have r2 := fr_irr (ps := qs) fun p hp => (C2.ord p hp).1
  rw [lo_firsts r1, lo_firsts r2, lo_firsts r2]
  refine lo_like r2 _ _ (map_like (like_lo (fr_symm ps) r1 w) fun x hx y hy h => ?_)
  have lx := hw x ((mem_lo w x).mp hx)
  have ly := hw y ((mem_lo w y).mp hy)
  rw [okW_iff] at hk
  by_cases e : x = y
  · subst e; rw [r2] at h; cases h
  · rcases Nat.lt_or_ge x y with q | q
    · have := hk (x - 97) (y - 97) (by omega) (by omega)
      unfold badP at this
      simp only at this
      rw [show 97 + (x - 97) = x by omega, show 97 + (y - 97) = y by omega] at this
      have h' : fr qs (t.getD (x - 97) 0) (t.getD (y - 97) 0) = true := by rw [fr_symm]; exact h
      rw [h', Bool.and_true, Bool.not_eq_false'] at this
      rw [fr_symm]; exact this
    · have := hk (y - 97) (x - 97) (by omega) (by omega)
      unfold badP at this
      simp only at this
      rw [show 97 + (x - 97) = x by omega, show 97 + (y - 97) = y by omega] at this
      have h' : fr qs (t.getD (y - 97) 0) (t.getD (x - 97) 0) = true := h
      rw [h', Bool.and_true, Bool.not_eq_false'] at this
      exact this
/-- a text's letters changed -/
theorem ev_moved {Φ : Fn} {ρ : En} {n m i : Nat} {t K : Sg} (ht : Let m t) (tl : t.length = n) (hn : n ≤ 7) (hK : Let n K) (kl : K.length < 60) (h4 : getFz ρ 4 = some (.str t)) (hi : getFz ρ i = some (.str K)) (hc : clean ρ [13] = true)
    (hs : ∀ c d (j : Int), mtD .index (.str [97, 98, 99, 100, 101, 102, 103]) [sg c] = some (.int j) → idxD (.str t) (.int j) = some d → lcT GL Φ [13] (.idx (.var 4) (.mt .index (.str [97, 98, 99, 100, 101, 102, 103]) (.cons (.var 13) .nil))) [13] .none (sg c) (wipeE ρ [13]) = some (some d, wipeE ρ [13])) :
    ev GL Φ (.mt .join (.str []) (.cons (.comp [13] (.idx (.var 4) (.mt .index (.str [97, 98, 99, 100, 101, 102, 103]) (.cons (.var 13) .nil))) [13] (.seq (.var i)) .none) .nil)) ρ = some (.str (K.map (mpf t)), ρ) := by
  have hlim : LIM = 4000000 := rfl
  have e := ev_comp' (G := GL) (Φ := Φ) (ρ := ρ) (ρ1 := ρ) (own := [13]) (elt := .idx (.var 4) (.mt .index (.str [97, 98, 99, 100, 101, 102, 103]) (.cons (.var 13) .nil))) (tg := [13]) (it := .seq (.var i)) (c := .none)
    K sg (fun c => some (sg (mpf t c))) (by (simp [run, exs, ex, ev, evs, evi, evo, evo', startE, isBrw, pureE, pureEs, pureO, ioOf, lastIo, setTg, setAll, setPar, wipeE, backE, allocE, isLst, hi, seq_str] <;> try with_reducible rfl)) hc (by omega) (fun c hc => by
      obtain ⟨h1, h2, _⟩ := map_txt ht tl hn hK hc
      exact hs c _ _ h1 h2)
  rw [fmap_some, show K.map (fun c => sg (mpf t c)) = (K.map (mpf t)).map sg by rw [List.map_map]; rfl] at e
  exact ev_mt' (m := .join) (o := .str []) (x := .str []) (ρ1 := ρ) (by (simp [run, exs, ex, ev, evs, evi, evo, evo', startE, isBrw, pureE, pureEs, pureO, ioOf, lastIo, setTg, setAll, setPar, wipeE, backE, allocE, isLst] <;> try with_reducible rfl)) (evs_cons' e evs_nil) (join_sgs (w := K.map (mpf t)) (by rw [List.length_map]; omega))
theorem law47 (hF : Lv F) (k : Nat) (ns : List Int) : F (k + 20) 1047 [.lst (ns.map D.int)] none = some (.bl true, none) := by
  have R0 : Row (.lst [.lst (ns.map D.int), .int 0, .int 7947, .int 0]) := row_mk ns 0 7947 0 (by omega)
  obtain ⟨n, ps, r1, e1, C, n4, Q1⟩ := law_company hF R0 (m := 4) (by omega) (by omega) (k + 17)
  obtain ⟨m, qs, r2, e2, C2, m3, Q2⟩ := law_company hF Q1 (m := 3) (by omega) (by omega) (k + 17)
  have hn := C.hi
  have n1 := C.lo
  have hm7 := C2.hi
  have m1 := C2.lo
  have hlim : LIM = 4000000 := rfl
  have o1 : ∀ p ∈ ps, p.1 < p.2 := fun p hp => (C.ord p hp).1
  have o2 : ∀ p ∈ qs, p.1 < p.2 := fun p hp => (C2.ord p hp).1
  have i0 : idxD (compD n ps) (.int 0) = some (.int n) := rfl
  have i1 : idxD (compD n ps) (.int 1) = some (.tup (ps.map pairD)) := rfl
  have j0 : idxD (compD m qs) (.int 0) = some (.int m) := rfl
  have b0 : (-1000000 : Int) ≤ (n : Int) := by omega
  have b1 : (n : Int) ≤ 1000000 := by omega
  have mn : m ^ n ≤ 81 := Nat.le_trans (Nat.le_trans (Nat.pow_le_pow_left (show m ≤ 3 by omega) _) (Nat.pow_le_pow_right (by omega) (show n ≤ 4 by omega))) (by decide)
  -- the told map
  obtain ⟨ys, ρ5, hl, hp, ⟨r3, Q3, rfl⟩, ec⟩ := ev_compS (G := GL) (Φ := F (k + 19)) (ρ := [.fz (.lst (ns.map D.int)), .own r2, .fz (compD n ps), .fz (compD m qs), .un, .un, .un, .un, .un, .un, .un, .un, .un, .un, .un]) (ρ1 := [.fz (.lst (ns.map D.int)), .own r2, .fz (compD n ps), .fz (compD m qs), .un, .un, .un, .un, .un, .un, .un, .un, .un, .un, .un]) (own := [5]) (elt := .idx (.str [97, 98, 99, 100, 101, 102, 103]) (.call 400 (.io 1 (.cons (.idx (.var 3) (.int 0)) .nil)))) (tg := [5]) (it := .range1 (.idx (.var 2) (.int 0))) (c := .none)
    (List.range n) (fun i => D.int ((0 : Int) + (i : Nat))) (fun ρ => ∃ r, Row r ∧ ρ = [.fz (.lst (ns.map D.int)), .own r, .fz (compD n ps), .fz (compD m qs), .un, .un, .un, .un, .un, .un, .un, .un, .un, .un, .un]) (fun y => ∃ c, y = sg c ∧ 97 ≤ c ∧ c < 97 + m) (by
      have rg : rangeD 0 (n : Int) = (List.range n).map fun i => D.int ((0 : Int) + (i : Nat)) := by
        unfold rangeD
        rw [show ((n : Int) - 0).toNat = n by omega]
      rw [← rg]; (simp [run, exs, ex, ev, evs, evi, evo, evo', startE, isBrw, pureE, pureEs, pureO, ioOf, lastIo, setTg, setAll, setPar, wipeE, backE, allocE, isLst, i0, b0, b1] <;> try with_reducible rfl)) (by simp) (by rw [List.length_range]; omega) ⟨r2, Q2, rfl⟩ (by
      rintro i hi ρ ⟨r, Q, rfl⟩
      obtain ⟨g, r', e', g0, g1, Q'⟩ := taken_ok hF Q (m := (m : Int)) (by omega) (by omega) (k + 18)
      obtain ⟨q, hq⟩ : ∃ q : Nat, (q : Int) = g := ⟨g.toNat, by omega⟩
      subst hq
      have ix : idxD (.str [97, 98, 99, 100, 101, 102, 103]) (.int (q : Int)) = some (.str [97 + q]) := alph_idx q (by omega)
      refine ⟨sg (97 + q), [.fz (.lst (ns.map D.int)), .own r', .fz (compD n ps), .fz (compD m qs), .un, .un, .un, .un, .un, .un, .un, .un, .un, .un, .un], ?_, ⟨97 + q, rfl, by omega, by omega⟩, r', Q', rfl⟩
      (simp [run, exs, ex, ev, evs, evi, evo, evo', startE, isBrw, pureE, pureEs, pureO, ioOf, lastIo, setTg, setAll, setPar, wipeE, backE, allocE, isLst, lcT, e', j0, ix, sg] <;> try with_reducible rfl))
  obtain ⟨t, rfl, ht⟩ := sgs_of ys hp
  rw [List.length_map, List.length_range] at hl
  have jt := join_sgs (w := t) (by omega)
  have aw := law_all_words hF C2 (m := n) (by omega) (by omega) (k + 18)
  have pa := law_pairs hF (k + 18) n n1 hn
  have h404 : ∀ a b, 97 ≤ a → a < 104 → 97 ≤ b → b < 104 → F (k + 19) 404 [compD m qs, .str [a], .str [b]] none = some (.bl (fr qs a b), none) := fun a b a1 a2 b1 b2 => law_friend hF o2 a1 a2 b1 b2 (k + 18)
  have mp := maps_ok hF C C2 (by omega) (k + 15)
  have cm := count_maps hF C C2 (by omega) (k + 14)
  have rr := fr_irr o2
  obtain ⟨K, r4, e4, hK, Q4⟩ := law_drawn_kind hF C Q3 (k + 16)
  obtain ⟨w2, r5, e5, hw2, ne2, wl2, Q5⟩ := law_word hF C Q4 (m := 8) (by omega) (by omega) (k + 17)
  have kl := nodup_len n K hK.ok hK.nd
  have im := image_ok hF C C2 ht hl hK (k + 14)
  have mk := law_kind hF C2 (w0 := K.map (mpf t)) (by rw [List.length_map]; omega) (map_let ht hl hn hK.ok) (k + 17)
  have ak := alike_str hF (lo (fr qs) (firsts (K.map (mpf t)))) (k + 18)
  have lk2 := law_kind hF C (w0 := w2) (by omega) hw2 (k + 17)
  have hK2 := kind_lo C (w := firsts w2) fun c hc => hw2 c (firsts_mem hc)
  have im2 := image_ok hF C C2 ht hl hK2 (k + 14)
  have mk2 := law_kind hF C2 (w0 := w2.map (mpf t)) (by rw [List.length_map]; omega) (map_let ht hl hn hw2) (k + 17)
  have rl : (mapL (fr ps) (fr qs) m n).length ≤ 81 := by
    have h1 : (mapL (fr ps) (fr qs) m n).length ≤ (allW m n).length := List.length_filter_le ..
    rw [allW_len m m1 hm7] at h1; omega
  have al5 : F (k + 19) 405 [.lst [.lst ((mapL (fr ps) (fr qs) m n).map D.str), .int ((mapL (fr ps) (fr qs) m n).map D.str).length], .lst [.lst ((mapL (fr ps) (fr qs) m n).map D.str), .int ((mapL (fr ps) (fr qs) m n).map D.str).length]] none = some (.bl true, none) := by
    refine alike_lst hF (by show 2 ≤ _; omega) (k := k + 17) fun d hd => ?_
    rcases List.mem_cons.mp hd with rfl | hd
    · exact alike_lst hF (by rw [List.length_map]; omega) (k := k + 16) fun d hd => by
        rw [List.mem_map] at hd
        obtain ⟨w, _, rfl⟩ := hd
        exact alike_str hF w (k + 16)
    · rcases List.mem_cons.mp hd with rfl | hd
      · exact alike_int hF _ (k + 17)
      · cases hd
  rw [go1047 hF]
  refine run_of ⟨rfl, rfl⟩ (show W (exs GL (F (k + 19)) df1047.body [.fz (.lst (ns.map D.int)), .un, .un, .un, .un, .un, .un, .un, .un, .un, .un, .un, .un, .un, .un]) _ from
    w_nx (ρ1 := [.fz (.lst (ns.map D.int)), .own (.lst [.lst (ns.map D.int), .int 0, .int 7947, .int 0]), .un, .un, .un, .un, .un, .un, .un, .un, .un, .un, .un, .un, .un]) (by (simp [run, exs, ex, ev, evs, evi, evo, evo', startE, isBrw, pureE, pureEs, pureO, ioOf, lastIo, setTg, setAll, setPar, wipeE, backE, allocE, isLst, LIM] <;> try with_reducible rfl))
      (w_nx (ρ1 := [.fz (.lst (ns.map D.int)), .own r2, .fz (compD n ps), .fz (compD m qs), .un, .un, .un, .un, .un, .un, .un, .un, .un, .un, .un]) (by (simp [run, exs, ex, ev, evs, evi, evo, evo', startE, isBrw, pureE, pureEs, pureO, ioOf, lastIo, setTg, setAll, setPar, wipeE, backE, allocE, isLst, e1, e2, LIM] <;> try with_reducible rfl))
        (w_nx (ρ1 := [.fz (.lst (ns.map D.int)), .own r3, .fz (compD n ps), .fz (compD m qs), .fz (.str t), .un, .un, .un, .un, .un, .un, .un, .un, .un, .un]) ?_
          (w_nx (ρ1 := [.fz (.lst (ns.map D.int)), .own r3, .fz (compD n ps), .fz (compD m qs), .fz (.str t), .un, .fz (.lst ([])), .un, .un, .un, .un, .un, .un, .un, .un]) (by (simp [run, exs, ex, ev, evs, evi, evo, evo', startE, isBrw, pureE, pureEs, pureO, ioOf, lastIo, setTg, setAll, setPar, wipeE, backE, allocE, isLst, LIM] <;> try with_reducible rfl)) (w_for (xs := (allW m n).map D.str) (ρ1 := [.fz (.lst (ns.map D.int)), .own r3, .fz (compD n ps), .fz (compD m qs), .fz (.str t), .un, .fz (.lst ([])), .un, .un, .un, .un, .un, .un, .un, .un]) (fun i ρ => ∃ w b p q, blS w = true ∧ okS b = true ∧ blS p = true ∧ blS q = true ∧ ρ = [.fz (.lst (ns.map D.int)), .own r3, .fz (compD n ps), .fz (compD m qs), .fz (.str t), .un, .fz (.lst ((((allW m n).take i).filter (okW (fr ps) (fr qs))).map D.str)), w, b, p, q, .un, .un, .un, .un]) (by (simp [run, exs, ex, ev, evs, evi, evo, evo', startE, isBrw, pureE, pureEs, pureO, ioOf, lastIo, setTg, setAll, setPar, wipeE, backE, allocE, isLst, i0, aw, seqD] <;> try with_reducible rfl)) ⟨.un, .un, .un, .un, rfl, rfl, rfl, rfl, rfl⟩ ?_ ?_)))))
  · exact ex_set' (ev_mt' (m := .join) (o := .str []) (x := .str []) (ρ1 := [.fz (.lst (ns.map D.int)), .own r2, .fz (compD n ps), .fz (compD m qs), .un, .un, .un, .un, .un, .un, .un, .un, .un, .un, .un]) (by (simp [run, exs, ex, ev, evs, evi, evo, evo', startE, isBrw, pureE, pureEs, pureO, ioOf, lastIo, setTg, setAll, setPar, wipeE, backE, allocE, isLst] <;> try with_reducible rfl)) (evs_cons' ec evs_nil) jt) (by (simp [run, exs, ex, ev, evs, evi, evo, evo', startE, isBrw, pureE, pureEs, pureO, ioOf, lastIo, setTg, setAll, setPar, wipeE, backE, allocE, isLst] <;> try with_reducible rfl))
  · rintro i x ρ hx ⟨w0, b, p0, q0, hw0, hb, hp0, hq0, rfl⟩
    rw [List.getElem?_map, Option.map_eq_some_iff] at hx
    obtain ⟨w, hw, rfl⟩ := hx
    obtain ⟨hi, ei⟩ := List.getElem?_eq_some_iff.mp hw
    obtain ⟨lw, wl⟩ := (allW_word m1 hm7 n w).mp (List.mem_of_getElem? hw)
    generalize hDue : (((allW m n).take i).filter (okW (fr ps) (fr qs))).map D.str = due
    have dl : due.length ≤ 81 := by
      rw [← hDue, List.length_map]
      have h1 := List.length_filter_le (okW (fr ps) (fr qs)) ((allW m n).take i)
      rw [List.length_take, allW_len m m1 hm7] at h1
      omega
    refine ⟨[.fz (.lst (ns.map D.int)), .own r3, .fz (compD n ps), .fz (compD m qs), .fz (.str t), .un, .fz (.lst (due)), .fz (.str w), b, p0, q0, .un, .un, .un, .un], by (simp [run, exs, ex, ev, evs, evi, evo, evo', startE, isBrw, pureE, pureEs, pureO, ioOf, lastIo, setTg, setAll, setPar, wipeE, backE, allocE, isLst, setFz_0 _ _ _ (blS_ok hw0)] <;> try with_reducible rfl), w_nx (ρ1 := [.fz (.lst (ns.map D.int)), .own r3, .fz (compD n ps), .fz (compD m qs), .fz (.str t), .un, .fz (.lst (due)), .fz (.str w), .own (.lst []), p0, q0, .un, .un, .un, .un]) (by (simp [run, exs, ex, ev, evs, evi, evo, evo', startE, isBrw, pureE, pureEs, pureO, ioOf, lastIo, setTg, setAll, setPar, wipeE, backE, allocE, isLst, setOwn_0 _ _ _ hb, LIM] <;> try with_reducible rfl)) ?_⟩
    refine w_for (xs := (pairsAll n).map pairD) (ρ1 := [.fz (.lst (ns.map D.int)), .own r3, .fz (compD n ps), .fz (compD m qs), .fz (.str t), .un, .fz (.lst (due)), .fz (.str w), .own (.lst []), p0, q0, .un, .un, .un, .un]) (fun s ρ => ∃ p q, blS p = true ∧ blS q = true ∧ ρ = [.fz (.lst (ns.map D.int)), .own r3, .fz (compD n ps), .fz (compD m qs), .fz (.str t), .un, .fz (.lst (due)), .fz (.str w), .own (.lst ((((pairsAll n).take s).filter (badP (fr ps) (fr qs) w)).map pairS)), p, q, .un, .un, .un, .un]) (by (simp [run, exs, ex, ev, evs, evi, evo, evo', startE, isBrw, pureE, pureEs, pureO, ioOf, lastIo, setTg, setAll, setPar, wipeE, backE, allocE, isLst, i0, pa, seqD] <;> try with_reducible rfl)) ⟨p0, q0, hp0, hq0, rfl⟩ ?_ ?_
    · rintro s y ρ hs ⟨p0, q0, hp0, hq0, rfl⟩
      rw [List.getElem?_map, Option.map_eq_some_iff] at hs
      obtain ⟨p, hp, rfl⟩ := hs
      obtain ⟨hsl, es⟩ := List.getElem?_eq_some_iff.mp hp
      obtain ⟨p12, p2n⟩ := mem_pairsAll.mp (List.mem_of_getElem? hp)
      have w1 := idx_str (w := w) (j := p.1) (by omega) (List.getElem?_eq_getElem (by omega))
      have w2' := idx_str (w := w) (j := p.2) (by omega) (List.getElem?_eq_getElem (by omega))
      have g1 : w.getD p.1 0 = w[p.1]'(by omega) := by rw [List.getD_eq_getElem?_getD, List.getElem?_eq_getElem (by omega)]; rfl
      have g2' : w.getD p.2 0 = w[p.2]'(by omega) := by rw [List.getD_eq_getElem?_getD, List.getElem?_eq_getElem (by omega)]; rfl
      have l1 := lw (w[p.1]'(by omega)) (List.getElem_mem _)
      have l2 := lw (w[p.2]'(by omega)) (List.getElem_mem _)
      have a1 : idxD (.str [97, 98, 99, 100, 101, 102, 103]) (.int (p.1 : Int)) = some (.str [97 + p.1]) := alph_idx p.1 (by omega)
      have a2 : idxD (.str [97, 98, 99, 100, 101, 102, 103]) (.int (p.2 : Int)) = some (.str [97 + p.2]) := alph_idx p.2 (by omega)
      have fr1 := h404 (w[p.1]'(by omega)) (w[p.2]'(by omega)) (by omega) (by omega) (by omega) (by omega)
      have nin : cmpD .notin (.tup [.int (p.1 : Int), .int (p.2 : Int)]) (.tup (ps.map pairD)) = some (.bl (!fr ps (97 + p.1) (97 + p.2))) := by
        show (inD (pairD p) (ps.map pairD)).map (fun b => D.bl (!b)) = _
        rw [in_pairs, fr_mem o1 p12]; rfl
      have bd : badP (fr ps) (fr qs) w p = (!fr ps (97 + p.1) (97 + p.2) && fr qs (w[p.1]'(by omega)) (w[p.2]'(by omega))) := by
        unfold badP; rw [g1, g2']
      have len : ((((pairsAll n).take s).filter (badP (fr ps) (fr qs) w)).map pairS).length < LIM := by
        rw [List.length_map]
        have h1 := List.length_filter_le (badP (fr ps) (fr qs) w) ((pairsAll n).take s)
        rw [List.length_take] at h1
        have := (comp_all n n1 hn).len
        omega
      generalize hB : (((pairsAll n).take s).filter (badP (fr ps) (fr qs) w)).map pairS = bt at len
      refine ⟨[.fz (.lst (ns.map D.int)), .own r3, .fz (compD n ps), .fz (compD m qs), .fz (.str t), .un, .fz (.lst (due)), .fz (.str w), .own (.lst bt), .fz (.int p.1), .fz (.int p.2), .un, .un, .un, .un], by (simp [run, exs, ex, ev, evs, evi, evo, evo', startE, isBrw, pureE, pureEs, pureO, ioOf, lastIo, setTg, setAll, setPar, wipeE, backE, allocE, isLst, pairD, setFz_0 _ _ _ (blS_ok hp0), setFz_0 _ _ _ (blS_ok hq0)] <;> try with_reducible rfl), w_ite_app (x := badP (fr ps) (fr qs) w p) (ρ2 := [.fz (.lst (ns.map D.int)), .own r3, .fz (compD n ps), .fz (compD m qs), .fz (.str t), .un, .fz (.lst (due)), .fz (.str w), .own (.lst (bt ++ [pairS p])), .fz (.int p.1), .fz (.int p.2), .un, .un, .un, .un]) ?_ (fun _ => ?_) (fun hg => ⟨.inl rfl, .fz (.int p.1), .fz (.int p.2), rfl, rfl, ?_⟩) (fun hg => ⟨.inl rfl, .fz (.int p.1), .fz (.int p.2), rfl, rfl, ?_⟩)⟩
      · rw [bd]
        cases f1 : fr ps (97 + p.1) (97 + p.2) with
        | true => rw [f1] at nin; (simp [run, exs, ex, ev, evs, evi, evo, evo', startE, isBrw, pureE, pureEs, pureO, ioOf, lastIo, setTg, setAll, setPar, wipeE, backE, allocE, isLst, i1, nin, LIM] <;> try with_reducible rfl)
        | false =>
          rw [f1] at nin
          by_cases q : w[p.1]'(by omega) = w[p.2]'(by omega)
          · have fq : fr qs (w[p.1]'(by omega)) (w[p.2]'(by omega)) = false := by rw [q]; exact rr _
            rw [fq]
            (simp [run, exs, ex, ev, evs, evi, evo, evo', startE, isBrw, pureE, pureEs, pureO, ioOf, lastIo, setTg, setAll, setPar, wipeE, backE, allocE, isLst, i1, nin, w1, w2', ne_str, q, LIM] <;> try with_reducible rfl)
          · (simp [run, exs, ex, ev, evs, evi, evo, evo', startE, isBrw, pureE, pureEs, pureO, ioOf, lastIo, setTg, setAll, setPar, wipeE, backE, allocE, isLst, i1, nin, w1, w2', ne_str, q, fr1, LIM] <;> try with_reducible rfl)
      · exact ex_app' (d := pairS p) (ds := bt) (ρ1 := [.fz (.lst (ns.map D.int)), .own r3, .fz (compD n ps), .fz (compD m qs), .fz (.str t), .un, .fz (.lst (due)), .fz (.str w), .own (.lst bt), .fz (.int p.1), .fz (.int p.2), .un, .un, .un, .un]) (by (simp [run, exs, ex, ev, evs, evi, evo, evo', startE, isBrw, pureE, pureEs, pureO, ioOf, lastIo, setTg, setAll, setPar, wipeE, backE, allocE, isLst, a1, a2, pairS, sg, LIM] <;> try with_reducible rfl)) rfl rfl len (by (simp [run, exs, ex, ev, evs, evi, evo, evo', startE, isBrw, pureE, pureEs, pureO, ioOf, lastIo, setTg, setAll, setPar, wipeE, backE, allocE, isLst] <;> try with_reducible rfl))
      · rw [take_snoc hsl, es, List.filter_append, List.filter_cons_of_pos hg, List.map_append, hB]; rfl
      · rw [take_snoc hsl, es, List.filter_append, List.filter_cons_of_neg (by rw [hg]; simp), List.map_append, hB]
        simp
    · rintro ρ' ⟨p0, q0, hp0, hq0, rfl⟩
      rw [List.length_map, List.take_length]
      have bl := bent_lt (r1 := fr ps) (r2 := fr qs) hn (w := w)
      have eB := eq_nilP _ bl
      have nB := ne_nilP _ bl
      have bI := brok_idx (l := bentL (fr ps) (fr qs) n w)
      have kp := keeps_ok hF C C2 (w := t) ht hl (k + 14)
      have fb := first_broken hF C C2 (w := t) ht hl (k + 14)
      have aa : F (k + 19) 405 [.lst [.bl (bentL (fr ps) (fr qs) n t).head?.isNone, brokD (bentL (fr ps) (fr qs) n t).head?], .lst [.bl (bentL (fr ps) (fr qs) n t).head?.isNone, brokD (bentL (fr ps) (fr qs) n t).head?]] none = some (.bl true, none) := by
        refine alike_lst hF (by show 2 ≤ _; omega) (k := k + 17) fun d hd => ?_
        rcases List.mem_cons.mp hd with rfl | hd
        · exact alike_bl hF _ (k + 17)
        · rcases List.mem_cons.mp hd with rfl | hd
          · exact alike_brok hF _ (k + 16)
          · cases hd
      have ok : okW (fr ps) (fr qs) w = decide (bentL (fr ps) (fr qs) n w = []) := by unfold okW; rw [wl]
      change W (exs GL (F (k + 19)) _ [.fz (.lst (ns.map D.int)), .own r3, .fz (compD n ps), .fz (compD m qs), .fz (.str t), .un, .fz (.lst (due)), .fz (.str w), .own (.lst ((bentL (fr ps) (fr qs) n w).map pairS)), p0, q0, .un, .un, .un, .un]) _
      have e6 : ∃ due', due' = (((allW m n).take (i + 1)).filter (okW (fr ps) (fr qs))).map D.str ∧ ex GL (F (k + 19)) (.set 6 (.bin .add (.var 6) (.ite (.cmp .eq (.brw 8) (.lst .nil)) (.lst (.cons (.var 7) .nil)) (.lst .nil)))) [.fz (.lst (ns.map D.int)), .own r3, .fz (compD n ps), .fz (compD m qs), .fz (.str t), .un, .fz (.lst (due)), .fz (.str w), .own (.lst ((bentL (fr ps) (fr qs) n w).map pairS)), p0, q0, .un, .un, .un, .un] = some (.nx, [.fz (.lst (ns.map D.int)), .own r3, .fz (compD n ps), .fz (compD m qs), .fz (.str t), .un, .fz (.lst (due')), .fz (.str w), .own (.lst ((bentL (fr ps) (fr qs) n w).map pairS)), p0, q0, .un, .un, .un, .un]) := by
        refine ⟨_, rfl, ?_⟩
        rw [take_snoc hi, ei, List.filter_append, List.map_append, hDue]
        cases hk : decide (bentL (fr ps) (fr qs) n w = []) with
        | true =>
          rw [hk] at eB ok
          rw [List.filter_cons_of_pos ok]
          have ad : bopD .add (.lst due) (.lst [.str w]) = some (.lst (due ++ [.str w])) := by
            show (if _ + _ ≤ LIM then some (D.lst (_ ++ _)) else none) = _
            rw [if_pos (by show _ + 1 ≤ _; omega)]
          (simp [run, exs, ex, ev, evs, evi, evo, evo', startE, isBrw, pureE, pureEs, pureO, ioOf, lastIo, setTg, setAll, setPar, wipeE, backE, allocE, isLst, eB, ad, LIM] <;> try with_reducible rfl)
        | false =>
          rw [hk] at eB ok
          rw [List.filter_cons_of_neg (by rw [ok]; simp)]
          have ad : bopD .add (.lst due) (.lst []) = some (.lst due) := by
            show (if _ + _ ≤ LIM then some (D.lst (_ ++ _)) else none) = _
            rw [if_pos (by show _ + 0 ≤ _; omega), List.append_nil]
          (simp [run, exs, ex, ev, evs, evi, evo, evo', startE, isBrw, pureE, pureEs, pureO, ioOf, lastIo, setTg, setAll, setPar, wipeE, backE, allocE, isLst, eB, ad, LIM] <;> try with_reducible rfl)
      obtain ⟨due', hd', e6⟩ := e6
      refine w_nx e6 (w_skip (ρ1 := [.fz (.lst (ns.map D.int)), .own r3, .fz (compD n ps), .fz (compD m qs), .fz (.str t), .un, .fz (.lst (due')), .fz (.str w), .own (.lst ((bentL (fr ps) (fr qs) n w).map pairS)), p0, q0, .un, .un, .un, .un]) ?_ (w_end ⟨.inl rfl, _, _, p0, q0, rfl, rfl, hp0, hq0, by rw [hd']⟩))
      by_cases q : w = t
      · subst q
        rw [head_none] at kp aa
        cases hk : decide (bentL (fr ps) (fr qs) n w = []) with
        | true =>
          rw [hk] at eB nB kp aa
          have he : bentL (fr ps) (fr qs) n w = [] := of_decide_eq_true hk
          rw [he] at fb aa eB nB ⊢
          have fb' : F (k + 14 + 5) 153 [compD n ps, compD m qs, .str w] none = some (.non, none) := fb
          have aa' : F (k + 19) 405 [.lst [.bl true, .non], .lst [.bl true, .non]] none = some (.bl true, none) := aa
          have eB' : cmpD .eq (.lst []) (.lst []) = some (.bl true) := eB
          have nB' : cmpD .ne (.lst []) (.lst []) = some (.bl false) := nB
          (simp [run, exs, ex, ev, evs, evi, evo, evo', startE, isBrw, pureE, pureEs, pureO, ioOf, lastIo, setTg, setAll, setPar, wipeE, backE, allocE, isLst, eq_str, kp, fb', aa', eB', nB', LIM] <;> try with_reducible rfl)
        | false =>
          rw [hk] at eB nB kp aa
          have bI := bI (of_decide_eq_false hk)
          (simp [run, exs, ex, ev, evs, evi, evo, evo', startE, isBrw, pureE, pureEs, pureO, ioOf, lastIo, setTg, setAll, setPar, wipeE, backE, allocE, isLst, eq_str, kp, fb, aa, eB, nB, bI, LIM] <;> try with_reducible rfl)
      · (simp [run, exs, ex, ev, evs, evi, evo, evo', startE, isBrw, pureE, pureEs, pureO, ioOf, lastIo, setTg, setAll, setPar, wipeE, backE, allocE, isLst, eq_str, q] <;> try with_reducible rfl)
  · rintro ρ' ⟨w, b, p, q, hw, hb, hp, hq, rfl⟩
    rw [List.length_map, List.take_length]
    change W (exs GL (F (k + 19)) _ [.fz (.lst (ns.map D.int)), .own r3, .fz (compD n ps), .fz (compD m qs), .fz (.str t), .un, .fz (.lst ((mapL (fr ps) (fr qs) m n).map D.str)), w, b, p, q, .un, .un, .un, .un]) _
    have ln : fnD .len [.lst ((mapL (fr ps) (fr qs) m n).map D.str)] = some (.int ((mapL (fr ps) (fr qs) m n).map D.str).length) := rfl
    generalize hL : (mapL (fr ps) (fr qs) m n).map D.str = L at *
    generalize L.length = ll at *
    refine w_skip (ρ1 := [.fz (.lst (ns.map D.int)), .own r3, .fz (compD n ps), .fz (compD m qs), .fz (.str t), .un, .fz (.lst (L)), w, b, p, q, .un, .un, .un, .un]) (by (simp [run, exs, ex, ev, evs, evi, evo, evo', startE, isBrw, pureE, pureEs, pureO, ioOf, lastIo, setTg, setAll, setPar, wipeE, backE, allocE, isLst, mp, cm, ln, al5, LIM] <;> try with_reducible rfl)) ?_
    subst hL
    refine w_nx (ρ1 := [.fz (.lst (ns.map D.int)), .own r4, .fz (compD n ps), .fz (compD m qs), .fz (.str t), .un, .fz (.lst ((mapL (fr ps) (fr qs) m n).map D.str)), w, b, p, q, .fz (.str K), .un, .un, .un]) (by (simp [run, exs, ex, ev, evs, evi, evo, evo', startE, isBrw, pureE, pureEs, pureO, ioOf, lastIo, setTg, setAll, setPar, wipeE, backE, allocE, isLst, e4] <;> try with_reducible rfl)) ?_
    refine w_nx (ρ1 := [.fz (.lst (ns.map D.int)), .own r4, .fz (compD n ps), .fz (compD m qs), .fz (.str t), .un, .fz (.lst ((mapL (fr ps) (fr qs) m n).map D.str)), w, b, p, q, .fz (.str K), .fz (.str (K.map (mpf t))), .un, .un]) (ex_set' (ev_moved (n := n) (m := m) ht hl hn hK.ok (by omega) (by (simp [run, exs, ex, ev, evs, evi, evo, evo', startE, isBrw, pureE, pureEs, pureO, ioOf, lastIo, setTg, setAll, setPar, wipeE, backE, allocE, isLst] <;> try with_reducible rfl)) (by (simp [run, exs, ex, ev, evs, evi, evo, evo', startE, isBrw, pureE, pureEs, pureO, ioOf, lastIo, setTg, setAll, setPar, wipeE, backE, allocE, isLst] <;> try with_reducible rfl)) (by (simp [run, exs, ex, ev, evs, evi, evo, evo', startE, isBrw, pureE, pureEs, pureO, ioOf, lastIo, setTg, setAll, setPar, wipeE, backE, allocE, isLst] <;> try with_reducible rfl)) (fun c d j h1 h2 => by (simp [run, exs, ex, ev, evs, evi, evo, evo', startE, isBrw, pureE, pureEs, pureO, ioOf, lastIo, setTg, setAll, setPar, wipeE, backE, allocE, isLst, lcT, h1, h2] <;> try with_reducible rfl))) (by (simp [run, exs, ex, ev, evs, evi, evo, evo', startE, isBrw, pureE, pureEs, pureO, ioOf, lastIo, setTg, setAll, setPar, wipeE, backE, allocE, isLst] <;> try with_reducible rfl))) ?_
    refine w_skip (ρ1 := [.fz (.lst (ns.map D.int)), .own r4, .fz (compD n ps), .fz (compD m qs), .fz (.str t), .un, .fz (.lst ((mapL (fr ps) (fr qs) m n).map D.str)), w, b, p, q, .fz (.str K), .fz (.str (K.map (mpf t))), .un, .un]) (by (simp [run, exs, ex, ev, evs, evi, evo, evo', startE, isBrw, pureE, pureEs, pureO, ioOf, lastIo, setTg, setAll, setPar, wipeE, backE, allocE, isLst, im, mk, ak] <;> try with_reducible rfl)) ?_
    have nin := notin_strs t (mapL (fr ps) (fr qs) m n)
    by_cases hin : t ∈ mapL (fr ps) (fr qs) m n
    · rw [decide_eq_true hin] at nin
      have hk : okW (fr ps) (fr qs) t = true := (List.mem_filter.mp hin).2
      have kk := keep_kind C C2 ht hl hw2 hk
      rw [kk] at im2
      refine w_skip (ρ1 := [.fz (.lst (ns.map D.int)), .own r4, .fz (compD n ps), .fz (compD m qs), .fz (.str t), .un, .fz (.lst ((mapL (fr ps) (fr qs) m n).map D.str)), w, b, p, q, .fz (.str K), .fz (.str (K.map (mpf t))), .un, .un]) (by (simp [run, exs, ex, ev, evs, evi, evo, evo', startE, isBrw, pureE, pureEs, pureO, ioOf, lastIo, setTg, setAll, setPar, wipeE, backE, allocE, isLst, nin] <;> try with_reducible rfl)) ?_
      refine w_nx (ρ1 := [.fz (.lst (ns.map D.int)), .own r5, .fz (compD n ps), .fz (compD m qs), .fz (.str t), .un, .fz (.lst ((mapL (fr ps) (fr qs) m n).map D.str)), .fz (.str w2), b, p, q, .fz (.str K), .fz (.str (K.map (mpf t))), .un, .un]) (by (simp [run, exs, ex, ev, evs, evi, evo, evo', startE, isBrw, pureE, pureEs, pureO, ioOf, lastIo, setTg, setAll, setPar, wipeE, backE, allocE, isLst, e5, setFz_0 _ _ _ (blS_ok hw)] <;> try with_reducible rfl)) ?_
      refine w_nx (ρ1 := [.fz (.lst (ns.map D.int)), .own r5, .fz (compD n ps), .fz (compD m qs), .fz (.str t), .un, .fz (.lst ((mapL (fr ps) (fr qs) m n).map D.str)), .fz (.str w2), b, p, q, .fz (.str K), .fz (.str (K.map (mpf t))), .un, .fz (.str (w2.map (mpf t)))]) (ex_set' (ev_moved (n := n) (m := m) ht hl hn hw2 (by omega) (by (simp [run, exs, ex, ev, evs, evi, evo, evo', startE, isBrw, pureE, pureEs, pureO, ioOf, lastIo, setTg, setAll, setPar, wipeE, backE, allocE, isLst] <;> try with_reducible rfl)) (by (simp [run, exs, ex, ev, evs, evi, evo, evo', startE, isBrw, pureE, pureEs, pureO, ioOf, lastIo, setTg, setAll, setPar, wipeE, backE, allocE, isLst] <;> try with_reducible rfl)) (by (simp [run, exs, ex, ev, evs, evi, evo, evo', startE, isBrw, pureE, pureEs, pureO, ioOf, lastIo, setTg, setAll, setPar, wipeE, backE, allocE, isLst] <;> try with_reducible rfl)) (fun c d j h1 h2 => by (simp [run, exs, ex, ev, evs, evi, evo, evo', startE, isBrw, pureE, pureEs, pureO, ioOf, lastIo, setTg, setAll, setPar, wipeE, backE, allocE, isLst, lcT, h1, h2] <;> try with_reducible rfl))) (by (simp [run, exs, ex, ev, evs, evi, evo, evo', startE, isBrw, pureE, pureEs, pureO, ioOf, lastIo, setTg, setAll, setPar, wipeE, backE, allocE, isLst] <;> try with_reducible rfl))) ?_
      exact w_ret (d := .bl true) (ρ1 := [.fz (.lst (ns.map D.int)), .own r5, .fz (compD n ps), .fz (compD m qs), .fz (.str t), .un, .fz (.lst ((mapL (fr ps) (fr qs) m n).map D.str)), .fz (.str w2), b, p, q, .fz (.str K), .fz (.str (K.map (mpf t))), .un, .fz (.str (w2.map (mpf t)))]) (by (simp [run, exs, ex, ev, evs, evi, evo, evo', startE, isBrw, pureE, pureEs, pureO, ioOf, lastIo, setTg, setAll, setPar, wipeE, backE, allocE, isLst, lk2, im2, mk2, eq_str] <;> try with_reducible rfl)) rfl ⟨.inl rfl, rfl⟩
    · rw [decide_eq_false hin] at nin
      exact w_if (x := true) (ρ1 := [.fz (.lst (ns.map D.int)), .own r4, .fz (compD n ps), .fz (compD m qs), .fz (.str t), .un, .fz (.lst ((mapL (fr ps) (fr qs) m n).map D.str)), w, b, p, q, .fz (.str K), .fz (.str (K.map (mpf t))), .un, .un]) (by (simp [run, exs, ex, ev, evs, evi, evo, evo', startE, isBrw, pureE, pureEs, pureO, ioOf, lastIo, setTg, setAll, setPar, wipeE, backE, allocE, isLst, nin] <;> try with_reducible rfl)) (w_ret (d := .bl true) (ρ1 := [.fz (.lst (ns.map D.int)), .own r4, .fz (compD n ps), .fz (compD m qs), .fz (.str t), .un, .fz (.lst ((mapL (fr ps) (fr qs) m n).map D.str)), w, b, p, q, .fz (.str K), .fz (.str (K.map (mpf t))), .un, .un]) (by (simp [run, exs, ex, ev, evs, evi, evo, evo', startE, isBrw, pureE, pureEs, pureO, ioOf, lastIo, setTg, setAll, setPar, wipeE, backE, allocE, isLst] <;> try with_reducible rfl)) rfl (.inr ⟨by simp, .inl rfl, rfl⟩))
end Mini
namespace Law
open Mini
theorem pure (ns : List Int) (h : ns.length ≤ 63) : fnv GL PL 40 1047 [.lst (ns.map D.int)] none = some (.bl true, none) := law47 lv_fnv _ ns
end Law
namespace Law
open PySem PySem.Spec PyProof.Rows L2 Mini
def tp (i : Nat) : Stmt := PySem.Challenge.pw_oncewords_k47_whole_maps.main.body.getD i (.Pass ⟨0, 0, 0, 0⟩)
def td43 : TD := ⟨43, "whole", ⟨("whole", none), "whole", "whole", defArgs (tp 9), defBody (tp 9), defScope (tp 9), [], []⟩, ["value"], ["value"]⟩
def td44 : TD := ⟨44, "within", ⟨("within", none), "within", "within", defArgs (tp 10), defBody (tp 10), defScope (tp 10), [], []⟩, ["value", "low", "high"], ["value", "low", "high"]⟩
def td46 : TD := ⟨46, "tuple_of", ⟨("tuple_of", none), "tuple_of", "tuple_of", defArgs (tp 11), defBody (tp 11), defScope (tp 11), [], []⟩, ["value", "low", "high"], ["value", "low", "high"]⟩
def td47 : TD := ⟨47, "need_company", ⟨("need_company", none), "need_company", "need_company", defArgs (tp 12), defBody (tp 12), defScope (tp 12), [], []⟩, ["company", "index", "pair", "letter"], ["company"]⟩
def td48 : TD := ⟨48, "is_word", ⟨("is_word", none), "is_word", "is_word", defArgs (tp 13), defBody (tp 13), defScope (tp 13), [], []⟩, ["company", "value", "most", "sign"], ["company", "value", "most"]⟩
def td52 : TD := ⟨52, "is_set", ⟨("is_set", none), "is_set", "is_set", defArgs (tp 14), defBody (tp 14), defScope (tp 14), [], []⟩, ["company", "value", "sign", "at"], ["company", "value"]⟩
def td54 : TD := ⟨54, "friends_of_all", ⟨("friends_of_all", none), "friends_of_all", "friends_of_all", defArgs (tp 15), defBody (tp 15), defScope (tp 15), [], []⟩, ["company", "found", "sign", "one", "other"], ["company"]⟩
def td55 : TD := ⟨55, "least_order", ⟨("least_order", none), "least_order", "least_order", defArgs (tp 16), defBody (tp 16), defScope (tp 16), [], []⟩, ["told", "order", "rest", "found", "sign", "ahead", "other"], ["told", "order"]⟩
def td56 : TD := ⟨56, "first_stands", ⟨("first_stands", none), "first_stands", "first_stands", defArgs (tp 17), defBody (tp 17), defScope (tp 17), [], []⟩, ["word", "found", "sign"], ["word"]⟩
def td57 : TD := ⟨57, "is_kind", ⟨("is_kind", none), "is_kind", "is_kind", defArgs (tp 18), defBody (tp 18), defScope (tp 18), [], []⟩, ["company", "value"], ["company", "value"]⟩
def td58 : TD := ⟨58, "need_kind", ⟨("need_kind", none), "need_kind", "need_kind", defArgs (tp 19), defBody (tp 19), defScope (tp 19), [], []⟩, ["company", "kind"], ["company", "kind"]⟩
def td150 : TD := ⟨150, "need_map", ⟨("need_map", none), "need_map", "need_map", defArgs (tp 22), defBody (tp 22), defScope (tp 22), [], []⟩, ["one", "other", "told"], ["one", "other", "told"]⟩
def td151 : TD := ⟨151, "first_broken_of", ⟨("first_broken_of", none), "first_broken_of", "first_broken_of", defArgs (tp 23), defBody (tp 23), defScope (tp 23), [], []⟩, ["one", "other", "told", "near", "known", "at", "place"], ["one", "other", "told"]⟩
def td152 : TD := ⟨152, "keeps", ⟨("keeps", none), "keeps", "keeps", defArgs (tp 24), defBody (tp 24), defScope (tp 24), [], []⟩, ["one", "other", "told"], ["one", "other", "told"]⟩
def td153 : TD := ⟨153, "first_broken", ⟨("first_broken", none), "first_broken", "first_broken", defArgs (tp 25), defBody (tp 25), defScope (tp 25), [], []⟩, ["one", "other", "told"], ["one", "other", "told"]⟩
def td154 : TD := ⟨154, "image", ⟨("image", none), "image", "image", defArgs (tp 26), defBody (tp 26), defScope (tp 26), [], []⟩, ["one", "other", "told", "kind"], ["one", "other", "told", "kind"]⟩
def td155 : TD := ⟨155, "image_of", ⟨("image_of", none), "image_of", "image_of", defArgs (tp 27), defBody (tp 27), defScope (tp 27), [], []⟩, ["near", "told", "kind", "sign"], ["near", "told", "kind"]⟩
def td156 : TD := ⟨156, "rows_of", ⟨("rows_of", none), "rows_of", "rows_of", defArgs (tp 28), defBody (tp 28), defScope (tp 28), [], []⟩, ["one", "other", "near", "known", "rows", "at", "later", "row", "sign", "place"], ["one", "other"]⟩
def td157 : TD := ⟨157, "maps", ⟨("maps", none), "maps", "maps", defArgs (tp 29), defBody (tp 29), defScope (tp 29), [], []⟩, ["one", "other"], ["one", "other"]⟩
def td158 : TD := ⟨158, "count_maps", ⟨("count_maps", none), "count_maps", "count_maps", defArgs (tp 30), defBody (tp 30), defScope (tp 30), [], []⟩, ["one", "other"], ["one", "other"]⟩
def td400 : TD := ⟨400, "_law_taken", ⟨("_law_taken", none), "_law_taken", "_law_taken", defArgs (tp 32), defBody (tp 32), defScope (tp 32), [], []⟩, ["_law_row", "_law_many", "_law_found", "_law_cell"], ["_law_row", "_law_many"]⟩
def td401 : TD := ⟨401, "_law_pairs", ⟨("_law_pairs", none), "_law_pairs", "_law_pairs", defArgs (tp 33), defBody (tp 33), defScope (tp 33), [], []⟩, ["_law_many", "_law_found", "_law_one", "_law_other"], ["_law_many"]⟩
def td402 : TD := ⟨402, "_law_company", ⟨("_law_company", none), "_law_company", "_law_company", defArgs (tp 34), defBody (tp 34), defScope (tp 34), [], []⟩, ["_law_row", "_law_most", "_law_many", "_law_ways", "_law_pairs_here", "_law_pair"], ["_law_row", "_law_most"]⟩
def td413 : TD := ⟨413, "_law_all_words", ⟨("_law_all_words", none), "_law_all_words", "_law_all_words", defArgs (tp 35), defBody (tp 35), defScope (tp 35), [], []⟩, ["_law_company_here", "_law_length", "_law_rows", "_law_turn", "_law_longer", "_law_word_here", "_law_sign"], ["_law_company_here", "_law_length"]⟩
def td404 : TD := ⟨404, "_law_friend", ⟨("_law_friend", none), "_law_friend", "_law_friend", defArgs (tp 36), defBody (tp 36), defScope (tp 36), [], []⟩, ["_law_company_here", "_law_one", "_law_other", "_law_signs"], ["_law_company_here", "_law_one", "_law_other"]⟩
def td405 : TD := ⟨405, "_law_alike", ⟨("_law_alike", none), "_law_alike", "_law_alike", defArgs (tp 37), defBody (tp 37), defScope (tp 37), [], []⟩, ["_law_found", "_law_due", "_law_k"], ["_law_found", "_law_due"]⟩
def td409 : TD := ⟨409, "_law_firsts", ⟨("_law_firsts", none), "_law_firsts", "_law_firsts", defArgs (tp 38), defBody (tp 38), defScope (tp 38), [], []⟩, ["_law_word_here", "_law_at"], ["_law_word_here"]⟩
def td410 : TD := ⟨410, "_law_kind", ⟨("_law_kind", none), "_law_kind", "_law_kind", defArgs (tp 39), defBody (tp 39), defScope (tp 39), [], []⟩, ["_law_company_here", "_law_word_here", "_law_rest", "_law_found", "_law_turn", "_law_free", "_law_at", "_law_sign"], ["_law_company_here", "_law_word_here"]⟩
def td408 : TD := ⟨408, "_law_word", ⟨("_law_word", none), "_law_word", "_law_word", defArgs (tp 40), defBody (tp 40), defScope (tp 40), [], []⟩, ["_law_row", "_law_company_here", "_law_most", "_law_at"], ["_law_row", "_law_company_here", "_law_most"]⟩
def td428 : TD := ⟨428, "_law_drawn_kind", ⟨("_law_drawn_kind", none), "_law_drawn_kind", "_law_drawn_kind", defArgs (tp 41), defBody (tp 41), defScope (tp 41), [], []⟩, ["_law_row", "_law_company_here"], ["_law_row", "_law_company_here"]⟩
def td1047 : TD := ⟨1047, "law", ⟨("law", none), "law", "law", defArgs (tp 42), defBody (tp 42), defScope (tp 42), [], []⟩, ["_law_script", "_law_row", "_law_one", "_law_other", "_law_told", "_law_at", "_law_due", "_law_word_here", "_law_bent", "_law_first", "_law_second", "_law_kind_here", "_law_moved", "_law_sign", "_law_later"], ["_law_script"]⟩
def tab : List TD := [td43, td44, td46, td47, td48, td52, td54, td55, td56, td57, td58, td150, td151, td152, td153, td154, td155, td156, td157, td158, td400, td401, td402, td413, td404, td405, td409, td410, td408, td428, td1047]
def gl : List (Nat × Str) := [(2, "ALPHABET"), (3, "MOST_LETTERS"), (8, "MOST_LISTED")]
theorem b43 : BindOk td43 := fun _ _ _ _ _ _ us hl => match us, hl with | [_], _ => rfl
theorem b44 : BindOk td44 := fun _ _ _ _ _ _ us hl => match us, hl with | [_, _, _], _ => rfl
theorem b46 : BindOk td46 := fun _ _ _ _ _ _ us hl => match us, hl with | [_, _, _], _ => rfl
theorem b47 : BindOk td47 := fun _ _ _ _ _ _ us hl => match us, hl with | [_], _ => rfl
theorem b48 : BindOk td48 := fun _ _ _ _ _ _ us hl => match us, hl with | [_, _, _], _ => rfl
theorem b52 : BindOk td52 := fun _ _ _ _ _ _ us hl => match us, hl with | [_, _], _ => rfl
theorem b54 : BindOk td54 := fun _ _ _ _ _ _ us hl => match us, hl with | [_], _ => rfl
theorem b55 : BindOk td55 := fun _ _ _ _ _ _ us hl => match us, hl with | [_, _], _ => rfl
theorem b56 : BindOk td56 := fun _ _ _ _ _ _ us hl => match us, hl with | [_], _ => rfl
theorem b57 : BindOk td57 := fun _ _ _ _ _ _ us hl => match us, hl with | [_, _], _ => rfl
theorem b58 : BindOk td58 := fun _ _ _ _ _ _ us hl => match us, hl with | [_, _], _ => rfl
theorem b150 : BindOk td150 := fun _ _ _ _ _ _ us hl => match us, hl with | [_, _, _], _ => rfl
theorem b151 : BindOk td151 := fun _ _ _ _ _ _ us hl => match us, hl with | [_, _, _], _ => rfl
theorem b152 : BindOk td152 := fun _ _ _ _ _ _ us hl => match us, hl with | [_, _, _], _ => rfl
theorem b153 : BindOk td153 := fun _ _ _ _ _ _ us hl => match us, hl with | [_, _, _], _ => rfl
theorem b154 : BindOk td154 := fun _ _ _ _ _ _ us hl => match us, hl with | [_, _, _, _], _ => rfl
theorem b155 : BindOk td155 := fun _ _ _ _ _ _ us hl => match us, hl with | [_, _, _], _ => rfl
theorem b156 : BindOk td156 := fun _ _ _ _ _ _ us hl => match us, hl with | [_, _], _ => rfl
theorem b157 : BindOk td157 := fun _ _ _ _ _ _ us hl => match us, hl with | [_, _], _ => rfl
theorem b158 : BindOk td158 := fun _ _ _ _ _ _ us hl => match us, hl with | [_, _], _ => rfl
theorem b400 : BindOk td400 := fun _ _ _ _ _ _ us hl => match us, hl with | [_, _], _ => rfl
theorem b401 : BindOk td401 := fun _ _ _ _ _ _ us hl => match us, hl with | [_], _ => rfl
theorem b402 : BindOk td402 := fun _ _ _ _ _ _ us hl => match us, hl with | [_, _], _ => rfl
theorem b413 : BindOk td413 := fun _ _ _ _ _ _ us hl => match us, hl with | [_, _], _ => rfl
theorem b404 : BindOk td404 := fun _ _ _ _ _ _ us hl => match us, hl with | [_, _, _], _ => rfl
theorem b405 : BindOk td405 := fun _ _ _ _ _ _ us hl => match us, hl with | [_, _], _ => rfl
theorem b409 : BindOk td409 := fun _ _ _ _ _ _ us hl => match us, hl with | [_], _ => rfl
theorem b410 : BindOk td410 := fun _ _ _ _ _ _ us hl => match us, hl with | [_, _], _ => rfl
theorem b408 : BindOk td408 := fun _ _ _ _ _ _ us hl => match us, hl with | [_, _, _], _ => rfl
theorem b428 : BindOk td428 := fun _ _ _ _ _ _ us hl => match us, hl with | [_, _], _ => rfl
theorem b1047 : BindOk td1047 := fun _ _ _ _ _ _ us hl => match us, hl with | [_], _ => rfl
theorem binds : ∀ td ∈ tab, BindOk td := by
  intro td h
  simp only [tab, List.mem_cons, List.not_mem_nil, or_false] at h
  rcases h with rfl | rfl | rfl | rfl | rfl | rfl | rfl | rfl | rfl | rfl | rfl | rfl | rfl | rfl | rfl | rfl | rfl | rfl | rfl | rfl | rfl | rfl | rfl | rfl | rfl | rfl | rfl | rfl | rfl | rfl | rfl
  · exact b43
  · exact b44
  · exact b46
  · exact b47
  · exact b48
  · exact b52
  · exact b54
  · exact b55
  · exact b56
  · exact b57
  · exact b58
  · exact b150
  · exact b151
  · exact b152
  · exact b153
  · exact b154
  · exact b155
  · exact b156
  · exact b157
  · exact b158
  · exact b400
  · exact b401
  · exact b402
  · exact b413
  · exact b404
  · exact b405
  · exact b409
  · exact b410
  · exact b408
  · exact b428
  · exact b1047
theorem okAt : atB tab = true := by decide +kernel
theorem okGl : gl.all (glOk GL) = true := by decide +kernel
theorem m43 : tdB PL (tabT PL tab gl) td43 = true := by decide +kernel
theorem m44 : tdB PL (tabT PL tab gl) td44 = true := by decide +kernel
theorem m46 : tdB PL (tabT PL tab gl) td46 = true := by decide +kernel
theorem m47 : tdB PL (tabT PL tab gl) td47 = true := by decide +kernel
theorem m48 : tdB PL (tabT PL tab gl) td48 = true := by decide +kernel
theorem m52 : tdB PL (tabT PL tab gl) td52 = true := by decide +kernel
theorem m54 : tdB PL (tabT PL tab gl) td54 = true := by decide +kernel
theorem m55 : tdB PL (tabT PL tab gl) td55 = true := by decide +kernel
theorem m56 : tdB PL (tabT PL tab gl) td56 = true := by decide +kernel
theorem m57 : tdB PL (tabT PL tab gl) td57 = true := by decide +kernel
theorem m58 : tdB PL (tabT PL tab gl) td58 = true := by decide +kernel
theorem m150 : tdB PL (tabT PL tab gl) td150 = true := by decide +kernel
theorem m151 : tdB PL (tabT PL tab gl) td151 = true := by decide +kernel
theorem m152 : tdB PL (tabT PL tab gl) td152 = true := by decide +kernel
theorem m153 : tdB PL (tabT PL tab gl) td153 = true := by decide +kernel
theorem m154 : tdB PL (tabT PL tab gl) td154 = true := by decide +kernel
theorem m155 : tdB PL (tabT PL tab gl) td155 = true := by decide +kernel
theorem m156 : tdB PL (tabT PL tab gl) td156 = true := by decide +kernel
theorem m157 : tdB PL (tabT PL tab gl) td157 = true := by decide +kernel
theorem m158 : tdB PL (tabT PL tab gl) td158 = true := by decide +kernel
theorem m400 : tdB PL (tabT PL tab gl) td400 = true := by decide +kernel
theorem m401 : tdB PL (tabT PL tab gl) td401 = true := by decide +kernel
theorem m402 : tdB PL (tabT PL tab gl) td402 = true := by decide +kernel
theorem m413 : tdB PL (tabT PL tab gl) td413 = true := by decide +kernel
theorem m404 : tdB PL (tabT PL tab gl) td404 = true := by decide +kernel
theorem m405 : tdB PL (tabT PL tab gl) td405 = true := by decide +kernel
theorem m409 : tdB PL (tabT PL tab gl) td409 = true := by decide +kernel
theorem m410 : tdB PL (tabT PL tab gl) td410 = true := by decide +kernel
theorem m408 : tdB PL (tabT PL tab gl) td408 = true := by decide +kernel
theorem m428 : tdB PL (tabT PL tab gl) td428 = true := by decide +kernel
theorem m1047 : tdB PL (tabT PL tab gl) td1047 = true := by decide +kernel
theorem okTab : tab.all (tdB PL (tabT PL tab gl)) = true := by
  simp only [tab, List.all_cons, List.all_nil, Bool.and_true, Bool.and_eq_true]
  exact ⟨m43, m44, m46, m47, m48, m52, m54, m55, m56, m57, m58, m150, m151, m152, m153, m154, m155, m156, m157, m158, m400, m401, m402, m413, m404, m405, m409, m410, m408, m428, m1047⟩
abbrev lawTD : TD := td1047
theorem lawIn : lawTD ∈ tab := by simp [tab, lawTD]
abbrev lawTop : Nat := 42
abbrev lawId : Nat := 1047
def loose : List PySem.Str := (["OnceError", "BadCompany", "BadKind", "BadMap", "TooMany", "whole", "within", "tuple_of", "need_company", "is_word", "is_set", "friends_of_all", "least_order", "first_stands", "is_kind", "need_kind", "need_map", "first_broken_of", "keeps", "first_broken", "image", "image_of", "rows_of", "maps", "count_maps", "_law_taken", "_law_pairs", "_law_company", "_law_all_words", "_law_friend"] : List PySem.Str) ++ (["_law_alike", "_law_firsts", "_law_kind", "_law_word", "_law_drawn_kind", "ALPHABET", "MOST_LETTERS", "MOST_LISTED"] : List PySem.Str)
end Law
namespace Law
open PySem PySem.Spec PyProof.Rows L2 Mini
abbrev R : PySem.W.OpenRow := PySem.W.OpenLaw.row PySem.Challenge.rw_oncewords_k47_whole_maps
abbrev hk : PySem.W.Hook := He.hookD 4 (faOf GL tab gl) (fnOf' tab)
def ob (s : PySem.W.SharedT) : He.AlD := He.obsDG 4 (faOf GL tab gl) (fnOf' tab) (HandSHeadRun.getT s)
theorem ob_eq (s : PySem.W.SharedT) : ob s = hk.obs s.abs := He.obsDG_eq (HandSHeadRun.getT_eq s)
set_option maxHeartbeats 0 in
theorem run (w : World) : HandSHeadRun.RunEq R (PySem.W.view R.prog [lawTop]) hk ob 4000 loose w := by
  intro os
  kernel_rfl
end Law
open PySem PySem.W PySem.Calls PyProof.Rows
set_option maxHeartbeats 0 in
theorem PySem.Challenge.cw_oncewords_k47_whole_maps_holds : PySem.Challenge.rw_oncewords_k47_whole_maps.Holds := by
  w_on; o_law
  refine HandSHeadRun.head_any (r := Law.R) (q := view Law.R.prog [Law.lawTop]) (H := Law.hk) (ob := Law.ob) (M := 4000) (loose := Law.loose) (d := HandSHeadRun.topDef Law.R.prog Law.lawTop) (kwd := []) Law.ob_eq
    (by kernel_rfl) (fun s => by kernel_rfl) Law.run (by kernel_rfl) (by kernel_rfl) (by kernel_rfl) (by rfl) (by first | assumption | decide +kernel) (by decide +kernel) ⟨rfl, rfl, rfl, rfl, rfl, by decide +kernel⟩ ?hw ?hc
  case hw => w_witness2
  case hc =>
    exact Mini.law_walk (l := PySem.Challenge.rw_oncewords_k47_whole_maps) (n := 63) (k := 39) (li := Law.lawId) (tab := Law.tab) (gl := Law.gl) (td := Law.lawTD) (G := Mini.GL) (P := Mini.PL) rfl (by decide) (by kernel_rfl) ⟨rfl, by decide, by decide⟩
      Law.okAt Law.okGl Law.okTab Law.binds (fun w h Y => Y) Law.lawIn rfl (by kernel_rfl) ⟨_, _, _, _, rfl, rfl⟩ rfl Law.pure

