import PyProof.Rows.All
import Wide.All
import OpenK.AllK
import Wide.FinOn
import PySem.Challenge.RW_onetables_k07_whole_cancelling_and_divid
import HandS.ForMost
import HandS.Exc
import KE.SortData
import KE.LtData
import KE.DataEq
import KE.DataFind
import PyProof.ReprBulk
import PyProof.ReprRoads
import HandS.TupAny
import HandS.TupMul
import HandS.Style
import HandS.Lambda
import HandS.Deep
import HandS.Dict
import HandS.IsInst
import KE.KIndexOf
import HandS.Zip
import HandS.TryOnly
import HandS.WordsExc
import HandS.Nested
import KE.KLam
import HandS.OwnEq
import PyProof.InstNe
import KE.GoesEnum
import KE.GoesMore
import HandS.SetFor
import HandS.Conv
import KE.KRevSl
import HandS.HeadHook4
import HandS.HeadWalk
import HandS.EndTab
import KE.KStateDown
import HandS.Head0
import HandS.Head1
import HandS.Head2
import HandS.HeadEnd
set_option Elab.async false
set_option linter.all false
set_option maxRecDepth 100000
set_option maxHeartbeats 4000000
/-! A small evaluator, over values as trees. -/
namespace Mp
open PySem (Str PyData)

/-- values as trees; ins: an instance of the class numbered c, its fields in order -/
inductive D where
  | non | bl (b : Bool) | int (i : Int) | str (x : Str)
  | tup (xs : List D) | lst (xs : List D)
  | dct (kvs : List (D × D)) | set (xs : List D)
  | ins (c : Nat) (fs : List D)
  | hand
  | clo (f : Nat) (cs : List D)

abbrev LIM : Nat := 1000000
theorem lim_def : LIM = 1000000 := rfl

mutual
def D.py : D → PyData
  | .non => .none
  | .bl b => .bool b
  | .int i => .int i
  | .str x => .str x
  | .tup xs => .tuple (pys xs)
  | .lst xs => .list (pys xs)
  | _ => .none
def pys : List D → List PyData
  | [] => []
  | x :: r => x.py :: pys r
end
mutual
/-- plain data: no dict, set, instance within -/
def D.pl : D → Bool
  | .non => true
  | .bl _ => true
  | .int _ => true
  | .str _ => true
  | .tup xs => pls xs
  | .lst xs => pls xs
  | _ => false
def pls : List D → Bool
  | [] => true
  | x :: r => x.pl && pls r
end
/-- plain data of a depth that the machine's own recursion bears -/
def D.ok (d : D) : Bool := d.pl && decide (d.py.depth ≤ 48)

/-! ### answers -/
inductive R (S α : Type) where
  | ok (a : α) (s : S)
  | exc (c : Nat) (fs : List D) (s : S)
  | bad
abbrev M (S α : Type) := S → R S α
def R.bind {S α β : Type} (r : R S α) (f : α → S → R S β) : R S β :=
  match r with
  | .ok a s => f a s
  | .exc c fs s => .exc c fs s
  | .bad => .bad
def M.pure {S α : Type} (a : α) : M S α := fun s => .ok a s
def M.bind {S α β : Type} (m : M S α) (f : α → M S β) : M S β := fun s => (m s).bind fun a s' => f a s'
def M.bad {S α : Type} : M S α := fun _ => .bad
instance {S : Type} : Monad (M S) where
  pure := M.pure
  bind := M.bind
def M.opt {S α : Type} : Option α → M S α
  | some a => M.pure a
  | none => M.bad
/-- only where c holds -/
def M.need {S α : Type} (c : Bool) (m : M S α) : M S α := if c = true then m else M.bad

/-! ### operators on values -/
inductive Bop where
  | add | sub | mul | fdiv | mod | pow
  deriving DecidableEq
inductive Cop where
  | eq | ne | lt | le | gt | ge | isin | notin
  deriving DecidableEq

def D.eq? (a b : D) : Option Bool := if a.ok && b.ok then some (PyData.eqv a.py b.py) else none
/-- a < b: numbers, or alike plain data -/
def isNon : D → Bool
  | .non => true
  | _ => false
def D.lt? : D → D → Option Bool
  | .int i, .int j => some (decide (i < j))
  | a, b => if a.ok && b.ok && !isNon a && PySem.W.alike a.py b.py then some (PySem.W.dataLt a.py b.py) else none
/-- a <= b, a > b, a >= b: numbers alone -/
def D.le? : D → D → Option Bool
  | .int i, .int j => some (decide (i ≤ j))
  | _, _ => none
def D.gt? : D → D → Option Bool
  | .int i, .int j => some (decide (j < i))
  | _, _ => none
def small (i : Int) : Bool := decide (-(2 ^ 64) < i) && decide (i < 2 ^ 64)
def addD : D → D → Option D
  | .int i, .int j => some (.int (i + j))
  | .tup xs, .tup ys => if xs.length + ys.length ≤ LIM then some (.tup (xs ++ ys)) else none
  | .lst xs, .lst ys => if xs.length + ys.length ≤ LIM then some (.lst (xs ++ ys)) else none
  | .str x, .str y => if x.length + y.length ≤ LIM then some (.str (x ++ y)) else none
  | _, _ => none
def subD : D → D → Option D
  | .int i, .int j => some (.int (i - j))
  | _, _ => none
def mulD : D → D → Option D
  | .int i, .int j => if small i || small j then some (.int (i * j)) else none
  | .tup xs, .int k => if decide (xs.length ≤ 1000) && decide (0 < xs.length) && decide (1 ≤ k) && decide (k ≤ 1000) then some (.tup (List.replicate k.toNat xs).flatten) else none
  | .lst xs, .int k => if decide (-1000000 < k) && decide (k < 1000000) && decide (xs.length * k.toNat ≤ LIM) then some (.lst (List.replicate k.toNat xs).flatten) else none
  | _, _ => none
def fdivD : D → D → Option D
  | .int i, .int j => if decide (0 < j) && decide (j < 1073741824) then some (.int (i / j)) else none
  | _, _ => none
def modD : D → D → Option D
  | .int i, .int j => if decide (0 < j) then some (.int (i % j)) else none
  | _, _ => none
def powD : D → D → Option D
  | .int i, .int j => if decide (0 ≤ j) && decide (j ≤ 64) && small i then some (.int (i ^ j.toNat)) else none
  | _, _ => none
def D.bin : Bop → D → D → Option D
  | .add => addD
  | .sub => subD
  | .mul => mulD
  | .fdiv => fdivD
  | .mod => modD
  | .pow => powD
/-- what may be a key -/
def isKey : D → Bool
  | .int _ => true
  | .str _ => true
  | _ => false
def keyEq : D → D → Bool
  | .int i, .int j => decide (i = j)
  | .str x, .str y => decide (x = y)
  | _, _ => false
def look (k : D) : List (D × D) → Option D
  | [] => none
  | p :: r => if keyEq p.1 k = true then some p.2 else look k r
def put (k v : D) (kvs : List (D × D)) : List (D × D) := if (kvs.any fun p => keyEq p.1 k) = true then kvs.map (fun p => if keyEq p.1 k = true then (p.1, v) else p) else kvs ++ [(k, v)]
/-- membership -/
def anyEq (x : D) : List D → Option Bool
  | [] => some false
  | y :: r => match D.eq? y x with
    | some true => some true
    | some false => anyEq x r
    | none => none
def items? : D → Option (List D)
  | .tup xs => some xs
  | .lst xs => some xs
  | _ => none
def D.in? (x c : D) : Option Bool :=
  match c with
  | .tup xs => if x.ok && (D.tup xs).ok then some (xs.any fun y => PyData.eqv y.py x.py) else none
  | .lst xs => if x.ok && (D.lst xs).ok then some (xs.any fun y => PyData.eqv y.py x.py) else none
  | .dct kvs => if isKey x then some (look x kvs).isSome else none
  | .set xs => if x.ok && xs.all D.ok then some (xs.any fun y => PyData.eqv y.py x.py) else none
  | _ => none
def D.cmp : Cop → D → D → Option Bool
  | .eq => D.eq?
  | .ne => fun a b => (D.eq? a b).map (!·)
  | .lt => D.lt?
  | .gt => D.gt?
  | .le => D.le?
  | .ge => fun a b => D.le? b a
  | .isin => D.in?
  | .notin => fun a b => (D.in? a b).map (!·)
/-- a place of a sequence -/
def at? {α : Type} (xs : List α) (i : Int) : Option α := L2.atI xs i
def D.idx (a i : D) : Option D :=
  match a, i with
  | .tup xs, .int i => at? xs i
  | .lst xs, .int i => at? xs i
  | .dct kvs, k => if isKey k then look k kvs else none
  | _, _ => none
/-- xs[lo:hi] -/
def cut {α : Type} (xs : List α) (lo hi : Option Int) : List α := (xs.drop (HT.sIx xs.length 0 lo)).take (HT.sIx xs.length xs.length hi - HT.sIx xs.length 0 lo)

inductive Ty where
  | int | bool | str | tuple | list | dict | cls (c : Nat)
  deriving DecidableEq
def tyName : D → Option String
  | .non => some "NoneType"
  | .bl _ => some "bool"
  | .int _ => some "int"
  | .str _ => some "str"
  | .tup _ => some "tuple"
  | .lst _ => some "list"
  | _ => none
def Ty.name : Ty → Option String
  | .int => some "int"
  | .bool => some "bool"
  | .str => some "str"
  | .tuple => some "tuple"
  | .list => some "list"
  | .dict => some "dict"
  | .cls _ => none
/-- of the built-in type a: is it b -/
def tyIs (a b : String) : Bool := a == b || (a == "bool" && b == "int")
/-- isinstance -/
def isTy (d : D) (t : Ty) : Option Bool :=
  match d, t with
  | .ins c _, .cls c' => some (c == c')
  | .ins _ _, _ => some false
  | d, .cls _ => (tyName d).map fun _ => false
  | d, t => (tyName d).bind fun a => t.name.map fun b => tyIs a b

/-! ### built-in calls -/
inductive Bi where
  | len | tuple | list | sorted | set | all | any | min | max | sum | abs | int | dict
  | index | count | get
  deriving DecidableEq
def ints? : List D → Option (List Int)
  | [] => some []
  | .int i :: r => (ints? r).map (i :: ·)
  | _ => none
def bls? : List D → Option (List Bool)
  | [] => some []
  | .bl i :: r => (bls? r).map (i :: ·)
  | _ => none
/-- a tuple that is not empty -/
def isTup1 : D → Bool
  | .tup (_ :: _) => true
  | _ => false
def isTup : D → Bool
  | .tup _ => true
  | _ => false
/-- the first is () -/
def headE : List D → Bool
  | .tup [] :: _ => true
  | _ => false
def notNT : D → Bool
  | .non => false
  | .tup _ => false
  | _ => true
/-- all plain and comparable with one another -/
def sortable (xs : List D) : Bool := xs.all D.ok && xs.all (fun x => xs.all fun y => PySem.W.alike x.py y.py) && (xs.all isTup1 || xs.all notNT || (xs.all isTup && headE xs))
def dle (a b : D) : Bool := !PySem.W.dataLt b.py a.py
def leastD (x : D) : List D → D
  | [] => x
  | y :: r => leastD (if PySem.W.dataLt y.py x.py then y else x) r
def greatD (x : D) : List D → D
  | [] => x
  | y :: r => greatD (if PySem.W.dataLt x.py y.py then y else x) r
def uniq : List D → List D → List D
  | acc, [] => acc
  | acc, x :: r => if acc.any (fun y => PyData.eqv y.py x.py) then uniq acc r else uniq (acc ++ [x]) r
def pairs? : List D → Option (List (D × D))
  | [] => some []
  | .tup [k, v] :: r => if isKey k then (pairs? r).map ((k, v) :: ·) else none
  | _ => none
def minI (n : Int) : List Int → Int
  | [] => n
  | m :: r => minI (if m < n then m else n) r
def maxI (n : Int) : List Int → Int
  | [] => n
  | m :: r => maxI (if n < m then m else n) r
def biLen : List D → Option D
  | [.tup xs] => some (.int xs.length)
  | [.lst xs] => some (.int xs.length)
  | [.set xs] => some (.int xs.length)
  | [.dct xs] => some (.int xs.length)
  | [.str x] => if x.length ≤ LIM then some (.int x.length) else none
  | _ => none
def biTuple : List D → Option D
  | [.lst xs] => some (.tup xs)
  | [.tup xs] => some (.tup xs)
  | _ => none
def biList : List D → Option D
  | [.lst xs] => some (.lst xs)
  | [.tup xs] => some (.lst xs)
  | _ => none
def biSorted : List D → Option D
  | [.lst xs] => if sortable xs && decide (xs.length ≤ LIM) then some (.lst (xs.mergeSort dle)) else none
  | _ => none
def biSet : List D → Option D
  | [.lst xs] => if xs.all D.ok then some (.set (uniq [] xs)) else none
  | [.tup xs] => if xs.all D.ok then some (.set (uniq [] xs)) else none
  | _ => none
def biAll : List D → Option D
  | [.lst xs] => (bls? xs).map fun bs => .bl (bs.all id)
  | _ => none
def biAny : List D → Option D
  | [.lst xs] => (bls? xs).map fun bs => .bl (bs.any id)
  | _ => none
def biMin : List D → Option D
  | [.lst (x :: xs)] => match ints? (x :: xs) with
    | some (n :: ns) => some (.int (minI n ns))
    | _ => none
  | [.int i, .int j] => some (.int (if j < i then j else i))
  | _ => none
def biMax : List D → Option D
  | [.lst (x :: xs)] => match ints? (x :: xs) with
    | some (n :: ns) => some (.int (maxI n ns))
    | _ => none
  | [.int i, .int j] => some (.int (if j > i then j else i))
  | _ => none
def biSum : List D → Option D
  | [.lst xs] => (ints? xs).map fun ns => .int ns.sum
  | _ => none
def biAbs : List D → Option D
  | [.int i] => some (.int (if i < 0 then -i else i))
  | _ => none
def biInt : List D → Option D
  | [.int i] => some (.int i)
  | [.bl k] => some (.int (if k then 1 else 0))
  | _ => none
def biDict : List D → Option D
  | [.lst xs] => (pairs? xs).map fun ps => .dct (ps.foldl (fun acc p => put p.1 p.2 acc) [])
  | _ => none
def biIndex : List D → Option D
  | [.tup xs, x] => if x.ok && (D.tup xs).ok then (PySem.SeqAt.dataPlace (pys xs) x.py).map fun (n : Nat) => .int n else none
  | [.lst xs, x] => if x.ok && (D.lst xs).ok then (PySem.SeqAt.dataPlace (pys xs) x.py).map fun (n : Nat) => .int n else none
  | _ => none
def biCount : List D → Option D
  | [.lst xs, x] => if x.ok && (D.lst xs).ok then some (.int (xs.countP fun y => PyData.eqv y.py x.py)) else none
  | [.tup xs, x] => if x.ok && (D.tup xs).ok then some (.int (xs.countP fun y => PyData.eqv y.py x.py)) else none
  | _ => none
def biGet : List D → Option D
  | [.dct kvs, k] => if isKey k then some ((look k kvs).getD .non) else none
  | [.dct kvs, k, d] => if isKey k then some ((look k kvs).getD d) else none
  | _ => none
def D.bi : Bi → List D → Option D
  | .len => biLen
  | .tuple => biTuple
  | .list => biList
  | .sorted => biSorted
  | .set => biSet
  | .all => biAll
  | .any => biAny
  | .min => biMin
  | .max => biMax
  | .sum => biSum
  | .abs => biAbs
  | .int => biInt
  | .dict => biDict
  | .index => biIndex
  | .count => biCount
  | .get => biGet

/-! ### the syntax -/
/-- targets -/
inductive Tg where
  | one (i : Nat)
  | tup (ts : List Tg)
mutual
inductive Ex where
  | var (i : Nat)
  | bor (i : Nat)
  | idx2 (i : Nat) (k l : Ex)
  | con (d : D)
  | tup (es : List Ex)
  | list (es : List Ex)
  | dict (ks vs : List Ex)
  | bin (op : Bop) (a b : Ex)
  | neg (a : Ex)
  | cmp (op : Cop) (a b : Ex)
  | chain (o1 o2 : Cop) (a b c : Ex)
  | isn (a : Ex)
  | notn (a : Ex)
  | and (a b : Ex)
  | or (a b : Ex)
  | not (a : Ex)
  | ite (c a b : Ex)
  | idx (a i : Ex)
  | slice (a : Ex) (lo hi : Option Ex)
  | rev (a : Ex)
  /-- list(range(a, b)), tuple(range(a, b)) -/
  | lrng (t : Bool) (a b : Ex)
  /-- len(set(e)), sorted(set(e)), set(a) == set(b) -/
  | lset (e : Ex)
  | sset (e : Ex)
  | eset (ne : Bool) (a b : Ex)
  | rpr (e : Ex)
  | isb (a : Ex) (b : Bool)
  /-- a == b, a != b of instances of the class c, its own == the function f -/
  | ecmp (ne : Bool) (c f : Nat) (a b : Ex)
  | fld (c : Nat) (a : Ex) (n : Nat)
  | isi (a : Ex) (t : Ty)
  | bi (b : Bi) (es : List Ex)
  | meth (b : Bi) (o : Ex) (es : List Ex)
  | call (f : Nat) (es : List Ex)
  | callv (i : Nat) (es : List Ex)
  /-- the last argument is the lambda n, its captured names in the slots cs -/
  | callc (f : Nat) (es : List Ex) (n : Nat) (cs : List Nat)
  /-- a new instance of the class c, its init function f -/
  | mk (c f : Nat) (es : List Ex)
  | lc (elt : Ex) (tg : Tg) (it : It) (cond : Option Ex)
inductive It where
  | ex (e : Ex)
  | rng (a b : Ex)
  | enum (e : Ex)
  | zip (a b : Ex)
end
inductive St where
  | set (i : Nat) (e : Ex)
  | own (i : Nat) (e : Ex)
  | mat (i : Nat) (e : Ex)
  | frz (i : Nat)
  | tset (is : List (Nat × Nat)) (es : List Ex)
  | unp (t : Tg) (e : Ex)
  | app (i : Nat) (e : Ex)
  | ext (i : Nat) (e : Ex)
  | pop (t : Tg) (j : Nat) (e : Option Ex)
  | appPop (i j : Nat) (e : Option Ex)
  | put (i : Nat) (k e : Ex)
  | put2 (i : Nat) (k l e : Ex)
  | expr (e : Ex)
  | ret (e : Ex)
  | ite (c : Ex) (a b : List St)
  | for (tg : Tg) (it : It) (body : List St)
  | while (c : Ex) (body : List St)
  | raise (c : Nat) (es : List Ex)
  | tri (body : St) (rest : List St) (c : List Nat) (i : Option Nat) (h : List St)
  /-- never reached -/
  | dead
  | pass | brk | cnt
/-- a name's slot: not bound; a value that never changes; a list or dict of the name's own; a list of such lists -/
inductive Slot where
  | un | fz (d : D) | ow (d : D) | mx (d : D)
abbrev Env := List Slot
def Env.get (env : Env) (i : Nat) : Option D := match env[i]? with
  | some (.fz d) => some d
  | _ => none
/-- read in passing -/
def Env.bor (env : Env) (i : Nat) : Option D := match env[i]? with
  | some (.fz d) => some d
  | some (.ow d) => some d
  | _ => none
def Env.own (env : Env) (i : Nat) : Option D := match env[i]? with
  | some (.ow d) => some d
  | _ => none
def Env.mat (env : Env) (i : Nat) : Option D := match env[i]? with
  | some (.mx d) => some d
  | _ => none
mutual
/-- the places that a target binds -/
def Tg.places : Tg → List Nat
  | .one i => [i]
  | .tup ts => placess ts
def placess : List Tg → List Nat
  | [] => []
  | t :: ts => t.places ++ placess ts
end
/-- places not bound any more -/
def wipeE (env : Env) : List Nat → Env
  | [] => env
  | v :: vs => (wipeE env vs).set v .un
mutual
def Tg.store : Tg → D → Env → Option Env
  | .one i, d, env => some (env.set i (.fz d))
  | .tup ts, .tup ds, env => stores ts ds env
  | .tup ts, .lst ds, env => stores ts ds env
  | _, _, _ => none
def stores : List Tg → List D → Env → Option Env
  | [], [], env => some env
  | t :: ts, d :: ds, env => (t.store d env).bind fun env' => stores ts ds env'
  | _, _, _ => none
end

/-! ### evaluation -/
section
variable {S : Type} (call : Nat → List D → M S D)
/-- the turns of a comprehension -/
def turns (f : D → M S (Option D)) : List D → M S (List D)
  | [] => M.pure []
  | x :: r => M.bind (f x) fun y => M.bind (turns f r) fun ys => M.pure (y.toList ++ ys)
/-- within a comprehension nothing may be raised -/
def M.calm {α : Type} (m : M S α) : M S α := fun s => match m s with
  | .ok a s' => .ok a s'
  | _ => .bad
def rngD (a b : Int) : List D := (List.range (b - a).toNat).map fun (k : Nat) => D.int (a + k)
def enumD (k : Nat) : List D → List D
  | [] => []
  | x :: r => .tup [.int k, x] :: enumD (k + 1) r
def zipD : List D → List D → List D
  | x :: xs, y :: ys => .tup [x, y] :: zipD xs ys
  | _, _ => []
def zips? : D → D → Option (List D × List D)
  | .tup xs, .tup ys => some (xs, ys)
  | .lst xs, .lst ys => some (xs, ys)
  | _, _ => none
def asBl : D → Option Bool
  | .bl b => some b
  | _ => none
def asInt : D → Option Int
  | .int b => some b
  | _ => none
/-- what has the method -/
def isRcv : Bi → D → Bool
  | .index, .tup _ => true
  | .index, .lst _ => true
  | .count, .tup _ => true
  | .count, .lst _ => true
  | .get, .dct _ => true
  | _, _ => false
def isIns (c : Nat) : D → Bool
  | .ins c' _ => c' == c
  | _ => false
def fldD (c n : Nat) : D → Option D
  | .ins c' fs => if c' = c then fs[n]? else none
  | _ => none
def revD : D → Option D
  | .tup xs => some (.tup xs.reverse)
  | _ => none
def cutD (x : D) (l h : Option Int) : Option D := match x with
  | .tup xs => some (.tup (cut xs l h))
  | .lst xs => some (.lst (cut xs l h))
  | _ => none
mutual
/-- no function of a lambda within -/
def noclo : D → Bool
  | .tup xs => nocls xs
  | .lst xs => nocls xs
  | .dct kvs => noclp kvs
  | .set xs => nocls xs
  | .ins _ fs => nocls fs
  | .clo _ _ => false
  | _ => true
def nocls : List D → Bool
  | [] => true
  | x :: r => noclo x && nocls r
def noclp : List (D × D) → Bool
  | [] => true
  | (k, v) :: r => noclo k && noclo v && noclp r
end
/-- what comes holds no function -/
def M.nc (m : M S D) : M S D := fun s => match m s with
  | .ok d s' => if noclo d = true then .ok d s' else .bad
  | .exc c fs s' => if nocls fs = true then .exc c fs s' else .bad
  | .bad => .bad
def asClo : D → Option (Nat × List D)
  | .clo f cs => some (f, cs)
  | _ => none
def gets (env : Env) : List Nat → Option (List D)
  | [] => some []
  | i :: is => (env.get i).bind fun d => (gets env is).map (d :: ·)
/-- a short list or tuple of ints -/
def setInts (d : D) : Option (List Int) := (items? d).bind fun xs => if xs.length ≤ 1000 then ints? xs else none
def dedI : List Int → List Int
  | [] => []
  | x :: r => if r.contains x then dedI r else x :: dedI r
def sameI (ns ms : List Int) : Bool := ns.all (fun k => ms.contains k) && ms.all (fun k => ns.contains k)
/-- what repr may show -/
def rprOk (d : D) : Bool := d.ok && d.py.showable && d.py.leavesShort 13 && decide (d.py.bulk ≤ 1000000)
def biRpr : List D → Option D
  | [x] => if rprOk x then some (.str x.py.shown) else none
  | _ => none
def inRng (a : Int) : Bool := decide (-(2 ^ 62) ≤ a) && decide (a < 2 ^ 62)
mutual
def ev : Ex → Env → M S D
  | .var i, env => M.opt (env.get i)
  | .bor i, env => M.opt (env.bor i)
  | .idx2 i k l, env => M.bind (ev k env) fun x => M.bind (ev l env) fun y => M.bind (M.opt (env.mat i)) fun c => M.bind (M.opt (D.idx c x)) fun r => M.opt (D.idx r y)
  | .con d, _ => M.pure d
  | .tup es, env => M.bind (evs es env) fun ds => M.pure (.tup ds)
  | .list es, env => M.bind (evs es env) fun ds => M.pure (.lst ds)
  | .dict ks vs, env => M.bind (evs ks env) fun ds => M.bind (evs vs env) fun xs => M.need (ds.all isKey) (M.pure (.dct ((ds.zip xs).foldl (fun acc p => Mp.put p.1 p.2 acc) [])))
  | .bin op a b, env => M.bind (ev a env) fun x => M.bind (ev b env) fun y => M.opt (D.bin op x y)
  | .neg a, env => M.bind (ev a env) fun x => M.opt ((asInt x).map fun i => .int (-i))
  | .cmp op a b, env => M.bind (ev a env) fun x => M.bind (ev b env) fun y => M.opt ((D.cmp op x y).map .bl)
  | .chain o1 o2 a b c, env => M.bind (ev a env) fun x => M.bind (ev b env) fun y => M.bind (M.opt (D.cmp o1 x y)) fun k =>
      if k = true then M.bind (ev c env) fun z => M.opt ((D.cmp o2 y z).map .bl) else M.pure (.bl false)
  | .ecmp ne c f a b, env => M.bind (ev a env) fun x => M.bind (ev b env) fun y => M.need (isIns c x && isIns c y) (M.bind (call f [x, y]) fun r => M.bind (M.opt (asBl r)) fun k => M.pure (.bl (Bool.xor ne k)))
  | .isn a, env => M.bind (ev a env) fun x => M.pure (.bl (isNon x))
  | .notn a, env => M.bind (ev a env) fun x => M.pure (.bl (!isNon x))
  | .and a b, env => M.bind (ev a env) fun x => M.bind (M.opt (asBl x)) fun k => if k = true then ev b env else M.pure (.bl false)
  | .or a b, env => M.bind (ev a env) fun x => M.bind (M.opt (asBl x)) fun k => if k = true then M.pure (.bl true) else ev b env
  | .not a, env => M.bind (ev a env) fun x => M.bind (M.opt (asBl x)) fun k => M.pure (.bl (!k))
  | .ite c a b, env => M.bind (ev c env) fun x => M.bind (M.opt (asBl x)) fun k => if k = true then ev a env else ev b env
  | .idx a i, env => M.bind (ev a env) fun x => M.bind (ev i env) fun y => M.opt (D.idx x y)
  | .slice a lo hi, env => M.bind (ev a env) fun x => M.bind (evo lo env) fun l => M.bind (evo hi env) fun h => M.opt (cutD x l h)
  | .rev a, env => M.bind (ev a env) fun x => M.opt (revD x)
  | .lrng t a b, env => M.bind (ev a env) fun x => M.bind (ev b env) fun y => M.bind (M.opt (asInt x)) fun i => M.bind (M.opt (asInt y)) fun j =>
      M.need (inRng i && inRng j && decide ((j - i).toNat ≤ LIM)) (M.pure (if t then .tup (rngD i j) else .lst (rngD i j)))
  | .lset e, env => M.bind (ev e env) fun x => M.bind (M.opt (setInts x)) fun ns => M.pure (.int (dedI ns).length)
  | .sset e, env => M.bind (ev e env) fun x => M.bind (M.opt (setInts x)) fun ns => M.need (decide ((dedI ns).length < 64)) (M.pure (.lst (((dedI ns).mergeSort (fun a b => decide (a ≤ b))).map .int)))
  | .eset ne a b, env => M.bind (ev a env) fun x => M.bind (M.opt (setInts x)) fun ns => M.bind (ev b env) fun y => M.bind (M.opt (setInts y)) fun ms => M.pure (.bl (Bool.xor ne (sameI ns ms)))
  | .rpr e, env => M.bind (ev e env) fun x => M.opt (biRpr [x])
  | .isb a b, env => M.bind (ev a env) fun x => M.bind (M.opt (asBl x)) fun c => M.pure (.bl (decide (c = b)))
  | .fld c a n, env => M.bind (ev a env) fun x => M.opt (fldD c n x)
  | .isi a t, env => M.bind (ev a env) fun x => M.opt ((isTy x t).map .bl)
  | .bi b es, env => M.bind (evs es env) fun ds => M.opt (D.bi b ds)
  | .meth b o es, env => M.bind (ev o env) fun x => M.need (isRcv b x) (M.bind (evs es env) fun xs => M.opt (D.bi b (x :: xs)))
  | .call f es, env => M.bind (evs es env) fun ds => call f ds
  | .callv i es, env => M.bind (M.opt ((env.get i).bind asClo)) fun c => M.bind (evs es env) fun ds => M.need (nocls (ds ++ c.2)) (call c.1 (ds ++ c.2))
  | .callc f es n cs, env => M.bind (evs es env) fun ds => M.bind (M.opt (gets env cs)) fun vs => M.need (nocls vs) (M.nc (call f (ds ++ [.clo n vs])))
  | .mk c f es, env => M.bind (evs es env) fun ds => M.bind (call f ds) fun _ => M.pure (.ins c ds)
  | .lc elt tg it cond, env => M.bind (evi it env) fun xs => M.bind (turns (fun x => M.calm (M.bind (M.opt (tg.store x (wipeE env tg.places))) fun env' =>
      M.bind (evc cond env') fun k => if k = true then M.bind (ev elt env') fun y => M.pure (some y) else M.pure none)) xs) fun ys => M.need (decide (ys.length ≤ LIM)) (M.pure (.lst ys))
def evs : List Ex → Env → M S (List D)
  | [], _ => M.pure []
  | e :: r, env => M.bind (ev e env) fun x => M.bind (evs r env) fun xs => M.pure (x :: xs)
def evo : Option Ex → Env → M S (Option Int)
  | none, _ => M.pure none
  | some e, env => M.bind (ev e env) fun x => M.bind (M.opt (asInt x)) fun i => M.pure (some i)
def evc : Option Ex → Env → M S Bool
  | none, _ => M.pure true
  | some e, env => M.bind (ev e env) fun x => M.opt (asBl x)
def evi : It → Env → M S (List D)
  | .ex e, env => M.bind (ev e env) fun x => M.opt (items? x)
  | .rng a b, env => M.bind (ev a env) fun x => M.bind (ev b env) fun y => M.bind (M.opt (asInt x)) fun i => M.bind (M.opt (asInt y)) fun j =>
      M.need (inRng i && inRng j) (M.pure (rngD i j))
  | .enum e, env => M.bind (ev e env) fun x => M.bind (M.opt (items? x)) fun xs => M.pure (enumD 0 xs)
  | .zip a b, env => M.bind (ev a env) fun x => M.bind (ev b env) fun y => M.bind (M.opt (zips? x y)) fun p => M.pure (zipD p.1 p.2)
end

/-! ### statements -/
inductive Fl where
  | nxt (env : Env) | brk (env : Env) | cnt (env : Env) | ret (d : D)
def forL (tg : Tg) (body : Env → M S Fl) : List D → Env → M S Fl
  | [], env => M.pure (.nxt env)
  | x :: r, env => M.bind (M.opt (tg.store x env)) fun env1 => M.bind (body env1) fun f => match f with
      | .nxt e => forL tg body r e
      | .cnt e => forL tg body r e
      | .brk e => M.pure (.nxt e)
      | .ret d => M.pure (.ret d)
def whileL (c : Env → M S Bool) (body : Env → M S Fl) : Nat → Env → M S Fl
  | 0, _ => M.bad
  | n + 1, env => M.bind (c env) fun k => if k = true then M.bind (body env) (fun f => match f with
      | .nxt e => whileL c body n e
      | .cnt e => whileL c body n e
      | .brk e => M.pure (.nxt e)
      | .ret d => M.pure (.ret d)) else M.pure (.nxt env)
/-- the most turns of a while -/
def WL : Nat := 1000000
def slotOf (m : Nat) (d : D) : Slot := if m = 0 then .fz d else if m = 1 then .ow d else .mx d
def sets : List (Nat × Nat) → List D → Env → Option Env
  | [], [], env => some env
  | i :: is, d :: ds, env => sets is ds (env.set i.1 (slotOf i.2 d))
  | _, _, _ => none
def lstAt (env : Env) (i : Nat) : Option (List D) := match env.own i with
  | some (.lst xs) => some xs
  | _ => none
def asLst : D → Option (List D)
  | .lst xs => some xs
  | _ => none
def matAt (env : Env) (i : Nat) : Option (List D) := match env.mat i with
  | some (.lst xs) => some xs
  | _ => none
/-- the row at a place -/
def rowAt (rows : List D) (k : D) : Option (Nat × List D) := match k with
  | .int i => (L2.ixN rows.length i).bind fun j => (rows[j]?.bind asLst).map fun xs => (j, xs)
  | _ => none
/-- xs.pop(i), xs.pop() -/
def popAt (xs : List D) : Option Int → Option (D × List D)
  | none => (xs[xs.length - 1]?).map fun y => (y, xs.dropLast)
  | some i => (L2.ixN xs.length i).bind fun k => (xs[k]?).map fun y => (y, xs.eraseIdx k)
def popM (m : M S (Option Int)) (j : Nat) (env : Env) : M S (D × Env) := M.bind (M.opt (lstAt env j)) fun xs => M.bind m fun k => M.bind (M.opt (popAt xs k)) fun p => M.pure (p.1, env.set j (.ow (.lst p.2)))
def D.putAt (c k v : D) : Option D :=
  match c, k with
  | .lst xs, .int i => (L2.ixN xs.length i).map fun j => .lst (xs.set j v)
  | .dct kvs, k => if isKey k && decide (kvs.length < LIM) then some (.dct (Mp.put k v kvs)) else none
  | _, _ => none
def frzE (i : Nat) (env : Env) : M S Fl := match env[i]? with
  | some (.ow d) => M.pure (.nxt (env.set i (.fz d)))
  | some (.mx d) => M.pure (.nxt (env.set i (.fz d)))
  | _ => M.pure (.nxt env)
mutual
def ex : St → Env → M S Fl
  | .set i e, env => M.bind (ev call e env) fun d => M.pure (.nxt (env.set i (.fz d)))
  | .own i e, env => M.bind (ev call e env) fun d => M.pure (.nxt (env.set i (.ow d)))
  | .mat i e, env => M.bind (ev call e env) fun d => M.pure (.nxt (env.set i (.mx d)))
  | .frz i, env => frzE i env
  | .tset is es, env => M.bind (evs call es env) fun ds => M.bind (M.opt (sets is ds env)) fun e => M.pure (.nxt e)
  | .unp t e, env => M.bind (ev call e env) fun d => M.bind (M.opt (t.store d env)) fun e => M.pure (.nxt e)
  | .app i e, env => M.bind (M.opt (lstAt env i)) fun xs => M.bind (ev call e env) fun d => M.need (decide (xs.length < LIM)) (M.pure (.nxt (env.set i (.ow (.lst (xs ++ [d]))))))
  | .ext i e, env => M.bind (M.opt (lstAt env i)) fun xs => M.bind (ev call e env) fun d => M.bind (M.opt (asLst d)) fun ys => M.need (decide (xs.length + ys.length ≤ LIM)) (M.pure (.nxt (env.set i (.ow (.lst (xs ++ ys))))))
  | .pop t j e, env => M.bind (popM (evo call e env) j env) fun p => M.bind (M.opt (t.store p.1 p.2)) fun env' => M.pure (.nxt env')
  | .appPop i j e, env => M.bind (M.opt (lstAt env i)) fun ys => M.bind (popM (evo call e env) j env) fun p => M.need (decide (i ≠ j) && decide (ys.length < LIM)) (M.pure (.nxt (p.2.set i (.ow (.lst (ys ++ [p.1]))))))
  | .put i k e, env => M.bind (ev call e env) fun v => M.bind (M.opt (env.own i)) fun c => M.bind (ev call k env) fun kv => M.bind (M.opt (D.putAt c kv v)) fun c' => M.pure (.nxt (env.set i (.ow c')))
  | .put2 i k l e, env => M.bind (ev call e env) fun v => M.bind (M.opt (matAt env i)) fun rows => M.bind (ev call k env) fun kv => M.bind (M.opt (rowAt rows kv)) fun p => M.bind (ev call l env) fun lv => M.bind (M.opt (D.putAt (.lst p.2) lv v)) fun r =>
      M.pure (.nxt (env.set i (.mx (.lst (rows.set p.1 r)))))
  | .expr e, env => M.bind (ev call e env) fun _ => M.pure (.nxt env)
  | .ret e, env => M.bind (ev call e env) fun d => M.pure (.ret d)
  | .ite c a b, env => M.bind (ev call c env) fun x => M.bind (M.opt (asBl x)) fun k => if k = true then exs a env else exs b env
  | .for tg it body, env => M.bind (evi call it env) fun xs => forL tg (exs body) xs env
  | .while c body, env => whileL (fun e => M.bind (ev call c e) fun x => M.opt (asBl x)) (exs body) WL env
  | .raise c es, env => M.bind (evs call es env) fun ds s => .exc c ds s
  | .tri b rest cs i h, env => fun s => match ex b env s with
      | .ok (.nxt e) s' => M.calm (exs rest e) s'
      | .ok f s' => .ok f s'
      | .exc c fs s' => if cs.contains c = true then exs h (match i with | some j => env.set j (.fz (.ins c fs)) | none => env) s' else .exc c fs s'
      | .bad => .bad
  | .dead, _ => M.bad
  | .pass, env => M.pure (.nxt env)
  | .brk, env => M.pure (.brk env)
  | .cnt, env => M.pure (.cnt env)
def exs : List St → Env → M S Fl
  | [], env => M.pure (.nxt env)
  | t :: r, env => M.bind (ex t env) fun f => match f with
      | .nxt e => exs r e
      | f => M.pure f
end
end
/-! ### functions -/
inductive Fn where
  /-- np parameters, ns slots in all, the body -/
  | code (np ns : Nat) (body : List St)
  /-- an __init__: self is the first slot, np more parameters -/
  | init (np ns : Nat) (body : List St)
  | draw
  | hand
  /-- an own ==: two frames deep -/
  | eqf (np ns : Nat) (body : List St)
  /-- what the cache of the first argument, of the class c, keeps: mv the answers by key; the key, what is computed -/
  | memo (mv : List (Str × (D → Option D))) (np ns c : Nat) (key : Str ⊕ Nat) (e : Ex)
/-- the answer for the key y of the cache of t -/
def mvAt (mv : List (Str × (D → Option D))) (t : D) (y : Str) : Option D := (mv.lookup y).bind fun f => f t
/-- the key: a text, or the argument at a place -/
def keyOf (args : List D) : Str ⊕ Nat → Option Str
  | .inl x => some x
  | .inr i => match args[i]? with
    | some (.str x) => some x
    | _ => none
open Classical in
/-- only if the run comes to d wherever it begins, and changes nothing -/
noncomputable def M.det {S : Type} (m : M S D) (d : D) : M S D := fun s => if ∀ s, m s = .ok d s then .ok d s else .bad
/-- the hand: from a state and a number k above 0 another state and a number -/
abbrev Dr (S : Type) := S → Int → Int × S
structure Dr.Ok {S : Type} (dr : Dr S) : Prop where
  lo : ∀ s k, 0 < k → 0 ≤ (dr s k).1
  hi : ∀ s k, 0 < k → (dr s k).1 < k
section
variable {S : Type} (G : Nat → Option Fn) (dr : Dr S)
noncomputable def runFn (call : Nat → List D → M S D) (fn : Fn) (args : List D) : M S D :=
  match fn, args with
  | .code np ns body, args => M.need (args.length == np) (M.bind (exs call body (args.map Slot.fz ++ List.replicate (ns - np) Slot.un)) fun f => match f with
      | .ret d => M.pure d
      | .nxt _ => M.pure .non
      | _ => M.bad)
  | .init np ns body, args => M.need (args.length == np) (M.bind (exs call body (Slot.un :: (args.map Slot.fz ++ List.replicate (ns - 1 - np) Slot.un))) fun f => match f with
      | .nxt _ => M.pure .non
      | _ => M.bad)
  | .memo mv np ns c key e, args => M.need (args.length == np) (M.bind (M.opt args[0]?) fun t => M.need (isIns c t) (M.bind (M.opt (keyOf args key)) fun k => M.bind (M.opt (mvAt mv t k)) fun d => M.need d.pl (M.det (ev call e (args.map Slot.fz ++ List.replicate (ns - np) Slot.un)) d)))
  | .draw, [.hand, .int k] => fun s => if decide (0 < k) && decide (k < 1073741824) then .ok (.int (dr s k).1) (dr s k).2 else .bad
  | _, _ => M.bad
noncomputable def callN : Nat → Nat → List D → M S D
  | 0, _, _ => M.bad
  | n + 1, f, args => match G f with
    | some (.init np ns body) => match n with
      | 0 => M.bad
      | m + 1 => runFn dr (callN m) (.init np ns body) args
    | some (.eqf np ns body) => match n with
      | 0 => M.bad
      | m + 1 => runFn dr (callN m) (.code np ns body) args
    | some fn => runFn dr (callN n) fn args
    | none => M.bad
theorem callN_code {n f np ns : Nat} {body : List St} {args : List D} (h : G f = some (.code np ns body)) : callN G dr (n + 1) f args = runFn dr (callN G dr n) (.code np ns body) args := by
  unfold callN
  rw [h]
theorem callN_init {n f np ns : Nat} {body : List St} {args : List D} (h : G f = some (.init np ns body)) : callN G dr (n + 2) f args = runFn dr (callN G dr n) (.init np ns body) args := by
  unfold callN
  rw [h]
theorem callN_eqf {n f np ns : Nat} {body : List St} {args : List D} (h : G f = some (.eqf np ns body)) : callN G dr (n + 2) f args = runFn dr (callN G dr n) (.code np ns body) args := by
  unfold callN
  rw [h]
theorem callN_memo {n f np ns c : Nat} {mv : List (Str × (D → Option D))} {key : Str ⊕ Nat} {e : Ex} {args : List D} (h : G f = some (.memo mv np ns c key e)) : callN G dr (n + 1) f args = runFn dr (callN G dr n) (.memo mv np ns c key e) args := by
  unfold callN
  rw [h]
theorem callN_draw {n f : Nat} {args : List D} (h : G f = some .draw) : callN G dr (n + 1) f args = runFn dr (callN G dr n) .draw args := by
  unfold callN
  rw [h]
end
end Mp

set_option Elab.async false
set_option linter.all false
set_option maxRecDepth 100000
set_option maxHeartbeats 4000000
/-! Tuples that are known to have no dict. -/
namespace Mp
open PySem PySem.Spec PyProof.Rows L2

def TupD (K : PySem.W.Frag) (F : Hp) (a : Addr) (vs : List V) : Prop :=
  (∃ ob, F a = some (.frz ob (.tup vs)) ∧ ob.dict = none) ∨
  ∃ (o : Obj) (its : Array Value) (n : Nat), K.lookup a = some o ∧ o.cls = .type "tuple" ∧ o.dict = none ∧ o.data = .seq its n ∧ its.size ≤ sizeLine ∧ Vals vs its.toList
theorem TupD.sq {K : PySem.W.Frag} {F : Hp} {a : Addr} {vs : List V} (h : TupD K F a vs) : SqT K F a vs := by
  rcases h with ⟨ob, h, _⟩ | ⟨o, its, n, h1, h2, _, h3, h4, h5⟩
  · exact .inl (.inr ⟨ob, h⟩)
  · exact .inr ⟨o, its, n, h1, h2, h3, h4, h5⟩
theorem TupD.mono {K : PySem.W.Frag} {F F' : Hp} {a : Addr} {vs : List V} (e : ∀ a o, F a = some o → F' a = some o) (h : TupD K F a vs) : TupD K F' a vs := by
  rcases h with ⟨ob, h, q⟩ | h
  · exact .inl ⟨ob, e _ _ h, q⟩
  · exact .inr h
theorem TupD.obj {X : Cx} {pins : List (Addr × Obj)} {σ : L2.St} {H : Hp} {s : Shared} {a : Addr} {vs : List V} (I : Inv X pins σ H s) (h : TupD X.K H a vs) : ∃ o, s.heap.get? a = some o ∧ o.cls = .type "tuple" ∧ o.dict = none := by
  rcases h with ⟨ob, h, q⟩ | ⟨o, its, n, h1, h2, h0, h3, h4, h5⟩
  · obtain ⟨e, _, its, _, o, ho, hc, _⟩ := (show ObjOk X.prog X.w H s.heap a (.frz ob (.tup vs)) from I.hok a _ h)
    rw [e] at ho
    cases ho
    exact ⟨ob, e, hc, q⟩
  · exact ⟨o, I.kIn a o h1, h2, h0⟩
section
variable {X : Cx} {pins : List (Addr × Obj)} {σ : L2.St} {H : Hp} {s : Shared}
/-- a new tuple is laid -/
theorem newT_inv {xs : List V} {its : List Value} {tk : Nat} (I : Inv X pins σ H s) (r : Vals xs its) (hz : xs.length ≤ sizeLine) :
    Inv X pins σ (upd H s.heap.objs.size (.frz { cls := .type "tuple", data := .seq its.toArray } (.tup xs))) { s with heap := s.heap.push { cls := .type "tuple", data := .seq its.toArray }, toks := tk } :=
  I.laid (t' := tk) (fun b o e => Heap.get?_push_of_some _ e) (Nat.le_refl _) ⟨Heap.get?_push_size _ rfl, hz, its, r, IsTup.new _ _⟩
/-- what is wanted of a new tuple of the items xs -/
def NewT (H : Hp) (xs : List V) (Q : VK) : Prop := ∀ p ob, H p = none → ob.dict = none → Q (.ref p) (upd H p (.frz ob (.tup xs)))
theorem NewT.ep {xs : List V} {its : List Value} {tk : Nat} {Q : VK} (I : Inv X pins σ H s) (r : Vals xs its) (hz : xs.length ≤ sizeLine) (q : NewT H xs Q) :
    EP X pins σ Q (.ref s.heap.objs.size) { s with heap := s.heap.push { cls := .type "tuple", data := .seq its.toArray }, toks := tk } :=
  ⟨.ref s.heap.objs.size, _, newT_inv I r hz, rfl, q _ _ (I.hok.fresh (Nat.le_refl _)) rfl⟩
end
section
variable {X : Cx}
def tTupF (t : TA) : TE := fun σ H Q => t σ H fun xs H1 => xs.length ≤ sizeLine ∧ NewT H1 xs Q
theorem pe_tupF {es : List Expr} {t : TA} {k : Nat} {pos : Pos} (h : PA X es t) : PE X (.Tuple es k pos) (tTupF t) :=
  ⟨fun pins s σ H Q I hq => wpAny_Tuple_spliced (thn (h.run pos pins s σ H _ I hq) fun us s1 ⟨xs, H1, I1, r, z, q⟩ => ⟨by rw [← r.length]; exact z, NewT.ep (tk := s1.toks) I1 r z q⟩)⟩
def rTupF (K : PySem.W.Frag) : List V → Hp → VK → Prop := fun xs H Q => ∃ p ys, xs = [.ref p] ∧ ((H p = some (.lst ys) ∧ NewT H ys Q) ∨ (SqT K H p ys ∧ Q (.ref p) H))
theorem call_tupF : CallR X (.type "tuple") (rTupF X.K) := by
  intro pins s σ H xs us Q I r ⟨p, ys, e, h⟩
  subst e
  obtain ⟨u, rfl, rx⟩ := vals1 r
  cases rx
  rcases h with ⟨hq, q⟩ | ⟨hq, q⟩
  · obtain ⟨its, r', pl, hz⟩ := I.list (.inl (.inl hq))
    have hlen := r'.length
    refine call_tuple_list pl.isList (fun h' kp => ?_) (by simp only [List.size_toArray] <;> omega)
    exact NewT.ep (s := { s with heap := h' }) (tk := s.toks) (I.kept (t' := s.toks) kp) r' hz q
  · obtain ⟨its, r', pl, hz⟩ := I.tuple hq
    exact call_tuple_same pl ⟨.ref p, H, I, rfl, q⟩
def rCatF (K : PySem.W.Frag) : R2 := fun x y H Q => ∃ a b xs ys, x = .ref a ∧ y = .ref b ∧ SqT K H a xs ∧ SqT K H b ys ∧ xs.length + ys.length ≤ sizeLine ∧
  (xs = [] → Q (.ref b) H) ∧ (xs ≠ [] → ys = [] → Q (.ref a) H) ∧ (xs ≠ [] → ys ≠ [] → NewT H (xs ++ ys) Q)
theorem op_catF : OpR X (binaryOp .Add) (rCatF X.K) := by
  intro pins s σ H x y v u Q I rx ry ⟨a, b, xs, ys, ea, eb, ha, hb, hz, q0, q1, q2⟩
  subst ea eb
  cases rx
  cases ry
  obtain ⟨its, r1, p1, _⟩ := I.tuple ha
  obtain ⟨its2, r2, p2, _⟩ := I.tuple hb
  by_cases hx : xs = []
  · subst hx
    cases r1
    exact cat_tup0 p1 p2 ⟨.ref b, H, I, rfl, q0 rfl⟩
  · refine HT.cat_tup p1 p2 (fun z => hx (r1.nil_iff.mp z)) (fun z => ⟨.ref a, H, I, rfl, q1 hx (r2.nil_iff.mp z)⟩) (fun z => ?_) (by rw [← r1.length, ← r2.length]; exact hz)
    exact NewT.ep (tk := s.toks) I (r1.append r2) (by rw [List.length_append]; exact hz) (q2 hx fun e => z (r2.nil_iff.mpr e))
def rSlF (K : PySem.W.Frag) : V → Option Int → Option Int → Hp → VK → Prop := fun x lo hi H Q => ∃ a xs, x = .ref a ∧ SqT K H a xs ∧
  (HT.sIx xs.length 0 lo = 0 ∧ HT.sIx xs.length xs.length hi = xs.length → Q (.ref a) H) ∧ (¬ (HT.sIx xs.length 0 lo = 0 ∧ HT.sIx xs.length xs.length hi = xs.length) → NewT H (cutV xs lo hi) Q)
theorem sl_tupF : SlR X (rSlF X.K) := by
  intro pins s σ H x v vl vu lo hi sl Q I rx hs pl pu ⟨a, xs, ea, hx, q1, q2⟩
  subst ea
  cases rx
  obtain ⟨its, r, ht, hz⟩ := I.tuple hx
  have hlen : its.toArray.size = xs.length := by rw [List.size_toArray]; exact r.length.symm
  refine ⟨"tuple", _, PyProof.Rows.slot_tuple_getitem.lookup, ht.typeIs, ?_⟩
  by_cases hw : HT.sIx xs.length 0 lo = 0 ∧ HT.sIx xs.length xs.length hi = xs.length
  · exact getItem_tuple_whole ht hs pl pu (by rw [hlen]; exact hw) ⟨.ref a, H, I, rfl, q1 hw⟩
  · refine HT.getItem_tuple_cut ht hs pl pu (by rw [hlen]; exact hw) ?_ (by rw [hlen]; exact hz)
    rw [hlen]
    exact NewT.ep (tk := s.toks) I ((r.drop (HT.sIx xs.length 0 lo)).take (HT.sIx xs.length xs.length hi - HT.sIx xs.length 0 lo)) (Nat.le_trans (cutV_length xs lo hi) hz) (q2 hw)
theorem tuple_mul1 (l : Addr) (items : Array Value) (n : Nat) (dd : Option Addr) (sl : Array (Option Value)) (u : Tok) :
    Meets (Builtin.«tuple.__mul__» ⟨[.ref l, .int 1 u], []⟩) (fun _ R s => s.heap.get? l = some { cls := .type "tuple", dict := dd, data := .seq items n, slots := sl } ∧ R (.ok (.ret (Value.ref l))) s) :=
  .of_wp fun prog w A R s h => by
    obtain ⟨hp, g, d, tk, os⟩ := s
    obtain ⟨hl, h⟩ := h
    have f1 := AutoSeq1.idx_int
    wp_walk using wpAny_loadPart' hl
    repeat (first
      | (refine wpAny_ite_false (decide_eq_false (by decide)) ?_; wp_walk using wpAny_loadPart' hl)
      | (refine wpAny_ite_true (by simp) ?_; wp_walk using wpAny_loadPart' hl))
    exact ⟨_, rfl, h⟩
def rRepF (K : PySem.W.Frag) : R2 := fun x y H Q => ∃ l k xs, x = .ref l ∧ y = .int k ∧ SqT K H l xs ∧ xs ≠ [] ∧ 1 ≤ k ∧ k ≤ 1000 ∧ xs.length ≤ 1000 ∧ (k = 1 → Q (.ref l) H) ∧ (k ≠ 1 → NewT H (List.replicate k.toNat xs).flatten Q)
theorem op_repF : OpR X (binaryOp .Mult) (rRepF X.K) := by
  intro pins s σ H x y v u Q I rx ry ⟨l, k, xs, el, ek, hT, hne, h1, h2, hz, q1, q2⟩
  subst el ek
  cases rx
  obtain ⟨t, rfl⟩ := ry
  obtain ⟨its, r, ⟨⟨cls, dd, data, sl⟩, ho, hc, n, hd⟩, hs⟩ := I.tuple hT
  simp only at hc hd
  subst hc hd
  by_cases hk : k = 1
  · subst hk
    refine wpAny_binaryOp_repeat_ref (T := "tuple") (U := "int") (by decide) ⟨_, ho, rfl⟩ (fun s' => typeIs_int s' 1 t) noFill_tuple_mul F.fills_int_mul F.slot_int_rmul repeat_tuple F.slot_int_index.lookup
      (call_meets F.slot_int_rmul (typeIs_int s 1 t) F.entry_int_rmul (F.args_int_rmul_2 _ _) (int_rmul_tuple 1 t l its.toArray n dd sl)
        ⟨ho, rfl, ⟨_, ho, rfl⟩, call_meets F.slot_tuple_mul ⟨_, ho, rfl⟩ F.entry_tuple_mul (F.args_tuple_mul_2 _ _) (tuple_mul1 l its.toArray n dd sl t) ⟨ho, ?_⟩⟩)
    exact ⟨.ref l, H, I, rfl, q1 rfl⟩
  · have hle : its.length = xs.length := r.length.symm
    have hn : its ≠ [] := fun e => hne (List.eq_nil_of_length_eq_zero (by rw [← hle, e]; rfl))
    have hi : its.toArray.isEmpty = false := by
      cases its with
      | nil => exact absurd rfl hn
      | cons a b => rfl
    have hsz0 : its.toArray.size = xs.length := by rw [List.size_toArray, hle]
    have hm : ((its.toArray.size : Nat) : Int) * k ≤ 1000000 := by
      rw [hsz0]
      have a1 : ((xs.length : Nat) : Int) * k ≤ 1000 * k := Int.mul_le_mul_of_nonneg_right (by omega) (by omega)
      omega
    have flen : (List.replicate k.toNat its).flatten.length ≤ 1000000 := by
      rw [PyProof.Rows.lm_len_rep_flat, hle]
      have a1 : k.toNat * xs.length ≤ 1000 * 1000 := Nat.mul_le_mul (by omega) hz
      omega
    have c0 : (decide (k < -(2 ^ 63)) || decide (k ≥ 2 ^ 63)) = false := by
      rw [decide_eq_false (by omega), decide_eq_false (by omega)] <;> rfl
    have c1 : (its.toArray.isEmpty || k == 1) = false := by
      rw [hi, Bool.false_or]
      exact beq_eq_false_iff_ne.mpr hk
    have c2 : (decide (k ≤ 0) || its.toArray.isEmpty) = false := by
      rw [hi, Bool.or_false]
      exact decide_eq_false (by omega)
    have c4 : Builtin.Tuple.tupleTooMany (((its.toArray.size : Nat) : Int) * k) = false := by
      unfold Builtin.Tuple.tupleTooMany
      rw [sizeLine_eq]
      exact decide_eq_false (by omega)
    refine wpAny_binaryOp_repeat_ref (T := "tuple") (U := "int") (by decide) ⟨_, ho, rfl⟩ (fun s' => typeIs_int s' k t) noFill_tuple_mul F.fills_int_mul F.slot_int_rmul repeat_tuple F.slot_int_index.lookup
      (call_meets F.slot_int_rmul (typeIs_int s k t) F.entry_int_rmul (F.args_int_rmul_2 _ _) (int_rmul_tuple k t l its.toArray n dd sl)
        ⟨ho, rfl, ⟨_, ho, rfl⟩, call_meets F.slot_tuple_mul ⟨_, ho, rfl⟩ F.entry_tuple_mul (F.args_tuple_mul_2 _ _) (tuple_mulW l its.toArray n dd sl k t c0 c1 c2 (by omega) c4 (by rw [size_rep, List.size_toArray]; exact Nat.le_trans flen (by decide))) ⟨ho, ?_⟩⟩)
    rw [size_rep]
    exact NewT.ep (tk := s.toks) I (r.rep k.toNat) (by rw [PyProof.Rows.lm_len_rep_flat, ← hle, ← PyProof.Rows.lm_len_rep_flat]; exact Nat.le_trans flen (by decide)) (q2 hk)
end
end Mp

set_option Elab.async false
set_option linter.all false
set_option maxRecDepth 100000
set_option maxHeartbeats 4000000
/-! What a tree-value is in the abstract heap. -/
namespace Mp
open PySem PySem.Spec PyProof.Rows L2

/-- what lasts: objects that never change, the caches' owners, the hand -/
structure Gh where
  F : Hp
  C : Addr → Option D
  ha : Addr
structure Tab (S : Type) where
  cls : Nat → Option Addr
  flds : Nat → List Str
  memo : Nat → Bool
  cacheOk : Gh → D → List (Key × V) → Prop
  handOk : Gh → S → List V → Prop
  /-- the code objects' tables -/
  tb : List (Addr × Str)
  /-- a function object (a lambda made in a call) of the function f, captured values cs -/
  cloOk : Gh → Nat → List V → Addr → Prop

/-- a key as a tree -/
def kD : Key → D
  | .inl i => .int i
  | .inr x => .str x
variable {S : Type}
mutual
inductive Rep (K : PySem.W.Frag) (T : Tab S) (g : Gh) : D → V → Prop
  | non : Rep K T g .non .non
  | bl (b : Bool) : Rep K T g (.bl b) (.bl b)
  | int (i : Int) : Rep K T g (.int i) (.int i)
  | str (x : Str) : Rep K T g (.str x) (.str x)
  | tup {a : Addr} {xs : List D} {vs : List V} : TupD K g.F a vs → Reps K T g xs vs → Rep K T g (.tup xs) (.ref a)
  | lst {a : Addr} {xs : List D} {vs : List V} : g.F a = some (.lst vs) → Reps K T g xs vs → Rep K T g (.lst xs) (.ref a)
  | ins {c : Nat} {C a dx : Addr} {ds : List D} {vs : List V} {ex : List (Str × V)} : T.cls c = some C → g.F a = some (.ins C dx ((T.flds c).zip vs ++ ex)) → vs.length = (T.flds c).length → Reps K T g ds vs →
      (T.memo c = true → ∃ l, ex.lookup ("looked" : Str) = some (.ref l) ∧ g.C l = some (.ins c ds)) → Rep K T g (.ins c ds) (.ref a)
  | dct {a : Addr} {kvs : List (D × D)} {kv : List (Key × V)} : g.F a = some (.dK kv) → kvs.map (·.1) = kv.map (fun p => kD p.1) → Reps K T g (kvs.map (·.2)) (kv.map (·.2)) → Rep K T g (.dct kvs) (.ref a)
  | hand : Rep K T g .hand (.ref g.ha)
  | clo {f : Nat} {a : Addr} {cs : List D} {vs : List V} : T.cloOk g f vs a → Reps K T g cs vs → Rep K T g (.clo f cs) (.ref a)
inductive Reps (K : PySem.W.Frag) (T : Tab S) (g : Gh) : List D → List V → Prop
  | nil : Reps K T g [] []
  | cons {d : D} {ds : List D} {v : V} {vs : List V} : Rep K T g d v → Reps K T g ds vs → Reps K T g (d :: ds) (v :: vs)
end
structure Gh.Le (g g' : Gh) : Prop where
  F : ∀ a o, g.F a = some o → g'.F a = some o
  C : ∀ a o, g.C a = some o → g'.C a = some o
  ha : g'.ha = g.ha
theorem Gh.Le.refl (g : Gh) : g.Le g := ⟨fun _ _ h => h, fun _ _ h => h, rfl⟩
theorem Gh.Le.trans {a b c : Gh} (h : a.Le b) (k : b.Le c) : a.Le c := ⟨fun _ _ q => k.F _ _ (h.F _ _ q), fun _ _ q => k.C _ _ (h.C _ _ q), k.ha.trans h.ha⟩
/-- at a stands just this object -/
def ExO (a : Addr) (o : Obj) : HO := .ext fun h => h.get? a = some o
/-- without the things at L -/
def hless (H : Hp) (L : List Addr) : Hp := fun a => if a ∈ L then none else H a
def Gh.less (g : Gh) (L : List Addr) : Gh := { g with F := hless g.F L }
structure Tab.Ok (T : Tab S) : Prop where
  cache0 : ∀ g d, T.cacheOk g d []
  cacheL : ∀ {g : Gh} {d kvs} (L : List Addr), (∀ a ∈ L, ∃ o, g.F a = some (ExO a o)) → T.cacheOk g d kvs → T.cacheOk (g.less L) d kvs
  handL : ∀ {g : Gh} {s vs} (L : List Addr), (∀ a ∈ L, ∃ o, g.F a = some (ExO a o)) → T.handOk g s vs → T.handOk (g.less L) s vs
  cache : ∀ {g g' d kvs}, g.Le g' → T.cacheOk g d kvs → T.cacheOk g' d kvs
  hand : ∀ {g g' s vs}, g.Le g' → T.handOk g s vs → T.handOk g' s vs
  clo : ∀ {g g' f vs a}, g.Le g' → T.cloOk g f vs a → T.cloOk g' f vs a
theorem sqT_mono {K : PySem.W.Frag} {H H' : Hp} {a : Addr} {xs : List V} (e : ∀ a o, H a = some o → H' a = some o) (h : SqT K H a xs) : SqT K H' a xs := by
  rcases h with (q | ⟨o, q⟩) | q
  · exact Or.inl (Or.inl (e _ _ q))
  · exact Or.inl (Or.inr ⟨o, e _ _ q⟩)
  · exact Or.inr q
theorem sqL_mono {K : PySem.W.Frag} {H H' : Hp} {a : Addr} {xs : List V} (e : ∀ a o, H a = some o → H' a = some o) (h : SqL K H a xs) : SqL K H' a xs := Same.seq e h
section
variable {K : PySem.W.Frag} {T : Tab S} {g g' : Gh}
mutual
theorem Rep.mono (ok : T.Ok) (le : g.Le g') : ∀ (d : D) (v : V), Rep K T g d v → Rep K T g' d v
  | _, _, .non => .non
  | _, _, .bl b => .bl b
  | _, _, .int i => .int i
  | _, _, .str x => .str x
  | _, _, .tup h r => .tup (h.mono le.F) (Reps.mono ok le _ _ r)
  | _, _, .lst h r => .lst (le.F _ _ h) (Reps.mono ok le _ _ r)
  | _, _, .ins h1 h2 h3 r m => .ins h1 (le.F _ _ h2) h3 (Reps.mono ok le _ _ r) fun q => let ⟨l, a, b⟩ := m q; ⟨l, a, le.C _ _ b⟩
  | _, _, .dct h e r => .dct (le.F _ _ h) e (Reps.mono ok le _ _ r)
  | _, _, .hand => by rw [← le.ha]; exact .hand
  | _, _, .clo h r => .clo (ok.clo le h) (Reps.mono ok le _ _ r)
theorem Reps.mono (ok : T.Ok) (le : g.Le g') : ∀ (d : List D) (v : List V), Reps K T g d v → Reps K T g' d v
  | _, _, .nil => .nil
  | _, _, .cons h r => .cons (Rep.mono ok le _ _ h) (Reps.mono ok le _ _ r)
end
theorem Reps.length : ∀ {d : List D} {v : List V}, Reps K T g d v → d.length = v.length
  | _, _, .nil => rfl
  | _, _, .cons _ r => by rw [List.length_cons, List.length_cons, Reps.length r]
theorem Reps.get : ∀ {ds : List D} {vs : List V} {i : Nat} {d : D}, Reps K T g ds vs → ds[i]? = some d → ∃ v, vs[i]? = some v ∧ Rep K T g d v
  | _, _, _, _, .nil, e => by simp at e
  | _, _, 0, _, .cons r _, e => by simp at e; subst e; exact ⟨_, rfl, r⟩
  | _, _, i + 1, _, .cons _ t, e => by
    obtain ⟨u, h1, h2⟩ := Reps.get (i := i) t (by simpa using e)
    exact ⟨u, by simpa using h1, h2⟩
theorem Reps.append : ∀ {ds es : List D} {vs us : List V}, Reps K T g ds vs → Reps K T g es us → Reps K T g (ds ++ es) (vs ++ us)
  | _, _, _, _, .nil, k => k
  | _, _, _, _, .cons h r, k => .cons h (Reps.append r k)
theorem Reps.take : ∀ {ds : List D} {vs : List V} (n : Nat), Reps K T g ds vs → Reps K T g (ds.take n) (vs.take n)
  | _, _, 0, _ => by simp; exact .nil
  | _, _, _ + 1, .nil => by simp; exact .nil
  | _, _, n + 1, .cons r t => .cons r (Reps.take n t)
theorem Reps.drop : ∀ {ds : List D} {vs : List V} (n : Nat), Reps K T g ds vs → Reps K T g (ds.drop n) (vs.drop n)
  | _, _, 0, r => r
  | _, _, _ + 1, .nil => by simp; exact .nil
  | _, _, n + 1, .cons _ t => Reps.drop n t
theorem Reps.set {d : D} {v : V} (r : Rep K T g d v) : ∀ {ds : List D} {vs : List V} (i : Nat), Reps K T g ds vs → Reps K T g (ds.set i d) (vs.set i v)
  | _, _, _, .nil => .nil
  | _, _, 0, .cons _ t => .cons r t
  | _, _, i + 1, .cons q t => .cons q (Reps.set r i t)
theorem Reps.eraseIdx : ∀ {ds : List D} {vs : List V} (i : Nat), Reps K T g ds vs → Reps K T g (ds.eraseIdx i) (vs.eraseIdx i)
  | _, _, _, .nil => .nil
  | _, _, 0, .cons _ t => t
  | _, _, i + 1, .cons q t => .cons q (Reps.eraseIdx i t)
theorem Reps.dropLast : ∀ {ds : List D} {vs : List V}, Reps K T g ds vs → Reps K T g ds.dropLast vs.dropLast
  | _, _, .nil => .nil
  | _, _, .cons _ .nil => .nil
  | _, _, .cons q (.cons q2 t) => by
    show Reps K T g (_ :: List.dropLast (_ :: _)) (_ :: List.dropLast (_ :: _))
    exact .cons q (Reps.dropLast (.cons q2 t))
theorem Reps.reverse : ∀ {ds : List D} {vs : List V}, Reps K T g ds vs → Reps K T g ds.reverse vs.reverse
  | _, _, .nil => .nil
  | _, _, .cons q t => by
    rw [List.reverse_cons, List.reverse_cons]
    exact Reps.append (Reps.reverse t) (.cons q .nil)
theorem Reps.flat {ds : List D} {vs : List V} (r : Reps K T g ds vs) : ∀ k : Nat, Reps K T g (List.replicate k ds).flatten (List.replicate k vs).flatten
  | 0 => .nil
  | k + 1 => by
    rw [List.replicate_succ, List.flatten_cons, List.replicate_succ, List.flatten_cons]
    exact Reps.append r (Reps.flat r k)
end

/-! ### the world and its steps -/
/-- the code objects' tables, and what is in them -/
def TabG (T : List (Addr × Str)) (g : Gh) (H : Hp) : Prop := ∀ p ∈ T, ∃ ps : Array Value, H p.1 = some (.tbl ps) ∧ g.F p.1 = none ∧ TriplesOk ps.toList ∧ ∀ (pos : Pos) (cv : Value), codeAmong pos ps.toList = some cv → ∃ c, cv = .ref c ∧ g.F c = some (LamX.CodeO c p.2)
theorem TabG.mono {T : List (Addr × Str)} {g g' : Gh} {H H' : Hp} (t : TabG T g H) (h : ∀ p ps, H p = some (.tbl ps) → H' p = some (.tbl ps)) (hF : ∀ p ps, H p = some (.tbl ps) → g.F p = none → g'.F p = none) (le : g.Le g') : TabG T g' H' := fun p hp => by
  obtain ⟨ps, a, f, b, c⟩ := t p hp
  exact ⟨ps, h _ _ a, hF _ _ a f, b, fun pos cv hcv => let ⟨d, e1, e2⟩ := c pos cv hcv; ⟨d, e1, le.F _ _ e2⟩⟩
theorem TabG.upd {T : List (Addr × Str)} {g g' : Gh} {H : Hp} {p : Addr} {o : HO} (t : TabG T g H) (h1 : ∀ ps, H p ≠ some (.tbl ps)) (hF : ∀ q, q ≠ p → g.F q = none → g'.F q = none) (le : g.Le g') : TabG T g' (upd H p o) :=
  t.mono (fun q ps e => by rw [upd_ne (fun z => by rw [z] at e; exact h1 ps e)]; exact e) (fun q ps e n => hF q (fun z => by rw [z] at e; exact h1 ps e) n) le
/-- what one may have for one's own -/
def OwnO : HO → Prop
  | .lst _ => True
  | .dK _ => True
  | .dT _ => True
  | _ => False
theorem OwnO.nt {o : HO} (h : OwnO o) : ∀ ps, o ≠ .tbl ps := fun ps z => by subst z; exact h
structure Wd (K : PySem.W.Frag) (T : Tab S) (g : Gh) (s : S) (H : Hp) : Prop where
  sub : ∀ a o, g.F a = some o → H a = some o
  cache : ∀ l t, g.C l = some t → ∃ kvs, H l = some (.dK kvs) ∧ T.cacheOk g t kvs
  hand : ∃ vs, H g.ha = some (.lst vs) ∧ T.handOk g s vs
  sepC : ∀ l t, g.C l = some t → g.F l = none ∧ l ≠ g.ha
  sepH : g.F g.ha = none
  tabs : TabG T.tb g H
structure Step (g : Gh) (H : Hp) (g' : Gh) (H' : Hp) : Prop where
  le : g.Le g'
  pres : ∀ a o, H a = some o → g.C a = none → a ≠ g.ha → (∀ ps, o ≠ .tbl ps) → H' a = some o
  stay : ∀ a o, H a = some o → ∃ o', H' a = some o'
  newC : ∀ l t, g'.C l = some t → g.C l = some t ∨ H l = none
  newF : ∀ a o, g'.F a = some o → g.F a = some o ∨ H a = none
theorem Step.refl (g : Gh) (H : Hp) : Step g H g H := ⟨.refl g, fun _ _ h _ _ _ => h, fun _ o h => ⟨o, h⟩, fun _ _ h => .inl h, fun _ _ h => .inl h⟩
theorem Step.fresh {g g' : Gh} {H H' : Hp} (s : Step g H g' H') {p : Addr} (h : H' p = none) : H p = none := by
  cases q : H p with
  | none => rfl
  | some o =>
    obtain ⟨o', e⟩ := s.stay p o q
    rw [h] at e; cases e
theorem Step.trans {g1 g2 g3 : Gh} {H1 H2 H3 : Hp} (a : Step g1 H1 g2 H2) (b : Step g2 H2 g3 H3) : Step g1 H1 g3 H3 where
  le := a.le.trans b.le
  pres := fun p o h hc hh nt => by
    refine b.pres p o (a.pres p o h hc hh nt) ?_ (by rw [a.le.ha]; exact hh) nt
    cases q : g2.C p with
    | none => rfl
    | some t =>
      rcases a.newC p t q with z | z
      · rw [z] at hc; cases hc
      · rw [z] at h; cases h
  stay := fun p o h => by
    obtain ⟨o', e⟩ := a.stay p o h
    exact b.stay p o' e
  newC := fun l t h => by
    rcases b.newC l t h with z | z
    · exact a.newC l t z
    · exact .inr (a.fresh z)
  newF := fun l t h => by
    rcases b.newF l t h with z | z
    · exact a.newF l t z
    · exact .inr (a.fresh z)

/-! ### owned lists and slots -/
section
variable (K : PySem.W.Frag) (T : Tab S) (g : Gh) (H : Hp)
/-- at p a dict of one's own -/
inductive Own : D → V → List Addr → Prop
  | lst {p : Addr} {ds : List D} {vs : List V} : H p = some (.lst vs) → Reps K T g ds vs → Own (.lst ds) (.ref p) [p]
inductive Owns : List D → List V → List Addr → Prop
  | nil : Owns [] [] []
  | cons {d : D} {v : V} {ds : List D} {vs : List V} {f fs : List Addr} : Own K T g H d v f → Owns ds vs fs → Owns (d :: ds) (v :: vs) (f ++ fs)
inductive Mtx : D → V → List Addr → Prop
  | lst {p : Addr} {ds : List D} {vs : List V} {fs : List Addr} : H p = some (.lst vs) → Owns K T g H ds vs fs → Mtx (.lst ds) (.ref p) (p :: fs)
inductive SlotOk : Slot → Option V → List Addr → Prop
  | un {o : Option V} : SlotOk .un o []
  | fz {d : D} {v : V} : Rep K T g d v → SlotOk (.fz d) (some v) []
  | ow {d : D} {v : V} {f : List Addr} : Own K T g H d v f → SlotOk (.ow d) (some v) f
  | mx {d : D} {v : V} {f : List Addr} : Mtx K T g H d v f → SlotOk (.mx d) (some v) f
/-- what is one's own is known to nobody else -/
structure Mine (B : Hp) (f : List Addr) : Prop where
  here : ∀ p ∈ f, ∃ o, H p = some o ∧ OwnO o
  nF : ∀ p ∈ f, g.F p = none
  nC : ∀ p ∈ f, g.C p = none
  nH : ∀ p ∈ f, p ≠ g.ha
  nB : ∀ p ∈ f, B p = none
/-- the slots; B: the heap at the def's entry -/
structure Slots (B : Hp) (env : Env) (σ : L2.St) (fp : Nat → List Addr) : Prop where
  len : env.length = σ.length
  at_ : ∀ i sl, env[i]? = some sl → ∃ o, σ[i]? = some o ∧ SlotOk K T g H sl o (fp i)
  nd : ∀ i, (fp i).Nodup
  dis : ∀ i j, i ≠ j → ∀ p ∈ fp i, p ∉ fp j
  own : ∀ i, Mine g H B (fp i)
end
section
variable {K : PySem.W.Frag} {T : Tab S} {g g' : Gh} {H H' B : Hp}
theorem Own.step (ok : T.Ok) (st : Step g H g' H') {d : D} {v : V} {f : List Addr} (h : Own K T g H d v f) (m : Mine g H B f) : Own K T g' H' d v f := by
  cases h with
  | lst h r => exact .lst (st.pres _ _ h (m.nC _ (by simp)) (m.nH _ (by simp)) (fun _ z => nomatch z)) (r.mono ok st.le)
theorem Mine.sub {f f' : List Addr} (m : Mine g H B f) (s : ∀ p ∈ f', p ∈ f) : Mine g H B f' := ⟨fun p h => m.here p (s p h), fun p h => m.nF p (s p h), fun p h => m.nC p (s p h), fun p h => m.nH p (s p h), fun p h => m.nB p (s p h)⟩
theorem Mine.nil : Mine g H B [] := ⟨by simp, by simp, by simp, by simp, by simp⟩
theorem Mine.step (st : Step g H g' H') {f : List Addr} (m : Mine g H B f) : Mine g' H' B f where
  here := fun p h => let ⟨o, e, oo⟩ := m.here p h; ⟨o, st.pres p o e (m.nC p h) (m.nH p h) oo.nt, oo⟩
  nF := fun p h => by
    cases q : g'.F p with
    | none => rfl
    | some o =>
      obtain ⟨o', e, _⟩ := m.here p h
      rcases st.newF p o q with z | z
      · rw [m.nF p h] at z; cases z
      · rw [e] at z; cases z
  nC := fun p h => by
    cases q : g'.C p with
    | none => rfl
    | some o =>
      obtain ⟨o', e, _⟩ := m.here p h
      rcases st.newC p o q with z | z
      · rw [m.nC p h] at z; cases z
      · rw [e] at z; cases z
  nH := fun p h => by rw [st.le.ha]; exact m.nH p h
  nB := m.nB
theorem Owns.step (ok : T.Ok) (st : Step g H g' H') : ∀ {ds : List D} {vs : List V} {f : List Addr}, Owns K T g H ds vs f → Mine g H B f → Owns K T g' H' ds vs f
  | _, _, _, .nil, _ => .nil
  | _, _, _, .cons h r, m => .cons (h.step ok st (m.sub fun p q => List.mem_append_left _ q)) (Owns.step ok st r (m.sub fun p q => List.mem_append_right _ q))
theorem SlotOk.step (ok : T.Ok) (st : Step g H g' H') {sl : Slot} {o : Option V} {f : List Addr} (h : SlotOk K T g H sl o f) (m : Mine g H B f) : SlotOk K T g' H' sl o f := by
  cases h with
  | un => exact .un
  | fz r => exact .fz (r.mono ok st.le)
  | ow h => exact .ow (h.step ok st m)
  | mx h =>
    cases h with
    | lst e r => exact .mx (.lst (st.pres _ _ e (m.nC _ (by simp)) (m.nH _ (by simp)) (fun _ z => nomatch z)) (r.step ok st (m.sub fun p q => List.mem_cons_of_mem _ q)))
theorem Slots.step (ok : T.Ok) (st : Step g H g' H') {env : Env} {σ : L2.St} {fp : Nat → List Addr} (h : Slots K T g H B env σ fp) : Slots K T g' H' B env σ fp where
  len := h.len
  at_ := fun i sl e => let ⟨o, a, b⟩ := h.at_ i sl e; ⟨o, a, b.step ok st (h.own i)⟩
  nd := h.nd
  dis := h.dis
  own := fun i => (h.own i).step st
/-- a name is bound to a value that lasts -/
theorem Slots.setF {env : Env} {σ : L2.St} {fp : Nat → List Addr} {i : Nat} {d : D} {v : V} (h : Slots K T g H B env σ fp) (r : Rep K T g d v) : Slots K T g H B (env.set i (.fz d)) (σ.set i (some v)) (fun j => if j = i then [] else fp j) where
  len := by rw [List.length_set, List.length_set]; exact h.len
  at_ := fun j sl e => by
    by_cases hj : i = j
    · subst hj
      have hl : i < env.length := by
        have := (List.getElem?_eq_some_iff.mp e).1
        rw [List.length_set] at this; exact this
      rw [List.getElem?_set_self hl] at e
      cases e
      exact ⟨_, List.getElem?_set_self (by rw [← h.len]; exact hl), by rw [if_pos rfl]; exact .fz r⟩
    · rw [List.getElem?_set_ne hj] at e
      rw [List.getElem?_set_ne hj, if_neg (Ne.symm hj)]
      exact h.at_ j sl e
  nd := fun j => by
    by_cases hj : j = i
    · rw [if_pos hj]; exact List.nodup_nil
    · rw [if_neg hj]; exact h.nd j
  dis := fun j k hjk p hp => by
    by_cases hj : j = i
    · rw [if_pos hj] at hp; simp at hp
    · rw [if_neg hj] at hp
      by_cases hk : k = i
      · rw [if_pos hk]; simp
      · rw [if_neg hk]; exact h.dis j k hjk p hp
  own := fun j => by
    by_cases hj : j = i
    · rw [if_pos hj]; exact .nil
    · rw [if_neg hj]; exact h.own j
theorem get_slot {env : Env} {i : Nat} {d : D} (h : env.get i = some d) : env[i]? = some (.fz d) := by
  unfold Env.get at h
  split at h
  · rename_i e; cases h; exact e
  · cases h
theorem Slots.get {env : Env} {σ : L2.St} {fp : Nat → List Addr} {i : Nat} {d : D} (h : Slots K T g H B env σ fp) (e : env.get i = some d) : ∃ v, σ[i]? = some (some v) ∧ Rep K T g d v := by
  obtain ⟨o, a, b⟩ := h.at_ i _ (get_slot e)
  generalize fp i = f at b
  cases b with
  | fz r => exact ⟨_, a, r⟩
end
end Mp

set_option Elab.async false
set_option linter.all false
set_option maxRecDepth 100000
set_option maxHeartbeats 4000000
/-! Readings by the evaluator, and the rules for expressions. -/
namespace Mp
open PySem PySem.Spec PyProof.Rows L2

/-- how an exception of the evaluator lies in the heap -/
abbrev ExcT := Gh → Hp → Nat → List D → Value → Option Addr → Prop
section
variable {S : Type} (K : PySem.W.Frag) (T : Tab S) (XT : ExcT) (E : XK)
def Post {α : Type} (g : Gh) (H : Hp) (r : R S α) (Q : Gh → S → Hp → α → Prop) : Prop :=
  match r with
  | .ok a s' => ∀ g' H', Step g H g' H' → Wd K T g' s' H' → Q g' s' H' a
  | .exc c fs s' => ∀ g' H' cls dd, Step g H g' H' → Wd K T g' s' H' → XT g' H' c fs cls dd → E cls dd H'
  | .bad => False
/-- read in passing: a lasting value, or an own list -/
def BRep (g : Gh) (H : Hp) (d : D) (v : V) : Prop := Rep K T g d v ∨ ∃ f, Own K T g H d v f ∧ Mine g H (fun _ => none) f
inductive BReps (g : Gh) (H : Hp) : List D → List V → Prop
  | nil : BReps g H [] []
  | cons {d : D} {ds : List D} {v : V} {vs : List V} : BRep K T g H d v → BReps g H ds vs → BReps g H (d :: ds) (v :: vs)
def tE (B : Hp) (m : Env → M S D) : TE := fun σ H Q => ∃ g s env fp, Wd K T g s H ∧ Slots K T g H B env σ fp ∧ Post K T XT E g H (m env s) fun g' _ H' d => ∀ v, Rep K T g' d v → Q v H'
def tB (B : Hp) (m : Env → M S D) : TE := fun σ H Q => ∃ g s env fp, Wd K T g s H ∧ Slots K T g H B env σ fp ∧ Post K T XT E g H (m env s) fun g' _ H' d => ∀ v, BRep K T g' H' d v → Q v H'
def tT (B : Hp) (m : Env → M S D) : TT := fun σ H Q => ∃ g s env fp, Wd K T g s H ∧ Slots K T g H B env σ fp ∧ Post K T XT E g H (m env s) fun g' _ H' d => ∃ b, d = .bl b ∧ Q b H'
def tL (B : Hp) (m : Env → M S (List D)) : TA := fun σ H Q => ∃ g s env fp, Wd K T g s H ∧ Slots K T g H B env σ fp ∧ Post K T XT E g H (m env s) fun g' _ H' d => ∀ v, Reps K T g' d v → Q v H'
def tLB (B : Hp) (m : Env → M S (List D)) : TA := fun σ H Q => ∃ g s env fp, Wd K T g s H ∧ Slots K T g H B env σ fp ∧ Post K T XT E g H (m env s) fun g' _ H' d => ∀ v, BReps K T g' H' d v → Q v H'
end
section
variable {S : Type} {K : PySem.W.Frag} {T : Tab S} {XT : ExcT} {E : XK} {g g' : Gh} {H H' B : Hp}
theorem Post.step {α : Type} {r : R S α} {Q : Gh → S → Hp → α → Prop} (st : Step g H g' H') (h : Post K T XT E g H r Q) : Post K T XT E g' H' r Q := by
  cases r with
  | ok a s => exact fun g2 H2 s2 w => h g2 H2 (st.trans s2) w
  | exc c fs s => exact fun g2 H2 cls dd s2 w x => h g2 H2 cls dd (st.trans s2) w x
  | bad => exact h
theorem Post.imp {α : Type} {r : R S α} {Q Q' : Gh → S → Hp → α → Prop} (h : Post K T XT E g H r Q) (q : ∀ g' s' H' a, Q g' s' H' a → Q' g' s' H' a) : Post K T XT E g H r Q' := by
  cases r with
  | ok a s => exact fun g2 H2 s2 w => q _ _ _ _ (h g2 H2 s2 w)
  | exc c fs s => exact h
  | bad => exact h
/-- one step of the evaluator, then the rest -/
theorem Post.bind {α β : Type} {m : M S α} {f : α → M S β} {s : S} {Q : Gh → S → Hp → β → Prop} (h : Post K T XT E g H (M.bind m f s) Q) :
    Post K T XT E g H (m s) fun g1 s1 H1 a => Wd K T g1 s1 H1 ∧ Step g H g1 H1 ∧ Post K T XT E g1 H1 (f a s1) Q := by
  unfold M.bind at h
  cases e : m s with
  | ok a s1 =>
    rw [e] at h
    intro g1 H1 st w
    exact ⟨w, st, Post.step st h⟩
  | exc c fs s1 => rw [e] at h; exact h
  | bad => rw [e] at h; exact h
theorem Post.opt {α : Type} {o : Option α} {s : S} {Q : Gh → S → Hp → α → Prop} (w : Wd K T g s H) (h : Post K T XT E g H (M.opt o s) Q) : ∃ a, o = some a ∧ Q g s H a := by
  cases o with
  | none => exact h.elim
  | some a => exact ⟨a, rfl, h g H (.refl g H) w⟩
theorem Post.pure {α : Type} {a : α} {s : S} {Q : Gh → S → Hp → α → Prop} (w : Wd K T g s H) (h : Post K T XT E g H (M.pure a s) Q) : Q g s H a := h g H (.refl g H) w
theorem Post.need {α : Type} {c : Bool} {m : M S α} {s : S} {Q : Gh → S → Hp → α → Prop} (h : Post K T XT E g H (M.need c m s) Q) : c = true ∧ Post K T XT E g H (m s) Q := by
  unfold M.need at h
  by_cases hc : c = true
  · rw [if_pos hc] at h; exact ⟨hc, h⟩
  · rw [if_neg hc] at h; exact h.elim
theorem BRep.of {d : D} {v : V} (h : Rep K T g d v) : BRep K T g H d v := .inl h
theorem BRep.step (ok : T.Ok) (st : Step g H g' H') {d : D} {v : V} (h : BRep K T g H d v) : BRep K T g' H' d v := by
  rcases h with h | ⟨f, h, m⟩
  · exact .inl (h.mono ok st.le)
  · exact .inr ⟨f, h.step ok st m, m.step st⟩
theorem BReps.step (ok : T.Ok) (st : Step g H g' H') : ∀ {d : List D} {v : List V}, BReps K T g H d v → BReps K T g' H' d v
  | _, _, .nil => .nil
  | _, _, .cons h r => .cons (h.step ok st) (BReps.step ok st r)
theorem Reps.b : ∀ {d : List D} {v : List V}, Reps K T g d v → BReps K T g H d v
  | _, _, .nil => .nil
  | _, _, .cons h r => .cons (.inl h) (Reps.b r)

/-! ### a new object that lasts -/
def Gh.put (g : Gh) (p : Addr) (o : HO) : Gh := { g with F := upd g.F p o }
theorem Wd.free {s : S} (w : Wd K T g s H) {p : Addr} (h : H p = none) : g.F p = none ∧ g.C p = none ∧ p ≠ g.ha := by
  refine ⟨?_, ?_, ?_⟩
  · cases q : g.F p with
    | none => rfl
    | some o => rw [w.sub p o q] at h; cases h
  · cases q : g.C p with
    | none => rfl
    | some t => obtain ⟨kvs, e, _⟩ := w.cache p t q; rw [e] at h; cases h
  · rintro rfl
    obtain ⟨vs, e, _⟩ := w.hand
    rw [e] at h; cases h
theorem Gh.le_put {p : Addr} {o : HO} (h : g.F p = none) : g.Le (g.put p o) := ⟨fun a u e => by show upd g.F p o a = _; rw [upd_ne (ne_of_none e h)]; exact e, fun _ _ e => e, rfl⟩
theorem Step.new {s : S} (w : Wd K T g s H) {p : Addr} (o : HO) (h : H p = none) : Step g H (g.put p o) (upd H p o) where
  le := Gh.le_put (w.free h).1
  pres := fun a u e _ _ _ => by rw [upd_ne (ne_of_none e h)]; exact e
  stay := fun a u e => ⟨u, by rw [upd_ne (ne_of_none e h)]; exact e⟩
  newC := fun l t e => .inl e
  newF := fun a u e => by
    by_cases q : a = p
    · subst q; exact .inr h
    · exact .inl (by have e' : upd g.F p o a = some u := e; rw [upd_ne q] at e'; exact e')
theorem Wd.new {s : S} (ok : T.Ok) (w : Wd K T g s H) {p : Addr} (o : HO) (h : H p = none) : Wd K T (g.put p o) s (upd H p o) where
  sub := fun a u e => by
    have e' : upd g.F p o a = some u := e
    by_cases q : a = p
    · subst q; rw [upd_same] at e' ⊢; exact e'
    · rw [upd_ne q] at e' ⊢; exact w.sub a u e'
  cache := fun l t e => by
    obtain ⟨kvs, a, b⟩ := w.cache l t e
    exact ⟨kvs, by rw [upd_ne (ne_of_none a h)]; exact a, ok.cache (Gh.le_put (w.free h).1) b⟩
  hand := by
    obtain ⟨vs, a, b⟩ := w.hand
    exact ⟨vs, by show upd H p o g.ha = _; rw [upd_ne (ne_of_none a h)]; exact a, ok.hand (Gh.le_put (w.free h).1) b⟩
  sepC := fun l t e => by
    obtain ⟨kvs, a, _⟩ := w.cache l t e
    exact ⟨by show upd g.F p o l = none; rw [upd_ne (ne_of_none a h)]; exact (w.sepC l t e).1, (w.sepC l t e).2⟩
  sepH := by
    obtain ⟨vs, a, _⟩ := w.hand
    show upd g.F p o g.ha = none
    rw [upd_ne (ne_of_none a h)]; exact w.sepH
  tabs := w.tabs.upd (fun ps z => by rw [h] at z; cases z) (fun q n e => by show upd g.F p o q = none; rw [upd_ne n]; exact e) (Gh.le_put (w.free h).1)
/-- a new object that is nobody's yet -/
theorem Step.raw {s : S} (w : Wd K T g s H) {p : Addr} (o : HO) (h : H p = none) : Step g H g (upd H p o) where
  le := .refl g
  pres := fun a u e _ _ _ => by rw [upd_ne (ne_of_none e h)]; exact e
  stay := fun a u e => ⟨u, by rw [upd_ne (ne_of_none e h)]; exact e⟩
  newC := fun l t e => .inl e
  newF := fun a u e => .inl e
theorem Wd.raw {s : S} (w : Wd K T g s H) {p : Addr} (o : HO) (h : H p = none) : Wd K T g s (upd H p o) where
  sub := fun a u e => by rw [upd_ne (ne_of_none (w.sub a u e) h)]; exact w.sub a u e
  cache := fun l t e => by
    obtain ⟨kvs, a, b⟩ := w.cache l t e
    exact ⟨kvs, by rw [upd_ne (ne_of_none a h)]; exact a, b⟩
  hand := by
    obtain ⟨vs, a, b⟩ := w.hand
    exact ⟨vs, by rw [upd_ne (ne_of_none a h)]; exact a, b⟩
  sepC := w.sepC
  sepH := w.sepH
  tabs := w.tabs.upd (fun ps z => by rw [h] at z; cases z) (fun _ _ e => e) (.refl g)
theorem rep_newT {p : Addr} {ds : List D} {vs : List V} {ob : Obj} (ok : T.Ok) (hd : ob.dict = none) (h : g.F p = none) (r : Reps K T g ds vs) : Rep K T (g.put p (.frz ob (.tup vs))) (.tup ds) (.ref p) :=
  .tup (.inl ⟨ob, show upd g.F p _ p = _ from upd_same, hd⟩) (r.mono ok (Gh.le_put h))
/-- a new tuple, from what is wanted of a lasting value -/
theorem newT_of {s : S} {ds : List D} {vs : List V} {Q : VK} (ok : T.Ok) (w : Wd K T g s H) (r : Reps K T g ds vs) (q : ∀ g' H' v, Step g H g' H' → Wd K T g' s H' → Rep K T g' (.tup ds) v → Q v H') : NewT H vs Q :=
  fun p ob hp hd => q _ _ _ (.new w _ hp) (w.new ok _ hp) (rep_newT ok hd (w.free hp).1 r)
theorem rep_newL {p : Addr} {ds : List D} {vs : List V} (ok : T.Ok) (h : g.F p = none) (r : Reps K T g ds vs) : Rep K T (g.put p (.lst vs)) (.lst ds) (.ref p) :=
  .lst (show upd g.F p _ p = _ from upd_same) (r.mono ok (Gh.le_put h))
end

/-! ### a reading implied -/
section
variable {X : Cx}
theorem pe_imp {e : Expr} {t t' : TE} (h : PE X e t) (i : ∀ σ H Q, t' σ H Q → t σ H Q) : PE X e t' := ⟨fun pins s σ H Q I q => h.run pins s σ H Q I (i σ H Q q)⟩
theorem pt_imp {e : Expr} {t t' : TT} (h : PT X e t) (i : ∀ σ H Q, t' σ H Q → t σ H Q) : PT X e t' := ⟨fun pins s σ H Q I q => h.run pins s σ H Q I (i σ H Q q)⟩
theorem pw_imp {e : Expr} {t t' : TT} (h : PW X e t) (i : ∀ σ H Q, t' σ H Q → t σ H Q) : PW X e t' := ⟨fun wh pins s σ H Q I q => h.run wh pins s σ H Q I (i σ H Q q)⟩
theorem pa_imp {es : List Expr} {t t' : TA} (h : PA X es t) (i : ∀ σ H Q, t' σ H Q → t σ H Q) : PA X es t' := ⟨fun pos pins s σ H Q I q => h.run pos pins s σ H Q I (i σ H Q q)⟩
theorem ps_imp {st : Stmt} {t t' : TS} (h : PS X st t) (i : ∀ D σ H, t' D σ H → t D σ H) : PS X st t' := ⟨fun pins s σ H D I q => h.run pins s σ H D I (i D σ H q)⟩
theorem pss_imp {st : List Stmt} {t t' : TS} (h : PSs X st t) (i : ∀ D σ H, t' D σ H → t D σ H) : PSs X st t' := ⟨fun pins s σ H D I q => h.run pins s σ H D I (i D σ H q)⟩
end

section
variable {S : Type} {X : Cx} {T : Tab S} {XT : ExcT} {E : XK} {B : Hp}
/-- every lasting reading is one in passing -/
theorem pe_b {e : Expr} {m : Env → M S D} (ok : T.Ok) (h : PE X e (tE X.K T XT E B m)) : PE X e (tB X.K T XT E B m) :=
  pe_imp h fun σ H Q ⟨g, s, env, fp, w, sl, p⟩ => ⟨g, s, env, fp, w, sl, p.imp fun _ _ _ _ q v r => q v (.inl r)⟩
/-- go on behind one part -/
theorem tE.of {m : Env → M S D} {f : D → M S D} {σ : L2.St} {H : Hp} {Q : VK} {g : Gh} {s : S} {env : Env} {fp : Nat → List Addr} {QQ : Gh → S → Hp → D → Prop} {K : PySem.W.Frag} (ok : T.Ok)
    (w : Wd K T g s H) (sl : Slots K T g H B env σ fp) (h : Post K T XT E g H (M.bind (m env) f s) QQ)
    (k : ∀ g1 s1 H1 x v, Step g H g1 H1 → Wd K T g1 s1 H1 → Slots K T g1 H1 B env σ fp → Rep K T g1 x v → Post K T XT E g1 H1 (f x s1) QQ → Q v H1) : tE K T XT E B m σ H Q :=
  ⟨g, s, env, fp, w, sl, h.bind.imp fun g1 s1 H1 x ⟨w1, st, p⟩ v r => k g1 s1 H1 x v st w1 (sl.step ok st) r p⟩
theorem tE.of' {m : Env → M S D} {α : Type} {f : D → M S α} {σ : L2.St} {H : Hp} {Q : VK} {g : Gh} {s : S} {env : Env} {fp : Nat → List Addr} {QQ : Gh → S → Hp → α → Prop} {K : PySem.W.Frag} (ok : T.Ok)
    (w : Wd K T g s H) (sl : Slots K T g H B env σ fp) (h : Post K T XT E g H (M.bind (m env) f s) QQ)
    (k : ∀ g1 s1 H1 x v, Step g H g1 H1 → Wd K T g1 s1 H1 → Slots K T g1 H1 B env σ fp → Rep K T g1 x v → Post K T XT E g1 H1 (f x s1) QQ → Q v H1) : tE K T XT E B m σ H Q :=
  ⟨g, s, env, fp, w, sl, h.bind.imp fun g1 s1 H1 x ⟨w1, st, p⟩ v r => k g1 s1 H1 x v st w1 (sl.step ok st) r p⟩
theorem tB.of {m : Env → M S D} {α : Type} {f : D → M S α} {σ : L2.St} {H : Hp} {Q : VK} {g : Gh} {s : S} {env : Env} {fp : Nat → List Addr} {QQ : Gh → S → Hp → α → Prop} {K : PySem.W.Frag} (ok : T.Ok)
    (w : Wd K T g s H) (sl : Slots K T g H B env σ fp) (h : Post K T XT E g H (M.bind (m env) f s) QQ)
    (k : ∀ g1 s1 H1 x v, Step g H g1 H1 → Wd K T g1 s1 H1 → Slots K T g1 H1 B env σ fp → BRep K T g1 H1 x v → Post K T XT E g1 H1 (f x s1) QQ → Q v H1) : tB K T XT E B m σ H Q :=
  ⟨g, s, env, fp, w, sl, h.bind.imp fun g1 s1 H1 x ⟨w1, st, p⟩ v r => k g1 s1 H1 x v st w1 (sl.step ok st) r p⟩
theorem tT.of {m : Env → M S D} {α : Type} {f' : Bool → M S α} {σ : L2.St} {H : Hp} {Q : Bool → Hp → Prop} {g : Gh} {s : S} {env : Env} {fp : Nat → List Addr} {QQ : Gh → S → Hp → α → Prop} {K : PySem.W.Frag} (ok : T.Ok)
    (w : Wd K T g s H) (sl : Slots K T g H B env σ fp) (h : Post K T XT E g H (M.bind (m env) (fun x => M.bind (M.opt (asBl x)) f') s) QQ)
    (k : ∀ g1 s1 H1 b, Step g H g1 H1 → Wd K T g1 s1 H1 → Slots K T g1 H1 B env σ fp → Post K T XT E g1 H1 (f' b s1) QQ → Q b H1) : tT K T XT E B m σ H Q :=
  ⟨g, s, env, fp, w, sl, h.bind.imp fun g1 s1 H1 x ⟨w1, st, p⟩ => by
    have q := p.bind
    obtain ⟨b, e, w2, st2, q⟩ := Post.opt w1 q
    cases x with
    | bl c =>
      have : c = b := Option.some.inj e
      subst this
      exact ⟨c, rfl, k g1 s1 H1 c st w1 (sl.step ok st) q⟩
    | _ => cases e⟩

/-! ### names and constants -/
theorem me_var {i : Nat} {x : Str} {pos : Pos} (hN : X.N[i]? = some x) (hv : Vis X.env.scope x) (hd : (x == ("__debug__" : Str)) = false) (hcd : (x == ("__classdict__" : Str)) = false) : PE X (.Name x pos) (tE X.K T XT E B fun env => M.opt (env.get i)) :=
  pe_imp (pe_var hN hv hd hcd) fun σ H Q ⟨g, s, env, fp, w, sl, p⟩ => by
    obtain ⟨d, e, q⟩ := Post.opt w p
    obtain ⟨v, e2, r⟩ := sl.get e
    exact ⟨v, e2, q v r⟩
theorem me_bor {i : Nat} {x : Str} {pos : Pos} (hN : X.N[i]? = some x) (hv : Vis X.env.scope x) (hd : (x == ("__debug__" : Str)) = false) (hcd : (x == ("__classdict__" : Str)) = false) : PE X (.Name x pos) (tB X.K T XT E B fun env => M.opt (env.bor i)) :=
  pe_imp (pe_var hN hv hd hcd) fun σ H Q ⟨g, s, env, fp, w, sl, p⟩ => by
    obtain ⟨d, e, q⟩ := Post.opt w p
    unfold Env.bor at e
    split at e
    · rename_i d' e'
      cases e
      obtain ⟨o, a, b⟩ := sl.at_ i _ e'
      generalize hf : fp i = f at b
      cases b with
      | fz r => exact ⟨_, a, q _ (.inl r)⟩
    · rename_i d' e'
      cases e
      obtain ⟨o, a, b⟩ := sl.at_ i _ e'
      have m := sl.own i
      generalize hf : fp i = f at b m
      cases b with
      | ow r => exact ⟨_, a, q _ (.inr ⟨f, r, ⟨m.here, m.nF, m.nC, m.nH, fun _ _ => rfl⟩⟩)⟩
    · cases e
theorem me_c {e : Expr} {d : D} {v : V} (h : PE X e (tC v)) (r : ∀ g, Rep X.K T g d v) : PE X e (tE X.K T XT E B fun _ => M.pure d) :=
  pe_imp h fun σ H Q ⟨g, s, env, fp, w, sl, p⟩ => (Post.pure w p) v (r g)
end
end Mp

set_option Elab.async false
set_option linter.all false
set_option maxRecDepth 100000
set_option maxHeartbeats 4000000
/-! Operators. -/
namespace Mp
open PySem PySem.Spec PyProof.Rows L2

section
variable {S : Type} {X : Cx} {T : Tab S} {XT : ExcT} {E : XK} {B : Hp}
/-- what an operator asks: a and b stand for the operands, the answer is c -/
def rOp (K : PySem.W.Frag) (T : Tab S) (f : D → D → Option D) : R2 := fun x y H Q => ∃ (g : Gh) (s : S) (a b c : D), Wd K T g s H ∧ BRep K T g H a x ∧ BRep K T g H b y ∧ f a b = some c ∧
  ∀ g' H' v, Step g H g' H' → Wd K T g' s H' → Rep K T g' c v → Q v H'
/-- an operator from the rules for its kinds of operands -/
theorem me_op {a b : Expr} {pos : Pos} {ma mb : Env → M S D} {f : D → D → Option D} {op : Operator} (ok : T.Ok) (ho : OpR X (binaryOp op) (rOp X.K T f)) (ha : PE X a (tB X.K T XT E B ma)) (hb : PE X b (tB X.K T XT E B mb)) :
    PE X (.BinOp a op b pos) (tE X.K T XT E B fun env => M.bind (ma env) fun x => M.bind (mb env) fun y => M.opt (f x y)) :=
  pe_imp (pe_op ho ha hb) fun σ H Q ⟨g, s, env, fp, w, sl, p⟩ => tB.of ok w sl p fun g1 s1 H1 x v st1 w1 sl1 r1 p1 => tB.of ok w1 sl1 p1 fun g2 s2 H2 y u st2 w2 sl2 r2 p2 => by
    obtain ⟨c, e, q⟩ : ∃ c, f x y = some c ∧ _ := by
      cases e : f x y with
      | none => rw [e] at p2; exact p2.elim
      | some c => rw [e] at p2; exact ⟨c, rfl, p2⟩
    exact ⟨g2, s2, x, y, c, w2, r1.step ok st2, r2, e, fun g' H' v st w' r => q g' H' st w' v r⟩
theorem me_cmp {a b : Expr} {pos : Pos} {ma mb : Env → M S D} {f : D → D → Option D} {op : CmpOp} (ok : T.Ok) (ho : OpR X (compareOp op) (rOp X.K T f)) (ha : PE X a (tB X.K T XT E B ma)) (hb : PE X b (tB X.K T XT E B mb)) (hm : behindInMarks op b = false) :
    PE X (.Compare a [op] [b] pos) (tE X.K T XT E B fun env => M.bind (ma env) fun x => M.bind (mb env) fun y => M.opt (f x y)) :=
  pe_imp (pe_cmpR ho ha hb hm) fun σ H Q ⟨g, s, env, fp, w, sl, p⟩ => tB.of ok w sl p fun g1 s1 H1 x v st1 w1 sl1 r1 p1 => tB.of ok w1 sl1 p1 fun g2 s2 H2 y u st2 w2 sl2 r2 p2 => by
    obtain ⟨c, e, q⟩ : ∃ c, f x y = some c ∧ _ := by
      cases e : f x y with
      | none => rw [e] at p2; exact p2.elim
      | some c => rw [e] at p2; exact ⟨c, rfl, p2⟩
    exact ⟨g2, s2, x, y, c, w2, r1.step ok st2, r2, e, fun g' H' v st w' r => q g' H' st w' v r⟩
/-- .. as a test -/
theorem mt_cmp {a b : Expr} {pos : Pos} {ma mb : Env → M S D} {f : D → D → Option Bool} {op : CmpOp} (ok : T.Ok) (ho : OpR X (compareOp op) (rOp X.K T fun x y => (f x y).map .bl)) (ha : PE X a (tB X.K T XT E B ma)) (hb : PE X b (tB X.K T XT E B mb)) (hm : behindInMarks op b = false) :
    PT X (.Compare a [op] [b] pos) (tT X.K T XT E B fun env => M.bind (ma env) fun x => M.bind (mb env) fun y => M.opt ((f x y).map .bl)) :=
  pt_imp (pt_cmpR ho ha hb hm) fun σ H Q ⟨g, s, env, fp, w, sl, p⟩ => tB.of ok w sl p fun g1 s1 H1 x v st1 w1 sl1 r1 p1 => tB.of ok w1 sl1 p1 fun g2 s2 H2 y u st2 w2 sl2 r2 p2 => by
    cases e : f x y with
    | none => rw [e] at p2; exact p2.elim
    | some c =>
      rw [e] at p2
      refine ⟨g2, s2, x, y, .bl c, w2, r1.step ok st2, r2, by show (f x y).map D.bl = _; rw [e]; rfl, fun g' H' v st w' r => ?_⟩
      obtain ⟨b, eb, q⟩ := p2 g' H' st w'
      cases eb
      cases r
      exact ⟨c, rfl, q⟩
/-- kinds of operands -/
theorem brep_int {K : PySem.W.Frag} {g : Gh} {H : Hp} {i : Int} {v : V} (r : BRep K T g H (.int i) v) : v = .int i := by
  rcases r with r | ⟨f, r, _⟩
  · cases r; rfl
  · cases r
theorem brep_bl {K : PySem.W.Frag} {g : Gh} {H : Hp} {i : Bool} {v : V} (r : BRep K T g H (.bl i) v) : v = .bl i := by
  rcases r with r | ⟨f, r, _⟩
  · cases r; rfl
  · cases r
theorem brep_str {K : PySem.W.Frag} {g : Gh} {H : Hp} {i : Str} {v : V} (r : BRep K T g H (.str i) v) : v = .str i := by
  rcases r with r | ⟨f, r, _⟩
  · cases r; rfl
  · cases r
theorem brep_non {K : PySem.W.Frag} {g : Gh} {H : Hp} {v : V} (r : BRep K T g H .non v) : v = .non := by
  rcases r with r | ⟨f, r, _⟩
  · cases r; rfl
  · cases r
theorem brep_tup {K : PySem.W.Frag} {g : Gh} {H : Hp} {xs : List D} {v : V} {s : S} (w : Wd K T g s H) (r : BRep K T g H (.tup xs) v) : ∃ a vs, v = .ref a ∧ SqT K H a vs ∧ Reps K T g xs vs ∧ Rep K T g (.tup xs) v := by
  rcases r with r | ⟨f, r, _⟩
  · cases r with
    | tup h k => exact ⟨_, _, rfl, sqT_mono w.sub h.sq, k, .tup h k⟩
  · cases r
theorem brep_lst {K : PySem.W.Frag} {g : Gh} {H : Hp} {xs : List D} {v : V} {s : S} (w : Wd K T g s H) (r : BRep K T g H (.lst xs) v) : ∃ a vs, v = .ref a ∧ H a = some (.lst vs) ∧ Reps K T g xs vs := by
  rcases r with r | ⟨f, r, _⟩
  · cases r with
    | lst h k => exact ⟨_, _, rfl, w.sub _ _ h, k⟩
  · cases r with
    | lst h k => exact ⟨_, _, rfl, h, k⟩
/-- a list that is tracked (not one of the text's own) -/

theorem lim_line {n : Nat} (h : n ≤ LIM) : n ≤ sizeLine := Nat.le_trans h (by decide)
theorem op_madd (ok : T.Ok) : OpR X (binaryOp .Add) (rOp X.K T addD) := by
  intro pins s σ H x y v u Q I rx ry ⟨g, st, a, b, c, w, ra, rb, e, q⟩
  unfold addD at e
  split at e
  · cases e
    cases brep_int ra; cases brep_int rb
    exact op_add pins s σ H _ _ v u Q I rx ry ⟨_, _, rfl, rfl, q g H _ (.refl g H) w (.int _)⟩
  · rename_i xs ys
    split at e
    · rename_i hl
      cases e
      obtain ⟨pa, va, rfl, ha, ka, la⟩ := brep_tup w ra
      obtain ⟨pb, vb, rfl, hb, kb, lb⟩ := brep_tup w rb
      have e1 := ka.length
      have e2 := kb.length
      refine op_catF pins s σ H _ _ v u Q I rx ry ⟨pa, pb, va, vb, rfl, rfl, ha, hb, lim_line (by omega), fun z => ?_, fun _ z => ?_, fun _ _ => ?_⟩
      · have : xs = [] := List.eq_nil_of_length_eq_zero (by rw [e1, z]; rfl)
        subst this
        exact q g H _ (.refl g H) w lb
      · have : ys = [] := List.eq_nil_of_length_eq_zero (by rw [e2, z]; rfl)
        subst this
        rw [List.append_nil] at q
        exact q g H _ (.refl g H) w la
      · exact newT_of ok w (ka.append kb) q
    · cases e
  · rename_i xs ys
    split at e
    · rename_i hl
      cases e
      obtain ⟨pa, va, rfl, ha, ka⟩ := brep_lst w ra
      obtain ⟨pb, vb, rfl, hb, kb⟩ := brep_lst w rb
      have e1 := ka.length
      have e2 := kb.length
      exact op_cat pins s σ H _ _ v u Q I rx ry ⟨pa, pb, va, vb, rfl, rfl, ha, hb, lim_line (by omega), fun p hp => q _ _ _ (.new w _ hp) (w.new ok _ hp) (rep_newL ok (w.free hp).1 (ka.append kb))⟩
    · cases e
  · split at e
    · rename_i hl
      cases e
      cases brep_str ra; cases brep_str rb
      exact op_add_str pins s σ H _ _ v u Q I rx ry ⟨_, _, rfl, rfl, lim_line hl, q g H _ (.refl g H) w (.str _)⟩
    · cases e
  · cases e
theorem op_msub (ok : T.Ok) : OpR X (binaryOp .Sub) (rOp X.K T subD) := by
  intro pins s σ H x y v u Q I rx ry ⟨g, st, a, b, c, w, ra, rb, e, q⟩
  unfold subD at e
  split at e
  · cases e
    cases brep_int ra; cases brep_int rb
    exact op_sub pins s σ H _ _ v u Q I rx ry ⟨_, _, rfl, rfl, q g H _ (.refl g H) w (.int _)⟩
  · cases e
theorem small_ok {i : Int} (h : small i = true) : -(2 ^ 64) < i ∧ i < 2 ^ 64 := by
  unfold small at h
  simp only [Bool.and_eq_true, decide_eq_true_eq] at h
  exact h
theorem rep_one {xs : List D} : (List.replicate (1 : Int).toNat xs).flatten = xs := by
  show (List.replicate 1 xs).flatten = xs
  simp
theorem op_mmul (ok : T.Ok) : OpR X (binaryOp .Mult) (rOp X.K T mulD) := by
  intro pins s σ H x y v u Q I rx ry ⟨g, st, a, b, c, w, ra, rb, e, q⟩
  unfold mulD at e
  split at e
  · split at e
    · rename_i hs
      cases e
      cases brep_int ra; cases brep_int rb
      refine op_mul pins s σ H _ _ v u Q I rx ry ⟨_, _, rfl, rfl, ?_, q g H _ (.refl g H) w (.int _)⟩
      rw [Bool.or_eq_true] at hs
      rcases hs with h | h
      · exact .inl (small_ok h)
      · exact .inr (small_ok h)
    · cases e
  · rename_i xs k
    split at e
    · rename_i hs
      cases e
      simp only [Bool.and_eq_true, decide_eq_true_eq] at hs
      obtain ⟨⟨⟨h1, h2⟩, h3⟩, h4⟩ := hs
      obtain ⟨pa, va, rfl, ha, ka, la⟩ := brep_tup w ra
      cases brep_int rb
      have e1 := ka.length
      exact op_repF pins s σ H _ _ v u Q I rx ry ⟨pa, k, va, rfl, rfl, ha, fun z => by
        have : xs.length = 0 := by rw [e1, z]; rfl
        omega, h3, h4, by omega, fun z => by subst z; rw [rep_one] at q; exact q g H _ (.refl g H) w la, fun _ => newT_of ok w (ka.flat _) q⟩
    · cases e
  · rename_i xs k
    split at e
    · rename_i hs
      cases e
      simp only [Bool.and_eq_true, decide_eq_true_eq] at hs
      obtain ⟨⟨h1, h2⟩, h3⟩ := hs
      obtain ⟨pa, va, rfl, ha, ka⟩ := brep_lst w ra
      cases brep_int rb
      have e1 := ka.length
      exact op_rep pins s σ H _ _ v u Q I rx ry ⟨pa, k, va, rfl, rfl, ha, by omega, by omega, lim_line (by rw [← e1]; exact h3), fun p hp => q _ _ _ (.new w _ hp) (w.new ok _ hp) (rep_newL ok (w.free hp).1 (ka.flat _))⟩
    · cases e
  · cases e
theorem op_mfdiv (ok : T.Ok) : OpR X (binaryOp .FloorDiv) (rOp X.K T fdivD) := by
  intro pins s σ H x y v u Q I rx ry ⟨g, st, a, b, c, w, ra, rb, e, q⟩
  unfold fdivD at e
  split at e
  · split at e
    · rename_i hs
      cases e
      cases brep_int ra; cases brep_int rb
      simp only [Bool.and_eq_true, decide_eq_true_eq] at hs
      exact op_fdiv pins s σ H _ _ v u Q I rx ry ⟨_, _, rfl, rfl, hs, q g H _ (.refl g H) w (.int _)⟩
    · cases e
  · cases e
theorem op_mmod (ok : T.Ok) : OpR X (binaryOp .Mod) (rOp X.K T modD) := by
  intro pins s σ H x y v u Q I rx ry ⟨g, st, a, b, c, w, ra, rb, e, q⟩
  unfold modD at e
  split at e
  · split at e
    · rename_i hs
      cases e
      cases brep_int ra; cases brep_int rb
      exact op_mod pins s σ H _ _ v u Q I rx ry ⟨_, _, rfl, rfl, of_decide_eq_true hs, q g H _ (.refl g H) w (.int _)⟩
    · cases e
  · cases e
theorem op_mpow (ok : T.Ok) : OpR X (binaryOp .Pow) (rOp X.K T powD) := by
  intro pins s σ H x y v u Q I rx ry ⟨g, st, a, b, c, w, ra, rb, e, q⟩
  unfold powD at e
  split at e
  · split at e
    · rename_i hs
      cases e
      cases brep_int ra; cases brep_int rb
      simp only [Bool.and_eq_true, decide_eq_true_eq] at hs
      obtain ⟨⟨h1, h2⟩, h3⟩ := hs
      have h4 := small_ok h3
      exact op_pow pins s σ H _ _ v u Q I rx ry ⟨_, _, rfl, rfl, ⟨h1, by omega, by omega⟩, q g H _ (.refl g H) w (.int _)⟩
    · cases e
  · cases e
def Bop.py : Bop → Operator
  | .add => .Add
  | .sub => .Sub
  | .mul => .Mult
  | .fdiv => .FloorDiv
  | .mod => .Mod
  | .pow => .Pow
theorem op_mbin (ok : T.Ok) : ∀ b : Bop, OpR X (binaryOp b.py) (rOp X.K T (D.bin b))
  | .add => op_madd ok
  | .sub => op_msub ok
  | .mul => op_mmul ok
  | .fdiv => op_mfdiv ok
  | .mod => op_mmod ok
  | .pow => op_mpow ok
end
end Mp

set_option Elab.async false
set_option linter.all false
set_option maxRecDepth 100000
set_option maxHeartbeats 4000000
/-! Dicts that never change. -/
namespace Mp
open PySem PySem.Spec PyProof.Rows L2

/-- the table of a dict -/
structure RepKV {S : Type} (K : PySem.W.Frag) (T : Tab S) (g : Gh) (kvs : List (D × D)) (kv : List (Key × V)) : Prop where
  ks : kvs.map (·.1) = kv.map (fun p => kD p.1)
  vs : Reps K T g (kvs.map (·.2)) (kv.map (·.2))
theorem keyEq_kD (a b : Key) : keyEq (kD a) (kD b) = decide (a = b) := by
  cases a with
  | inl i => cases b with
    | inl j =>
      show decide (i = j) = decide ((Sum.inl i : Key) = .inl j)
      by_cases h : i = j
      · rw [decide_eq_true h, decide_eq_true (by rw [h])]
      · rw [decide_eq_false h, decide_eq_false (fun z => h (Sum.inl.inj z))]
    | inr y => exact (decide_eq_false (fun z : (Sum.inl i : Key) = .inr y => nomatch z)).symm
  | inr x => cases b with
    | inl j => exact (decide_eq_false (fun z : (Sum.inr x : Key) = .inl j => nomatch z)).symm
    | inr y =>
      show decide (x = y) = decide ((Sum.inr x : Key) = .inr y)
      by_cases h : x = y
      · rw [decide_eq_true h, decide_eq_true (by rw [h])]
      · rw [decide_eq_false h, decide_eq_false (fun z => h (Sum.inr.inj z))]
theorem key_D {d : D} (h : isKey d = true) : ∃ k, d = kD k := by
  cases d with
  | int i => exact ⟨.inl i, rfl⟩
  | str x => exact ⟨.inr x, rfl⟩
  | _ => cases h
section
variable {S : Type} {K : PySem.W.Frag} {T : Tab S} {g : Gh} {H : Hp}
theorem brep_kD {k : Key} {v : V} (r : BRep K T g H (kD k) v) : v = kV k := by
  cases k with
  | inl i => exact brep_int r
  | inr x => exact brep_str r
theorem rep_kD {k : Key} : Rep K T g (kD k) (kV k) := by
  cases k with
  | inl i => exact .int i
  | inr x => exact .str x
theorem RepKV.nil : RepKV K T g [] [] := ⟨rfl, .nil⟩
theorem RepKV.cons {p : D × D} {ps : List (D × D)} {k : Key} {v : V} {r : List (Key × V)} (h1 : p.1 = kD k) (h2 : Rep K T g p.2 v) (h : RepKV K T g ps r) : RepKV K T g (p :: ps) ((k, v) :: r) :=
  ⟨by rw [List.map_cons, List.map_cons, h.ks, h1], by rw [List.map_cons, List.map_cons]; exact .cons h2 h.vs⟩
theorem RepKV.uncons {p : D × D} {ps : List (D × D)} {q : List (Key × V)} (h : RepKV K T g (p :: ps) q) : ∃ k v r, q = (k, v) :: r ∧ p.1 = kD k ∧ Rep K T g p.2 v ∧ RepKV K T g ps r := by
  obtain ⟨h1, h2⟩ := h
  cases q with
  | nil => cases h1
  | cons kv r =>
    rw [List.map_cons, List.map_cons] at h1 h2
    injection h1 with h1 h3
    cases h2 with
    | cons h4 h5 => exact ⟨kv.1, kv.2, r, rfl, h1, h4, h3, h5⟩
theorem RepKV.nil_of {q : List (Key × V)} (h : RepKV K T g [] q) : q = [] := by
  cases q with
  | nil => rfl
  | cons a b => cases h.ks
theorem RepKV.length {ps : List (D × D)} {q : List (Key × V)} (h : RepKV K T g ps q) : ps.length = q.length := by
  have := congrArg List.length h.ks
  rwa [List.length_map, List.length_map] at this
theorem RepKV.look (k : Key) : ∀ {ps : List (D × D)} {q : List (Key × V)}, RepKV K T g ps q → (Mp.look (kD k) ps).isSome = (valV q k).isSome ∧ ∀ d, Mp.look (kD k) ps = some d → ∃ v, valV q k = some v ∧ Rep K T g d v
  | [], q, h => by
    cases h.nil_of
    exact ⟨rfl, fun d z => nomatch z⟩
  | p :: ps, q, h => by
    obtain ⟨j, v, r, rfl, e1, e2, h'⟩ := h.uncons
    obtain ⟨i1, i2⟩ := RepKV.look k h'
    unfold Mp.look
    rw [e1, keyEq_kD]
    by_cases z : j = k
    · rw [if_pos (decide_eq_true z), valV_pos (p := (j, v)) z]
      exact ⟨rfl, fun d y => ⟨v, rfl, by cases y; exact e2⟩⟩
    · rw [if_neg (by simpa using z), valV_neg (p := (j, v)) z]
      exact ⟨i1, i2⟩
theorem RepKV.any (k : Key) : ∀ {ps : List (D × D)} {q : List (Key × V)}, RepKV K T g ps q → (ps.any fun p => keyEq p.1 (kD k)) = q.any fun p => decide (p.1 = k)
  | [], q, h => by
    cases h.nil_of
    rfl
  | p :: ps, q, h => by
    obtain ⟨j, v, r, rfl, e1, e2, h'⟩ := h.uncons
    rw [List.any_cons, List.any_cons, e1, keyEq_kD, RepKV.any k h']
theorem RepKV.repl (k : Key) {d : D} {v : V} (rv : Rep K T g d v) : ∀ {ps : List (D × D)} {q : List (Key × V)}, RepKV K T g ps q →
    RepKV K T g (ps.map fun p => if keyEq p.1 (kD k) = true then (p.1, d) else p) (q.map fun p => if p.1 = k then (p.1, v) else p)
  | [], q, h => by
    cases h.nil_of
    exact .nil
  | p :: ps, q, h => by
    obtain ⟨j, u, r, rfl, e1, e2, h'⟩ := h.uncons
    have ih := RepKV.repl k rv h'
    rw [List.map_cons, List.map_cons]
    by_cases z : j = k
    · rw [if_pos (by rw [e1, keyEq_kD]; exact decide_eq_true z), if_pos z]
      exact .cons e1 rv ih
    · rw [if_neg (by rw [e1, keyEq_kD]; simpa using z), if_neg z]
      exact .cons e1 e2 ih
theorem RepKV.snoc {k : Key} {d : D} {v : V} (rv : Rep K T g d v) : ∀ {ps : List (D × D)} {q : List (Key × V)}, RepKV K T g ps q → RepKV K T g (ps ++ [(kD k, d)]) (q ++ [(k, v)])
  | [], q, h => by
    cases h.nil_of
    exact .cons rfl rv .nil
  | p :: ps, q, h => by
    obtain ⟨j, u, r, rfl, e1, e2, h'⟩ := h.uncons
    exact .cons e1 e2 (RepKV.snoc rv h')
theorem RepKV.put {k : Key} {d : D} {v : V} (rv : Rep K T g d v) {ps : List (D × D)} {q : List (Key × V)} (h : RepKV K T g ps q) : RepKV K T g (Mp.put (kD k) d ps) (putK q k v) := by
  unfold Mp.put putK
  rw [h.any k]
  split
  · exact h.repl k rv
  · exact h.snoc rv
theorem RepKV.merge : ∀ {ps : List (D × D)} {q : List (Key × V)} {acc : List (D × D)} {aq : List (Key × V)}, RepKV K T g ps q → RepKV K T g acc aq → RepKV K T g (ps.foldl (fun acc p => Mp.put p.1 p.2 acc) acc) (mergeK aq q)
  | [], q, acc, aq, h, h0 => by
    cases h.nil_of
    exact h0
  | p :: ps, q, acc, aq, h, h0 => by
    obtain ⟨j, u, r, rfl, e1, e2, h'⟩ := h.uncons
    rw [List.foldl_cons]
    show RepKV K T g _ (mergeK (putK aq j u) r)
    refine RepKV.merge h' ?_
    rw [e1]
    exact h0.put e2
theorem brep_dct {kvs : List (D × D)} {v : V} {s : S} (w : Wd K T g s H) (r : BRep K T g H (.dct kvs) v) : ∃ a kv, v = .ref a ∧ H a = some (.dK kv) ∧ RepKV K T g kvs kv := by
  rcases r with r | ⟨f, r, _⟩
  · cases r with
    | dct h e k => exact ⟨_, _, rfl, w.sub _ _ h, e, k⟩
  · cases r
theorem rep_newD {p : Addr} {kvs : List (D × D)} {kv : List (Key × V)} (ok : T.Ok) (h : g.F p = none) (r : RepKV K T g kvs kv) : Rep K T (g.put p (.dK kv)) (.dct kvs) (.ref p) :=
  .dct (show upd g.F p _ p = _ from upd_same) r.ks (r.vs.mono ok (Gh.le_put h))
end
section
variable {S : Type} {X : Cx} {T : Tab S}
/-- y in d, as an operator's rule -/
theorem in_dct (hu : X.A.units + 64 < cLine) {pins : List (Addr × Obj)} {s : Shared} {σ : L2.St} {H : Hp} {x y : V} {v u : Value} {Q : Bool → Prop} {g : Gh} {st : S} {a : D} {kvs : List (D × D)} {P : Value → Shared → Prop} {E : Value → Shared → Prop} (I : Inv X pins σ H s) (rx : RelV x v) (ry : RelV y u)
    (w : Wd X.K T g st H) (ra : BRep X.K T g H a x) (rb : BRep X.K T g H (.dct kvs) y) (hk : isKey a = true) (h : ∀ s', Inv X pins σ H s' → P (.bool (look a kvs).isSome) s') : wpAny (model X.prog X.w) X.A (compareOp .In v u) P E s := by
  obtain ⟨k, rfl⟩ := key_D hk
  obtain ⟨pa, kv, rfl, hp, r⟩ := brep_dct w rb
  cases brep_kD ra
  cases ry
  refine d_in (by omega) I (DGet.k hp) rx fun s' I' => ?_
  rw [← (r.look k).1]
  exact h s' I'
theorem notin_dct (hu : X.A.units + 64 < cLine) {pins : List (Addr × Obj)} {s : Shared} {σ : L2.St} {H : Hp} {x y : V} {v u : Value} {g : Gh} {st : S} {a : D} {kvs : List (D × D)} {P : Value → Shared → Prop} {E : Value → Shared → Prop} (I : Inv X pins σ H s) (rx : RelV x v) (ry : RelV y u)
    (w : Wd X.K T g st H) (ra : BRep X.K T g H a x) (rb : BRep X.K T g H (.dct kvs) y) (hk : isKey a = true) (h : ∀ s', Inv X pins σ H s' → P (.bool (!(look a kvs).isSome)) s') : wpAny (model X.prog X.w) X.A (compareOp .NotIn v u) P E s := by
  obtain ⟨k, rfl⟩ := key_D hk
  obtain ⟨pa, kv, rfl, hp, r⟩ := brep_dct w rb
  cases brep_kD ra
  cases ry
  refine d_notIn (by omega) I (DGet.k hp) rx fun s' I' => ?_
  rw [← (r.look k).1]
  exact h s' I'
end
end Mp

set_option Elab.async false
set_option linter.all false
set_option maxRecDepth 100000
set_option maxHeartbeats 4000000
/-! Comparisons. -/
namespace Mp
open PySem PySem.Spec PyProof.Rows L2

section
variable {S : Type} {X : Cx} {T : Tab S} {XT : ExcT} {E : XK} {B : Hp}
mutual
theorem rep_reads {pins : List (Addr × Obj)} {σ : L2.St} {H : Hp} {s : Shared} {g : Gh} (I : Inv X pins σ H s) (sub : ∀ a o, g.F a = some o → H a = some o) : ∀ (d : D) (v : V) (u : Value), Rep X.K T g d v → RelV v u → d.pl = true → ∃ as, Reads s.heap u d.py as
  | .non, _, _, r, rv, _ => by cases r; cases rv; exact ⟨_, .none⟩
  | .bl b, _, _, r, rv, _ => by cases r; cases rv; exact ⟨_, .bool b⟩
  | .int i, _, _, r, rv, _ => by cases r; obtain ⟨t, rfl⟩ := rv; exact ⟨_, .int i t⟩
  | .str x, _, _, r, rv, _ => by cases r; obtain ⟨t, rfl⟩ := rv; exact ⟨_, .str x t⟩
  | .tup xs, _, _, r, rv, p => by
    cases r with
    | tup h k =>
      cases rv
      obtain ⟨its, rv, ⟨o, ho, hc, n, hd⟩, hz⟩ := I.tuple (sqT_mono sub h.sq)
      obtain ⟨as, q⟩ := reps_reads I sub xs _ its k rv p
      exact ⟨as, .tuple ho hc hd (by simpa using q)⟩
  | .lst xs, _, _, r, rv, p => by
    cases r with
    | lst h k =>
      cases rv
      obtain ⟨z, its, n, rv, hl, e⟩ := I.lstM (sub _ _ h)
      obtain ⟨as, q⟩ := reps_reads I sub xs _ its k rv p
      exact ⟨_, .list e rfl rfl (by simpa using q)⟩
  | .dct _, _, _, _, _, p => by cases p
  | .set _, _, _, _, _, p => by cases p
  | .ins _ _, _, _, _, _, p => by cases p
  | .hand, _, _, _, _, p => by cases p
  | .clo _ _, _, _, _, _, p => by cases p
theorem reps_reads {pins : List (Addr × Obj)} {σ : L2.St} {H : Hp} {s : Shared} {g : Gh} (I : Inv X pins σ H s) (sub : ∀ a o, g.F a = some o → H a = some o) : ∀ (ds : List D) (vs : List V) (us : List Value), Reps X.K T g ds vs → Vals vs us → pls ds = true → ∃ as, ReadsAll s.heap us (pys ds) as
  | [], _, _, r, rv, _ => by cases r; cases rv; exact ⟨_, .nil⟩
  | d :: ds, _, _, r, rv, p => by
    cases r with
    | cons h k =>
      cases rv with
      | cons hv kv =>
        have p' : d.pl = true ∧ pls ds = true := by
          unfold pls at p
          rw [Bool.and_eq_true] at p
          exact p
        obtain ⟨as, q1⟩ := rep_reads I sub d _ _ h hv p'.1
        obtain ⟨bs, q2⟩ := reps_reads I sub ds _ _ k kv p'.2
        exact ⟨_, .cons q1 q2⟩
end
theorem brep_reads {pins : List (Addr × Obj)} {σ : L2.St} {H : Hp} {s : Shared} {g : Gh} (I : Inv X pins σ H s) (sub : ∀ a o, g.F a = some o → H a = some o) {d : D} {v : V} {u : Value} (r : BRep X.K T g H d v) (rv : RelV v u) (p : d.pl = true) : ∃ as, Reads s.heap u d.py as := by
  rcases r with r | ⟨f, r, _⟩
  · exact rep_reads I sub d v u r rv p
  · cases r with
    | @lst p ds vs h k =>
      cases rv
      obtain ⟨z, its, n, rv, hl, e⟩ := I.lstM h
      obtain ⟨as, q⟩ := reps_reads I sub ds _ its k rv p
      exact ⟨_, .list e rfl rfl (by simpa using q)⟩
mutual
theorem pl_plain : ∀ d : D, d.py.plain = true
  | .non => rfl
  | .bl _ => rfl
  | .int _ => rfl
  | .str _ => rfl
  | .tup xs => by show PyData.plainAll (pys xs) = true; exact pls_plain xs
  | .lst xs => by show PyData.plainAll (pys xs) = true; exact pls_plain xs
  | .dct _ => rfl
  | .set _ => rfl
  | .ins _ _ => rfl
  | .hand => rfl
  | .clo _ _ => rfl
theorem pls_plain : ∀ ds : List D, PyData.plainAll (pys ds) = true
  | [] => rfl
  | d :: ds => by
    show (d.py.plain && PyData.plainAll (pys ds)) = true
    rw [pl_plain d, pls_plain ds]; rfl
end
theorem ok_pl {d : D} (h : d.ok = true) : d.pl = true := by
  unfold D.ok at h
  rw [Bool.and_eq_true] at h
  exact h.1
theorem ok_dp {d : D} (h : d.ok = true) : d.py.depth ≤ 48 := by
  unfold D.ok at h
  rw [Bool.and_eq_true] at h
  exact of_decide_eq_true h.2
theorem op_meq (hu : X.A.units + 64 < cLine) : OpR X (compareOp .Eq) (rOp X.K T fun x y => (D.eq? x y).map .bl) := by
  intro pins s σ H x y v u Q I rx ry ⟨g, st, a, b, c, w, ra, rb, e, q⟩
  dsimp only at e
  unfold D.eq? at e
  split at e
  · rename_i h
    rw [Bool.and_eq_true] at h
    cases e
    obtain ⟨as, r1⟩ := brep_reads I w.sub ra rx (ok_pl h.1)
    obtain ⟨bs, r2⟩ := brep_reads I w.sub rb ry (ok_pl h.2)
    have := ok_dp h.1
    exact SeqAt.eq_plain r1 r2 (pl_plain _) (pl_plain _) (by omega) ⟨.bl _, H, I, rfl, q g H _ (.refl g H) w (.bl _)⟩
  · cases e
theorem op_mne (hu : X.A.units + 64 < cLine) : OpR X (compareOp .NotEq) (rOp X.K T fun x y => ((D.eq? x y).map (!·)).map .bl) := by
  intro pins s σ H x y v u Q I rx ry ⟨g, st, a, b, c, w, ra, rb, e, q⟩
  dsimp only at e
  unfold D.eq? at e
  split at e
  · rename_i h
    rw [Bool.and_eq_true] at h
    cases e
    obtain ⟨as, r1⟩ := brep_reads I w.sub ra rx (ok_pl h.1)
    obtain ⟨bs, r2⟩ := brep_reads I w.sub rb ry (ok_pl h.2)
    have := ok_dp h.1
    exact SeqAt.ne_plain r1 r2 (pl_plain _) (pl_plain _) (by omega) ⟨.bl _, H, I, rfl, q g H _ (.refl g H) w (.bl _)⟩
  · cases e
theorem op_mlt (hu : X.A.units + 64 < cLine) : OpR X (compareOp .Lt) (rOp X.K T fun x y => (D.lt? x y).map .bl) := by
  intro pins s σ H x y v u Q I rx ry ⟨g, st, a, b, c, w, ra, rb, e, q⟩
  dsimp only at e
  unfold D.lt? at e
  split at e
  · cases e
    cases brep_int ra; cases brep_int rb
    exact op_lt pins s σ H _ _ v u Q I rx ry ⟨_, _, rfl, rfl, q g H _ (.refl g H) w (.bl _)⟩
  · split at e
    · rename_i h
      simp only [Bool.and_eq_true] at h
      cases e
      obtain ⟨as, r1⟩ := brep_reads I w.sub ra rx (ok_pl h.1.1.1)
      obtain ⟨bs, r2⟩ := brep_reads I w.sub rb ry (ok_pl h.1.1.2)
      have := ok_dp h.1.1.1
      refine PySem.W.rcLt_alike _ _ _ _ _ _ _ _ r1 r2 h.2 (fun z => ?_) (by omega) X.prog X.w X.xe _ ⟨.bl _, H, I, rfl, q g H _ (.refl g H) w (.bl _)⟩
      have h3 := h.1.2
      have h4 := ok_pl h.1.1.1
      cases a <;> first | (simp [isNon] at h3; done) | (cases z; done) | (cases h4; done)
    · cases e
theorem op_mle : OpR X (compareOp .LtE) (rOp X.K T fun x y => (D.le? x y).map .bl) := by
  intro pins s σ H x y v u Q I rx ry ⟨g, st, a, b, c, w, ra, rb, e, q⟩
  dsimp only at e
  unfold D.le? at e
  split at e
  · cases e
    cases brep_int ra; cases brep_int rb
    exact op_le pins s σ H _ _ v u Q I rx ry ⟨_, _, rfl, rfl, q g H _ (.refl g H) w (.bl _)⟩
  · cases e
theorem op_mge : OpR X (compareOp .GtE) (rOp X.K T fun x y => (D.le? y x).map .bl) := by
  intro pins s σ H x y v u Q I rx ry ⟨g, st, a, b, c, w, ra, rb, e, q⟩
  dsimp only at e
  unfold D.le? at e
  split at e
  · rename_i h1 h2
    cases e
    cases brep_int ra; cases brep_int rb
    exact op_ge pins s σ H _ _ v u Q I rx ry ⟨_, _, rfl, rfl, q g H _ (.refl g H) w (.bl _)⟩
  · cases e
theorem op_mgt : OpR X (compareOp .Gt) (rOp X.K T fun x y => (D.gt? x y).map .bl) := by
  intro pins s σ H x y v u Q I rx ry ⟨g, st, a, b, c, w, ra, rb, e, q⟩
  dsimp only at e
  unfold D.gt? at e
  split at e
  · cases e
    cases brep_int ra; cases brep_int rb
    exact op_gt pins s σ H _ _ v u Q I rx ry ⟨_, _, rfl, rfl, q g H _ (.refl g H) w (.bl _)⟩
  · cases e
theorem any_pys (x : PyData) : ∀ xs : List D, ((pys xs).any fun y => PyData.eqv y x) = xs.any fun y => PyData.eqv y.py x
  | [] => rfl
  | y :: r => by
    show (PyData.eqv y.py x || (pys r).any fun y => PyData.eqv y x) = _
    rw [any_pys x r]; rfl
theorem op_min (hu : X.A.units + 64 < cLine) : OpR X (compareOp .In) (rOp X.K T fun x y => (D.in? x y).map .bl) := by
  intro pins s σ H x y v u Q I rx ry ⟨g, st, a, b, c, w, ra, rb, e, q⟩
  dsimp only at e
  unfold D.in? at e
  split at e
  · split at e
    · rename_i h
      rw [Bool.and_eq_true] at h
      cases e
      obtain ⟨as, r1⟩ := brep_reads I w.sub ra rx (ok_pl h.1)
      obtain ⟨bs, r2⟩ := brep_reads I w.sub rb ry (ok_pl h.2)
      have := ok_dp h.1
      refine SeqAt.in_tuple_data r2 r1 (pls_plain _) (pl_plain _) (by omega) ⟨.bl _, H, I, rfl, ?_⟩
      rw [any_pys]
      exact q g H _ (.refl g H) w (.bl _)
    · cases e
  · split at e
    · rename_i h
      rw [Bool.and_eq_true] at h
      cases e
      obtain ⟨as, r1⟩ := brep_reads I w.sub ra rx (ok_pl h.1)
      obtain ⟨bs, r2⟩ := brep_reads I w.sub rb ry (ok_pl h.2)
      have := ok_dp h.1
      refine SeqAt.in_list_data r2 r1 (pls_plain _) (pl_plain _) (by omega) ⟨.bl _, H, I, rfl, ?_⟩
      rw [any_pys]
      exact q g H _ (.refl g H) w (.bl _)
    · cases e
  · split at e
    · rename_i hk
      cases e
      exact in_dct (Q := fun _ => True) hu I rx ry w ra rb hk fun s' I' => ⟨.bl _, H, I', rfl, q g H _ (.refl g H) w (.bl _)⟩
    · cases e
  · rcases rb with rb | ⟨f, rb, _⟩ <;> cases rb
  · cases e
theorem op_mnin (hu : X.A.units + 64 < cLine) : OpR X (compareOp .NotIn) (rOp X.K T fun x y => ((D.in? x y).map (!·)).map .bl) := by
  intro pins s σ H x y v u Q I rx ry ⟨g, st, a, b, c, w, ra, rb, e, q⟩
  dsimp only at e
  unfold D.in? at e
  split at e
  · split at e
    · rename_i h
      rw [Bool.and_eq_true] at h
      cases e
      obtain ⟨as, r1⟩ := brep_reads I w.sub ra rx (ok_pl h.1)
      obtain ⟨bs, r2⟩ := brep_reads I w.sub rb ry (ok_pl h.2)
      have := ok_dp h.1
      refine SeqAt.notIn_tuple_data r2 r1 (pls_plain _) (pl_plain _) (by omega) ⟨.bl _, H, I, rfl, ?_⟩
      rw [any_pys]
      exact q g H _ (.refl g H) w (.bl _)
    · cases e
  · split at e
    · rename_i h
      rw [Bool.and_eq_true] at h
      cases e
      obtain ⟨as, r1⟩ := brep_reads I w.sub ra rx (ok_pl h.1)
      obtain ⟨bs, r2⟩ := brep_reads I w.sub rb ry (ok_pl h.2)
      have := ok_dp h.1
      refine SeqAt.notIn_list_data r2 r1 (pls_plain _) (pl_plain _) (by omega) ⟨.bl _, H, I, rfl, ?_⟩
      rw [any_pys]
      exact q g H _ (.refl g H) w (.bl _)
    · cases e
  · split at e
    · rename_i hk
      cases e
      exact notin_dct hu I rx ry w ra rb hk fun s' I' => ⟨.bl _, H, I', rfl, q g H _ (.refl g H) w (.bl _)⟩
    · cases e
  · rcases rb with rb | ⟨f, rb, _⟩ <;> cases rb
  · cases e
def Cop.py : Cop → CmpOp
  | .eq => .Eq
  | .ne => .NotEq
  | .lt => .Lt
  | .le => .LtE
  | .gt => .Gt
  | .ge => .GtE
  | .isin => .In
  | .notin => .NotIn
theorem op_mcmp (hu : X.A.units + 64 < cLine) : ∀ c : Cop, OpR X (compareOp c.py) (rOp X.K T fun x y => (D.cmp c x y).map .bl)
  | .eq => op_meq hu
  | .ne => op_mne hu
  | .lt => op_mlt hu
  | .le => op_mle
  | .gt => op_mgt
  | .ge => op_mge
  | .isin => op_min hu
  | .notin => op_mnin hu
end
end Mp

set_option Elab.async false
set_option linter.all false
set_option maxRecDepth 100000
set_option maxHeartbeats 4000000
/-! Further expressions. -/
namespace Mp
open PySem PySem.Spec PyProof.Rows L2

section
variable {S : Type} {X : Cx} {T : Tab S} {XT : ExcT} {E : XK} {B : Hp}
theorem me_neg {a : Expr} {pos : Pos} {ma : Env → M S D} (ok : T.Ok) (ha : PE X a (tE X.K T XT E B ma)) : PE X (.UnaryOp .USub a pos) (tE X.K T XT E B fun env => M.bind (ma env) fun x => M.opt ((asInt x).map fun i => .int (-i))) :=
  pe_imp (pe_un un_neg ha) fun σ H Q ⟨g, s, env, fp, w, sl, p⟩ => tE.of ok w sl p fun g1 s1 H1 x v st1 w1 sl1 r1 p1 => by
    obtain ⟨c, e, q⟩ := Post.opt w1 p1
    cases x with
    | int i => cases e; cases r1; exact ⟨i, rfl, q _ (.int _)⟩
    | _ => cases e
theorem isNon_iff {K : PySem.W.Frag} {g : Gh} {d : D} {v : V} (r : Rep K T g d v) : decide (v = .non) = isNon d := by
  cases r <;> simp [isNon]
theorem me_isn {a : Expr} {j : Nat} {pos pos' : Pos} {ma : Env → M S D} (ok : T.Ok) (ha : PE X a (tE X.K T XT E B ma)) : PE X (.Compare a [.Is] [.Constant .none j pos'] pos) (tE X.K T XT E B fun env => M.bind (ma env) fun x => M.pure (.bl (isNon x))) :=
  pe_imp (pe_cmp (pc_isN ha) rfl) fun σ H Q ⟨g, s, env, fp, w, sl, p⟩ => tE.of ok w sl p fun g1 s1 H1 x v st1 w1 sl1 r1 p1 => by
    rw [isNon_iff r1]
    exact Post.pure w1 p1 _ (.bl _)
theorem me_notn {a : Expr} {j : Nat} {pos pos' : Pos} {ma : Env → M S D} (ok : T.Ok) (ha : PE X a (tE X.K T XT E B ma)) : PE X (.Compare a [.IsNot] [.Constant .none j pos'] pos) (tE X.K T XT E B fun env => M.bind (ma env) fun x => M.pure (.bl (!isNon x))) :=
  pe_imp (pe_cmp (pc_notN ha) rfl) fun σ H Q ⟨g, s, env, fp, w, sl, p⟩ => tE.of ok w sl p fun g1 s1 H1 x v st1 w1 sl1 r1 p1 => by
    rw [isNon_iff r1]
    exact Post.pure w1 p1 _ (.bl _)
theorem mt_isn {a : Expr} {j : Nat} {pos pos' : Pos} {ma : Env → M S D} (ok : T.Ok) (ha : PE X a (tE X.K T XT E B ma)) : PT X (.Compare a [.Is] [.Constant .none j pos'] pos) (tT X.K T XT E B fun env => M.bind (ma env) fun x => M.pure (.bl (isNon x))) :=
  pt_imp (pt_cmp (pc_isN ha) rfl) fun σ H Q ⟨g, s, env, fp, w, sl, p⟩ => tE.of ok w sl p fun g1 s1 H1 x v st1 w1 sl1 r1 p1 => by
    obtain ⟨b, e, q⟩ := Post.pure w1 p1
    cases e
    exact ⟨_, rfl, by rw [isNon_iff r1]; exact q⟩
theorem mt_notn {a : Expr} {j : Nat} {pos pos' : Pos} {ma : Env → M S D} (ok : T.Ok) (ha : PE X a (tE X.K T XT E B ma)) : PT X (.Compare a [.IsNot] [.Constant .none j pos'] pos) (tT X.K T XT E B fun env => M.bind (ma env) fun x => M.pure (.bl (!isNon x))) :=
  pt_imp (pt_cmp (pc_notN ha) rfl) fun σ H Q ⟨g, s, env, fp, w, sl, p⟩ => tE.of ok w sl p fun g1 s1 H1 x v st1 w1 sl1 r1 p1 => by
    obtain ⟨b, e, q⟩ := Post.pure w1 p1
    cases e
    exact ⟨_, rfl, by rw [isNon_iff r1]; exact q⟩
theorem op_misb (b : Bool) : OpR X (compareOp .Is) (rOp X.K T fun x y => match x, y with | .bl c, .bl d => if d = b then some (.bl (decide (c = b))) else none | _, _ => none) := by
  intro pins s σ H x y v u Q I rx ry ⟨g, st, a, b', c, w, ra, rb, e, q⟩
  dsimp only at e
  split at e
  · split at e
    · rename_i c1 d1 hd
      subst hd
      cases e
      cases brep_bl ra; cases brep_bl rb
      exact op_isBl pins s σ H _ _ v u Q I rx ry ⟨_, _, rfl, rfl, q g H _ (.refl g H) w (.bl _)⟩
    · cases e
  · cases e
/-- the value of an expression that is a bool, as a test -/
theorem mt_val {e : Expr} {m : Env → M S D} (h : PE X e (tE X.K T XT E B m)) (he : ∀ whole, isTrue e X.env whole = (do let v ← whole; standAt e.pos; holding [v] (truthy v))) : PT X e (tT X.K T XT E B m) :=
  pt_imp (pt_val h he) fun σ H Q ⟨g, s, env, fp, w, sl, p⟩ => ⟨g, s, env, fp, w, sl, p.imp fun g1 s1 H1 d ⟨b, e, q⟩ v r => by
    subst e
    cases r
    exact ⟨b, rfl, q⟩⟩
theorem me_and {a b : Expr} {rest : List Expr} {pos : Pos} {ma mb : Env → M S D} (ok : T.Ok) (ha : PE X a (tE X.K T XT E B ma)) (hb : PE X (.BoolOp .And (b :: rest) pos) (tE X.K T XT E B mb)) :
    PE X (.BoolOp .And (a :: b :: rest) pos) (tE X.K T XT E B fun env => M.bind (ma env) fun x => M.bind (M.opt (asBl x)) fun k => if k = true then mb env else M.pure (.bl false)) :=
  pe_imp (pe_and ha hb) fun σ H Q ⟨g, s, env, fp, w, sl, p⟩ => tE.of ok w sl p fun g1 s1 H1 x v st1 w1 sl1 r1 p1 => by
    obtain ⟨k, e, w2, st2, q⟩ := Post.opt w1 p1.bind
    cases x with
    | bl c =>
      have : c = k := Option.some.inj e
      subst this
      cases r1
      refine ⟨c, rfl, ?_⟩
      cases c with
      | true => rw [if_pos rfl] at q ⊢; exact ⟨g1, s1, env, fp, w1, sl1, q⟩
      | false => rw [if_neg Bool.false_ne_true] at q ⊢; exact Post.pure w1 q _ (.bl _)
    | _ => cases e
theorem me_or {a b : Expr} {rest : List Expr} {pos : Pos} {ma mb : Env → M S D} (ok : T.Ok) (ha : PE X a (tE X.K T XT E B ma)) (hb : PE X (.BoolOp .Or (b :: rest) pos) (tE X.K T XT E B mb)) :
    PE X (.BoolOp .Or (a :: b :: rest) pos) (tE X.K T XT E B fun env => M.bind (ma env) fun x => M.bind (M.opt (asBl x)) fun k => if k = true then M.pure (.bl true) else mb env) :=
  pe_imp (pe_or ha hb) fun σ H Q ⟨g, s, env, fp, w, sl, p⟩ => tE.of ok w sl p fun g1 s1 H1 x v st1 w1 sl1 r1 p1 => by
    obtain ⟨k, e, w2, st2, q⟩ := Post.opt w1 p1.bind
    cases x with
    | bl c =>
      have : c = k := Option.some.inj e
      subst this
      cases r1
      refine ⟨c, rfl, ?_⟩
      cases c with
      | false => rw [if_neg Bool.false_ne_true] at q ⊢; exact ⟨g1, s1, env, fp, w1, sl1, q⟩
      | true => rw [if_pos rfl] at q ⊢; exact Post.pure w1 q _ (.bl _)
    | _ => cases e
theorem mw_and {a b : Expr} {rest : List Expr} {pos : Pos} {ma mb : Env → M S D} (ok : T.Ok) (ha : PT X a (tT X.K T XT E B ma)) (hb : PW X (.BoolOp .And (b :: rest) pos) (tT X.K T XT E B mb)) :
    PW X (.BoolOp .And (a :: b :: rest) pos) (tT X.K T XT E B fun env => M.bind (ma env) fun x => M.bind (M.opt (asBl x)) fun k => if k = true then mb env else M.pure (.bl false)) :=
  pw_imp (pw_and ha hb) fun σ H Q ⟨g, s, env, fp, w, sl, p⟩ => tT.of ok w sl p fun g1 s1 H1 c st1 w1 sl1 q => by
    cases c with
    | true => rw [if_pos rfl] at q ⊢; exact ⟨g1, s1, env, fp, w1, sl1, q⟩
    | false =>
      rw [if_neg Bool.false_ne_true] at q ⊢
      obtain ⟨b, e, q⟩ := Post.pure w1 q
      cases e
      exact q
theorem mw_or {a b : Expr} {rest : List Expr} {pos : Pos} {ma mb : Env → M S D} (ok : T.Ok) (ha : PT X a (tT X.K T XT E B ma)) (hb : PW X (.BoolOp .Or (b :: rest) pos) (tT X.K T XT E B mb)) :
    PW X (.BoolOp .Or (a :: b :: rest) pos) (tT X.K T XT E B fun env => M.bind (ma env) fun x => M.bind (M.opt (asBl x)) fun k => if k = true then M.pure (.bl true) else mb env) :=
  pw_imp (pw_or ha hb) fun σ H Q ⟨g, s, env, fp, w, sl, p⟩ => tT.of ok w sl p fun g1 s1 H1 c st1 w1 sl1 q => by
    cases c with
    | false => rw [if_neg Bool.false_ne_true] at q ⊢; exact ⟨g1, s1, env, fp, w1, sl1, q⟩
    | true =>
      rw [if_pos rfl] at q ⊢
      obtain ⟨b, e, q⟩ := Post.pure w1 q
      cases e
      exact q
theorem me_not {a : Expr} {pos : Pos} {ma : Env → M S D} (ok : T.Ok) (ha : PE X a (tE X.K T XT E B ma)) : PE X (.UnaryOp .Not a pos) (tE X.K T XT E B fun env => M.bind (ma env) fun x => M.bind (M.opt (asBl x)) fun k => M.pure (.bl (!k))) :=
  pe_imp (pe_not ha) fun σ H Q ⟨g, s, env, fp, w, sl, p⟩ => tE.of ok w sl p fun g1 s1 H1 x v st1 w1 sl1 r1 p1 => by
    obtain ⟨k, e, w2, st2, q⟩ := Post.opt w1 p1.bind
    cases x with
    | bl c =>
      have : c = k := Option.some.inj e
      subst this
      cases r1
      exact ⟨c, rfl, Post.pure w1 q _ (.bl _)⟩
    | _ => cases e
theorem mt_not {a : Expr} {pos : Pos} {ma : Env → M S D} (ok : T.Ok) (ha : PT X a (tT X.K T XT E B ma)) : PT X (.UnaryOp .Not a pos) (tT X.K T XT E B fun env => M.bind (ma env) fun x => M.bind (M.opt (asBl x)) fun k => M.pure (.bl (!k))) :=
  pt_imp (pt_not ha) fun σ H Q ⟨g, s, env, fp, w, sl, p⟩ => tT.of ok w sl p fun g1 s1 H1 c st1 w1 sl1 q => by
    obtain ⟨b, e, q⟩ := Post.pure w1 q
    cases e
    exact q
theorem me_ite {c a b : Expr} {pos : Pos} {mc ma mb : Env → M S D} (ok : T.Ok) (hc : PT X c (tT X.K T XT E B mc)) (ha : PE X a (tE X.K T XT E B ma)) (hb : PE X b (tE X.K T XT E B mb)) :
    PE X (.IfExp c a b pos) (tE X.K T XT E B fun env => M.bind (mc env) fun x => M.bind (M.opt (asBl x)) fun k => if k = true then ma env else mb env) :=
  pe_imp (pe_ifExp hc ha hb) fun σ H Q ⟨g, s, env, fp, w, sl, p⟩ => tT.of ok w sl p fun g1 s1 H1 c st1 w1 sl1 q => by
    cases c with
    | true => rw [if_pos rfl] at q ⊢; exact ⟨g1, s1, env, fp, w1, sl1, q⟩
    | false => rw [if_neg Bool.false_ne_true] at q ⊢; exact ⟨g1, s1, env, fp, w1, sl1, q⟩

/-! ### places of sequences -/
theorem reps_at {K : PySem.W.Frag} {g : Gh} {xs : List D} {vs : List V} {i : Int} {d : D} (r : Reps K T g xs vs) (h : at? xs i = some d) : ∃ v, atI vs i = some v ∧ Rep K T g d v := by
  unfold at? atI at h
  rw [Option.bind_eq_some_iff] at h
  obtain ⟨j, h1, h2⟩ := h
  obtain ⟨v, h3, h4⟩ := r.get h2
  refine ⟨v, ?_, h4⟩
  unfold atI
  rw [← r.length, h1]
  exact h3
/-- seq[i] -/
def idxS : D → D → Option D
  | .tup xs, .int i => at? xs i
  | .lst xs, .int i => at? xs i
  | _, _ => none
theorem ix_ms : IxR X (rOp X.K T idxS) := by
  intro value slice pins s σ H x y v u Q I rx ry ⟨g, st, a, b, c, w, ra, rb, e, q⟩ hs
  unfold idxS at e
  split at e
  · obtain ⟨pa, va, rfl, ha, ka, la⟩ := brep_tup w ra
    cases brep_int rb
    obtain ⟨z, e2, r2⟩ := reps_at ka e
    exact ix_tup value slice pins s σ H _ _ v u Q I rx ry ⟨pa, va, _, z, rfl, rfl, ha, e2, q g H _ (.refl g H) w r2⟩ hs
  · obtain ⟨pa, va, rfl, ha, ka⟩ := brep_lst w ra
    cases brep_int rb
    obtain ⟨z, e2, r2⟩ := reps_at ka e
    exact ix_list value slice pins s σ H _ _ v u Q I rx ry ⟨pa, va, _, z, rfl, rfl, .inl (.inl ha), e2, q g H _ (.refl g H) w r2⟩ hs
  · cases e
theorem me_idx {a b : Expr} {pos : Pos} {ma mb : Env → M S D} {f : D → D → Option D} (ok : T.Ok) (hr : IxR X (rOp X.K T f)) (ha : PE X a (tB X.K T XT E B ma)) (hb : PE X b (tB X.K T XT E B mb)) (hs : PlainIx b) :
    PE X (.Subscript a b pos) (tE X.K T XT E B fun env => M.bind (ma env) fun x => M.bind (mb env) fun y => M.opt (f x y)) :=
  pe_imp (pe_ix hr ha hb hs) fun σ H Q ⟨g, s, env, fp, w, sl, p⟩ => tB.of ok w sl p fun g1 s1 H1 x v st1 w1 sl1 r1 p1 => tB.of ok w1 sl1 p1 fun g2 s2 H2 y u st2 w2 sl2 r2 p2 => by
    obtain ⟨c, e, q⟩ := Post.opt w2 p2
    exact ⟨g2, s2, x, y, c, w2, r1.step ok st2, r2, e, fun g' H' v st w' r => by rw [e] at p2; exact p2 g' H' st w' v r⟩
/-- slices -/
def rSl (K : PySem.W.Frag) (T : Tab S) : V → Option Int → Option Int → Hp → VK → Prop := fun x lo hi H Q => ∃ (g : Gh) (s : S) (a c : D), Wd K T g s H ∧ BRep K T g H a x ∧ cutD a lo hi = some c ∧ ∀ g' H' v, Step g H g' H' → Wd K T g' s H' → Rep K T g' c v → Q v H'
theorem cut_reps {K : PySem.W.Frag} {g : Gh} {xs : List D} {vs : List V} (r : Reps K T g xs vs) (lo hi : Option Int) : Reps K T g (cut xs lo hi) (cutV vs lo hi) := by
  unfold cut cutV
  rw [← r.length]
  exact (r.drop _).take _
theorem cut_whole {xs : List D} {lo hi : Option Int} (h : HT.sIx xs.length 0 lo = 0 ∧ HT.sIx xs.length xs.length hi = xs.length) : cut xs lo hi = xs := by
  unfold cut
  rw [h.1, h.2, List.drop_zero, Nat.sub_zero, List.take_length]
theorem sl_m (ok : T.Ok) : SlR X (rSl X.K T) := by
  intro pins s σ H x v vl vu lo hi sl Q I rx hs pl pu ⟨g, st, a, c, w, ra, e, q⟩
  unfold cutD at e
  split at e
  · rename_i xs
    cases e
    obtain ⟨pa, va, rfl, ha, ka, la⟩ := brep_tup w ra
    have el := ka.length
    refine sl_tupF pins s σ H _ v vl vu lo hi sl Q I rx hs pl pu ⟨pa, va, rfl, ha, fun z => ?_, fun z => newT_of ok w (cut_reps ka lo hi) q⟩
    rw [← el] at z
    rw [cut_whole z] at q
    exact q g H _ (.refl g H) w la
  · rename_i xs
    cases e
    obtain ⟨pa, va, rfl, ha, ka⟩ := brep_lst w ra
    exact sl_list pins s σ H _ v vl vu lo hi sl Q I rx hs pl pu ⟨pa, va, rfl, .inl (.inl ha), fun p hp => q _ _ _ (.new w _ hp) (w.new ok _ hp) (rep_newL ok (w.free hp).1 (cut_reps ka lo hi))⟩
  · cases e
def tO (K : PySem.W.Frag) (T : Tab S) (XT : ExcT) (E : XK) (B : Hp) (m : Env → M S (Option Int)) : TO := fun σ H Q => ∃ g s env fp, Wd K T g s H ∧ Slots K T g H B env σ fp ∧ Post K T XT E g H (m env s) fun g' _ H' d => Q d H'
theorem mo_none : PO X none (tO X.K T XT E B fun _ => M.pure none) := ⟨fun pins s σ H Q I ⟨g, st, env, fp, w, sl, p⟩ => po_none.run pins s σ H Q I (Post.pure w p)⟩
theorem mo_some {e : Expr} {m : Env → M S D} (ok : T.Ok) (h : PE X e (tE X.K T XT E B m)) : PO X (some e) (tO X.K T XT E B fun env => M.bind (m env) fun x => M.bind (M.opt (asInt x)) fun i => M.pure (some i)) :=
  ⟨fun pins s σ H Q I ⟨g, st, env, fp, w, sl, p⟩ => (po_some h).run pins s σ H Q I (tE.of' ok w sl p fun g1 s1 H1 x v st1 w1 sl1 r1 p1 => by
    obtain ⟨k, e, w2, st2, q⟩ := Post.opt w1 p1.bind
    cases x with
    | int c =>
      have : c = k := Option.some.inj e
      subst this
      cases r1
      exact ⟨c, rfl, Post.pure w1 q⟩
    | _ => cases e)⟩
theorem me_slice {a : Expr} {lo hi : Option Expr} {pos p2 : Pos} {ma : Env → M S D} {ml mh : Env → M S (Option Int)} (ok : T.Ok) (ha : PE X a (tB X.K T XT E B ma)) (hl : PO X lo (tO X.K T XT E B ml)) (hh : PO X hi (tO X.K T XT E B mh)) :
    PE X (.Subscript a (.Slice lo hi none p2) pos) (tE X.K T XT E B fun env => M.bind (ma env) fun x => M.bind (ml env) fun l => M.bind (mh env) fun h => M.opt (cutD x l h)) :=
  pe_imp (pe_slice (sl_m ok) ha hl hh) fun σ H Q ⟨g, s, env, fp, w, sl, p⟩ => tB.of ok w sl p fun g1 s1 H1 x v st1 w1 sl1 r1 p1 =>
    ⟨g1, s1, env, fp, w1, sl1, p1.bind.imp fun g2 s2 H2 l ⟨w2, st2, p2⟩ => ⟨g2, s2, env, fp, w2, sl1.step ok st2, p2.bind.imp fun g3 s3 H3 h ⟨w3, st3, p3⟩ => by
      obtain ⟨c, e, q⟩ := Post.opt w3 p3
      exact ⟨g3, s3, x, c, w3, (r1.step ok st2).step ok st3, e, fun g' H' v st w' r => by rw [e] at p3; exact p3 g' H' st w' v r⟩⟩⟩
end
end Mp

set_option Elab.async false
set_option linter.all false
set_option maxRecDepth 100000
set_option maxHeartbeats 4000000
/-! Displays, built-in calls. -/
namespace Mp
open PySem PySem.Spec PyProof.Rows L2

section
variable {S : Type} {X : Cx} {T : Tab S} {XT : ExcT} {E : XK} {B : Hp}
theorem ml_nil : PA X [] (tL X.K T XT E B fun _ => M.pure []) := pa_imp pa_nil fun σ H Q ⟨g, s, env, fp, w, sl, p⟩ => Post.pure w p _ .nil
theorem ml_cons {e : Expr} {es : List Expr} {m : Env → M S D} {ms : Env → M S (List D)} (ok : T.Ok) (h : PE X e (tE X.K T XT E B m)) (hr : PA X es (tL X.K T XT E B ms)) (hs : starEach (e :: es) X.env = (false, eval e X.env) :: starEach es X.env) :
    PA X (e :: es) (tL X.K T XT E B fun env => M.bind (m env) fun x => M.bind (ms env) fun xs => M.pure (x :: xs)) :=
  pa_imp (pa_cons h hr hs) fun σ H Q ⟨g, s, env, fp, w, sl, p⟩ => tE.of' ok w sl p fun g1 s1 H1 x v st1 w1 sl1 r1 p1 => by
    exact ⟨g1, s1, env, fp, w1, sl1, p1.bind.imp fun g2 s2 H2 xs ⟨w2, st2, p2⟩ vs r2 => Post.pure w2 p2 _ (.cons (r1.mono ok st2.le) r2)⟩
theorem mlb_nil : PA X [] (tLB X.K T XT E B fun _ => M.pure []) := pa_imp pa_nil fun σ H Q ⟨g, s, env, fp, w, sl, p⟩ => Post.pure w p _ .nil
theorem mlb_cons {e : Expr} {es : List Expr} {m : Env → M S D} {ms : Env → M S (List D)} (ok : T.Ok) (h : PE X e (tB X.K T XT E B m)) (hr : PA X es (tLB X.K T XT E B ms)) (hs : starEach (e :: es) X.env = (false, eval e X.env) :: starEach es X.env) :
    PA X (e :: es) (tLB X.K T XT E B fun env => M.bind (m env) fun x => M.bind (ms env) fun xs => M.pure (x :: xs)) :=
  pa_imp (pa_cons h hr hs) fun σ H Q ⟨g, s, env, fp, w, sl, p⟩ => tB.of ok w sl p fun g1 s1 H1 x v st1 w1 sl1 r1 p1 => by
    exact ⟨g1, s1, env, fp, w1, sl1, p1.bind.imp fun g2 s2 H2 xs ⟨w2, st2, p2⟩ vs r2 => Post.pure w2 p2 _ (.cons (r1.step ok st2) r2)⟩
/-- displays -/
theorem me_tup {es : List Expr} {k : Nat} {pos : Pos} {ms : Env → M S (List D)} (ok : T.Ok) (h : PA X es (tL X.K T XT E B ms)) (hl : ∀ env s, match ms env s with | .ok ds _ => ds.length ≤ LIM | _ => True) :
    PE X (.Tuple es k pos) (tE X.K T XT E B fun env => M.bind (ms env) fun ds => M.pure (.tup ds)) :=
  pe_imp (pe_tupF h) fun σ H Q ⟨g, s, env, fp, w, sl, p⟩ => by
    have h0 := hl env s
    refine ⟨g, s, env, fp, w, sl, ?_⟩
    have p0 := p.bind
    cases e : ms env s with
    | ok ds s1 =>
      rw [e] at p0 h0
      intro g1 H1 st1 w1
      obtain ⟨w2, st2, p2⟩ := p0 g1 H1 st1 w1
      intro vs r
      exact ⟨lim_line (by rw [← r.length]; exact h0), newT_of ok w1 r fun g' H' v st w' r' => p2 g' H' st w' v r'⟩
    | exc c fs s1 => rw [e] at p0; exact p0
    | bad => rw [e] at p0; exact p0
theorem me_list {es : List Expr} {pos : Pos} {ms : Env → M S (List D)} (ok : T.Ok) (h : PA X es (tL X.K T XT E B ms)) (hl : ∀ env s, match ms env s with | .ok ds _ => ds.length ≤ LIM | _ => True) :
    PE X (.List es pos) (tE X.K T XT E B fun env => M.bind (ms env) fun ds => M.pure (.lst ds)) :=
  pe_imp (pe_lst h) fun σ H Q ⟨g, s, env, fp, w, sl, p⟩ => by
    have h0 := hl env s
    refine ⟨g, s, env, fp, w, sl, ?_⟩
    have p0 := p.bind
    cases e : ms env s with
    | ok ds s1 =>
      rw [e] at p0 h0
      intro g1 H1 st1 w1
      obtain ⟨w2, st2, p2⟩ := p0 g1 H1 st1 w1
      intro vs r
      refine ⟨lim_line (by rw [← r.length]; exact h0), fun q hq => ?_⟩
      exact p2 _ _ (.new w1 _ hq) (w1.new ok _ hq) _ (rep_newL ok (w1.free hq).1 r)
    | exc c fs s1 => rw [e] at p0; exact p0
    | bad => rw [e] at p0; exact p0

/-! ### built-in calls -/
def rBi (K : PySem.W.Frag) (T : Tab S) (f : List D → Option D) : List V → Hp → VK → Prop := fun vs H Q => ∃ (g : Gh) (s : S) (ds : List D) (c : D), Wd K T g s H ∧ BReps K T g H ds vs ∧ f ds = some c ∧
  ∀ g' H' v, Step g H g' H' → Wd K T g' s H' → Rep K T g' c v → Q v H'
theorem me_bi {e : Expr} {es : List Expr} {x : Str} {p pos : Pos} {ms : Env → M S (List D)} {f : List D → Option D} {id : String} (ok : T.Ok) (hc : CallR X (.builtin id) (rBi X.K T f)) (hg : Gl X x) (hm : X.mg x = none) (hv : bootBuiltins x = some (.builtin id)) (ha : PA X (e :: es) (tLB X.K T XT E B ms))
    (hn : x ≠ "__name__") (hdb : (x == ("__debug__" : Str)) = false) (he : starEach (e :: es) X.env = (false, eval e X.env) :: starEach es X.env) (hpl : (backTo pos (starEach es X.env)).any (·.1) = false) :
    PE X (.Call (.Name x p) (e :: es) [] pos) (tE X.K T XT E B fun env => M.bind (ms env) fun ds => M.opt (f ds)) :=
  pe_imp (pe_callB hc hg hm hv ha hn hdb he hpl) fun σ H Q ⟨g, s, env, fp, w, sl, p⟩ => ⟨g, s, env, fp, w, sl, p.bind.imp fun g1 s1 H1 ds ⟨w1, st1, p1⟩ vs r => by
    obtain ⟨c, e, q⟩ := Post.opt w1 p1
    exact ⟨g1, s1, ds, c, w1, r, e, fun g' H' v st w' r => by rw [e] at p1; exact p1 g' H' st w' v r⟩⟩
theorem me_ty {e : Expr} {es : List Expr} {x : Str} {p pos : Pos} {ms : Env → M S (List D)} {f : List D → Option D} {id : String} (ok : T.Ok) (hc : CallR X (.type id) (rBi X.K T f)) (hg : Gl X x) (hm : X.mg x = none) (hv : bootBuiltins x = some (.type id)) (ha : PA X (e :: es) (tLB X.K T XT E B ms))
    (hn : x ≠ "__name__") (hdb : (x == ("__debug__" : Str)) = false) (he : starEach (e :: es) X.env = (false, eval e X.env) :: starEach es X.env) (hpl : (backTo pos (starEach es X.env)).any (·.1) = false) :
    PE X (.Call (.Name x p) (e :: es) [] pos) (tE X.K T XT E B fun env => M.bind (ms env) fun ds => M.opt (f ds)) :=
  pe_imp (pe_callTy hc hg hm hv ha hn hdb he hpl) fun σ H Q ⟨g, s, env, fp, w, sl, p⟩ => ⟨g, s, env, fp, w, sl, p.bind.imp fun g1 s1 H1 ds ⟨w1, st1, p1⟩ vs r => by
    obtain ⟨c, e, q⟩ := Post.opt w1 p1
    exact ⟨g1, s1, ds, c, w1, r, e, fun g' H' v st w' r => by rw [e] at p1; exact p1 g' H' st w' v r⟩⟩
theorem breps1 {K : PySem.W.Frag} {g : Gh} {H : Hp} {d : D} {vs : List V} (r : BReps K T g H [d] vs) : ∃ v, vs = [v] ∧ BRep K T g H d v := by
  cases r with
  | cons h k => cases k; exact ⟨_, rfl, h⟩
theorem breps2 {K : PySem.W.Frag} {g : Gh} {H : Hp} {d e : D} {vs : List V} (r : BReps K T g H [d, e] vs) : ∃ v u, vs = [v, u] ∧ BRep K T g H d v ∧ BRep K T g H e u := by
  cases r with
  | cons h k =>
    obtain ⟨u, rfl, k'⟩ := breps1 k
    exact ⟨_, _, rfl, h, k'⟩
theorem cr_mlen : CallR X (.builtin "len") (rBi X.K T biLen) := by
  intro pins s σ H xs us Q I r ⟨g, st, ds, c, w, rs, e, q⟩
  unfold biLen at e
  split at e
  · cases e
    obtain ⟨v, rfl, rv⟩ := breps1 rs
    obtain ⟨pa, va, rfl, ha, ka, la⟩ := brep_tup w rv
    exact call_len pins s σ H _ us Q I r ⟨_, _, rfl, .inr ⟨va, ha, rfl⟩, by rw [← ka.length]; exact q g H _ (.refl g H) w (.int _)⟩
  · cases e
    obtain ⟨v, rfl, rv⟩ := breps1 rs
    obtain ⟨pa, va, rfl, ha, ka⟩ := brep_lst w rv
    exact call_len pins s σ H _ us Q I r ⟨_, _, rfl, .inl ⟨va, .inl (.inl ha), rfl⟩, by rw [← ka.length]; exact q g H _ (.refl g H) w (.int _)⟩
  · obtain ⟨v, rfl, rv⟩ := breps1 rs
    rcases rv with rb | ⟨f, rb, _⟩ <;> cases rb
  · cases e
    obtain ⟨v, rfl, rv⟩ := breps1 rs
    obtain ⟨pa, kv, rfl, hp, rk⟩ := brep_dct w rv
    rw [Vals.ref1 r]
    refine d_len I (.inl hp) fun t s' I' => ⟨.int kv.length, H, I', ⟨t, rfl⟩, ?_⟩
    rw [← rk.length]
    exact q g H _ (.refl g H) w (.int _)
  · split at e
    · rename_i h
      cases e
      obtain ⟨v, rfl, rv⟩ := breps1 rs
      cases brep_str rv
      exact call_len pins s σ H _ us Q I r ⟨_, _, rfl, ⟨lim_line h, rfl⟩, q g H _ (.refl g H) w (.int _)⟩
    · cases e
  · cases e
theorem cr_mtuple (ok : T.Ok) : CallR X (.type "tuple") (rBi X.K T biTuple) := by
  intro pins s σ H xs us Q I r ⟨g, st, ds, c, w, rs, e, q⟩
  unfold biTuple at e
  split at e
  · cases e
    obtain ⟨v, rfl, rv⟩ := breps1 rs
    obtain ⟨pa, va, rfl, ha, ka⟩ := brep_lst w rv
    exact call_tupF pins s σ H _ us Q I r ⟨pa, va, rfl, .inl ⟨ha, newT_of ok w ka q⟩⟩
  · cases e
    obtain ⟨v, rfl, rv⟩ := breps1 rs
    obtain ⟨pa, va, rfl, ha, ka, la⟩ := brep_tup w rv
    exact call_tupF pins s σ H _ us Q I r ⟨pa, va, rfl, .inr ⟨ha, q g H _ (.refl g H) w la⟩⟩
  · cases e
theorem cr_mlist (ok : T.Ok) : CallR X (.type "list") (rBi X.K T biList) := by
  intro pins s σ H xs us Q I r ⟨g, st, ds, c, w, rs, e, q⟩
  unfold biList at e
  split at e
  · cases e
    obtain ⟨v, rfl, rv⟩ := breps1 rs
    obtain ⟨pa, va, rfl, ha, ka⟩ := brep_lst w rv
    exact call_list_of pins s σ H _ us Q I r ⟨pa, va, rfl, .inl (.inl (.inl ha)), fun l hl => q _ _ _ (.new w _ hl) (w.new ok _ hl) (rep_newL ok (w.free hl).1 ka)⟩
  · cases e
    obtain ⟨v, rfl, rv⟩ := breps1 rs
    obtain ⟨pa, va, rfl, ha, ka, la⟩ := brep_tup w rv
    exact call_list_of pins s σ H _ us Q I r ⟨pa, va, rfl, .inr ha, fun l hl => q _ _ _ (.new w _ hl) (w.new ok _ hl) (rep_newL ok (w.free hl).1 ka)⟩
  · cases e
theorem bls_reps {K : PySem.W.Frag} {g : Gh} : ∀ {xs : List D} {bs : List Bool} {vs : List V}, bls? xs = some bs → Reps K T g xs vs → vs = bs.map V.bl
  | [], _, _, e, r => by cases e; cases r; rfl
  | .bl b :: xs, bs, _, e, r => by
    unfold bls? at e
    cases e2 : bls? xs with
    | none => rw [e2] at e; cases e
    | some bs' =>
      rw [e2] at e
      cases e
      cases r with
      | cons h k =>
        cases h
        rw [List.map_cons, ← bls_reps e2 k]
  | .non :: _, _, _, e, _ => by cases e
  | .int _ :: _, _, _, e, _ => by cases e
  | .str _ :: _, _, _, e, _ => by cases e
  | .tup _ :: _, _, _, e, _ => by cases e
  | .lst _ :: _, _, _, e, _ => by cases e
  | .dct _ :: _, _, _, e, _ => by cases e
  | .set _ :: _, _, _, e, _ => by cases e
  | .ins _ _ :: _, _, _, e, _ => by cases e
  | .hand :: _, _, _, e, _ => by cases e
  | .clo _ _ :: _, _, _, e, _ => by cases e
theorem ints_reps {K : PySem.W.Frag} {g : Gh} : ∀ {xs : List D} {bs : List Int} {vs : List V}, ints? xs = some bs → Reps K T g xs vs → vs = bs.map V.int
  | [], _, _, e, r => by cases e; cases r; rfl
  | .int b :: xs, bs, _, e, r => by
    unfold ints? at e
    cases e2 : ints? xs with
    | none => rw [e2] at e; cases e
    | some bs' =>
      rw [e2] at e
      cases e
      cases r with
      | cons h k =>
        cases h
        rw [List.map_cons, ← ints_reps e2 k]
  | .non :: _, _, _, e, _ => by cases e
  | .bl _ :: _, _, _, e, _ => by cases e
  | .str _ :: _, _, _, e, _ => by cases e
  | .tup _ :: _, _, _, e, _ => by cases e
  | .lst _ :: _, _, _, e, _ => by cases e
  | .dct _ :: _, _, _, e, _ => by cases e
  | .set _ :: _, _, _, e, _ => by cases e
  | .ins _ _ :: _, _, _, e, _ => by cases e
  | .hand :: _, _, _, e, _ => by cases e
  | .clo _ _ :: _, _, _, e, _ => by cases e
theorem cr_mall (hc : X.calm = true) : CallR X (.builtin "all") (rBi X.K T biAll) := by
  intro pins s σ H xs us Q I r ⟨g, st, ds, c, w, rs, e, q⟩
  unfold biAll at e
  split at e
  · rename_i xs'
    obtain ⟨bs, e1, e2⟩ := Option.map_eq_some_iff.mp e
    subst e2
    obtain ⟨v, rfl, rv⟩ := breps1 rs
    obtain ⟨pa, va, rfl, ha, ka⟩ := brep_lst w rv
    have := bls_reps e1 ka
    subst this
    exact cr_all hc pins s σ H _ us Q I r ⟨pa, bs, rfl, .inl (.inl ha), q g H _ (.refl g H) w (.bl _)⟩
  · cases e
theorem cr_many (hc : X.calm = true) : CallR X (.builtin "any") (rBi X.K T biAny) := by
  intro pins s σ H xs us Q I r ⟨g, st, ds, c, w, rs, e, q⟩
  unfold biAny at e
  split at e
  · rename_i xs'
    obtain ⟨bs, e1, e2⟩ := Option.map_eq_some_iff.mp e
    subst e2
    obtain ⟨v, rfl, rv⟩ := breps1 rs
    obtain ⟨pa, va, rfl, ha, ka⟩ := brep_lst w rv
    have := bls_reps e1 ka
    subst this
    exact cr_any hc pins s σ H _ us Q I r ⟨pa, bs, rfl, .inl (.inl ha), q g H _ (.refl g H) w (.bl _)⟩
  · cases e
theorem cr_msum (hc : X.calm = true) : CallR X (.builtin "sum") (rBi X.K T biSum) := by
  intro pins s σ H xs us Q I r ⟨g, st, ds, c, w, rs, e, q⟩
  unfold biSum at e
  split at e
  · rename_i xs'
    obtain ⟨bs, e1, e2⟩ := Option.map_eq_some_iff.mp e
    subst e2
    obtain ⟨v, rfl, rv⟩ := breps1 rs
    obtain ⟨pa, va, rfl, ha, ka⟩ := brep_lst w rv
    have := ints_reps e1 ka
    subst this
    exact cr_sum hc pins s σ H _ us Q I r ⟨pa, bs, rfl, .inl (.inl ha), q g H _ (.refl g H) w (.int _)⟩
  · cases e
theorem cr_mabs : CallR X (.builtin "abs") (rBi X.K T biAbs) := by
  intro pins s σ H xs us Q I r ⟨g, st, ds, c, w, rs, e, q⟩
  unfold biAbs at e
  split at e
  · cases e
    obtain ⟨v, rfl, rv⟩ := breps1 rs
    cases brep_int rv
    exact call_abs pins s σ H _ us Q I r ⟨_, rfl, q g H _ (.refl g H) w (.int _)⟩
  · cases e
theorem cr_mint : CallR X (.type "int") (rBi X.K T biInt) := by
  intro pins s σ H xs us Q I r ⟨g, st, ds, c, w, rs, e, q⟩
  unfold biInt at e
  split at e
  · cases e
    obtain ⟨v, rfl, rv⟩ := breps1 rs
    cases brep_int rv
    exact call_int1 pins s σ H _ us Q I r (.inl ⟨_, rfl, q g H _ (.refl g H) w (.int _)⟩)
  · cases e
    obtain ⟨v, rfl, rv⟩ := breps1 rs
    cases brep_bl rv
    exact call_int1 pins s σ H _ us Q I r (.inr ⟨_, rfl, q g H _ (.refl g H) w (.int _)⟩)
  · cases e
theorem minI_le : ∀ (ns : List Int) (n : Int), minI n ns ≤ n ∧ (∀ m ∈ ns, minI n ns ≤ m) ∧ (minI n ns = n ∨ minI n ns ∈ ns)
  | [], n => ⟨Int.le_refl n, by simp, .inl rfl⟩
  | m :: r, n => by
    by_cases h : m < n
    · obtain ⟨h1, h2, h3⟩ := minI_le r m
      have e : minI n (m :: r) = minI m r := by show minI (if m < n then m else n) r = _; rw [if_pos h]
      rw [e]
      refine ⟨by omega, fun k hk => ?_, .inr ?_⟩
      · rcases List.mem_cons.mp hk with rfl | hk
        · exact h1
        · exact h2 k hk
      · rcases h3 with h3 | h3
        · rw [h3]; exact List.mem_cons_self
        · exact List.mem_cons_of_mem _ h3
    · obtain ⟨h1, h2, h3⟩ := minI_le r n
      have e : minI n (m :: r) = minI n r := by show minI (if m < n then m else n) r = _; rw [if_neg h]
      rw [e]
      refine ⟨h1, fun k hk => ?_, h3.imp id (List.mem_cons_of_mem _)⟩
      rcases List.mem_cons.mp hk with rfl | hk
      · omega
      · exact h2 k hk
theorem maxI_le : ∀ (ns : List Int) (n : Int), n ≤ maxI n ns ∧ (∀ m ∈ ns, m ≤ maxI n ns) ∧ (maxI n ns = n ∨ maxI n ns ∈ ns)
  | [], n => ⟨Int.le_refl n, by simp, .inl rfl⟩
  | m :: r, n => by
    by_cases h : n < m
    · obtain ⟨h1, h2, h3⟩ := maxI_le r m
      have e : maxI n (m :: r) = maxI m r := by show maxI (if n < m then m else n) r = _; rw [if_pos h]
      rw [e]
      refine ⟨by omega, fun k hk => ?_, .inr ?_⟩
      · rcases List.mem_cons.mp hk with rfl | hk
        · exact h1
        · exact h2 k hk
      · rcases h3 with h3 | h3
        · rw [h3]; exact List.mem_cons_self
        · exact List.mem_cons_of_mem _ h3
    · obtain ⟨h1, h2, h3⟩ := maxI_le r n
      have e : maxI n (m :: r) = maxI n r := by show maxI (if n < m then m else n) r = _; rw [if_neg h]
      rw [e]
      refine ⟨h1, fun k hk => ?_, h3.imp id (List.mem_cons_of_mem _)⟩
      rcases List.mem_cons.mp hk with rfl | hk
      · omega
      · exact h2 k hk
theorem cr_mmin (hc : X.calm = true) : CallR X (.builtin "min") (rBi X.K T biMin) := by
  intro pins s σ H xs us Q I r ⟨g, st, ds, c, w, rs, e, q⟩
  unfold biMin at e
  split at e
  · rename_i y ys
    split at e
    · rename_i n ns e1
      cases e
      obtain ⟨v, rfl, rv⟩ := breps1 rs
      obtain ⟨pa, va, rfl, ha, ka⟩ := brep_lst w rv
      have := ints_reps e1 ka
      subst this
      refine cr_min hc pins s σ H _ us Q I r ⟨pa, n :: ns, rfl, .inl (.inl ha), by simp, fun m hm hl => ?_⟩
      obtain ⟨a1, a2, a3⟩ := minI_le ns n
      have : m = minI n ns := by
        have b1 := hl (minI n ns) (a3.elim (fun z => by rw [z]; exact List.mem_cons_self) fun z => List.mem_cons_of_mem _ z)
        have b2 : minI n ns ≤ m := by
          rcases List.mem_cons.mp hm with rfl | hm
          · exact a1
          · exact a2 m hm
        omega
      subst this
      exact q g H _ (.refl g H) w (.int _)
    · cases e
  · cases e
    obtain ⟨v, u, rfl, rv, ru⟩ := breps2 rs
    cases brep_int rv; cases brep_int ru
    exact call_min2 hc pins s σ H _ us Q I r ⟨_, _, rfl, q g H _ (.refl g H) w (.int _)⟩
  · cases e
theorem cr_mmax (hc : X.calm = true) : CallR X (.builtin "max") (rBi X.K T biMax) := by
  intro pins s σ H xs us Q I r ⟨g, st, ds, c, w, rs, e, q⟩
  unfold biMax at e
  split at e
  · rename_i y ys
    split at e
    · rename_i n ns e1
      cases e
      obtain ⟨v, rfl, rv⟩ := breps1 rs
      obtain ⟨pa, va, rfl, ha, ka⟩ := brep_lst w rv
      have := ints_reps e1 ka
      subst this
      refine cr_max hc pins s σ H _ us Q I r ⟨pa, n :: ns, rfl, .inl (.inl ha), by simp, fun m hm hl => ?_⟩
      obtain ⟨a1, a2, a3⟩ := maxI_le ns n
      have : m = maxI n ns := by
        have b1 := hl (maxI n ns) (a3.elim (fun z => by rw [z]; exact List.mem_cons_self) fun z => List.mem_cons_of_mem _ z)
        have b2 : m ≤ maxI n ns := by
          rcases List.mem_cons.mp hm with rfl | hm
          · exact a1
          · exact a2 m hm
        omega
      subst this
      exact q g H _ (.refl g H) w (.int _)
    · cases e
  · cases e
    obtain ⟨v, u, rfl, rv, ru⟩ := breps2 rs
    cases brep_int rv; cases brep_int ru
    exact call_max2 hc pins s σ H _ us Q I r ⟨_, _, rfl, q g H _ (.refl g H) w (.int _)⟩
  · cases e

end
end Mp

set_option Elab.async false
set_option linter.all false
set_option maxRecDepth 100000
set_option maxHeartbeats 4000000
/-! Methods of built-in types, fields, isinstance. -/
namespace Mp
open PySem PySem.Spec PyProof.Rows L2

section
variable {S : Type} {X : Cx} {T : Tab S} {XT : ExcT} {E : XK} {B : Hp}
theorem brep_tupD {K : PySem.W.Frag} {g : Gh} {H : Hp} {xs : List D} {v : V} {s : S} (w : Wd K T g s H) (r : BRep K T g H (.tup xs) v) : ∃ a vs, v = .ref a ∧ TupD K H a vs ∧ Reps K T g xs vs := by
  rcases r with r | ⟨f, r, _⟩
  · cases r with
    | tup h k => exact ⟨_, _, rfl, h.mono w.sub, k⟩
  · cases r
def rMt (K : PySem.W.Frag) (T : Tab S) (f : List D → Option D) (d : D) : V → List V → Hp → VK → Prop := fun x vs H Q => ∃ (g : Gh) (s : S) (ds : List D) (c : D), Wd K T g s H ∧ BRep K T g H d x ∧ BReps K T g H ds vs ∧ f (d :: ds) = some c ∧
  ∀ g' H' v, Step g H g' H' → Wd K T g' s H' → Rep K T g' c v → Q v H'
/-- a method by the receiver's kind -/
structure MtOk (X : Cx) (T : Tab S) (name : Str) (rc : D → Bool) (f : List D → Option D) : Prop where
  run : ∀ (g : Gh) (s : S) (H : Hp) (d : D) (v : V), Wd X.K T g s H → BRep X.K T g H d v → rc d = true →
    ∃ (t : String) (id : String), PlainAttrs t ∧ PySem.Slot t name id ∧ typeOf (.builtin id) = pure (.type "method_descriptor") ∧
      (∀ pins σ (s : Shared) u, Inv X pins σ H s → RelV v u → s.TypeIs u t ∧ ∀ a, u = .ref a → ∃ ob, s.heap.get? a = some ob ∧ ob.dict = none) ∧ MtR X id (rMt X.K T f d)
theorem me_meth {o e : Expr} {es : List Expr} {name : Str} {apos cpos : Pos} {mo : Env → M S D} {ms : Env → M S (List D)} {rc : D → Bool} {f : List D → Option D} (ok : T.Ok) (hm : MtOk X T name rc f) (ho : PE X o (tB X.K T XT E B mo)) (ha : PA X (e :: es) (tLB X.K T XT E B ms))
    (hbase : attributeBase o name X.env (eval o X.env) = eval o X.env)
    (hfew : ((backTo cpos (starEach (e :: es) X.env)).all (fun x => !x.1) && (backToKw cpos (keywordEach [] X.env)).all (fun x => x.1.isSome)
      && decide ((e :: es).length + ([] : List Keyword).length + (if ([] : List Keyword).isEmpty then 0 else 1) < 30)) = true)
    (hline : (apos.endLine == cpos.line) = true) (hs : starEach (e :: es) X.env = (false, eval e X.env) :: starEach es X.env) (hplain : (backTo cpos (starEach es X.env)).any (·.1) = false) :
    PE X (.Call (.Attribute o name apos) (e :: es) [] cpos) (tE X.K T XT E B fun env => M.bind (mo env) fun x => M.need (rc x) (M.bind (ms env) fun xs => M.opt (f (x :: xs)))) := by
  refine ⟨fun pins s σ H Q I ⟨g, st, env, fp, w, sl, p⟩ => ?_⟩
  refine wpAny_Call_method_late hbase hfew hline rfl (thn (ho.run pins s σ H (fun x H1 => ∃ (g1 : Gh) (s1 : S) (d : D), Wd X.K T g1 s1 H1 ∧ Slots X.K T g1 H1 B env σ fp ∧ BRep X.K T g1 H1 d x ∧ rc d = true ∧
      Post X.K T XT E g1 H1 (M.bind (ms env) (fun xs => M.opt (f (d :: xs))) s1) fun g' _ H' d => ∀ v, Rep X.K T g' d v → Q v H') I ?_) fun v s1 ⟨x, H1, I1, r1, g1, st1, d, w1, sl1, rx, hrc, p1⟩ => ?_)
  · exact ⟨g, st, env, fp, w, sl, p.bind.imp fun g1 s1 H1 d ⟨w1, st1, p1⟩ v r => ⟨g1, s1, d, w1, sl.step ok st1, r, p1.need.1, p1.need.2⟩⟩
  · have hA := ha.run cpos pins s1 σ H1 (fun vs H2 => ∃ (g2 : Gh) (s2 : S) (ds : List D) (c : D), Wd X.K T g2 s2 H2 ∧ Step g1 H1 g2 H2 ∧ BReps X.K T g2 H2 ds vs ∧ f (d :: ds) = some c ∧ ∀ g' H' v, Step g2 H2 g' H' → Wd X.K T g' s2 H' → Rep X.K T g' c v → Q v H') I1 ⟨g1, st1, env, fp, w1, sl1,
      p1.bind.imp fun g2 s2 H2 ds ⟨w2, st2, p3⟩ vs r => by
        obtain ⟨c, e, q⟩ := Post.opt w2 p3
        exact ⟨g2, s2, ds, c, w2, st2, r, e, fun g' H' v st' w' r => by rw [e] at p3; exact p3 g' H' st' w' v r⟩⟩
    obtain ⟨t, id, pa, slot, hty, ty, mt⟩ := hm.run g1 st1 H1 d x w1 rx hrc
    obtain ⟨h1, h2⟩ := ty pins σ s1 v I1 r1
    refine ⟨t, id, pa, slot, hty, h1, h2, ?_⟩
    rw [hs] at hA ⊢
    refine Calls.callWith_builtin (by show (false || (backTo cpos (starEach es X.env)).any (·.1)) = false; rw [hplain] <;> rfl) (Calls.evalArgs_plain ?_)
    exact thn hA fun us s2 ⟨vs, H2, I2, r2, g2, s2', ds, c, w2, st2, rs, e, q2⟩ => mt pins s2 σ H2 x vs v us Q I2 r1 r2 ⟨g2, s2', ds, c, w2, rx.step ok st2, rs, e, q2⟩
theorem ty_tup {H : Hp} {a : Addr} {vs : List V} (h : TupD X.K H a vs) : ∀ (pins : List (Addr × Obj)) (σ : L2.St) (s : Shared) (u : Value), Inv X pins σ H s → RelV (.ref a) u → s.TypeIs u "tuple" ∧ ∀ a, u = .ref a → ∃ ob, s.heap.get? a = some ob ∧ ob.dict = none := by
  intro pins σ s u I r
  cases r
  obtain ⟨o, h1, h2, h3⟩ := h.obj I
  exact ⟨⟨o, h1, h2⟩, fun b e => by cases e; exact ⟨o, h1, h3⟩⟩
theorem ty_lst {H : Hp} {a : Addr} {vs : List V} (h : H a = some (.lst vs)) : ∀ (pins : List (Addr × Obj)) (σ : L2.St) (s : Shared) (u : Value), Inv X pins σ H s → RelV (.ref a) u → s.TypeIs u "list" ∧ ∀ a, u = .ref a → ∃ ob, s.heap.get? a = some ob ∧ ob.dict = none := by
  intro pins σ s u I r
  cases r
  obtain ⟨z, its, n, rv, hl, e⟩ := I.lstM h
  exact ⟨⟨_, e, rfl⟩, fun b e2 => by cases e2; exact ⟨_, e, rfl⟩⟩
/-- the parts that an index or a count looks at -/
theorem seq_reads {K : PySem.W.Frag} {pins : List (Addr × Obj)} {σ : L2.St} {H : Hp} {s : Shared} {g : Gh} {st : S} {xs : List D} {y : D} {x : V} {vs : List V} {v : Value} {us : List Value} (hK : X.K = K) (I : Inv X pins σ H s) (w : Wd K T g st H) (ra : BRep K T g H (.tup xs) x ∨ BRep K T g H (.lst xs) x) (rb : BReps K T g H [y] vs) (rx : RelV x v) (rs : Vals vs us) (h1 : y.ok = true) (h2 : pls xs = true) :
    ∃ u, us = [u] ∧ ∃ bs, Reads s.heap u y.py bs := by
  subst hK
  obtain ⟨vy, rfl, ry⟩ := breps1 rb
  cases rs with
  | cons ry2 rn =>
    cases rn
    exact ⟨_, rfl, brep_reads I w.sub ry ry2 (ok_pl h1)⟩
theorem getD_at {its : Array Value} {j : Nat} (h : j < its.size) : its.getD j .none = its[j] := by simp [h]
theorem mt_mindex (hu : X.A.units + 64 < cLine) : MtOk X T "index" (isRcv .index) biIndex where
  run := fun g st H d v w r hr => by
    cases d with
    | tup xs =>
      obtain ⟨pa, va, rfl, ha, ka⟩ := brep_tupD w r
      refine ⟨"tuple", "tuple.index", PySem.F.plainAttrs_tuple, PySem.F.slot_tuple_index, PySem.F.type_tuple_index, ty_tup ha, ?_⟩
      intro pins s σ H x vs v us Q I rx rs ⟨g, st, ds, c, w, ra, rb, e, q⟩
      obtain ⟨y, hds, h, j, e1, e2⟩ : ∃ y, ds = [y] ∧ (y.ok && (D.tup xs).ok) = true ∧ ∃ j, SeqAt.dataPlace (pys xs) y.py = some j ∧ c = .int (j : Nat) := by
        match ds, e with
        | [y], e =>
          refine ⟨y, rfl, ?_⟩
          dsimp only [biIndex] at e
          split at e
          · rename_i h
            obtain ⟨j, e1, e2⟩ := Option.map_eq_some_iff.mp e
            exact ⟨h, j, e1, e2.symm⟩
          · cases e
      subst hds e2
      rw [Bool.and_eq_true] at h
      obtain ⟨vy, rfl, ry⟩ := breps1 rb
      cases rs with
      | cons ry2 rn =>
        cases rn
        obtain ⟨pa, va, rfl, ha, ka⟩ := brep_tupD w ra
        cases rx
        obtain ⟨its, rv, ⟨o, ho, hc, n, hdt⟩, hz⟩ := I.tuple ha.sq
        have hp : pls xs = true := ok_pl h.2
        obtain ⟨as, r4⟩ := reps_reads I w.sub xs _ its ka rv hp
        obtain ⟨bs, r2⟩ := brep_reads I w.sub ry ry2 (ok_pl h.1)
        have := ok_dp h.1
        obtain ⟨cls, dd', data, sls⟩ := o
        simp only at hc hdt
        subst hc hdt
        have r5 : ReadsAll s.heap its.toArray.toList (pys xs) as := by simpa using r4
        obtain ⟨hj, h5, h6⟩ := SeqAt.hit_at r5 (pls_plain _) e1
        refine call_meets PySem.F.slot_tuple_index ⟨_, ho, rfl⟩ PySem.F.entry_tuple_index (PySem.F.args_tuple_index_2 _ _)
          (SeqAt.tuple_index2_found pa its.toArray n dd' sls _ (fun j => PyData.eqv (SeqAt.readOf s.heap (its.toArray.getD j .none)) y.py) j hj (Nat.zero_le _) hj (by rw [getD_at hj]; exact h5) fun m hm _ hmj => by rw [getD_at hm]; exact h6 m hm hmj)
          ⟨ho, fun i hi => ?_, ⟨.int (j : Nat), H, I.tok _, ⟨_, rfl⟩, q g H _ (.refl g H) w (.int _)⟩⟩
        rw [getD_at hi]
        exact SeqAt.items_plain r5 r2 (pls_plain _) (pl_plain _) (by omega) its.toArray[i] (by simp)
    | lst xs =>
      obtain ⟨pa, va, rfl, ha, ka⟩ := brep_lst w r
      refine ⟨"list", "list.index", PySem.F.plainAttrs_list, PySem.F.slot_list_index, PySem.F.type_list_index, ty_lst ha, ?_⟩
      intro pins s σ H x vs v us Q I rx rs ⟨g, st, ds, c, w, ra, rb, e, q⟩
      obtain ⟨y, hds, h, j, e1, e2⟩ : ∃ y, ds = [y] ∧ (y.ok && (D.lst xs).ok) = true ∧ ∃ j, SeqAt.dataPlace (pys xs) y.py = some j ∧ c = .int (j : Nat) := by
        match ds, e with
        | [y], e =>
          refine ⟨y, rfl, ?_⟩
          dsimp only [biIndex] at e
          split at e
          · rename_i h
            obtain ⟨j, e1, e2⟩ := Option.map_eq_some_iff.mp e
            exact ⟨h, j, e1, e2.symm⟩
          · cases e
      subst hds e2
      rw [Bool.and_eq_true] at h
      obtain ⟨vy, rfl, ry⟩ := breps1 rb
      cases rs with
      | cons ry2 rn =>
        cases rn
        obtain ⟨pa, va, rfl, ha, ka⟩ := brep_lst w ra
        cases rx
        obtain ⟨z, its, n, rv, hl, ho⟩ := I.lstM ha
        have hp : pls xs = true := ok_pl h.2
        obtain ⟨as, r4⟩ := reps_reads I w.sub xs _ its ka rv hp
        obtain ⟨bs, r2⟩ := brep_reads I w.sub ry ry2 (ok_pl h.1)
        have := ok_dp h.1
        have r5 : ReadsAll s.heap its.toArray.toList (pys xs) as := by simpa using r4
        obtain ⟨hj, h5, h6⟩ := SeqAt.hit_at r5 (pls_plain _) e1
        have hsl := sizeLine_eq
        have hj' : j < its.length := by simpa using hj
        refine call_meets PySem.F.slot_list_index ⟨_, ho, rfl⟩ PySem.F.entry_list_index (PySem.F.args_list_index_2 _ _)
          (SeqAt.list_index2_found pa its.toArray n none #[] _ (fun j => PyData.eqv (SeqAt.readOf s.heap (its.toArray.getD j .none)) y.py) j hj (Nat.zero_le _) (by omega) (by rw [getD_at hj]; exact h5) fun m hm _ hmj => by rw [getD_at hm]; exact h6 m hm hmj)
          ⟨ho, fun i hi => ?_, ⟨.int (j : Nat), H, I.tok _, ⟨_, rfl⟩, q g H _ (.refl g H) w (.int _)⟩⟩
        rw [getD_at hi]
        exact SeqAt.items_plain r5 r2 (pls_plain _) (pl_plain _) (by omega) its.toArray[i] (by simp)
    | _ => cases hr
theorem count_pys (x : PyData) : ∀ xs : List D, ((pys xs).countP fun y => PyData.eqv y x) = xs.countP fun y => PyData.eqv y.py x
  | [] => rfl
  | y :: r => by
    show (y.py :: pys r).countP _ = _
    rw [List.countP_cons, List.countP_cons, count_pys x r]
theorem mt_mcount (hu : X.A.units + 64 < cLine) : MtOk X T "count" (isRcv .count) biCount where
  run := fun g st H d v w r hr => by
    cases d with
    | tup xs =>
      obtain ⟨pa, va, rfl, ha, ka⟩ := brep_tupD w r
      refine ⟨"tuple", "tuple.count", PySem.F.plainAttrs_tuple, PySem.F.slot_tuple_count, PySem.F.type_tuple_count, ty_tup ha, ?_⟩
      intro pins s σ H x vs v us Q I rx rs ⟨g, st, ds, c, w, ra, rb, e, q⟩
      obtain ⟨y, hds, h, e2⟩ : ∃ y, ds = [y] ∧ (y.ok && (D.tup xs).ok) = true ∧ c = .int (xs.countP fun z => PyData.eqv z.py y.py : Nat) := by
        match ds, e with
        | [y], e =>
          refine ⟨y, rfl, ?_⟩
          dsimp only [biCount] at e
          split at e
          · rename_i h
            cases e
            exact ⟨h, rfl⟩
          · cases e
      subst hds e2
      rw [Bool.and_eq_true] at h
      obtain ⟨vy, rfl, ry⟩ := breps1 rb
      cases rs with
      | cons ry2 rn =>
        cases rn
        obtain ⟨pa, va, rfl, ha, ka⟩ := brep_tupD w ra
        cases rx
        obtain ⟨its, rv, ht, hz⟩ := I.tuple ha.sq
        obtain ⟨as, r4⟩ := reps_reads I w.sub xs _ its ka rv (ok_pl h.2)
        obtain ⟨bs, r2⟩ := brep_reads I w.sub ry ry2 (ok_pl h.1)
        have := ok_dp h.1
        have r5 : ReadsAll s.heap its.toArray.toList (pys xs) as := by simpa using r4
        refine SeqAt.count_tuple_data ht r5 r2 (pls_plain _) (pl_plain _) (by omega) ?_
        rw [count_pys]
        exact ⟨.int _, H, I.tok _, ⟨_, rfl⟩, q g H _ (.refl g H) w (.int _)⟩
    | lst xs =>
      obtain ⟨pa, va, rfl, ha, ka⟩ := brep_lst w r
      refine ⟨"list", "list.count", PySem.F.plainAttrs_list, PySem.F.slot_list_count, PySem.F.type_list_count, ty_lst ha, ?_⟩
      intro pins s σ H x vs v us Q I rx rs ⟨g, st, ds, c, w, ra, rb, e, q⟩
      obtain ⟨y, hds, h, e2⟩ : ∃ y, ds = [y] ∧ (y.ok && (D.lst xs).ok) = true ∧ c = .int (xs.countP fun z => PyData.eqv z.py y.py : Nat) := by
        match ds, e with
        | [y], e =>
          refine ⟨y, rfl, ?_⟩
          dsimp only [biCount] at e
          split at e
          · rename_i h
            cases e
            exact ⟨h, rfl⟩
          · cases e
      subst hds e2
      rw [Bool.and_eq_true] at h
      obtain ⟨vy, rfl, ry⟩ := breps1 rb
      cases rs with
      | cons ry2 rn =>
        cases rn
        obtain ⟨pa, va, rfl, ha, ka⟩ := brep_lst w ra
        cases rx
        obtain ⟨its, rv, ht, hz⟩ := I.list (.inl (.inl ha))
        obtain ⟨as, r4⟩ := reps_reads I w.sub xs _ its ka rv (ok_pl h.2)
        obtain ⟨bs, r2⟩ := brep_reads I w.sub ry ry2 (ok_pl h.1)
        have := ok_dp h.1
        have r5 : ReadsAll s.heap its.toArray.toList (pys xs) as := by simpa using r4
        refine SeqAt.count_list_data ht.isList r5 r2 (pls_plain _) (pl_plain _) (by omega) ?_
        rw [count_pys]
        exact ⟨.int _, H, I.tok _, ⟨_, rfl⟩, q g H _ (.refl g H) w (.int _)⟩
    | _ => cases hr
/-! ### fields -/
/-- the classes as the text has them -/
structure ClsOk (K : PySem.W.Frag) (T : Tab S) : Prop where
  cls : ∀ c C, T.cls c = some C → Cls K C
  no : ∀ c C f, T.cls c = some C → f ∈ T.flds c → NoAttr K C f
  nd : ∀ c, (T.flds c).Nodup
theorem zip_lookup : ∀ {fs : List Str} {vs : List V} {n : Nat} {f : Str} {v : V} {ex : List (Str × V)}, fs.Nodup → fs[n]? = some f → vs[n]? = some v → (fs.zip vs ++ ex).lookup f = some v
  | [], _, _, _, _, _, _, h, _ => by simp at h
  | _ :: _, [], _, _, _, _, _, _, h => by simp at h
  | a :: fs, b :: vs, 0, f, v, ex, _, h1, h2 => by
    simp at h1 h2
    subst h1 h2
    simp [List.lookup]
  | a :: fs, b :: vs, n + 1, f, v, ex, nd, h1, h2 => by
    have hne : f ≠ a := by
      rintro rfl
      exact (List.nodup_cons.mp nd).1 (List.mem_of_getElem? (by simpa using h1))
    have ih := zip_lookup (ex := ex) (List.nodup_cons.mp nd).2 (by simpa using h1) (by simpa using h2)
    show ((a, b) :: (fs.zip vs ++ ex)).lookup f = some v
    rw [List.lookup_cons]
    have : (f == a) = false := beq_eq_false_iff_ne.mpr hne
    rw [this]
    exact ih
theorem me_fld {a : Expr} {f : Str} {pos : Pos} {c n : Nat} {ma : Env → M S D} (ok : T.Ok) (co : ClsOk X.K T) (hf : (T.flds c)[n]? = some f) (ha : PE X a (tE X.K T XT E B ma)) (hb : attributeBase a f X.env (eval a X.env) = eval a X.env) :
    PE X (.Attribute a f pos) (tE X.K T XT E B fun env => M.bind (ma env) fun x => M.opt (fldD c n x)) :=
  pe_imp (pe_fld ha hb) fun σ H Q ⟨g, s, env, fp, w, sl, p⟩ => tE.of ok w sl p fun g1 s1 H1 x v st1 w1 sl1 r1 p1 => by
    obtain ⟨d, e, q⟩ := Post.opt w1 p1
    unfold fldD at e
    split at e
    · split at e
      · rename_i hc
        subst hc
        cases r1 with
        | ins h1 h2 h3 r m =>
          obtain ⟨v, hv, rv⟩ := r.get e
          exact ⟨_, _, _, _, v, rfl, w1.sub _ _ h2, co.cls _ _ h1, co.no _ _ _ h1 (List.mem_of_getElem? hf), zip_lookup (co.nd _) hf hv, q v rv⟩
      · cases e
    · cases e
end
end Mp

set_option Elab.async false
set_option linter.all false
set_option maxRecDepth 100000
set_option maxHeartbeats 4000000
/-! What is walked; comprehensions. -/
namespace Mp
open PySem PySem.Spec PyProof.Rows L2

section
variable {S : Type} {K : PySem.W.Frag} {T : Tab S} {XT : ExcT} {E : XK} {g g' gb : Gh} {H H' B Hb : Hp}
/-- the rest goes on from an older base -/
theorem Post.bind2 {α β : Type} {m : M S α} {f : α → M S β} {s : S} {Q : Gh → S → Hp → β → Prop} (st0 : Step gb Hb g H) (h : Post K T XT E gb Hb (M.bind m f s) Q) :
    Post K T XT E g H (m s) fun g1 s1 H1 a => Wd K T g1 s1 H1 ∧ Step g H g1 H1 ∧ Post K T XT E gb Hb (f a s1) Q := by
  unfold M.bind at h
  cases e : m s with
  | ok a s1 =>
    rw [e] at h
    exact fun g1 H1 st w => ⟨w, st, h⟩
  | exc c fs s1 => rw [e] at h; exact Post.step (α := α) (r := .exc c fs s1) (Q := fun _ _ _ _ => True) st0 h
  | bad => rw [e] at h; exact h
theorem Post.bind_ok {α β : Type} {m : M S α} {f : α → M S β} {s s1 : S} {a : α} {Q : Gh → S → Hp → β → Prop} (e : m s = .ok a s1) (h : Post K T XT E g H (M.bind m f s) Q) : Post K T XT E g H (f a s1) Q := by
  unfold M.bind at h
  rw [e] at h
  exact h
theorem Post.calm {α : Type} {m : M S α} {s : S} {E' : XK} {Q : Gh → S → Hp → α → Prop} (h : Post K T XT E g H (M.calm m s) Q) : Post K T XT E' g H (m s) Q := by
  unfold M.calm at h
  cases e : m s with
  | ok a s1 => rw [e] at h; exact h
  | exc c fs s1 => rw [e] at h; exact h.elim
  | bad => rw [e] at h; exact h.elim
theorem wipeE_length (env : Env) : ∀ vs : List Nat, (wipeE env vs).length = env.length
  | [] => rfl
  | v :: vs => by unfold wipeE; rw [List.length_set, wipeE_length env vs]
theorem wipeE_at {env : Env} {i : Nat} {sl : Slot} : ∀ {vs : List Nat}, (wipeE env vs)[i]? = some sl → (i ∈ vs ∧ sl = .un) ∨ (i ∉ vs ∧ env[i]? = some sl)
  | [], h => .inr ⟨by simp, h⟩
  | v :: vs, h => by
    unfold wipeE at h
    by_cases hi : v = i
    · subst hi
      by_cases hv : v < (wipeE env vs).length
      · rw [List.getElem?_set_self hv] at h; cases h; exact .inl ⟨by simp, rfl⟩
      · rw [List.getElem?_eq_none (by simpa using hv)] at h; cases h
    · rw [List.getElem?_set_ne hi] at h
      rcases wipeE_at h with ⟨h1, h2⟩ | ⟨h1, h2⟩
      · exact .inl ⟨List.mem_cons_of_mem _ h1, h2⟩
      · exact .inr ⟨by simp only [List.mem_cons, not_or]; exact ⟨fun e => hi e.symm, h1⟩, h2⟩
theorem wipe_same (σ : L2.St) (i : Nat) : ∀ vs : List Nat, i ∉ vs → (wipe σ vs)[i]? = σ[i]?
  | [], _ => rfl
  | v :: vs, h => by
    unfold wipe
    rw [List.getElem?_set_ne (fun e => h (by simp [e])), wipe_same σ i vs fun e => h (List.mem_cons_of_mem _ e)]
theorem Slots.wiped {env : Env} {σ : L2.St} {fp : Nat → List Addr} (h : Slots K T g H B env σ fp) (vs : List Nat) : Slots K T g H B (wipeE env vs) (wipe σ vs) (fun i => if i ∈ vs then [] else fp i) where
  len := by rw [wipeE_length, wipe_length]; exact h.len
  at_ := fun i sl e => by
    rcases wipeE_at e with ⟨h1, h2⟩ | ⟨h1, h2⟩
    · subst h2
      have hl : i < (wipe σ vs).length := by
        rw [wipe_length, ← h.len, ← wipeE_length env vs]
        exact (List.getElem?_eq_some_iff.mp e).1
      exact ⟨_, List.getElem?_eq_getElem hl, by rw [if_pos h1]; exact .un⟩
    · obtain ⟨o, a, b⟩ := h.at_ i sl h2
      exact ⟨o, by rw [wipe_same σ i vs h1]; exact a, by rw [if_neg h1]; exact b⟩
  nd := fun i => by
    by_cases hi : i ∈ vs
    · rw [if_pos hi]; exact List.nodup_nil
    · rw [if_neg hi]; exact h.nd i
  dis := fun i j hij p hp => by
    by_cases hi : i ∈ vs
    · rw [if_pos hi] at hp; simp at hp
    · rw [if_neg hi] at hp
      by_cases hj : j ∈ vs
      · rw [if_pos hj]; simp
      · rw [if_neg hj]; exact h.dis i j hij p hp
  own := fun i => by
    by_cases hi : i ∈ vs
    · rw [if_pos hi]; exact .nil
    · rw [if_neg hi]; exact h.own i
theorem wipe_set {σ : L2.St} {i : Nat} {o : Option V} : ∀ {vs : List Nat}, i ∈ vs → wipe (σ.set i o) vs = wipe σ vs
  | v :: vs, h => by
    unfold wipe
    by_cases hi : i ∈ vs
    · rw [wipe_set hi]
    · have e : v = i := by
        rcases List.mem_cons.mp h with e | e
        · exact e.symm
        · exact absurd e hi
      subst e
      rw [wipe_set_ne hi]
      simp
where wipe_set_ne {σ : L2.St} {i : Nat} {o : Option V} : ∀ {vs : List Nat}, i ∉ vs → wipe (σ.set i o) vs = (wipe σ vs).set i o
  | [], _ => rfl
  | v :: vs, h => by
    unfold wipe
    rw [wipe_set_ne (fun e => h (List.mem_cons_of_mem _ e)), List.set_comm]
    exact fun e => h (by simp [e])
theorem wipe_wipe (σ : L2.St) : ∀ vs ws : List Nat, (∀ i ∈ vs, i ∈ ws) → wipe (wipe σ vs) ws = wipe σ ws
  | [], _, _ => rfl
  | v :: vs, ws, h => by
    show wipe ((wipe σ vs).set v none) ws = _
    rw [wipe_set (h v (by simp)), wipe_wipe σ vs ws fun i hi => h i (List.mem_cons_of_mem _ hi)]

/-! ### targets -/
/-- a new tuple is known by its parts alone: for a target of several names -/
def ItOk (K : PySem.W.Frag) (T : Tab S) (g : Gh) (H : Hp) (tg : Tg) (d : D) (v : V) : Prop :=
  Rep K T g d v ∨ (∃ ts, tg = .tup ts) ∧ ∃ ds a vs, d = .tup ds ∧ v = .ref a ∧ SqT K H a vs ∧ Reps K T g ds vs
def tG (K : PySem.W.Frag) (T : Tab S) (B : Hp) (tg : Tg) : TG := fun v σ H Q => ∃ g s env fp d env', Wd K T g s H ∧ Slots K T g H B env σ fp ∧ ItOk K T g H tg d v ∧ tg.store d env = some env' ∧
  ∀ σ' fp', Slots K T g H B env' σ' fp' → (∀ vs, (∀ i ∈ tg.places, i ∈ vs) → wipe σ' vs = wipe σ vs) → Q σ' H
def tGs (K : PySem.W.Frag) (T : Tab S) (B : Hp) (ts : List Tg) : TGs := fun us σ H Q => ∃ g s env fp ds env', Wd K T g s H ∧ Slots K T g H B env σ fp ∧ Reps K T g ds us ∧ stores ts ds env = some env' ∧
  ∀ σ' fp', Slots K T g H B env' σ' fp' → (∀ vs, (∀ i ∈ placess ts, i ∈ vs) → wipe σ' vs = wipe σ vs) → Q σ' H
end
section
variable {S : Type} {X : Cx} {T : Tab S} {XT : ExcT} {E : XK} {B : Hp}
theorem pg_imp {e : Expr} {t t' : TG} (h : PG X e t) (i : ∀ v σ H Q, t' v σ H Q → t v σ H Q) : PG X e t' := ⟨fun pins s σ H v u Q I r q => h.run pins s σ H v u Q I r (i v σ H Q q)⟩
theorem pgs_imp {e : List Expr} {t t' : TGs} (h : PGs X e t) (i : ∀ v σ H Q, t' v σ H Q → t v σ H Q) : PGs X e t' := ⟨fun pins s σ H v u Q I r q => h.run pins s σ H v u Q I r (i v σ H Q q)⟩
theorem mg_one {i : Nat} {e : Expr} (h : PG X e (gName i)) : PG X e (tG X.K T B (.one i)) :=
  pg_imp h fun v σ H Q ⟨g, s, env, fp, d, env', w, sl, r, e, q⟩ => by
    have e' : some (env.set i (.fz d)) = some env' := e
    cases e'
    rcases r with r | ⟨⟨ts, h⟩, _⟩
    · exact q _ _ (sl.setF r) fun vs hv => wipe_set (hv i (by simp [Tg.places]))
    · cases h
theorem mgs_nil : PGs X [] (tGs X.K T B []) := pgs_imp pgs_nil fun v σ H Q ⟨g, s, env, fp, ds, env', w, sl, r, e, q⟩ => by
  cases r with
  | nil => cases e; exact ⟨rfl, q σ fp sl fun _ _ => rfl⟩
  | cons _ _ => cases e
theorem mgs_cons {e : Expr} {es : List Expr} {t : Tg} {ts : List Tg} (h1 : PG X e (tG X.K T B t)) (h2 : PGs X es (tGs X.K T B ts)) (hs : (assignEach (e :: es) X.env).map (·.2) = assign e X.env :: (assignEach es X.env).map (·.2)) : PGs X (e :: es) (tGs X.K T B (t :: ts)) :=
  pgs_imp (pgs_cons h1 h2 hs) fun v σ H Q ⟨g, s, env, fp, ds, env', w, sl, r, e, q⟩ => by
    cases r with
    | nil => cases e
    | cons r rr =>
      have e' : ((t.store _ env).bind fun env' => stores ts _ env') = some env' := e
      obtain ⟨env1, e1, e2⟩ := Option.bind_eq_some_iff.mp e'
      refine ⟨_, _, rfl, g, s, env, fp, _, env1, w, sl, .inl r, e1, fun σ1 fp1 sl1 hw1 => ?_⟩
      refine ⟨g, s, env1, fp1, _, env', w, sl1, rr, e2, fun σ2 fp2 sl2 hw2 => q σ2 fp2 sl2 fun vs hv => ?_⟩
      rw [hw2 vs fun i hi => hv i (List.mem_append_right _ hi), hw1 vs fun i hi => hv i (List.mem_append_left _ hi)]
theorem stores_length : ∀ {ts : List Tg} {ds : List D} {env env' : Env}, stores ts ds env = some env' → ds.length = ts.length
  | [], [], _, _, _ => rfl
  | [], _ :: _, _, _, h => by cases h
  | _ :: _, [], _, _, h => by cases h
  | t :: ts, d :: ds, env, env', h => by
    have e' : ((t.store d env).bind fun env' => stores ts ds env') = some env' := h
    obtain ⟨env1, e1, e2⟩ := Option.bind_eq_some_iff.mp e'
    rw [List.length_cons, List.length_cons, stores_length e2]
theorem mg_tup {es : List Expr} {k : Nat} {pos : Pos} {ts : List Tg} (hc : X.calm = true) (h : PGs X es (tGs X.K T B ts)) (hn : (assignEach es X.env).length = ts.length) (hst : (assignEach es X.env).findIdx? (·.1) = none) : PG X (.Tuple es k pos) (tG X.K T B (.tup ts)) := by
  refine ⟨fun pins s σ H v u Q I rv ⟨g, st, env, fp, d, env', w, sl, r, e, q⟩ => ?_⟩
  have key : (∃ ds a vs, d = .tup ds ∧ v = .ref a ∧ SqT X.K H a vs ∧ Reps X.K T g ds vs) ∨ ∃ ds a vs, d = .lst ds ∧ v = .ref a ∧ H a = some (.lst vs) ∧ Reps X.K T g ds vs := by
    rcases r with r | ⟨_, r⟩
    · cases d with
      | tup ds => cases r with | tup h k => exact .inl ⟨_, _, _, rfl, rfl, sqT_mono w.sub h.sq, k⟩
      | lst ds => cases r with | lst h k => exact .inr ⟨_, _, _, rfl, rfl, w.sub _ _ h, k⟩
      | _ => cases e
    · exact .inl r
  rcases key with ⟨ds, a, vs, rfl, rfl, hq, rr⟩ | ⟨ds, a, vs, rfl, rfl, hq, rr⟩
  · have e' : stores ts ds env = some env' := e
    exact (pg_tup hc h hn hst).run pins s σ H _ u Q I rv ⟨a, vs, rfl, hq, by rw [← rr.length, stores_length e'], g, st, env, fp, ds, env', w, sl, rr, e', fun σ' fp' sl' hw => q σ' fp' sl' hw⟩
  · have e' : stores ts ds env = some env' := e
    exact (pg_lst hc h hn hst).run pins s σ H _ u Q I rv ⟨a, vs, rfl, .inl (.inl hq), by rw [← rr.length, stores_length e'], g, st, env, fp, ds, env', w, sl, rr, e', fun σ' fp' sl' hw => q σ' fp' sl' hw⟩
end

/-! ### a new list, nobody's yet -/
section
variable {S : Type} (K : PySem.W.Frag) (T : Tab S) (XT : ExcT) (E : XK)
def tF (B : Hp) (m : Env → M S D) : TE := fun σ H Q => ∃ g s env fp, Wd K T g s H ∧ Slots K T g H B env σ fp ∧ Post K T XT E g H (m env s) fun g' _ H' d =>
  ∀ p vs ds, d = .lst ds → H p = none → H' p = some (.lst vs) → g'.F p = none → g'.C p = none → p ≠ g'.ha → Reps K T g' ds vs → Q (.ref p) H'
end
section
variable {S : Type} {K : PySem.W.Frag} {T : Tab S} {XT : ExcT} {E : XK} {g g' gb : Gh} {H H' B Hb : Hp}
/-- what is nobody's yet is made to last -/
theorem Wd.frz {s : S} (ok : T.Ok) (w : Wd K T g s H) {p : Addr} {o : HO} (h : H p = some o) (ht : ∀ ps, o ≠ .tbl ps) (hF : g.F p = none) (hC : g.C p = none) (hH : p ≠ g.ha) : Wd K T (g.put p o) s H where
  sub := fun a u e => by
    have e' : upd g.F p o a = some u := e
    by_cases q : a = p
    · subst q; rw [upd_same] at e'; cases e'; exact h
    · rw [upd_ne q] at e'; exact w.sub a u e'
  cache := fun l t e => by
    obtain ⟨kvs, a, b⟩ := w.cache l t e
    exact ⟨kvs, a, ok.cache (Gh.le_put hF) b⟩
  hand := by
    obtain ⟨vs, a, b⟩ := w.hand
    exact ⟨vs, a, ok.hand (Gh.le_put hF) b⟩
  sepC := fun l t e => by
    have hne : l ≠ p := by
      rintro rfl
      have e' : g.C l = some t := e
      rw [hC] at e'; cases e'
    exact ⟨by show upd g.F p o l = none; rw [upd_ne hne]; exact (w.sepC l t e).1, (w.sepC l t e).2⟩
  sepH := by
    show upd g.F p o g.ha = none
    rw [upd_ne (Ne.symm hH)]; exact w.sepH
  tabs := w.tabs.mono (fun _ _ e => e) (fun q ps e n => by show upd g.F p o q = none; rw [upd_ne (fun z => by rw [z, h] at e; exact ht ps (Option.some.inj e))]; exact n) (Gh.le_put hF)
theorem Step.frz (st : Step gb Hb g H) {p : Addr} {o : HO} (hb : Hb p = none) (hF : g.F p = none) : Step gb Hb (g.put p o) H where
  le := st.le.trans (Gh.le_put hF)
  pres := st.pres
  stay := st.stay
  newC := st.newC
  newF := fun a u e => by
    have e' : upd g.F p o a = some u := e
    by_cases q : a = p
    · subst q; exact .inr hb
    · rw [upd_ne q] at e'; exact st.newF a u e'
end
section
variable {S : Type} {X : Cx} {T : Tab S} {XT : ExcT} {E : XK} {B : Hp}
theorem me_frz {e : Expr} {m : Env → M S D} (ok : T.Ok) (h : PE X e (tF X.K T XT E B m)) : PE X e (tE X.K T XT E B m) :=
  pe_imp h fun σ H Q ⟨g, s, env, fp, w, sl, p⟩ => ⟨g, s, env, fp, w, sl, by
    cases q : m env s with
    | ok d s1 =>
      rw [q] at p
      intro g1 H1 st w1 l vs ds ed hl hl1 hF hC hH r
      subst ed
      exact p (g1.put l (.lst vs)) H1 (st.frz hl hF) (w1.frz ok hl1 (fun _ z => nomatch z) hF hC hH) (.ref l) (rep_newL ok hF r)
    | exc c fs s1 => rw [q] at p; exact p
    | bad => rw [q] at p; exact p⟩
theorem mf_list {es : List Expr} {pos : Pos} {ms : Env → M S (List D)} (ok : T.Ok) (h : PA X es (tL X.K T XT E B ms)) (hl : ∀ env s, match ms env s with | .ok ds _ => ds.length ≤ LIM | _ => True) :
    PE X (.List es pos) (tF X.K T XT E B fun env => M.bind (ms env) fun ds => M.pure (.lst ds)) :=
  pe_imp (pe_lst h) fun σ H Q ⟨g, s, env, fp, w, sl, p⟩ => by
    have h0 := hl env s
    refine ⟨g, s, env, fp, w, sl, ?_⟩
    have p0 := p.bind
    cases e : ms env s with
    | ok ds s1 =>
      rw [e] at p0 h0
      intro g1 H1 st1 w1
      obtain ⟨w2, st2, p2⟩ := p0 g1 H1 st1 w1
      intro vs r
      refine ⟨lim_line (by rw [← r.length]; exact h0), fun q hq => ?_⟩
      have f := w1.free hq
      exact p2 _ _ (.raw w1 _ hq) (w1.raw _ hq) q vs ds rfl (st2.fresh hq) upd_same f.1 f.2.1 f.2.2 r
    | exc c fs s1 => rw [e] at p0; exact p0
    | bad => rw [e] at p0; exact p0
end

/-! ### what is walked -/
section
variable {S : Type} (K : PySem.W.Frag) (T : Tab S) (XT : ExcT) (E : XK)
/-- the way from the walk's start: with lists of one's own as they stand, or not -/
def Way (fz : Bool) (g1 : Gh) (H1 : Hp) (g : Gh) (H : Hp) : Prop := if fz = true then g1.Le g else Step g1 H1 g H
def Its (fz : Bool) (tg : Tg) (g1 : Gh) (H1 : Hp) (J : L2.It) (xs : List D) : Prop := ∀ g s H, Way fz g1 H1 g H → Wd K T g s H →
  (∀ i d, xs[i]? = some d → J.go i H ∧ ∀ x H', J.yld i H x H' → ∃ g', Step g H g' H' ∧ Wd K T g' s H' ∧ ItOk K T g' H' tg d x) ∧ J.stop xs.length H
def tI (fz : Bool) (B : Hp) (tg : Tg) (m : Env → M S (List D)) : TI := fun σ H R => ∃ g s env fp, Wd K T g s H ∧ Slots K T g H B env σ fp ∧ Post K T XT E g H (m env s) fun g1 _ H1 xs => ∀ J, Its K T fz tg g1 H1 J xs → R J H1
/-- a lasting value, or (where fz is not asked) one read in passing -/
def KRep (fz : Bool) (g : Gh) (H : Hp) (d : D) (v : V) : Prop := Rep K T g d v ∨ fz = false ∧ BRep K T g H d v
def tK (fz : Bool) (B : Hp) (m : Env → M S D) : TE := fun σ H Q => ∃ g s env fp, Wd K T g s H ∧ Slots K T g H B env σ fp ∧ Post K T XT E g H (m env s) fun g' _ H' d => ∀ v, KRep K T fz g' H' d v → Q v H'
def KReps (fz : Bool) (g : Gh) (H : Hp) (d : List D) (v : List V) : Prop := Reps K T g d v ∨ fz = false ∧ BReps K T g H d v
def tKL (fz : Bool) (B : Hp) (m : Env → M S (List D)) : TA := fun σ H Q => ∃ g s env fp, Wd K T g s H ∧ Slots K T g H B env σ fp ∧ Post K T XT E g H (m env s) fun g' _ H' d => ∀ v, KReps K T fz g' H' d v → Q v H'
end
section
variable {S : Type} {K : PySem.W.Frag} {T : Tab S} {XT : ExcT} {E : XK} {g g' gb : Gh} {H H' B Hb : Hp} {tg : Tg}
theorem Way.le {fz : Bool} (h : Way fz g H g' H') : g.Le g' := by
  unfold Way at h
  by_cases e : fz = true
  · rw [if_pos e] at h; exact h
  · rw [if_neg e] at h; exact h.le
theorem KRep.b {fz : Bool} {d : D} {v : V} (h : KRep K T fz g H d v) : BRep K T g H d v := h.elim .inl (·.2)
theorem KRep.way {fz : Bool} (ok : T.Ok) {d : D} {v : V} (h : KRep K T fz g H d v) (w : Way fz g H g' H') : KRep K T fz g' H' d v := by
  rcases h with h | ⟨e, h⟩
  · exact .inl (h.mono ok w.le)
  · subst e
    exact .inr ⟨rfl, h.step ok w⟩
theorem its_list {fz : Bool} {xs : List D} {a : Addr} (ok : T.Ok) (h : KRep K T fz g H (.lst xs) (.ref a)) : Its K T fz tg g H (Itl K a) xs := by
  intro g1 s1 H1 wy w
  obtain ⟨p, vs, e, hp, r⟩ := brep_lst w (h.way ok wy).b
  cases e
  refine ⟨fun i d hi => ?_, ⟨vs, .inl (.inl hp), by rw [← r.length]; exact Nat.le_refl _⟩⟩
  obtain ⟨v, hv, rv⟩ := r.get hi
  refine ⟨⟨vs, v, .inl (.inl hp), hv⟩, fun x H' ⟨e1, e2⟩ => ?_⟩
  subst e1
  have := (e2 vs (.inl (.inl hp))).symm.trans hv
  cases this
  exact ⟨g1, .refl _ _, w, .inl rv⟩
theorem its_tup {fz : Bool} {xs : List D} {a : Addr} (ok : T.Ok) (h : KRep K T fz g H (.tup xs) (.ref a)) : Its K T fz tg g H (Itt K a) xs := by
  intro g1 s1 H1 wy w
  obtain ⟨p, vs, e, hp, r, _⟩ := brep_tup w (h.way ok wy).b
  cases e
  refine ⟨fun i d hi => ?_, ⟨vs, hp, by rw [← r.length]; exact Nat.le_refl _⟩⟩
  obtain ⟨v, hv, rv⟩ := r.get hi
  refine ⟨⟨vs, v, hp, hv⟩, fun x H' ⟨e1, e2⟩ => ?_⟩
  subst e1
  have := (e2 vs hp).symm.trans hv
  cases this
  exact ⟨g1, .refl _ _, w, .inl rv⟩
theorem its_rng {fz : Bool} {a b : Int} : Its K T fz tg g H (Itr a (b - a).toNat) (rngD a b) := by
  intro g1 s1 H1 _ w
  refine ⟨fun i d hi => ?_, ?_⟩
  · unfold rngD at hi
    rw [List.getElem?_map] at hi
    obtain ⟨k, hk, hd⟩ := Option.map_eq_some_iff.mp hi
    have hk2 := List.getElem?_eq_some_iff.mp hk
    obtain ⟨h1, h2⟩ := hk2
    simp at h1 h2
    subst h2 hd
    exact ⟨by show i < (b - a).toNat; omega, fun x H' ⟨e1, e2⟩ => by subst e1 e2; exact ⟨g1, .refl _ _, w, .inl (.int _)⟩⟩
  · show (b - a).toNat ≤ _
    unfold rngD
    simp
end
section
variable {S : Type} {X : Cx} {T : Tab S} {XT : ExcT} {E : XK} {B : Hp} {tg : Expr} {tt : Tg}
theorem pi_imp {it : Expr} {t t' : TI} (h : PI X tg it t) (i : ∀ σ H Q, t' σ H Q → t σ H Q) : PI X tg it t' := ⟨fun pins s σ H R I q => h.run pins s σ H R I (i σ H R q)⟩
theorem tk_e {e : Expr} {m : Env → M S D} (h : PE X e (tE X.K T XT E B m)) : PE X e (tK X.K T XT E true B m) :=
  pe_imp h fun σ H Q ⟨g, s, env, fp, w, sl, p⟩ => ⟨g, s, env, fp, w, sl, p.imp fun _ _ _ _ q v r => q v (.inl r)⟩
theorem tk_b {e : Expr} {m : Env → M S D} (h : PE X e (tB X.K T XT E B m)) : PE X e (tK X.K T XT E false B m) :=
  pe_imp h fun σ H Q ⟨g, s, env, fp, w, sl, p⟩ => ⟨g, s, env, fp, w, sl, p.imp fun _ _ _ _ q v r => q v (.inr ⟨rfl, r⟩)⟩
theorem tkl_e {e : List Expr} {m : Env → M S (List D)} (h : PA X e (tL X.K T XT E B m)) : PA X e (tKL X.K T XT E true B m) :=
  pa_imp h fun σ H Q ⟨g, s, env, fp, w, sl, p⟩ => ⟨g, s, env, fp, w, sl, p.imp fun _ _ _ _ q v r => q v (.inl r)⟩
theorem tkl_b {e : List Expr} {m : Env → M S (List D)} (h : PA X e (tLB X.K T XT E B m)) : PA X e (tKL X.K T XT E false B m) :=
  pa_imp h fun σ H Q ⟨g, s, env, fp, w, sl, p⟩ => ⟨g, s, env, fp, w, sl, p.imp fun _ _ _ _ q v r => q v (.inr ⟨rfl, r⟩)⟩
/-- lists and tuples -/
theorem pi_any {l : Expr} {t : TE} (h : PE X l t) : PI X tg l fun σ H R => t σ H fun x H1 => ∃ a, x = .ref a ∧ ((∃ xs, SqL X.K H1 a xs ∧ R (Itl X.K a) H1) ∨ ∃ xs, SqT X.K H1 a xs ∧ R (Itt X.K a) H1) := by
  refine ⟨fun pins s σ H R I q => ?_⟩
  refine thn (h.run pins s σ H _ I q) fun v s1 ⟨x, H1, I1, r1, a, e, q1⟩ => ?_
  subst e
  cases r1
  rcases q1 with ⟨xs, hq, q⟩ | ⟨xs, hq, q⟩
  · obtain ⟨its, rv, p, hz⟩ := I1.list hq
    refine wpAny_pyIter_list p.isList ?_
    refine ⟨s1.heap.objs.size, [s1.heap.objs.size], _, _, H1, rfl, I1.kept (t' := s1.toks) fun b o e => Heap.get?_push_of_some _ e, turn_list a _, ⟨_, Heap.get?_push_size _ rfl, rfl, rfl⟩, fun b hb => ?_, q⟩
    have e : b = s1.heap.objs.size := by simpa using hb
    subst e
    exact I1.fpOk (Nat.le_refl _) (I1.hok.fresh (Nat.le_refl _))
  · obtain ⟨its, rv, p, hz⟩ := I1.tuple hq
    refine wpAny_pyIter_tuple (show s1.heap.IsTuple a its.toArray from p) ?_
    refine ⟨s1.heap.objs.size, [s1.heap.objs.size], _, _, H1, rfl, I1.kept (t' := s1.toks) fun b o e => Heap.get?_push_of_some _ e, turn_tuple a _, ⟨_, Heap.get?_push_size _ rfl, rfl, rfl⟩, fun b hb => ?_, q⟩
    have e : b = s1.heap.objs.size := by simpa using hb
    subst e
    exact I1.fpOk (Nat.le_refl _) (I1.hok.fresh (Nat.le_refl _))
theorem mi_ex {l : Expr} {fz : Bool} {m : Env → M S D} (ok : T.Ok) (h : PE X l (tK X.K T XT E fz B m)) : PI X tg l (tI X.K T XT E fz B tt fun env => M.bind (m env) fun x => M.opt (items? x)) :=
  pi_imp (pi_any h) fun σ H R ⟨g, s, env, fp, w, sl, p⟩ => ⟨g, s, env, fp, w, sl, p.bind.imp fun g1 s1 H1 d ⟨w1, st1, p1⟩ v r => by
    obtain ⟨xs, e, q⟩ := Post.opt w1 p1
    unfold items? at e
    split at e
    · cases e
      obtain ⟨a, vs, rfl, hq, _⟩ := brep_tup w1 r.b
      exact ⟨a, rfl, .inr ⟨vs, hq, q _ (its_tup ok r)⟩⟩
    · cases e
      obtain ⟨a, vs, rfl, hq, _⟩ := brep_lst w1 r.b
      exact ⟨a, rfl, .inl ⟨vs, .inl (.inl hq), q _ (its_list ok r)⟩⟩
    · cases e⟩
theorem inRng_ok {a : Int} (h : inRng a = true) : -(2 ^ 62) ≤ a ∧ a < 2 ^ 62 := by
  unfold inRng at h
  simp only [Bool.and_eq_true, decide_eq_true_eq] at h
  exact h
theorem mi_rng1 {b : Expr} {fz : Bool} {p pos : Pos} {mb : Env → M S D} (ok : T.Ok) (hg : Gl X "range") (hm : X.mg "range" = none) (hb : PA X [b] (tL X.K T XT E B fun env => M.bind (mb env) fun y => M.pure [y])) (hs : starEach [b] X.env = [(false, eval b X.env)]) :
    PI X tg (.Call (.Name "range" p) [b] [] pos) (tI X.K T XT E fz B tt fun env => M.bind (M.pure (.int 0)) fun x => M.bind (mb env) fun y => M.bind (M.opt (asInt x)) fun i => M.bind (M.opt (asInt y)) fun j => M.need (inRng i && inRng j) (M.pure (rngD i j))) :=
  pi_imp (pi_range1 hg hm hb hs) fun σ H R ⟨g, s, env, fp, w, sl, p⟩ => ⟨g, s, env, fp, w, sl, by
    have p0 : Post X.K T XT E g H (M.bind (mb env) (fun y => M.bind (M.opt (asInt y)) fun j => M.need (inRng 0 && inRng j) (M.pure (rngD 0 j))) s) _ := p
    have p1 := p0.bind
    show Post X.K T XT E g H ((mb env s).bind fun y => M.pure [y]) _
    cases e : mb env s with
    | ok y s1 =>
      rw [e] at p1
      intro g1 H1 st w1 vs r
      obtain ⟨_, _, p2⟩ := p1 g1 H1 st w1
      obtain ⟨j, ej, w3, st3, p3⟩ := Post.opt w1 p2.bind
      obtain ⟨hn, p4⟩ := p3.need
      cases y with
      | int i =>
        cases ej
        cases r with
        | cons r rr =>
          cases rr
          cases r
          rw [Bool.and_eq_true] at hn
          have := inRng_ok hn.2
          refine ⟨_, rfl, this.1, this.2, ?_⟩
          have q := Post.pure w1 p4 (Itr 0 (j - 0).toNat) its_rng
          rw [Int.sub_zero] at q
          exact q
      | _ => cases ej
    | exc c fs s1 => rw [e] at p1; exact p1
    | bad => rw [e] at p1; exact p1⟩
theorem mi_rng2 {a b : Expr} {fz : Bool} {p pos : Pos} {ma mb : Env → M S D} (ok : T.Ok) (hg : Gl X "range") (hm : X.mg "range" = none) (hab : PA X [a, b] (tL X.K T XT E B fun env => M.bind (ma env) fun x => M.bind (M.bind (mb env) fun y => M.pure [y]) fun ys => M.pure (x :: ys))) (hs : starEach [a, b] X.env = [(false, eval a X.env), (false, eval b X.env)]) (hs2 : starEach [b] X.env = [(false, eval b X.env)]) :
    PI X tg (.Call (.Name "range" p) [a, b] [] pos) (tI X.K T XT E fz B tt fun env => M.bind (ma env) fun x => M.bind (mb env) fun y => M.bind (M.opt (asInt x)) fun i => M.bind (M.opt (asInt y)) fun j => M.need (inRng i && inRng j) (M.pure (rngD i j))) :=
  pi_imp (pi_range2 hg hm hab hs hs2) fun σ H R ⟨g, s, env, fp, w, sl, p⟩ => ⟨g, s, env, fp, w, sl, by
    have p1 := p.bind
    show Post X.K T XT E g H ((ma env s).bind fun x => M.bind (M.bind (mb env) fun y => M.pure [y]) fun ys => M.pure (x :: ys)) _
    cases e : ma env s with
    | ok x s1 =>
      rw [e] at p1
      show Post X.K T XT E g H (((mb env s1).bind fun y => M.pure [y]).bind fun ys => M.pure (x :: ys)) _
      have p2 := Post.bind_ok e p
      have p3 := p2.bind
      cases e2 : mb env s1 with
      | ok y s2 =>
        rw [e2] at p3
        intro g1 H1 st w1 vs r
        obtain ⟨_, _, p4⟩ := p3 g1 H1 st w1
        obtain ⟨i, ei, w5, st5, p5⟩ := Post.opt w1 p4.bind
        obtain ⟨j, ej, w6, st6, p6⟩ := Post.opt w1 p5.bind
        obtain ⟨hn, p7⟩ := p6.need
        cases x with
        | int i0 =>
          cases ei
          cases y with
          | int j0 =>
            cases ej
            cases r with
            | cons r rr =>
              cases rr with
              | cons r' rr =>
                cases rr
                cases r
                cases r'
                rw [Bool.and_eq_true] at hn
                have h1 := inRng_ok hn.1
                have h2 := inRng_ok hn.2
                exact ⟨_, _, rfl, ⟨h1.1, h1.2, h2.1, h2.2⟩, Post.pure w1 p7 _ its_rng⟩
          | _ => cases ej
        | _ => cases ei
      | exc c fs s2 => rw [e2] at p3; exact p3
      | bad => rw [e2] at p3; exact p3
    | exc c fs s1 => rw [e] at p1; exact p1
    | bad => rw [e] at p1; exact p1⟩
end
end Mp

set_option Elab.async false
set_option linter.all false
set_option maxRecDepth 100000
set_option maxHeartbeats 4000000
/-! Comprehensions. -/
namespace Mp
open PySem PySem.Spec PyProof.Rows L2

abbrev EN : XK := fun _ _ _ => False
section
variable {S : Type} (K : PySem.W.Frag) (T : Tab S) (XT : ExcT) (E : XK)
def tC (B : Hp) (m : Env → M S Bool) : TT := fun σ H Q => ∃ g s env fp, Wd K T g s H ∧ Slots K T g H B env σ fp ∧ Post K T XT E g H (m env s) fun _ _ H' b => Q b H'
def lcTurn (tt : Tg) (mc : Env → M S Bool) (me : Env → M S D) (env : Env) (x : D) : M S (Option D) :=
  M.calm (M.bind (M.opt (tt.store x (wipeE env tt.places))) fun env' => M.bind (mc env') fun k => if k = true then M.bind (me env') fun y => M.pure (some y) else M.pure none)
def lcM (tt : Tg) (mi : Env → M S (List D)) (mc : Env → M S Bool) (me : Env → M S D) : Env → M S D := fun env =>
  M.bind (mi env) fun xs => M.bind (turns (lcTurn tt mc me env) xs) fun ys => M.need (decide (ys.length ≤ LIM)) (M.pure (.lst ys))
end
section
variable {S : Type} {K : PySem.W.Frag} {T : Tab S} {XT : ExcT} {E : XK} {B : Hp}
theorem upd_step {g g1 : Gh} {H H1 : Hp} (st : Step g1 H1 g H) {p : Addr} {o : HO} (h1 : H1 p = none) : Step g1 H1 g (upd H p o) where
  le := st.le
  pres := fun a u e c h nt => by rw [upd_ne (ne_of_none e h1)]; exact st.pres a u e c h nt
  stay := fun a u e => by rw [upd_ne (ne_of_none e h1)]; exact st.stay a u e
  newC := st.newC
  newF := st.newF
theorem Wd.upd {g : Gh} {s : S} {H : Hp} (w : Wd K T g s H) {p : Addr} {o o' : HO} (hp : H p = some o') (h1 : ∀ ps, o' ≠ .tbl ps) (hF : g.F p = none) (hC : g.C p = none) (hH : p ≠ g.ha) : Wd K T g s (upd H p o) where
  sub := fun a u e => by rw [upd_ne (fun z => by rw [z, hF] at e; cases e)]; exact w.sub a u e
  cache := fun l t e => by
    obtain ⟨kvs, a, b⟩ := w.cache l t e
    exact ⟨kvs, by rw [upd_ne (fun z => by rw [z, hC] at e; cases e)]; exact a, b⟩
  hand := by
    obtain ⟨vs, a, b⟩ := w.hand
    exact ⟨vs, by rw [upd_ne (Ne.symm hH)]; exact a, b⟩
  sepC := w.sepC
  sepH := w.sepH
  tabs := w.tabs.upd (fun ps z => by rw [hp] at z; exact h1 ps (Option.some.inj z)) (fun _ _ e => e) (.refl g)
theorem Wd.updL {g : Gh} {s : S} {H : Hp} (w : Wd K T g s H) {p : Addr} {vs : List V} {o : HO} (hp : H p = some (.lst vs)) (hF : g.F p = none) (hC : g.C p = none) (hH : p ≠ g.ha) : Wd K T g s (L2.upd H p o) :=
  w.upd hp (fun _ z => nomatch z) hF hC hH
/-- what is nobody's stays so -/
theorem Step.nob {g g' : Gh} {H H' : Hp} (st : Step g H g' H') {p : Addr} {vs : List V} (h : H p = some (.lst vs)) (hF : g.F p = none) (hC : g.C p = none) (hH : p ≠ g.ha) : H' p = some (.lst vs) ∧ g'.F p = none ∧ g'.C p = none ∧ p ≠ g'.ha := by
  refine ⟨st.pres p _ h hC hH (fun _ z => nomatch z), ?_, ?_, by rw [st.le.ha]; exact hH⟩
  · cases q : g'.F p with
    | none => rfl
    | some u =>
      rcases st.newF p u q with z | z
      · rw [hF] at z; cases z
      · rw [h] at z; cases z
  · cases q : g'.C p with
    | none => rfl
    | some u =>
      rcases st.newC p u q with z | z
      · rw [hC] at z; cases z
      · rw [h] at z; cases z
theorem Post.det {α : Type} {m : M S α} {s s' : S} {a : α} {g : Gh} {H : Hp} (e : m s = .ok a s') : Post K T XT E g H (m s) fun g1 s1 H1 b => b = a ∧ s1 = s' ∧ Step g H g1 H1 ∧ Wd K T g1 s1 H1 := by
  rw [e]
  exact fun g1 H1 st w => ⟨rfl, rfl, st, w⟩
theorem calm_exc {α : Type} {m : M S α} {s s' : S} {c : Nat} {fs : List D} (h : M.calm m s = .exc c fs s') : False := by
  unfold M.calm at h
  split at h <;> cases h
theorem turns_calm {f : D → M S (Option D)} (hf : ∀ x s c fs s', f x s ≠ .exc c fs s') : ∀ (xs : List D) (s : S) (c : Nat) (fs : List D) (s' : S), turns f xs s ≠ .exc c fs s'
  | [], _, _, _, _ => fun h => by cases h
  | x :: r, s, c, fs, s' => fun h => by
    have h' : R.bind (f x s) (fun y s1 => M.bind (turns f r) (fun ys => M.pure (y.toList ++ ys)) s1) = .exc c fs s' := h
    cases e : f x s with
    | ok y s1 =>
      rw [e] at h'
      have h2 : R.bind (turns f r s1) (fun ys s2 => M.pure (y.toList ++ ys) s2) = .exc c fs s' := h'
      cases e2 : turns f r s1 with
      | ok ys s2 => rw [e2] at h2; cases h2
      | exc c' fs' s2 => exact turns_calm hf r s1 c' fs' s2 e2
      | bad => rw [e2] at h2; cases h2
    | exc c' fs' s1 => exact hf x s c' fs' s1 e
    | bad => rw [e] at h'; cases h'
theorem turns_cons {f : D → M S (Option D)} {x : D} {r : List D} {s s' : S} {ys : List D} (h : turns f (x :: r) s = .ok ys s') : ∃ y s1 zs, f x s = .ok y s1 ∧ turns f r s1 = .ok zs s' ∧ ys = y.toList ++ zs := by
  have h' : R.bind (f x s) (fun y s1 => M.bind (turns f r) (fun ys => M.pure (y.toList ++ ys)) s1) = .ok ys s' := h
  cases e : f x s with
  | ok y s1 =>
    rw [e] at h'
    have h2 : R.bind (turns f r s1) (fun ys s2 => M.pure (y.toList ++ ys) s2) = .ok ys s' := h'
    cases e2 : turns f r s1 with
    | ok zs s2 => rw [e2] at h2; cases h2; exact ⟨y, s1, zs, rfl, e2, rfl⟩
    | exc c' fs' s2 => rw [e2] at h2; cases h2
    | bad => rw [e2] at h2; cases h2
  | exc c' fs' s1 => rw [e] at h'; cases h'
  | bad => rw [e] at h'; cases h'
theorem calm_ok {α : Type} {m : M S α} {s s' : S} {a : α} (h : M.calm m s = .ok a s') : m s = .ok a s' := by
  unfold M.calm at h
  split at h
  · rename_i e; cases h; exact e
  · cases h
theorem lc_imp {tt : Tg} {mi : Env → M S (List D)} {mc : Env → M S Bool} {me : Env → M S D} (ok : T.Ok) {σ : L2.St} {H : Hp} {Q : VK} (h : tF K T XT E B (lcM tt mi mc me) σ H Q) :
    tLc (tI K T XT E false B tt mi) (tG K T B tt) (tC K T XT EN B mc) (tE K T XT EN B me) tt.places σ H Q := by
  obtain ⟨g, s, env, fp, w, sl, p⟩ := h
  refine ⟨g, s, env, fp, w, sl, p.bind.imp fun g1 s1 H1 xs ⟨w1, st1, p1⟩ J its L hL => ?_⟩
  have hL0 := st1.fresh hL
  refine ⟨fun i n H2 => i ≤ xs.length ∧ n = xs.length - i ∧ ∃ g2 s2 ds vs ys sE, Step g1 H1 g2 H2 ∧ Wd K T g2 s2 H2 ∧ H2 L = some (.lst vs) ∧ g2.F L = none ∧ g2.C L = none ∧ L ≠ g2.ha ∧ Reps K T g2 ds vs ∧
    turns (lcTurn tt mc me env) (xs.drop i) s2 = .ok ys sE ∧ (ds ++ ys).length ≤ LIM ∧ ∀ g3 H3, Step g1 H1 g3 H3 → Wd K T g3 sE H3 → ∀ us, H3 L = some (.lst us) → g3.F L = none → g3.C L = none → L ≠ g3.ha → Reps K T g3 (ds ++ ys) us → Q (.ref L) H3, ?_, ?_⟩
  · have f := w1.free hL
    have p2 := p1
    unfold M.bind at p2
    cases e : turns (lcTurn tt mc me env) xs s1 with
    | ok ys s3 =>
      rw [e] at p2
      obtain ⟨hn, p3⟩ := Post.need (m := M.pure (D.lst ys)) p2
      refine ⟨xs.length, Nat.zero_le _, rfl, g1, s1, [], [], ys, s3, .raw w1 _ hL, w1.raw _ hL, upd_same, f.1, f.2.1, f.2.2, .nil, by rw [List.drop_zero]; exact e, of_decide_eq_true hn, ?_⟩
      intro g3 H3 st3 w3 us h1 h2 h3 h4 r
      exact p3 g3 H3 st3 w3 L us ys rfl hL0 h1 h2 h3 h4 r
    | exc c fs s3 => exact (turns_calm (fun _ _ _ _ _ z => calm_exc z) _ _ _ _ _ e).elim
    | bad => rw [e] at p2; exact p2.elim
  · rintro i n H2 ⟨hi, hn, g2, s2, ds, vs, ys, sE, st2, w2, hL2, hF2, hC2, hH2, r2, et, hlim, p2⟩
    obtain ⟨it, stop⟩ := its g2 s2 H2 (by show Way false _ _ _ _; exact st2) w2
    by_cases hlt : i < xs.length
    · have hx : xs[i]? = some xs[i] := List.getElem?_eq_getElem hlt
      obtain ⟨go, yld⟩ := it i _ hx
      refine .inr ⟨go, _, fun H' q => ⟨xs.length - (i + 1), by omega, q⟩, fun x H' hy => ?_⟩
      obtain ⟨g3, st3, w3, io⟩ := yld x H' hy
      rw [List.drop_eq_getElem_cons hlt] at et
      obtain ⟨y, s3, zs, e1, e2, e3⟩ := turns_cons et
      subst e3
      have st13 := st2.trans st3
      have p4 := Post.det (K := K) (T := T) (XT := XT) (E := EN) (g := g3) (H := H') (calm_ok e1)
      obtain ⟨env', e', w4, st4, p5⟩ := Post.opt w3 p4.bind
      refine ⟨g3, s2, _, _, xs[i], env', w3, ((((sl.step ok st1).step ok st2).step ok st3).wiped tt.places), io, e', fun σ' fp' sl' hw => ⟨?_, ?_⟩⟩
      · rw [hw tt.places fun _ z => z, wipe_wipe _ _ _ fun _ z => z]
      have l3 := st3.nob hL2 hF2 hC2 hH2
      refine ⟨g3, s2, env', fp', w3, sl', p5.bind.imp fun g5 s5 H5 k ⟨w5, st5, p6⟩ => ?_⟩
      have l5 := st5.nob l3.1 l3.2.1 l3.2.2.1 l3.2.2.2
      have st15 := st13.trans st5
      have r5 := (r2.mono ok st3.le).mono ok st5.le
      by_cases hk : k = true
      · show if k = true then _ else _
        rw [if_pos hk] at p6 ⊢
        refine ⟨g5, s5, env', fp', w5, sl'.step ok st5, p6.bind.imp fun g6 s6 H6 z ⟨w6, st6, p7⟩ v rv => ?_⟩
        have l6 := st6.nob l5.1 l5.2.1 l5.2.2.1 l5.2.2.2
        obtain ⟨ey, es, _, _⟩ := Post.pure w6 p7
        subst ey es
        have r6 := r5.mono ok st6.le
        have hlen := r2.length
        have e4 : ds ++ ((some z).toList ++ zs) = (ds ++ [z]) ++ zs := by simp
        rw [e4] at hlim p2
        have hl2 : ds.length + 1 ≤ LIM := by
          rw [List.length_append, List.length_append] at hlim
          have h1 : (ds.length + [z].length) ≤ LIM := Nat.le_trans (Nat.le_add_right _ _) hlim
          exact h1
        refine ⟨vs, l6.1, Nat.lt_of_lt_of_le (by rw [← hlen]; exact hl2) (lim_line (Nat.le_refl _)), by omega, rfl, g6, s6, ds ++ [z], vs ++ [v], zs, sE, upd_step (st15.trans st6) hL, w6.updL l6.1 l6.2.1 l6.2.2.1 l6.2.2.2, upd_same, l6.2.1, l6.2.2.1, l6.2.2.2, r6.append (.cons rv .nil), e2, hlim, p2⟩
      · show if k = true then _ else _
        rw [if_neg hk] at p6 ⊢
        obtain ⟨ey, es, _, _⟩ := Post.pure w5 p6
        subst ey es
        exact ⟨by omega, rfl, g5, s5, ds, vs, zs, sE, st15, w5, l5.1, l5.2.1, l5.2.2.1, l5.2.2.2, r5, e2, hlim, p2⟩
    · have e : i = xs.length := by omega
      subst e
      rw [List.drop_length] at et
      refine .inl ⟨stop, ?_⟩
      cases et
      rw [List.append_nil] at p2
      exact p2 g2 H2 st2 w2 vs hL2 hF2 hC2 hH2 r2
end
section
variable {S : Type} {X : Cx} {T : Tab S} {XT : ExcT} {E : XK} {B : Hp}
theorem mf_lc {elt tg iter : Expr} {ifs : List Expr} {scope : Scope} {own : List (Str × Nat)} {pos : Pos} {tt : Tg} {mi : Env → M S (List D)} {mc : Env → M S Bool} {me : Env → M S D} (ok : T.Ok) (hc : X.calm = true) (hN : X.N.Nodup)
    (hi : PI X tg iter (tI X.K T XT E false B tt mi)) (okb : BlkOk X.N X.env.scope scope own) (hown : own.map (·.2) = tt.places)
    (hg : ∀ (s : Shared) (H : Hp) (C : Addr) (cl : List (Str × Addr)) (fp : List Addr), PG (X.blk s H scope (compEnvC scope cl C X.env) fp) tg (tG X.K T B tt))
    (ht : ∀ (s : Shared) (H : Hp) (C : Addr) (cl : List (Str × Addr)) (fp : List Addr), PTs (X.blk s H scope (compEnvC scope cl C X.env) fp) ifs (tC X.K T XT EN B mc))
    (he : ∀ (s : Shared) (H : Hp) (C : Addr) (cl : List (Str × Addr)) (fp : List Addr), PE (X.blk s H scope (compEnvC scope cl C X.env) fp) elt (tE X.K T XT EN B me))
    (hs : ∀ x, foldedSetIterable iter X.env x = pure x) : PE X (.ListComp elt [⟨tg, iter, ifs, 0⟩] scope pos) (tF X.K T XT E B (lcM tt mi mc me)) :=
  pe_imp (pe_lc hc hN hi okb hg ht he hs) fun σ H Q h => by rw [hown]; exact lc_imp ok h
theorem mts_nil : PTs X [] (tC X.K T XT E B fun _ => M.pure true) := ⟨fun pins s σ H Q I ⟨g, st, env, fp, w, sl, p⟩ => pts_nil.run pins s σ H Q I (Post.pure w p)⟩
theorem mts_one {c : Expr} {m : Env → M S D} (h : PT X c (tT X.K T XT E B m)) : PTs X [c] (tC X.K T XT E B fun env => M.bind (m env) fun x => M.opt (asBl x)) :=
  ⟨fun pins s σ H Q I ⟨g, st, env, fp, w, sl, p⟩ => (pts_one h).run pins s σ H Q I ⟨g, st, env, fp, w, sl, p.bind.imp fun g1 s1 H1 x ⟨w1, st1, p1⟩ => by
    obtain ⟨b, e, q⟩ := Post.opt w1 p1
    cases x with
    | bl c =>
      have : c = b := Option.some.inj e
      subst this
      exact ⟨c, rfl, q⟩
    | _ => cases e⟩⟩
end
end Mp

set_option Elab.async false
set_option linter.all false
set_option maxRecDepth 100000
set_option maxHeartbeats 4000000
/-! Statements. -/
namespace Mp
open PySem PySem.Spec PyProof.Rows L2

section
variable {S : Type} (K : PySem.W.Frag) (T : Tab S) (XT : ExcT) (E : XK) (g0 : Gh) (B : Hp)
/-- the entry's world and the present one are a Step apart -/
def PostS (g : Gh) (r : R S Fl) (Dn : Ends) : Prop :=
  match r with
  | .ok (.nxt env) s => ∀ g' H' σ' fp', g.Le g' → Step g0 B g' H' → Wd K T g' s H' → Slots K T g' H' B env σ' fp' → Dn.nx σ' H'
  | .ok (.brk env) s => ∀ g' H' σ' fp', g.Le g' → Step g0 B g' H' → Wd K T g' s H' → Slots K T g' H' B env σ' fp' → Dn.bk σ' H'
  | .ok (.cnt env) s => ∀ g' H' σ' fp', g.Le g' → Step g0 B g' H' → Wd K T g' s H' → Slots K T g' H' B env σ' fp' → Dn.ct σ' H'
  | .ok (.ret d) s => ∀ g' H' v, g.Le g' → Step g0 B g' H' → Wd K T g' s H' → Rep K T g' d v → Dn.rt v H'
  | .exc c fs s => ∀ g' H' cls dd, Step g0 B g' H' → Wd K T g' s H' → XT g' H' c fs cls dd → E cls dd H'
  | .bad => False
def tS (m : Env → M S Fl) : TS := fun Dn σ H => ∃ g s env fp, Wd K T g s H ∧ Slots K T g H B env σ fp ∧ Step g0 B g H ∧ PostS K T XT E g0 B g (m env s) Dn
end
section
variable {S : Type} {K : PySem.W.Frag} {T : Tab S} {XT : ExcT} {E : XK} {g0 g g' : Gh} {B H H' : Hp} {Dn : Ends}
theorem PostS.le {r : R S Fl} (l : g.Le g') (h : PostS K T XT E g0 B g r Dn) : PostS K T XT E g0 B g' r Dn := by
  cases r with
  | ok f s =>
    cases f with
    | nxt env => exact fun g2 H2 σ2 fp2 l2 => h g2 H2 σ2 fp2 (l.trans l2)
    | brk env => exact fun g2 H2 σ2 fp2 l2 => h g2 H2 σ2 fp2 (l.trans l2)
    | cnt env => exact fun g2 H2 σ2 fp2 l2 => h g2 H2 σ2 fp2 (l.trans l2)
    | ret d => exact fun g2 H2 v l2 => h g2 H2 v (l.trans l2)
  | exc c fs s => exact h
  | bad => exact h
theorem PostS.bind {α : Type} {m : M S α} {f : α → M S Fl} {s : S} (st : Step g0 B g H) (h : PostS K T XT E g0 B g (M.bind m f s) Dn) :
    Post K T XT E g H (m s) fun g1 s1 H1 a => Wd K T g1 s1 H1 ∧ Step g H g1 H1 ∧ Step g0 B g1 H1 ∧ PostS K T XT E g0 B g1 (f a s1) Dn := by
  unfold M.bind at h
  cases e : m s with
  | ok a s1 =>
    rw [e] at h
    exact fun g1 H1 st1 w => ⟨w, st1, st.trans st1, h.le st1.le⟩
  | exc c fs s1 =>
    rw [e] at h
    exact fun g1 H1 cls dd st1 w x => h g1 H1 cls dd (st.trans st1) w x
  | bad => rw [e] at h; exact h
theorem PostS.opt {α : Type} {o : Option α} {f : α → M S Fl} {s : S} (h : PostS K T XT E g0 B g (M.bind (M.opt o) f s) Dn) : ∃ a, o = some a ∧ PostS K T XT E g0 B g (f a s) Dn := by
  cases o with
  | none => exact h.elim
  | some a => exact ⟨a, rfl, h⟩
theorem PostS.need {c : Bool} {m : M S Fl} {s : S} (h : PostS K T XT E g0 B g (M.need c m s) Dn) : c = true ∧ PostS K T XT E g0 B g (m s) Dn := by
  unfold M.need at h
  by_cases hc : c = true
  · rw [if_pos hc] at h; exact ⟨hc, h⟩
  · rw [if_neg hc] at h; exact h.elim
/-- a slot is filled -/
theorem Slots.setS {env : Env} {σ : L2.St} {fp : Nat → List Addr} {i : Nat} {sl : Slot} {v : V} {f : List Addr} (h : Slots K T g H B env σ fp) (r : SlotOk K T g H sl (some v) f) (nd : f.Nodup) (hd : ∀ j, j ≠ i → ∀ p ∈ f, p ∉ fp j) (m : Mine g H B f) :
    Slots K T g H B (env.set i sl) (σ.set i (some v)) (fun j => if j = i then f else fp j) where
  len := by rw [List.length_set, List.length_set]; exact h.len
  at_ := fun j sl e => by
    by_cases hj : i = j
    · subst hj
      have hl : i < env.length := by
        have := (List.getElem?_eq_some_iff.mp e).1
        rw [List.length_set] at this; exact this
      rw [List.getElem?_set_self hl] at e
      cases e
      exact ⟨_, List.getElem?_set_self (by rw [← h.len]; exact hl), by rw [if_pos rfl]; exact r⟩
    · rw [List.getElem?_set_ne hj] at e
      rw [List.getElem?_set_ne hj, if_neg (Ne.symm hj)]
      exact h.at_ j sl e
  nd := fun j => by
    by_cases hj : j = i
    · rw [if_pos hj]; exact nd
    · rw [if_neg hj]; exact h.nd j
  dis := fun j k hjk p hp => by
    by_cases hj : j = i
    · rw [if_pos hj] at hp
      have hk : k ≠ i := fun e => hjk (hj.trans e.symm)
      rw [if_neg hk]
      exact hd k hk p hp
    · rw [if_neg hj] at hp
      by_cases hk : k = i
      · rw [if_pos hk]
        exact fun z => hd j hj p z hp
      · rw [if_neg hk]; exact h.dis j k hjk p hp
  own := fun j => by
    by_cases hj : j = i
    · rw [if_pos hj]; exact m
    · rw [if_neg hj]; exact h.own j
/-- new addresses are in nobody's footprint -/
theorem Slots.new {env : Env} {σ : L2.St} {fp : Nat → List Addr} (h : Slots K T g H B env σ fp) {p : Addr} (e : H p = none) (j : Nat) : p ∉ fp j := fun z => by
  obtain ⟨o, q, _⟩ := (h.own j).here p z
  rw [e] at q; cases q
/-- a write elsewhere -/
theorem Own.upd {d : D} {v : V} {f : List Addr} {p : Addr} {o : HO} (h : Own K T g H d v f) (hp : p ∉ f) : Own K T g (upd H p o) d v f := by
  cases h with
  | lst h r => exact .lst (by rw [upd_ne (fun e => hp (by rw [← e]; simp))]; exact h) r
theorem Owns.upd {p : Addr} {o : HO} : ∀ {ds : List D} {vs : List V} {f : List Addr}, Owns K T g H ds vs f → p ∉ f → Owns K T g (upd H p o) ds vs f
  | _, _, _, .nil, _ => .nil
  | _, _, _, .cons h r, hp => .cons (h.upd fun z => hp (List.mem_append_left _ z)) (Owns.upd r fun z => hp (List.mem_append_right _ z))
theorem SlotOk.upd {sl : Slot} {o : Option V} {f : List Addr} {p : Addr} {ob : HO} (h : SlotOk K T g H sl o f) (hp : p ∉ f) : SlotOk K T g (upd H p ob) sl o f := by
  cases h with
  | un => exact .un
  | fz r => exact .fz r
  | ow h => exact .ow (h.upd hp)
  | mx h =>
    cases h with
    | lst e r => exact .mx (.lst (by rw [upd_ne (fun e => hp (by rw [← e]; simp))]; exact e) (r.upd fun z => hp (List.mem_cons_of_mem _ z)))
theorem Mine.upd {f : List Addr} {p : Addr} {o : HO} (m : Mine g H B f) (oo : OwnO o) : Mine g (upd H p o) B f where
  here := fun q h => by
    by_cases e : q = p
    · subst e; exact ⟨o, upd_same, oo⟩
    · rw [upd_ne e]; exact m.here q h
  nF := m.nF
  nC := m.nC
  nH := m.nH
  nB := m.nB
/-- the slot's own list is written -/
theorem Slots.wr {env : Env} {σ : L2.St} {fp : Nat → List Addr} {i : Nat} {p : Addr} {o : HO} {d : D} (oo : OwnO o) (h : Slots K T g H B env σ fp) (hf : fp i = [p]) (hv : σ[i]? = some (some (.ref p))) (r : Own K T g (upd H p o) d (.ref p) [p]) :
    Slots K T g (upd H p o) B (env.set i (.ow d)) σ fp where
  len := by rw [List.length_set]; exact h.len
  at_ := fun j sl e => by
    by_cases hj : i = j
    · subst hj
      have hl : i < env.length := by
        have := (List.getElem?_eq_some_iff.mp e).1
        rw [List.length_set] at this; exact this
      rw [List.getElem?_set_self hl] at e
      cases e
      exact ⟨_, hv, by rw [hf]; exact .ow r⟩
    · rw [List.getElem?_set_ne hj] at e
      obtain ⟨o', a, b⟩ := h.at_ j sl e
      refine ⟨o', a, b.upd fun z => h.dis i j hj p (by rw [hf]; simp) z⟩
  nd := h.nd
  dis := h.dis
  own := fun j => (h.own j).upd oo
theorem own_slot {env : Env} {i : Nat} {d : D} (h : env.own i = some d) : env[i]? = some (.ow d) := by
  unfold Env.own at h
  split at h
  · rename_i e; cases h; exact e
  · cases h
theorem lst_slot {env : Env} {i : Nat} {xs : List D} (h : lstAt env i = some xs) : env[i]? = some (.ow (.lst xs)) := by
  unfold lstAt at h
  split at h
  · rename_i e; cases h; exact own_slot e
  · cases h
/-- an own list -/
theorem Slots.lst {env : Env} {σ : L2.St} {fp : Nat → List Addr} {i : Nat} {xs : List D} (h : Slots K T g H B env σ fp) (e : lstAt env i = some xs) : ∃ p vs, fp i = [p] ∧ σ[i]? = some (some (.ref p)) ∧ H p = some (.lst vs) ∧ Reps K T g xs vs ∧ g.F p = none ∧ g.C p = none ∧ p ≠ g.ha ∧ B p = none := by
  obtain ⟨o, a, b⟩ := h.at_ i _ (lst_slot e)
  have m := h.own i
  generalize hf : fp i = f at b m
  cases b with
  | ow q =>
    cases q with
    | lst h1 h2 => exact ⟨_, _, rfl, a, h1, h2, m.nF _ (by simp), m.nC _ (by simp), m.nH _ (by simp), m.nB _ (by simp)⟩
end

/-! ### the rules -/
section
variable {S : Type} {X : Cx} {T : Tab S} {XT : ExcT} {E : XK} {g0 : Gh} {B : Hp}
theorem mss_nil : PSs X [] (tS X.K T XT E g0 B fun env => M.pure (.nxt env)) := pss_imp pss_nil fun Dn σ H ⟨g, s, env, fp, w, sl, st, p⟩ => p g H σ fp (.refl g) st w sl
theorem mss_cons {t : Stmt} {ts : List Stmt} {m : Env → M S Fl} {ms : Env → M S Fl} (h : PS X t (tS X.K T XT E g0 B m)) (hs : PSs X ts (tS X.K T XT E g0 B ms)) :
    PSs X (t :: ts) (tS X.K T XT E g0 B fun env => M.bind (m env) fun f => match f with | .nxt e => ms e | f => M.pure f) :=
  pss_imp (pss_cons h hs) fun Dn σ H ⟨g, s, env, fp, w, sl, st, p⟩ => ⟨g, s, env, fp, w, sl, st, by
    have p : PostS X.K T XT E g0 B g ((m env s).bind fun f s => (match f with | .nxt e => ms e | f => M.pure f : M S Fl) s) Dn := p
    cases e : m env s with
    | ok f s1 =>
      rw [e] at p
      cases f with
      | nxt env' => exact fun g' H' σ' fp' l st' w' sl' => ⟨g', s1, env', fp', w', sl', st', PostS.le l p⟩
      | brk env' => exact p
      | cnt env' => exact p
      | ret d => exact p
    | exc c fs s1 => rw [e] at p; exact p
    | bad => rw [e] at p; exact p⟩
theorem ms_pass {pos : Pos} : PS X (.Pass pos) (tS X.K T XT E g0 B fun env => M.pure (.nxt env)) := ps_imp ps_pass fun Dn σ H ⟨g, s, env, fp, w, sl, st, p⟩ => p g H σ fp (.refl g) st w sl
theorem ms_brk {pos : Pos} : PS X (.Break pos) (tS X.K T XT E g0 B fun env => M.pure (.brk env)) := ps_imp ps_break fun Dn σ H ⟨g, s, env, fp, w, sl, st, p⟩ => p g H σ fp (.refl g) st w sl
theorem ms_cnt {pos : Pos} : PS X (.Continue pos) (tS X.K T XT E g0 B fun env => M.pure (.cnt env)) := ps_imp ps_continue fun Dn σ H ⟨g, s, env, fp, w, sl, st, p⟩ => p g H σ fp (.refl g) st w sl
theorem ms_expr {e : Expr} {pos : Pos} {m : Env → M S D} (ok : T.Ok) (h : PE X e (tE X.K T XT E B m)) (hs : swapsWith e none pos.line X.env = pure false) : PS X (.Expr e pos) (tS X.K T XT E g0 B fun env => M.bind (m env) fun _ => M.pure (.nxt env)) :=
  ps_imp (ps_expr h hs) fun Dn σ H ⟨g, s, env, fp, w, sl, st, p⟩ => ⟨g, s, env, fp, w, sl, (p.bind st).imp fun g1 s1 H1 d ⟨w1, st1, st2, p1⟩ v r => p1 g1 H1 σ fp (.refl _) st2 w1 (sl.step ok st1)⟩
theorem ms_ret {e : Expr} {pos : Pos} {m : Env → M S D} (h : PE X e (tE X.K T XT E B m)) : PS X (.Return (some e) pos) (tS X.K T XT E g0 B fun env => M.bind (m env) fun d => M.pure (.ret d)) :=
  ps_imp (ps_ret h) fun Dn σ H ⟨g, s, env, fp, w, sl, st, p⟩ => ⟨g, s, env, fp, w, sl, (p.bind st).imp fun g1 s1 H1 d ⟨w1, st1, st2, p1⟩ v r => p1 g1 H1 v (.refl _) st2 w1 r⟩
theorem ms_retN {pos : Pos} : PS X (.Return none pos) (tS X.K T XT E g0 B fun env => M.bind (M.pure .non) fun d => M.pure (.ret d)) :=
  ps_imp ps_retN fun Dn σ H ⟨g, s, env, fp, w, sl, st, p⟩ => p g H .non (.refl _) st w .non
theorem ms_ite {c : Expr} {a b : List Stmt} {pos : Pos} {mc : Env → M S D} {ma mb : Env → M S Fl} (ok : T.Ok) (hc : PT X c (tT X.K T XT E B mc)) (ha : PSs X a (tS X.K T XT E g0 B ma)) (hb : PSs X b (tS X.K T XT E g0 B mb)) :
    PS X (.If c a b pos) (tS X.K T XT E g0 B fun env => M.bind (mc env) fun x => M.bind (M.opt (asBl x)) fun k => if k = true then ma env else mb env) :=
  ps_imp (ps_if hc ha hb) fun Dn σ H ⟨g, s, env, fp, w, sl, st, p⟩ => ⟨g, s, env, fp, w, sl, (p.bind st).imp fun g1 s1 H1 x ⟨w1, st1, st2, p1⟩ => by
    obtain ⟨b, e, q⟩ := p1.opt
    cases x with
    | bl c =>
      have : c = b := Option.some.inj e
      subst this
      refine ⟨c, rfl, ?_⟩
      cases c with
      | true => rw [if_pos rfl] at q ⊢; exact ⟨g1, s1, env, fp, w1, sl.step ok st1, st2, q⟩
      | false => rw [if_neg Bool.false_ne_true] at q ⊢; exact ⟨g1, s1, env, fp, w1, sl.step ok st1, st2, q⟩
    | _ => cases e⟩
/-- name = a value that lasts; h: how the value is stored -/
theorem ms_set {e : Expr} {st : Stmt} {i : Nat} {m : Env → M S D} (ok : T.Ok) (h : PS X st (tAsg (tE X.K T XT E B m) (gName i))) : PS X st (tS X.K T XT E g0 B fun env => M.bind (m env) fun d => M.pure (.nxt (env.set i (.fz d)))) :=
  ps_imp h fun Dn σ H ⟨g, s, env, fp, w, sl, st, p⟩ => ⟨g, s, env, fp, w, sl, (p.bind st).imp fun g1 s1 H1 d ⟨w1, st1, st2, p1⟩ v r => p1 g1 H1 _ _ (.refl _) st2 w1 ((sl.step ok st1).setF r)⟩
/-- name = a new list of its own -/
theorem ms_own {st : Stmt} {i : Nat} {m : Env → M S D} (ok : T.Ok) (h : PS X st (tAsg (tF X.K T XT E B m) (gName i))) (hl : ∀ env s, match m env s with | .ok (.lst _) _ => True | .ok _ _ => False | _ => True) :
    PS X st (tS X.K T XT E g0 B fun env => M.bind (m env) fun d => M.pure (.nxt (env.set i (.ow d)))) :=
  ps_imp h fun Dn σ H ⟨g, s, env, fp, w, sl, st, p⟩ => ⟨g, s, env, fp, w, sl, by
    refine (p.bind st).imp fun g1 s1 H1 d ⟨w1, st1, st2, p1⟩ q vs ds e hq hq1 hF hC hH r => ?_
    subst e
    refine p1 g1 H1 _ _ (.refl _) st2 w1 ((sl.step ok st1).setS (f := [q]) (.ow (.lst hq1 r)) (by simp) (fun j _ a ha => ?_) ⟨?_, ?_, ?_, ?_, ?_⟩)
    · rw [List.mem_singleton.mp ha]; exact sl.new hq j
    · intro a ha; rw [List.mem_singleton.mp ha]; exact ⟨_, hq1, trivial⟩
    · intro a ha; rw [List.mem_singleton.mp ha]; exact hF
    · intro a ha; rw [List.mem_singleton.mp ha]; exact hC
    · intro a ha; rw [List.mem_singleton.mp ha]; exact hH
    · intro a ha; rw [List.mem_singleton.mp ha]; exact st.fresh hq⟩
/-- a target of any form -/
theorem ms_unp {e : Expr} {tg : Expr} {tt : Tg} {st : Stmt} {m : Env → M S D} (ok : T.Ok) (h : PS X st (tAsg (tE X.K T XT E B m) (tG X.K T B tt))) : PS X st (tS X.K T XT E g0 B fun env => M.bind (m env) fun d => M.bind (M.opt (tt.store d env)) fun e => M.pure (.nxt e)) :=
  ps_imp h fun Dn σ H ⟨g, s, env, fp, w, sl, st, p⟩ => ⟨g, s, env, fp, w, sl, (p.bind st).imp fun g1 s1 H1 d ⟨w1, st1, st2, p1⟩ v r => by
    obtain ⟨env', e, q⟩ := p1.opt
    exact ⟨g1, s1, env, fp, d, env', w1, sl.step ok st1, .inl r, e, fun σ' fp' sl' _ => q g1 H1 σ' fp' (.refl _) st2 w1 sl'⟩⟩
end

/-! ### what is one's own is made to last -/
section
variable {S : Type} {K : PySem.W.Frag} {T : Tab S} {XT : ExcT} {E : XK} {g0 g g' : Gh} {B H H' : Hp} {Dn : Ends}
open Classical in
/-- the things at f last from here on, as they stand -/
noncomputable def Gh.all (g : Gh) (H : Hp) (f : List Addr) : Gh := { g with F := fun a => if a ∈ f then H a else g.F a }
theorem Gh.all_in {f : List Addr} {a : Addr} (h : a ∈ f) : (g.all H f).F a = H a := if_pos h
theorem Gh.all_out {f : List Addr} {a : Addr} (h : a ∉ f) : (g.all H f).F a = g.F a := if_neg h
theorem Gh.le_all {f : List Addr} (m : ∀ p ∈ f, g.F p = none) : g.Le (g.all H f) := ⟨fun a o e => by
  by_cases h : a ∈ f
  · rw [m a h] at e; cases e
  · rw [Gh.all_out h]; exact e, fun _ _ e => e, rfl⟩
theorem Wd.all {s : S} {f : List Addr} (ok : T.Ok) (w : Wd K T g s H) (m : Mine g H B f) : Wd K T (g.all H f) s H where
  sub := fun a u e => by
    by_cases h : a ∈ f
    · rw [Gh.all_in h] at e; exact e
    · rw [Gh.all_out h] at e; exact w.sub a u e
  cache := fun l t e => by
    obtain ⟨kvs, a, b⟩ := w.cache l t e
    exact ⟨kvs, a, ok.cache (Gh.le_all m.nF) b⟩
  hand := by
    obtain ⟨vs, a, b⟩ := w.hand
    exact ⟨vs, a, ok.hand (Gh.le_all m.nF) b⟩
  sepC := fun l t e => by
    have hne : l ∉ f := fun h => by
      have e' : g.C l = some t := e
      rw [m.nC l h] at e'; cases e'
    exact ⟨by rw [Gh.all_out hne]; exact (w.sepC l t e).1, (w.sepC l t e).2⟩
  sepH := by
    show (g.all H f).F g.ha = none
    rw [Gh.all_out fun h => m.nH _ h rfl]; exact w.sepH
  tabs := w.tabs.mono (fun _ _ e => e) (fun q ps e n => by rw [Gh.all_out fun z => by obtain ⟨o, e2, oo⟩ := m.here q z; rw [e] at e2; cases e2; exact oo]; exact n) (Gh.le_all m.nF)
theorem Step.all {f : List Addr} (st : Step g0 B g H) (m : Mine g H B f) : Step g0 B (g.all H f) H where
  le := st.le.trans (Gh.le_all m.nF)
  pres := st.pres
  stay := st.stay
  newC := st.newC
  newF := fun a u e => by
    by_cases h : a ∈ f
    · exact .inr (m.nB a h)
    · rw [Gh.all_out h] at e; exact st.newF a u e
theorem Own.all {f fs : List Addr} (ok : T.Ok) (m : ∀ p ∈ fs, g.F p = none) {d : D} {v : V} (h : Own K T g H d v f) (hs : ∀ p ∈ f, p ∈ fs) : Rep K T (g.all H fs) d v := by
  cases h with
  | lst h r => exact .lst (by rw [Gh.all_in (hs _ (by simp))]; exact h) (r.mono ok (Gh.le_all m))
theorem Owns.all {fs : List Addr} (ok : T.Ok) (m : ∀ p ∈ fs, g.F p = none) : ∀ {d : List D} {v : List V} {f : List Addr}, Owns K T g H d v f → (∀ p ∈ f, p ∈ fs) → Reps K T (g.all H fs) d v
  | _, _, _, .nil, _ => .nil
  | _, _, _, .cons h r, hs => .cons (h.all ok m fun p q => hs p (List.mem_append_left _ q)) (Owns.all ok m r fun p q => hs p (List.mem_append_right _ q))
theorem Mtx.all {f fs : List Addr} (ok : T.Ok) (m : ∀ p ∈ fs, g.F p = none) {d : D} {v : V} (h : Mtx K T g H d v f) (hs : ∀ p ∈ f, p ∈ fs) : Rep K T (g.all H fs) d v := by
  cases h with
  | lst h r => exact .lst (by rw [Gh.all_in (hs _ (by simp))]; exact h) (r.all ok m fun p q => hs p (List.mem_cons_of_mem _ q))
theorem Own.le {f : List Addr} (ok : T.Ok) (le : g.Le g') {d : D} {v : V} (h : Own K T g H d v f) : Own K T g' H d v f := by
  cases h with
  | lst h r => exact .lst h (r.mono ok le)
theorem Owns.le (ok : T.Ok) (le : g.Le g') : ∀ {d : List D} {v : List V} {f : List Addr}, Owns K T g H d v f → Owns K T g' H d v f
  | _, _, _, .nil => .nil
  | _, _, _, .cons h r => .cons (h.le ok le) (Owns.le ok le r)
theorem SlotOk.le {f : List Addr} (ok : T.Ok) (le : g.Le g') {sl : Slot} {o : Option V} (h : SlotOk K T g H sl o f) : SlotOk K T g' H sl o f := by
  cases h with
  | un => exact .un
  | fz r => exact .fz (r.mono ok le)
  | ow h => exact .ow (h.le ok le)
  | mx h =>
    cases h with
    | lst h1 h2 => exact .mx (.lst h1 (h2.le ok le))
theorem Slots.all {env : Env} {σ : L2.St} {fp : Nat → List Addr} {i : Nat} {d : D} {v : V} (ok : T.Ok) (sl : Slots K T g H B env σ fp) (hi : i < env.length) (hv : σ[i]? = some (some v)) (r : Rep K T (g.all H (fp i)) d v) :
    Slots K T (g.all H (fp i)) H B (env.set i (.fz d)) σ (fun j => if j = i then [] else fp j) := by
  have m := sl.own i
  have le := Gh.le_all (H := H) m.nF
  refine ⟨by rw [List.length_set]; exact sl.len, fun j sl' e' => ?_, fun j => ?_, fun j k hjk a ha => ?_, fun j => ?_⟩
  · by_cases hj : i = j
    · subst hj
      rw [List.getElem?_set_self hi] at e'
      cases e'
      exact ⟨_, hv, by rw [if_pos rfl]; exact .fz r⟩
    · rw [List.getElem?_set_ne hj] at e'
      obtain ⟨o', a', b'⟩ := sl.at_ j sl' e'
      exact ⟨o', a', by rw [if_neg (Ne.symm hj)]; exact b'.le ok le⟩
  · by_cases hj : j = i
    · rw [if_pos hj]; exact List.nodup_nil
    · rw [if_neg hj]; exact sl.nd j
  · by_cases hj : j = i
    · rw [if_pos hj] at ha; simp at ha
    · rw [if_neg hj] at ha
      by_cases hk : k = i
      · rw [if_pos hk]; simp
      · rw [if_neg hk]; exact sl.dis j k hjk a ha
  · by_cases hj : j = i
    · rw [if_pos hj]; exact .nil
    · rw [if_neg hj]
      exact ⟨(sl.own j).here, fun a ha => by rw [Gh.all_out fun z => sl.dis j i hj a ha z]; exact (sl.own j).nF a ha, (sl.own j).nC, (sl.own j).nH, (sl.own j).nB⟩
/-- an own list lasts from here on: nothing runs -/
theorem frz_imp {i : Nat} {ms : Env → M S Fl} (ok : T.Ok) {σ : L2.St} (h : tS K T XT E g0 B (fun env => M.bind (frzE i env) fun f => match f with | .nxt e => ms e | f => M.pure f) Dn σ H) : tS K T XT E g0 B ms Dn σ H := by
  obtain ⟨g, s, env, fp, w, sl, st, p⟩ := h
  have p : PostS K T XT E g0 B g ((frzE i env s).bind fun f s => (match f with | .nxt e => ms e | f => M.pure f : M S Fl) s) Dn := p
  unfold frzE at p
  have go : ∀ d, (env[i]? = some (.ow d) ∨ env[i]? = some (.mx d)) → PostS K T XT E g0 B g (ms (env.set i (.fz d)) s) Dn → tS K T XT E g0 B ms Dn σ H := fun d e p => by
    have m := sl.own i
    have hi : i < env.length := by
      rcases e with e | e <;> exact (List.getElem?_eq_some_iff.mp e).1
    have r : ∃ v, σ[i]? = some (some v) ∧ Rep K T (g.all H (fp i)) d v := by
      rcases e with e | e
      · obtain ⟨o, a, b⟩ := sl.at_ i _ e
        generalize hf : fp i = f at b m
        cases b with
        | ow q => exact ⟨_, a, q.all ok m.nF fun _ z => z⟩
      · obtain ⟨o, a, b⟩ := sl.at_ i _ e
        generalize hf : fp i = f at b m
        cases b with
        | mx q => exact ⟨_, a, q.all ok m.nF fun _ z => z⟩
    obtain ⟨v, hv, r⟩ := r
    exact ⟨g.all H (fp i), s, env.set i (.fz d), _, w.all ok m, sl.all ok hi hv r, st.all m, PostS.le (Gh.le_all m.nF) p⟩
  cases e : env[i]? with
  | none => rw [e] at p; exact ⟨g, s, env, fp, w, sl, st, p⟩
  | some x =>
    cases x with
    | ow d => rw [e] at p; exact go d (.inl e) p
    | mx d => rw [e] at p; exact go d (.inr e) p
    | un => rw [e] at p; exact ⟨g, s, env, fp, w, sl, st, p⟩
    | fz d => rw [e] at p; exact ⟨g, s, env, fp, w, sl, st, p⟩
end
end Mp

set_option Elab.async false
set_option linter.all false
set_option maxRecDepth 100000
set_option maxHeartbeats 4000000
/-! Statements that write lists; loops. -/
namespace Mp
open PySem PySem.Spec PyProof.Rows L2

section
variable {S : Type} (K : PySem.W.Frag) (T : Tab S) (XT : ExcT) (E : XK) (g0 : Gh) (B : Hp)
def PostX (g : Gh) (r : R S (D × Env)) (Q : Gh → S → Hp → (Nat → List Addr) → D × Env → Prop) (σ : L2.St) : Prop :=
  match r with
  | .ok p s => ∀ g' H' fp', g.Le g' → Step g0 B g' H' → Wd K T g' s H' → Slots K T g' H' B p.2 σ fp' → Q g' s H' fp' p
  | .exc c fs s => ∀ g' H' cls dd, Step g0 B g' H' → Wd K T g' s H' → XT g' H' c fs cls dd → E cls dd H'
  | .bad => False
/-- an expression that writes lists of one's own -/
def tX (m : Env → M S (D × Env)) : TE := fun σ H Q => ∃ g s env fp, Wd K T g s H ∧ Slots K T g H B env σ fp ∧ Step g0 B g H ∧ PostX K T XT E g0 B g (m env s) (fun g' _ H' _ p => ∀ v, Rep K T g' p.1 v → Q v H') σ
end
section
variable {S : Type} {K : PySem.W.Frag} {T : Tab S} {XT : ExcT} {E : XK} {g0 g g' : Gh} {B H H' : Hp} {Dn : Ends}
theorem PostX.bind {α : Type} {m : M S α} {f : α → M S (D × Env)} {s : S} {σ : L2.St} {Q : Gh → S → Hp → (Nat → List Addr) → D × Env → Prop} (st : Step g0 B g H) (h : PostX K T XT E g0 B g (M.bind m f s) Q σ) :
    Post K T XT E g H (m s) fun g1 s1 H1 a => Wd K T g1 s1 H1 ∧ Step g H g1 H1 ∧ Step g0 B g1 H1 ∧ PostX K T XT E g0 B g1 (f a s1) Q σ := by
  unfold M.bind at h
  cases e : m s with
  | ok a s1 =>
    rw [e] at h
    refine fun g1 H1 st1 w => ⟨w, st1, st.trans st1, ?_⟩
    show PostX K T XT E g0 B g1 (f a s1) Q σ
    have h : PostX K T XT E g0 B g (f a s1) Q σ := h
    cases e2 : f a s1 with
    | ok p s2 => rw [e2] at h; exact fun g2 H2 fp2 l2 => h g2 H2 fp2 (st1.le.trans l2)
    | exc c fs s2 => rw [e2] at h; exact h
    | bad => rw [e2] at h; exact h
  | exc c fs s1 =>
    rw [e] at h
    exact fun g1 H1 cls dd st1 w x => h g1 H1 cls dd (st.trans st1) w x
  | bad => rw [e] at h; exact h
theorem PostX.opt {α : Type} {o : Option α} {f : α → M S (D × Env)} {s : S} {σ : L2.St} {Q : Gh → S → Hp → (Nat → List Addr) → D × Env → Prop} (h : PostX K T XT E g0 B g (M.bind (M.opt o) f s) Q σ) : ∃ a, o = some a ∧ PostX K T XT E g0 B g (f a s) Q σ := by
  cases o with
  | none => exact h.elim
  | some a => exact ⟨a, rfl, h⟩
theorem PostX.bind_int {m : M S D} {f : Option Int → M S (D × Env)} {s : S} {σ : L2.St} {Q : Gh → S → Hp → (Nat → List Addr) → D × Env → Prop} (h : PostX K T XT E g0 B g (M.bind (M.bind m fun x => M.bind (M.opt (asInt x)) fun i => M.pure (some i)) f s) Q σ) :
    PostX K T XT E g0 B g (M.bind m (fun x => M.bind (M.opt (asInt x)) fun k => f (some k)) s) Q σ := by
  have e : M.bind (M.bind m fun x => M.bind (M.opt (asInt x)) fun i => M.pure (some i)) f s = M.bind m (fun x => M.bind (M.opt (asInt x)) fun k => f (some k)) s := by
    show R.bind (R.bind (m s) _) _ = R.bind (m s) _
    cases m s with
    | ok x s1 =>
      show R.bind (R.bind (M.opt (asInt x) s1) _) _ = R.bind (M.opt (asInt x) s1) _
      cases asInt x <;> rfl
    | exc c fs s1 => rfl
    | bad => rfl
  rw [← e]
  exact h
/-- an own list is written -/
theorem Slots.wrL {env : Env} {σ : L2.St} {fp : Nat → List Addr} {i : Nat} {p : Addr} {ds : List D} {vs : List V} (h : Slots K T g H B env σ fp) (hf : fp i = [p]) (hv : σ[i]? = some (some (.ref p))) (r : Reps K T g ds vs) :
    Slots K T g (upd H p (.lst vs)) B (env.set i (.ow (.lst ds))) σ fp := h.wr trivial hf hv (.lst upd_same r)
/-- a statement's bind over an expression that writes -/
theorem PostS.bindX {m : M S (D × Env)} {f : D × Env → M S Fl} {s : S} {σ : L2.St} (h : PostS K T XT E g0 B g (M.bind m f s) Dn) :
    PostX K T XT E g0 B g (m s) (fun g1 s1 H1 fp1 p => Wd K T g1 s1 H1 ∧ Slots K T g1 H1 B p.2 σ fp1 ∧ Step g0 B g1 H1 ∧ PostS K T XT E g0 B g1 (f p s1) Dn) σ := by
  unfold M.bind at h
  cases e : m s with
  | ok a s1 =>
    rw [e] at h
    exact fun g1 H1 fp1 l st1 w sl => ⟨w, sl, st1, PostS.le l h⟩
  | exc c fs s1 => rw [e] at h; exact h
  | bad => rw [e] at h; exact h
theorem PostX.imp {r : R S (D × Env)} {σ : L2.St} {Q Q' : Gh → S → Hp → (Nat → List Addr) → D × Env → Prop} (h : PostX K T XT E g0 B g r Q σ) (q : ∀ g' s' H' fp' a, Q g' s' H' fp' a → Q' g' s' H' fp' a) : PostX K T XT E g0 B g r Q' σ := by
  cases r with
  | ok a s => exact fun g2 H2 fp2 l s2 w sl => q _ _ _ _ _ (h g2 H2 fp2 l s2 w sl)
  | exc c fs s => exact h
  | bad => exact h
end
section
variable {S : Type} {X : Cx} {T : Tab S} {XT : ExcT} {E : XK} {g0 : Gh} {B : Hp}
theorem sq_ty {p : Addr} {vs : List V} {K : PySem.W.Frag} {H : Hp} (h : H p = some (.lst vs)) : tyV K "list" (.ref p) H := .inl ⟨rfl, vs, .inl (.inl h)⟩
theorem mx_pop0 {i : Nat} {o : Expr} {ap cp : Pos} (ok : T.Ok) (ho : PE X o (tVar i)) (hbase : attributeBase o "pop" X.env (eval o X.env) = eval o X.env) (hline : (ap.endLine == cp.line) = true) :
    PE X (.Call (.Attribute o "pop" ap) [] [] cp) (tX X.K T XT E g0 B fun env => popM (M.pure none) i env) :=
  pe_imp (pe_bm0 PySem.F.plainAttrs_list PySem.F.slot_list_pop PySem.F.type_list_pop (id mt_pop) ho hbase hline) fun σ H Q ⟨g, s, env, fp, w, sl, st, p⟩ => by
    obtain ⟨xs, e1, p1⟩ := PostX.opt p
    obtain ⟨y, e2, p2⟩ := PostX.opt (o := popAt xs none) p1
    obtain ⟨q, vs, hf, hv, hq, r, hF, hC, hH, hB⟩ := sl.lst e1
    obtain ⟨d, e3, e4⟩ := Option.map_eq_some_iff.mp e2
    subst e4
    obtain ⟨v, hv2, rv⟩ := r.get e3
    rw [r.length] at hv2
    refine ⟨_, hv, sq_ty hq, q, vs, v, rfl, rfl, hq, hv2, ?_⟩
    exact p2 g (upd H q (.lst vs.dropLast)) fp (.refl g) (upd_step st hB) (w.updL hq hF hC hH) (sl.wrL hf hv r.dropLast) v rv
theorem int_fit {n : Nat} {i : Int} {k : Nat} (h : ixN n i = some k) (hn : n ≤ sizeLine) : -(2 ^ 63) ≤ i ∧ i < 2 ^ 63 := by
  obtain ⟨_, _, h3, h4⟩ := ixN_seq h
  have := sizeLine_eq
  omega
/-- one argument -/
theorem ml_one {e : Expr} {m : Env → M S D} (ok : T.Ok) (h : PE X e (tE X.K T XT E B m)) (hs : starEach [e] X.env = (false, eval e X.env) :: starEach [] X.env) : PA X [e] (fun σ H Q => tE X.K T XT E B m σ H fun v H1 => Q [v] H1) := pa_imp (pa_cons h pa_nil hs) fun σ H Q q => q
/-- a list that one has is not too long -/
theorem lst_fit {pins : List (Addr × Obj)} {σ : L2.St} {H : Hp} {s : Shared} {p : Addr} {vs : List V} (I : Inv X pins σ H s) (h : H p = some (.lst vs)) : vs.length ≤ sizeLine := (I.lstM h).1
theorem mt_popAt' {pins : List (Addr × Obj)} {s : Shared} {σ : L2.St} {H : Hp} {v : Value} {us : List Value} {Q : VK} {x : V} {zs : List V} (I : Inv X pins σ H s) (rx : RelV x v) (rs : Vals zs us)
    (h : ∃ l xs i k y, x = .ref l ∧ zs = [.int i] ∧ H l = some (.lst xs) ∧ ixN xs.length i = some k ∧ xs[k]? = some y ∧ Q y (upd H l (.lst (xs.eraseIdx k)))) : wpAny (model X.prog X.w) X.A (call (.builtin "list.pop") (v :: us)) (EP X pins σ Q) X.xe s := by
  obtain ⟨l, xs, i, k, y, e1, e2, e3, e4, e5, e6⟩ := h
  have := int_fit e4 (lst_fit I e3)
  exact mt_popAt pins s σ H x zs v us Q I rx rs ⟨l, xs, i, k, y, e1, e2, e3, this.1, this.2, (ixN_seq e4).1, e5, e6⟩
theorem mx_pop1 {i : Nat} {o e : Expr} {ap cp : Pos} {m : Env → M S D} (ok : T.Ok) (ho : PE X o (tVar i)) (ha : PE X e (tE X.K T XT E B m))
    (hbase : attributeBase o "pop" X.env (eval o X.env) = eval o X.env)
    (hfew : ((backTo cp (starEach [e] X.env)).all (fun x => !x.1) && (backToKw cp (keywordEach [] X.env)).all (fun x => x.1.isSome)
      && decide ([e].length + ([] : List Keyword).length + (if ([] : List Keyword).isEmpty then 0 else 1) < 30)) = true)
    (hline : (ap.endLine == cp.line) = true) (hs : starEach [e] X.env = (false, eval e X.env) :: starEach [] X.env) (hplain : (backTo cp (starEach [] X.env)).any (·.1) = false) :
    PE X (.Call (.Attribute o "pop" ap) [e] [] cp) (tX X.K T XT E g0 B fun env => popM (M.bind (m env) fun x => M.bind (M.opt (asInt x)) fun i => M.pure (some i)) i env) :=
  pe_imp (pe_bm PySem.F.plainAttrs_list PySem.F.slot_list_pop PySem.F.type_list_pop (r := fun x zs H Q => ∃ l xs i k y, x = .ref l ∧ zs = [.int i] ∧ H l = some (.lst xs) ∧ ixN xs.length i = some k ∧ xs[k]? = some y ∧ Q y (upd H l (.lst (xs.eraseIdx k))))
      (fun pins s σ H x xs v us Q I rx rs h => mt_popAt' I rx rs h) ho (ml_one ok ha hs) hbase hfew hline hs hplain) fun σ H Q ⟨g, s, env, fp, w, sl, st, p⟩ => by
    obtain ⟨xs, e1, p1⟩ := PostX.opt p
    obtain ⟨q, vs, hf, hv, hq, r, hF, hC, hH, hB⟩ := sl.lst e1
    have p0 := PostX.bind_int p1
    refine ⟨_, hv, sq_ty hq, g, s, env, fp, w, sl, (p0.bind st).imp fun g1 s1 H1 x ⟨w1, st1, st2, p2⟩ u ru => ?_⟩
    obtain ⟨k, e3, p3⟩ := p2.opt
    obtain ⟨y, e4, p4⟩ := PostX.opt (o := popAt xs (some k)) p3
    obtain ⟨j, e5, e6⟩ := Option.bind_eq_some_iff.mp e4
    obtain ⟨d, e7, e8⟩ := Option.map_eq_some_iff.mp e6
    subst e8
    cases x with
    | int k' =>
      cases e3
      cases ru
      have hq1 := st1.nob hq hF hC hH
      obtain ⟨v, hv2, rv⟩ := r.get e7
      have r1 := r.mono ok st1.le
      refine ⟨q, vs, k, j, v, rfl, rfl, hq1.1, by rw [← r.length]; exact e5, hv2, ?_⟩
      exact p4 g1 (upd H1 q (.lst (vs.eraseIdx j))) fp (.refl _) (upd_step st2 hB) (w1.updL hq1.1 hq1.2.1 hq1.2.2.1 hq1.2.2.2) ((sl.step ok st1).wrL hf hv (r1.eraseIdx j)) v (rv.mono ok st1.le)
    | _ => cases e3
/-- xs.append(e) -/
theorem ms_app {i : Nat} {o e : Expr} {ap cp pos : Pos} {m : Env → M S D} (ok : T.Ok) (ho : PE X o (tVar i)) (ha : PE X e (tE X.K T XT E B m))
    (hbase : attributeBase o "append" X.env (eval o X.env) = eval o X.env)
    (hfew : ((backTo cp (starEach [e] X.env)).all (fun x => !x.1) && (backToKw cp (keywordEach [] X.env)).all (fun x => x.1.isSome)
      && decide ([e].length + ([] : List Keyword).length + (if ([] : List Keyword).isEmpty then 0 else 1) < 30)) = true)
    (hline : (ap.endLine == cp.line) = true) (hs : starEach [e] X.env = (false, eval e X.env) :: starEach [] X.env) (hplain : (backTo cp (starEach [] X.env)).any (·.1) = false)
    (hsw : swapsWith (.Call (.Attribute o "append" ap) [e] [] cp) none pos.line X.env = pure false) :
    PS X (.Expr (.Call (.Attribute o "append" ap) [e] [] cp) pos) (tS X.K T XT E g0 B fun env => M.bind (M.opt (lstAt env i)) fun xs => M.bind (m env) fun d => M.need (decide (xs.length < LIM)) (M.pure (.nxt (env.set i (.ow (.lst (xs ++ [d]))))))) :=
  ps_imp (ps_expr (pe_bm PySem.F.plainAttrs_list PySem.F.slot_list_append PySem.F.type_list_append (id mt_append) ho (ml_one ok ha hs) hbase hfew hline hs hplain) hsw) fun Dn σ H ⟨g, s, env, fp, w, sl, st, p⟩ => by
    obtain ⟨xs, e1, p1⟩ := PostS.opt p
    obtain ⟨q, vs, hf, hv, hq, r, hF, hC, hH, hB⟩ := sl.lst e1
    refine ⟨_, hv, sq_ty hq, g, s, env, fp, w, sl, (p1.bind st).imp fun g1 s1 H1 d ⟨w1, st1, st2, p2⟩ u ru => ?_⟩
    obtain ⟨hn, p3⟩ := PostS.need (m := M.pure (Fl.nxt (env.set i (.ow (.lst (xs ++ [d])))))) p2
    have hn := of_decide_eq_true hn
    have hq1 := st1.nob hq hF hC hH
    have hl := r.length
    refine ⟨q, vs, u, rfl, rfl, hq1.1, Nat.lt_of_lt_of_le (by rw [← hl]; exact hn) (lim_line (Nat.le_refl _)), ?_⟩
    exact p3 g1 (upd H1 q (.lst (vs ++ [u]))) _ fp (.refl _) (upd_step st2 hB) (w1.updL hq1.1 hq1.2.1 hq1.2.2.1 hq1.2.2.2) ((sl.step ok st1).wrL hf hv ((r.mono ok st1.le).append (.cons ru .nil)))
/-- xs.extend(e) -/
theorem ms_ext {i : Nat} {o e : Expr} {ap cp pos : Pos} {m : Env → M S D} (ok : T.Ok) (ho : PE X o (tVar i)) (ha : PE X e (tB X.K T XT E B m))
    (hbase : attributeBase o "extend" X.env (eval o X.env) = eval o X.env)
    (hfew : ((backTo cp (starEach [e] X.env)).all (fun x => !x.1) && (backToKw cp (keywordEach [] X.env)).all (fun x => x.1.isSome)
      && decide ([e].length + ([] : List Keyword).length + (if ([] : List Keyword).isEmpty then 0 else 1) < 30)) = true)
    (hline : (ap.endLine == cp.line) = true) (hs : starEach [e] X.env = (false, eval e X.env) :: starEach [] X.env) (hplain : (backTo cp (starEach [] X.env)).any (·.1) = false)
    (hsw : swapsWith (.Call (.Attribute o "extend" ap) [e] [] cp) none pos.line X.env = pure false) :
    PS X (.Expr (.Call (.Attribute o "extend" ap) [e] [] cp) pos) (tS X.K T XT E g0 B fun env => M.bind (M.opt (lstAt env i)) fun xs => M.bind (m env) fun d => M.bind (M.opt (asLst d)) fun ys => M.need (decide (xs.length + ys.length ≤ LIM)) (M.pure (.nxt (env.set i (.ow (.lst (xs ++ ys))))))) :=
  ps_imp (ps_expr (pe_bm PySem.F.plainAttrs_list PySem.F.slot_list_extend PySem.F.type_list_extend (id mt_extend) ho (pa_imp (pa_cons ha pa_nil hs) (t' := fun σ H Q => tB X.K T XT E B m σ H fun v H1 => Q [v] H1) fun σ H Q q => q) hbase hfew hline hs hplain) hsw) fun Dn σ H ⟨g, s, env, fp, w, sl, st, p⟩ => by
    obtain ⟨xs, e1, p1⟩ := PostS.opt p
    obtain ⟨q, vs, hf, hv, hq, r, hF, hC, hH, hB⟩ := sl.lst e1
    refine ⟨_, hv, sq_ty hq, g, s, env, fp, w, sl, (p1.bind st).imp fun g1 s1 H1 d ⟨w1, st1, st2, p2⟩ u ru => ?_⟩
    obtain ⟨ys, e2, p3⟩ := PostS.opt p2
    obtain ⟨hn, p4⟩ := PostS.need (m := M.pure (Fl.nxt (env.set i (.ow (.lst (xs ++ ys)))))) p3
    have hn := of_decide_eq_true hn
    have hq1 := st1.nob hq hF hC hH
    have hl := r.length
    cases d with
    | lst zs =>
      cases e2
      obtain ⟨b, us, rfl, hb, rb⟩ := brep_lst w1 ru
      have hl2 := rb.length
      refine ⟨q, b, vs, us, rfl, rfl, hq1.1, hb, lim_line (by rw [← hl, ← hl2]; exact hn), ?_⟩
      exact p4 g1 (upd H1 q (.lst (vs ++ us))) _ fp (.refl _) (upd_step st2 hB) (w1.updL hq1.1 hq1.2.1 hq1.2.2.1 hq1.2.2.2) ((sl.step ok st1).wrL hf hv ((r.mono ok st1.le).append rb))
    | _ => cases e2
/-- target = xs.pop(..) -/
theorem ms_pop {tt : Tg} {st : Stmt} {m : Env → M S (D × Env)} (ok : T.Ok) (h : PS X st (tAsg (tX X.K T XT E g0 B m) (tG X.K T B tt))) : PS X st (tS X.K T XT E g0 B fun env => M.bind (m env) fun p => M.bind (M.opt (tt.store p.1 p.2)) fun env' => M.pure (.nxt env')) :=
  ps_imp h fun Dn σ H ⟨g, s, env, fp, w, sl, st, p⟩ => ⟨g, s, env, fp, w, sl, st, p.bindX.imp fun g1 s1 H1 fp1 d ⟨w1, sl1, st1, p1⟩ v r => by
    obtain ⟨env', e, q⟩ := p1.opt
    exact ⟨g1, s1, d.2, fp1, d.1, env', w1, sl1, .inl r, e, fun σ' fp' sl' _ => q g1 H1 σ' fp' (.refl _) st1 w1 sl'⟩⟩
/-- xs.append(ys.pop(..)) -/
theorem ms_appPop {i j : Nat} {o e : Expr} {ap cp pos : Pos} {mk : Env → M S (Option Int)} (ok : T.Ok) (ho : PE X o (tVar i)) (ha : PE X e (tX X.K T XT E g0 B fun env => popM (mk env) j env))
    (hbase : attributeBase o "append" X.env (eval o X.env) = eval o X.env)
    (hfew : ((backTo cp (starEach [e] X.env)).all (fun x => !x.1) && (backToKw cp (keywordEach [] X.env)).all (fun x => x.1.isSome)
      && decide ([e].length + ([] : List Keyword).length + (if ([] : List Keyword).isEmpty then 0 else 1) < 30)) = true)
    (hline : (ap.endLine == cp.line) = true) (hs : starEach [e] X.env = (false, eval e X.env) :: starEach [] X.env) (hplain : (backTo cp (starEach [] X.env)).any (·.1) = false)
    (hsw : swapsWith (.Call (.Attribute o "append" ap) [e] [] cp) none pos.line X.env = pure false) :
    PS X (.Expr (.Call (.Attribute o "append" ap) [e] [] cp) pos) (tS X.K T XT E g0 B fun env => M.bind (M.opt (lstAt env i)) fun ys => M.bind (popM (mk env) j env) fun p => M.need (decide (i ≠ j) && decide (ys.length < LIM)) (M.pure (.nxt (p.2.set i (.ow (.lst (ys ++ [p.1]))))))) :=
  ps_imp (ps_expr (pe_bm PySem.F.plainAttrs_list PySem.F.slot_list_append PySem.F.type_list_append (id mt_append) ho (pa_imp (pa_cons ha pa_nil hs) (t' := fun σ H Q => tX X.K T XT E g0 B (fun env => popM (mk env) j env) σ H fun v H1 => Q [v] H1) fun σ H Q q => q) hbase hfew hline hs hplain) hsw) fun Dn σ H ⟨g, s, env, fp, w, sl, st, p⟩ => by
    obtain ⟨xs, e1, p1⟩ := PostS.opt p
    obtain ⟨q, vs, hf, hv, hq, r, hF, hC, hH, hB⟩ := sl.lst e1
    have key : ∀ p : D × Env, (∃ s1 s2, popM (mk env) j env s1 = .ok p s2) → ∃ d, p.2 = env.set j d := fun p ⟨s1, s2, z⟩ => by
      unfold popM at z
      cases e2 : lstAt env j with
      | none => rw [e2] at z; cases z
      | some ys =>
        rw [e2] at z
        have z : R.bind (mk env s1) (fun k => M.bind (M.opt (popAt ys k)) fun p => M.pure (p.1, env.set j (.ow (.lst p.2)))) = .ok p s2 := z
        cases e3 : mk env s1 with
        | ok k s3 =>
          rw [e3] at z
          have z : R.bind (M.opt (popAt ys k) s3) (fun p => M.pure (p.1, env.set j (.ow (.lst p.2)))) = .ok p s2 := z
          cases e4 : popAt ys k with
          | none => rw [e4] at z; cases z
          | some y => rw [e4] at z; cases z; exact ⟨_, rfl⟩
        | exc c fs s3 => rw [e3] at z; cases z
        | bad => rw [e3] at z; cases z
    refine ⟨_, hv, sq_ty hq, g, s, env, fp, w, sl, st, ?_⟩
    have p2 := p1.bindX (σ := σ)
    show PostX X.K T XT E g0 B g (popM (mk env) j env s) _ σ
    cases ep : popM (mk env) j env s with
    | ok pr s1 =>
      rw [ep] at p2
      intro g1 H1 fp1 l1 st1 w1 sl1 u ru
      obtain ⟨_, _, _, p3⟩ := p2 g1 H1 fp1 l1 st1 w1 sl1
      obtain ⟨hn, p4⟩ := PostS.need (m := M.pure (Fl.nxt (pr.2.set i (.ow (.lst (xs ++ [pr.1])))))) p3
      rw [Bool.and_eq_true] at hn
      have hij := of_decide_eq_true hn.1
      have hn := of_decide_eq_true hn.2
      obtain ⟨d, hd⟩ := key pr ⟨_, _, ep⟩
      have e5 : lstAt pr.2 i = some xs := by
        unfold lstAt Env.own
        rw [hd, List.getElem?_set_ne (Ne.symm hij), lst_slot e1]
      obtain ⟨q1, vs1, hf1, hv1, hq1, r1, hF1, hC1, hH1, hB1⟩ := sl1.lst e5
      rw [hv] at hv1
      cases hv1
      have hl := r1.length
      refine ⟨q, vs1, u, rfl, rfl, hq1, Nat.lt_of_lt_of_le (by rw [← hl]; exact hn) (lim_line (Nat.le_refl _)), ?_⟩
      exact p4 g1 (upd H1 q (.lst (vs1 ++ [u]))) _ fp1 (.refl _) (upd_step st1 hB1) (w1.updL hq1 hF1 hC1 hH1) (sl1.wrL hf1 hv (r1.append (.cons ru .nil)))
    | exc c fs s1 => rw [ep] at p2; exact p2
    | bad => rw [ep] at p2; exact p2
/-- xs[k] = e, xs a list -/
theorem ms_putL {i : Nat} {st : Stmt} {to tk : TE} {mv mk : Env → M S D} (ok : T.Ok) (h : PS X st (tAsg (tE X.K T XT E B mv) (gSub (tVar i) (tE X.K T XT E B mk) rSetL))) :
    PS X st (tS X.K T XT E g0 B fun env => M.bind (mv env) fun v => M.bind (M.opt (lstAt env i)) fun xs => M.bind (mk env) fun kv => M.bind (M.opt (D.putAt (.lst xs) kv v)) fun c' => M.pure (.nxt (env.set i (.ow c')))) :=
  ps_imp h fun Dn σ H ⟨g, s, env, fp, w, sl, st, p⟩ => ⟨g, s, env, fp, w, sl, (p.bind st).imp fun g1 s1 H1 d ⟨w1, st1, st2, p1⟩ v rv => by
    obtain ⟨xs, e1, p2⟩ := p1.opt
    have sl1 := sl.step ok st1
    obtain ⟨q, vs, hf, hv, hq, r, hF, hC, hH, hB⟩ := sl1.lst e1
    refine ⟨_, hv, g1, s1, env, fp, w1, sl1, (p2.bind st2).imp fun g3 s3 H3 kv ⟨w3, st3, st4, p3⟩ u ru => ?_⟩
    obtain ⟨c', e2, p4⟩ := p3.opt
    have hq1 := st3.nob hq hF hC hH
    cases kv with
    | int k =>
      obtain ⟨j, e3, e4⟩ := Option.map_eq_some_iff.mp (show ((ixN xs.length k).map fun j => D.lst (xs.set j d)) = some c' from e2)
      subst e4
      cases ru
      refine ⟨q, vs, k, j, rfl, rfl, hq1.1, by rw [← r.length]; exact e3, ?_⟩
      exact p4 g3 (upd H3 q (.lst (vs.set j v))) σ fp (.refl _) (upd_step st4 hB) (w3.updL hq1.1 hq1.2.1 hq1.2.2.1 hq1.2.2.2) ((sl1.step ok st3).wrL hf hv ((r.mono ok st3.le).set (rv.mono ok st3.le) j))
    | _ => cases e2⟩

/-! ### loops -/
theorem ms_while {c : Expr} {body : List Stmt} {pos : Pos} {mc : Env → M S D} {mb : Env → M S Fl} (ok : T.Ok) (hp : PassesOwn (model X.prog X.w) X.A X.env X.xe) (hc : PT X c (tT X.K T XT E B mc)) (hb : PSs X body (tS X.K T XT E g0 B mb)) :
    PS X (.While c body [] pos) (tS X.K T XT E g0 B fun env => whileL (fun e => M.bind (mc e) fun x => M.opt (asBl x)) mb WL env) :=
  ps_imp (ps_while hp hc hb) fun Dn σ H ⟨g, s, env, fp, w, sl, st, p⟩ => by
    refine ⟨fun n σ H => ∃ g s env fp, Wd X.K T g s H ∧ Slots X.K T g H B env σ fp ∧ Step g0 B g H ∧ PostS X.K T XT E g0 B g (whileL (fun e => M.bind (mc e) fun x => M.opt (asBl x)) mb n env s) Dn, ⟨WL, g, s, env, fp, w, sl, st, p⟩, ?_⟩
    rintro n σ H ⟨g, s, env, fp, w, sl, st, p⟩
    cases n with
    | zero => exact p.elim
    | succ n =>
      have p : PostS X.K T XT E g0 B g (M.bind (M.bind (mc env) fun x => M.opt (asBl x)) (fun k => if k = true then M.bind (mb env) (fun f => match f with
        | .nxt e => whileL (fun e => M.bind (mc e) fun x => M.opt (asBl x)) mb n e
        | .cnt e => whileL (fun e => M.bind (mc e) fun x => M.opt (asBl x)) mb n e
        | .brk e => M.pure (.nxt e)
        | .ret d => M.pure (.ret d)) else M.pure (.nxt env)) s) Dn := p
      refine ⟨g, s, env, fp, w, sl, ?_⟩
      have p1 := p.bind st
      cases e : mc env s with
      | ok x s1 =>
        unfold M.bind at p1
        rw [e] at p1
        cases x with
        | bl c =>
          intro g1 H1 st1 w1
          obtain ⟨_, _, st2, p2⟩ := p1 g1 H1 st1 w1
          refine ⟨c, rfl, ?_⟩
          have sl1 := sl.step ok st1
          cases c with
          | true =>
            rw [if_pos rfl] at p2
            show if true = true then _ else _
            rw [if_pos rfl]
            refine ⟨_, fun σ' H' q => ⟨n, Nat.lt_succ_self n, q⟩, g1, s1, env, fp, w1, sl1, st2, ?_⟩
            have p2 : PostS X.K T XT E g0 B g1 (R.bind (mb env s1) (fun f => match f with
              | .nxt e => whileL (fun e => M.bind (mc e) fun x => M.opt (asBl x)) mb n e
              | .cnt e => whileL (fun e => M.bind (mc e) fun x => M.opt (asBl x)) mb n e
              | .brk e => M.pure (.nxt e)
              | .ret d => M.pure (.ret d))) Dn := p2
            cases e2 : mb env s1 with
            | ok f s2 =>
              rw [e2] at p2
              cases f with
              | nxt env' => exact fun g3 H3 σ3 fp3 l3 st3 w3 sl3 => ⟨g3, s2, env', fp3, w3, sl3, st3, PostS.le l3 p2⟩
              | cnt env' => exact fun g3 H3 σ3 fp3 l3 st3 w3 sl3 => ⟨g3, s2, env', fp3, w3, sl3, st3, PostS.le l3 p2⟩
              | brk env' => exact p2
              | ret d => exact p2
            | exc c fs s2 => rw [e2] at p2; exact p2
            | bad => rw [e2] at p2; exact p2
          | false =>
            rw [if_neg Bool.false_ne_true] at p2
            show if false = true then _ else _
            rw [if_neg Bool.false_ne_true]
            exact p2 g1 H1 σ fp (.refl _) st2 w1 sl1
        | _ => exact p1.elim
      | exc c fs s1 => unfold M.bind at p1; rw [e] at p1; exact p1
      | bad => unfold M.bind at p1; rw [e] at p1; exact p1
theorem ms_for {tg iter : Expr} {body : List Stmt} {pos : Pos} {tt : Tg} {mi : Env → M S (List D)} {mb : Env → M S Fl} (ok : T.Ok) (hp : PassesOwn (model X.prog X.w) X.A X.env X.xe) (hc : X.calm = true) (hi : PI X tg iter (tI X.K T XT E true B tt mi)) (hg : PG X tg (tG X.K T B tt)) (hb : PSs X body (tS X.K T XT E g0 B mb))
    (hs : ∀ x, foldedSetIterable iter X.env x = pure x) : PS X (.For tg iter body [] pos) (tS X.K T XT E g0 B fun env => M.bind (mi env) fun xs => forL tt mb xs env) :=
  ps_imp (ps_for hp hc hi hg hb hs) fun Dn σ H ⟨g, s, env, fp, w, sl, st, p⟩ => ⟨g, s, env, fp, w, sl, (p.bind st).imp fun g1 s1 H1 xs ⟨w1, st1, st2, p1⟩ J its => by
    refine ⟨fun i n σ H => n = xs.length - i ∧ i ≤ xs.length ∧ ∃ g s env fp, g1.Le g ∧ Wd X.K T g s H ∧ Slots X.K T g H B env σ fp ∧ Step g0 B g H ∧ PostS X.K T XT E g0 B g (forL tt mb (xs.drop i) env s) Dn, ⟨_, rfl, Nat.zero_le _, g1, s1, env, fp, .refl _, w1, sl.step ok st1, st2, by rw [List.drop_zero]; exact p1⟩, ?_⟩
    rintro i n σ H ⟨rfl, hi, g, s, env, fp, le, w, sl, st, p⟩
    obtain ⟨it, stop⟩ := its g s H (by show Way true _ _ _ _; exact le) w
    by_cases hlt : i < xs.length
    · obtain ⟨go, yld⟩ := it i _ (List.getElem?_eq_getElem hlt)
      refine .inr ⟨go, _, fun σ' H' q => ⟨xs.length - (i + 1), by omega, q⟩, fun x H' hy => ?_⟩
      obtain ⟨g3, st3, w3, io⟩ := yld x H' hy
      rw [List.drop_eq_getElem_cons hlt] at p
      have p : PostS X.K T XT E g0 B g (M.bind (M.opt (tt.store xs[i] env)) (fun env1 => M.bind (mb env1) fun f => match f with
        | .nxt e => forL tt mb (xs.drop (i + 1)) e
        | .cnt e => forL tt mb (xs.drop (i + 1)) e
        | .brk e => M.pure (.nxt e)
        | .ret d => M.pure (.ret d)) s) Dn := p
      obtain ⟨env', e', p1⟩ := p.opt
      refine ⟨g3, s, env, fp, xs[i], env', w3, sl.step ok st3, io, e', fun σ' fp' sl' _ => ?_⟩
      refine ⟨g3, s, env', fp', w3, sl', st.trans st3, ?_⟩
      have p2 : PostS X.K T XT E g0 B g3 (R.bind (mb env' s) (fun f => match f with
        | .nxt e => forL tt mb (xs.drop (i + 1)) e
        | .cnt e => forL tt mb (xs.drop (i + 1)) e
        | .brk e => M.pure (.nxt e)
        | .ret d => M.pure (.ret d))) Dn := PostS.le st3.le p1
      cases e2 : mb env' s with
      | ok f s2 =>
        rw [e2] at p2
        cases f with
        | nxt env' => exact fun g4 H4 σ4 fp4 l4 st4 w4 sl4 => ⟨rfl, hlt, g4, s2, env', fp4, (le.trans st3.le).trans l4, w4, sl4, st4, PostS.le l4 p2⟩
        | cnt env' => exact fun g4 H4 σ4 fp4 l4 st4 w4 sl4 => ⟨rfl, hlt, g4, s2, env', fp4, (le.trans st3.le).trans l4, w4, sl4, st4, PostS.le l4 p2⟩
        | brk env' => exact p2
        | ret d => exact p2
      | exc c fs s2 => rw [e2] at p2; exact p2
      | bad => rw [e2] at p2; exact p2
    · have e : i = xs.length := by omega
      subst e
      rw [List.drop_length] at p
      exact .inl ⟨stop, p g H σ fp (.refl _) st w sl⟩⟩
end
end Mp

set_option Elab.async false
set_option linter.all false
set_option maxRecDepth 100000
set_option maxHeartbeats 4000000
/-! Functions: promises, calls. -/
namespace Mp
open PySem PySem.Spec PyProof.Rows L2

section
variable {S : Type} (K : PySem.W.Frag) (T : Tab S) (XT : ExcT)
/-- what the call of the function n promises -/
def spFn (cal : Nat → List D → M S D) (n : Nat) : Sp := fun vs H Q E => ∃ g s ds, Wd K T g s H ∧ Reps K T g ds vs ∧ Post K T XT E g H (cal n ds s) fun g' _ H' d => ∀ v, Rep K T g' d v → Q v H'
end
section
variable {S : Type} {X : Cx} {T : Tab S} {XT : ExcT} {E : XK} {B : Hp}
theorem me_call {e : Expr} {es : List Expr} {x : Str} {p pos : Pos} {ms : Env → M S (List D)} {cal : Nat → List D → M S D} {n k : Nat} {f : Addr} {fd : FuncData} {ps : List Str}
    (F : FnOk X.prog X.w X.K X.mg X.base (L2.CX X.prog X.w) k f fd ps (spFn X.K T XT cal n)) (hr : Room k X.A) (hg : Gl X x) (hm : X.mg x = some (.ref f)) (hk : PySem.W.keepIn X.K (.ref f) = true) (hb : Binds X.K fd ps []) (hx : Passes (L2.CX X.prog X.w) X E)
    (ha : PA X (e :: es) (tL X.K T XT E B ms)) (hdb : (x == ("__debug__" : Str)) = false) (he : starEach (e :: es) X.env = (false, eval e X.env) :: starEach es X.env) (hpl : (backTo pos (starEach es X.env)).any (·.1) = false) :
    PE X (.Call (.Name x p) (e :: es) [] pos) (tE X.K T XT E B fun env => M.bind (ms env) fun ds => cal n ds) :=
  pe_imp (pe_call F hr hg hm hk hb .nil hx ha hdb he hpl) fun σ H Q ⟨g, s, env, fp, w, sl, p⟩ => ⟨g, s, env, fp, w, sl, p.bind.imp fun g1 s1 H1 ds ⟨w1, st1, p1⟩ vs r => by
    show spFn X.K T XT cal n (vs ++ []) H1 Q E
    rw [List.append_nil]
    exact ⟨g1, s1, ds, w1, r, p1⟩⟩
theorem me_call0 {x : Str} {p pos : Pos} {cal : Nat → List D → M S D} {n k : Nat} {f : Addr} {fd : FuncData} {ps : List Str}
    (F : FnOk X.prog X.w X.K X.mg X.base (L2.CX X.prog X.w) k f fd ps (spFn X.K T XT cal n)) (hr : Room k X.A) (hg : Gl X x) (hm : X.mg x = some (.ref f)) (hk : PySem.W.keepIn X.K (.ref f) = true) (hb : Binds X.K fd ps []) (hx : Passes (L2.CX X.prog X.w) X E)
    (hdb : (x == ("__debug__" : Str)) = false) :
    PE X (.Call (.Name x p) [] [] pos) (tE X.K T XT E B fun env => M.bind (M.pure []) fun ds => cal n ds) :=
  pe_imp (pe_call0 F hr hg hm hk hb .nil hx hdb) fun σ H Q ⟨g, s, env, fp, w, sl, p⟩ => by
    show spFn X.K T XT cal n ([] ++ []) H Q E
    exact ⟨g, s, [], w, .nil, p⟩
end
/-! ### a def keeps its promise -/
section
variable {S : Type} {P : Program} {w : World} {K : PySem.W.Frag} {mg : Str → Option Value} {base : Heap} {T : Tab S} {XT : ExcT} {G : Nat → Option Fn} {dr : Dr S}
/-- as Fun.okX, with the code object that is the def's -/
theorem okC {x qual : Str} {st : Stmt} {f : Addr} {fd : FuncData} {N ps : List Str} {k : Nat} {sp : Sp} (F : Fun K x qual st f fd) (SC : FnScope N ps (defScope st)) (len : ∀ vs H Q E, sp vs H Q E → vs.length = ps.length)
    (hbody : ∀ (cdv : Value) (A : Around) (outer : List PySem.Env) (s : Shared) (H : Hp) (vs : List V) (Q : VK) (E : XK), fd.code = cdv → Room k (A.deeper (envOfC qual (defScope st) s.heap.objs.size f cdv)) → sp vs H Q E →
      ∃ t, PSs (cxOf (L2.CX P w) P w K mg base N qual (defScope st) f cdv A outer s H E) (defBody st) t ∧ t { nx := fun _ H' => Q .non H', rt := Q } (L2.start N vs) H) : FnOk P w K mg base (L2.CX P w) (k + 1) f fd ps sp := by
  obtain ⟨oc, od, kV, doc, pm, an, cdv, ct, osl, rfl, lk, hcd⟩ := F.ex
  exact fn_of lk hcd SC len fun A outer s H vs Q E hr hsp => hbody cdv A outer s H vs Q E rfl hr hsp
theorem map_at {ds : List D} {i : Nat} {sl : Slot} {m : Nat} (h : (ds.map Slot.fz ++ List.replicate m Slot.un)[i]? = some sl) : (∃ d, ds[i]? = some d ∧ sl = .fz d) ∨ (ds.length ≤ i ∧ i < ds.length + m ∧ sl = .un) := by
  by_cases hi : i < ds.length
  · rw [List.getElem?_append_left (by rw [List.length_map]; exact hi), List.getElem?_map] at h
    obtain ⟨d, h1, h2⟩ := Option.map_eq_some_iff.mp h
    exact .inl ⟨d, h1, h2.symm⟩
  · rw [List.getElem?_append_right (by rw [List.length_map]; omega), List.length_map] at h
    have h1 := (List.getElem?_eq_some_iff.mp h).1
    rw [List.length_replicate] at h1
    rw [List.getElem?_replicate, if_pos h1] at h
    cases h
    exact .inr ⟨by omega, by omega, rfl⟩
theorem slots_start {g : Gh} {H : Hp} {N : List Str} {ds : List D} {vs : List V} {ns : Nat} (r : Reps K T g ds vs) (hn : ns = N.length) (hle : ds.length ≤ ns) : Slots K T g H H (ds.map Slot.fz ++ List.replicate (ns - ds.length) Slot.un) (L2.start N vs) (fun _ => []) where
  len := by
    unfold L2.start
    rw [List.length_append, List.length_append, List.length_map, List.length_map, List.length_replicate, List.length_replicate, r.length, hn]
  at_ := fun i sl e => by
    unfold L2.start
    rcases map_at e with ⟨d, h1, h2⟩ | ⟨h1, h2, h3⟩
    · obtain ⟨v, hv, rv⟩ := r.get h1
      subst h2
      refine ⟨some v, ?_, .fz rv⟩
      have hi : i < vs.length := (List.getElem?_eq_some_iff.mp hv).1
      rw [List.getElem?_append_left (by rw [List.length_map]; exact hi), List.getElem?_map, hv]
      rfl
    · subst h3
      have hl := r.length
      refine ⟨none, ?_, .un⟩
      rw [List.getElem?_append_right (by rw [List.length_map]; omega), List.getElem?_replicate, List.length_map, if_pos (by omega)]
  nd := fun _ => List.nodup_nil
  dis := fun _ _ _ p hp => by simp at hp
  own := fun _ => .nil
theorem fn_codeG {x qual : Str} {st : Stmt} {f : Addr} {fd : FuncData} {N ps : List Str} {j n np ns : Nat} {body : List St} {cal cal2 : Nat → List D → M S D} (F : Fun K x qual st f fd) (SC : FnScope N ps (defScope st)) (hc : ∀ ds s, cal2 n ds s = runFn dr cal (.code np ns body) ds s) (hns : ns = N.length) (hnp : np = ps.length)
    (hbody : ∀ (cdv : Value) (A : Around) (outer : List PySem.Env) (s : Shared) (H : Hp) (E : XK) (g0 : Gh), fd.code = cdv → Room j (A.deeper (envOfC qual (defScope st) s.heap.objs.size f cdv)) →
      PSs (cxOf (L2.CX P w) P w K mg base N qual (defScope st) f cdv A outer s H E) (defBody st) (tS K T XT E g0 H (exs cal body))) :
    FnOk P w K mg base (L2.CX P w) (j + 1) f fd ps (spFn K T XT (cal2) n) := by
  have key : ∀ {vs : List V} {H : Hp} {Q : VK} {E : XK}, spFn K T XT (cal2) n vs H Q E → ∃ g s ds, Wd K T g s H ∧ Reps K T g ds vs ∧ ds.length = np ∧
      Post K T XT E g H (M.bind (exs cal body (ds.map Slot.fz ++ List.replicate (ns - np) Slot.un)) (fun f => match f with
        | .ret d => M.pure d
        | .nxt _ => M.pure .non
        | _ => M.bad) s) (fun g' _ H' d => ∀ v, Rep K T g' d v → Q v H') := fun {vs H Q E} ⟨g, s, ds, w, r, p⟩ => by
    rw [hc] at p
    have p : Post K T XT E g H (M.need (ds.length == np) (M.bind (exs cal body (ds.map Slot.fz ++ List.replicate (ns - np) Slot.un)) (fun f => match f with
        | .ret d => M.pure d
        | .nxt _ => M.pure .non
        | _ => M.bad)) s) _ := p
    obtain ⟨h1, p2⟩ := p.need
    exact ⟨g, s, ds, w, r, eq_of_beq h1, p2⟩
  refine okC F SC (fun vs H Q E h => ?_) fun cdv A outer s H vs Q E hcode hr h => ?_
  · obtain ⟨g, s, ds, w, r, hl, _⟩ := key h
    rw [← r.length, hl, hnp]
  · obtain ⟨g, s1, ds, w, r, hl, p⟩ := key h
    refine ⟨_, hbody cdv A outer s H E g hcode hr, g, s1, ds.map Slot.fz ++ List.replicate (ns - ds.length) Slot.un, fun _ => [], w, ?_, .refl g H, ?_⟩
    · have hpl : ps.length ≤ N.length := by
        have := congrArg List.length SC.pre
        rw [List.length_take] at this
        omega
      exact slots_start r hns (by rw [hl, hns, hnp]; exact hpl)
    · rw [hl]
      unfold M.bind at p
      cases e : exs cal body (ds.map Slot.fz ++ List.replicate (ns - np) Slot.un) s1 with
      | ok f s2 =>
        rw [e] at p
        cases f with
        | nxt env => exact fun g' H' σ' fp' _ st' w' _ => p g' H' st' w' .non .non
        | ret d => exact fun g' H' v _ st' w' rv => p g' H' st' w' v rv
        | brk env => exact p.elim
        | cnt env => exact p.elim
      | exc c fs s2 => rw [e] at p; exact p
      | bad => rw [e] at p; exact p
theorem fn_code {x qual : Str} {st : Stmt} {f : Addr} {fd : FuncData} {N ps : List Str} {j k n np ns : Nat} {body : List St} (F : Fun K x qual st f fd) (SC : FnScope N ps (defScope st)) (hG : G n = some (.code np ns body)) (hns : ns = N.length) (hnp : np = ps.length)
    (hbody : ∀ (cdv : Value) (A : Around) (outer : List PySem.Env) (s : Shared) (H : Hp) (E : XK) (g0 : Gh), fd.code = cdv → Room j (A.deeper (envOfC qual (defScope st) s.heap.objs.size f cdv)) →
      PSs (cxOf (L2.CX P w) P w K mg base N qual (defScope st) f cdv A outer s H E) (defBody st) (tS K T XT E g0 H (exs (callN G dr k) body))) :
    FnOk P w K mg base (L2.CX P w) (j + 1) f fd ps (spFn K T XT (callN G dr (k + 1)) n) :=
  fn_codeG F SC (fun ds s => by rw [callN_code G dr hG]) hns hnp hbody
theorem fn_eqf {x qual : Str} {st : Stmt} {f : Addr} {fd : FuncData} {N ps : List Str} {j k n np ns : Nat} {body : List St} (F : Fun K x qual st f fd) (SC : FnScope N ps (defScope st)) (hG : G n = some (.eqf np ns body)) (hns : ns = N.length) (hnp : np = ps.length)
    (hbody : ∀ (cdv : Value) (A : Around) (outer : List PySem.Env) (s : Shared) (H : Hp) (E : XK) (g0 : Gh), fd.code = cdv → Room j (A.deeper (envOfC qual (defScope st) s.heap.objs.size f cdv)) →
      PSs (cxOf (L2.CX P w) P w K mg base N qual (defScope st) f cdv A outer s H E) (defBody st) (tS K T XT E g0 H (exs (callN G dr k) body))) :
    FnOk P w K mg base (L2.CX P w) (j + 1) f fd ps (spFn K T XT (callN G dr (k + 2)) n) :=
  fn_codeG F SC (fun ds s => by rw [callN_eqf G dr hG]) hns hnp hbody
theorem fn_eqf0 {f : Addr} {fd : FuncData} {ps : List Str} {n j k np ns : Nat} {body : List St} (hG : G n = some (.eqf np ns body)) (hk : k ≤ 1) : FnOk P w K mg base (L2.CX P w) j f fd ps (spFn K T XT (callN G dr k) n) := by
  have key : ∀ ds s, callN G dr k n ds s = .bad := fun ds s => by
    match k, hk with
    | 0, _ => rfl
    | 1, _ =>
      unfold callN
      rw [hG]
      rfl
  have no : ∀ {vs H Q E}, ¬ spFn K T XT (callN G dr k) n vs H Q E := fun {vs H Q E} ⟨g, s, ds, _, _, p⟩ => by
    rw [key] at p
    exact p
  exact ⟨fun vs H Q E h => (no h).elim, fun A outer s H args us vs Q E _ _ _ _ h => (no h).elim⟩
theorem fn_zero {f : Addr} {fd : FuncData} {ps : List Str} {n j : Nat} : FnOk P w K mg base (L2.CX P w) j f fd ps (spFn K T XT (callN G dr 0) n) :=
  ⟨fun _ _ _ _ ⟨_, _, _, _, _, p⟩ => p.elim, fun _ _ _ _ _ _ _ _ _ _ _ _ _ ⟨_, _, _, _, _, p⟩ => p.elim⟩
end
end Mp

set_option Elab.async false
set_option linter.all false
set_option maxRecDepth 100000
set_option maxHeartbeats 4000000
/-! Lambdas given to a call. -/
namespace Mp
open PySem PySem.Spec PyProof.Rows L2

theorem hless_in {H : Hp} {L : List Addr} {a : Addr} (h : a ∈ L) : hless H L a = none := if_pos h
theorem hless_out {H : Hp} {L : List Addr} {a : Addr} (h : a ∉ L) : hless H L a = H a := if_neg h
theorem hless_some {H : Hp} {L : List Addr} {a : Addr} {o : HO} (h : hless H L a = some o) : a ∉ L ∧ H a = some o := by
  by_cases q : a ∈ L
  · rw [hless_in q] at h; cases h
  · rw [hless_out q] at h; exact ⟨q, h⟩
/-- the objects at L, as they stand, are followed too -/
def hmore (H : Hp) (L : List Addr) (h : Heap) : Hp := fun a => if a ∈ L then (h.get? a).map (ExO a) else H a
def Gh.more (g : Gh) (L : List Addr) (h : Heap) : Gh := { g with F := hmore g.F L h }
theorem hmore_in {H : Hp} {L : List Addr} {h : Heap} {a : Addr} {o : Obj} (hl : a ∈ L) (e : h.get? a = some o) : hmore H L h a = some (ExO a o) := by
  unfold hmore
  rw [if_pos hl, e]
  rfl
theorem hmore_out {H : Hp} {L : List Addr} {h : Heap} {a : Addr} (hl : a ∉ L) : hmore H L h a = H a := if_neg hl

theorem noclp_vals : ∀ {kvs : List (D × D)}, noclp kvs = true → nocls (kvs.map (·.2)) = true
  | [], _ => rfl
  | (k, v) :: r, h => by
    have h : (noclo k && noclo v && noclp r) = true := h
    rw [Bool.and_eq_true, Bool.and_eq_true] at h
    show (noclo v && nocls (r.map (·.2))) = true
    rw [h.1.2, noclp_vals h.2]; rfl
section
variable {S : Type} {K : PySem.W.Frag} {T : Tab S} {g : Gh}
mutual
/-- what holds no function of a lambda does not need the captured cells -/
theorem Rep.less {L : List Addr} (hL : ∀ a ∈ L, ∃ o, g.F a = some (ExO a o)) : ∀ (d : D) (v : V), Rep K T g d v → noclo d = true → Rep K T (g.less L) d v
  | _, _, .non, _ => .non
  | _, _, .bl b, _ => .bl b
  | _, _, .int i, _ => .int i
  | _, _, .str x, _ => .str x
  | _, _, .tup (a := a) h r, n => .tup (by
      rcases h with ⟨ob, h, q⟩ | h
      · refine .inl ⟨ob, ?_, q⟩
        show hless g.F L a = _
        rw [hless_out fun z => by obtain ⟨o, e⟩ := hL _ z; rw [h] at e; cases e]
        exact h
      · exact .inr h) (Reps.less hL _ _ r n)
  | _, _, .lst (a := a) h r, n => .lst (by
      show hless g.F L a = _
      rw [hless_out fun z => by obtain ⟨o, e⟩ := hL _ z; rw [h] at e; cases e]
      exact h) (Reps.less hL _ _ r n)
  | _, _, .ins (a := a) h1 h2 h3 r m, n => .ins h1 (by
      show hless g.F L a = _
      rw [hless_out fun z => by obtain ⟨o, e⟩ := hL _ z; rw [h2] at e; cases e]
      exact h2) h3 (Reps.less hL _ _ r n) m
  | _, _, .dct (a := a) h e r, n => .dct (by
      show hless g.F L a = _
      rw [hless_out fun z => by obtain ⟨o, e⟩ := hL _ z; rw [h] at e; cases e]
      exact h) e (Reps.less hL _ _ r (noclp_vals n))
  | _, _, .hand, _ => .hand
  | _, _, .clo _ _, n => by cases n
theorem Reps.less {L : List Addr} (hL : ∀ a ∈ L, ∃ o, g.F a = some (ExO a o)) : ∀ (d : List D) (v : List V), Reps K T g d v → nocls d = true → Reps K T (g.less L) d v
  | _, _, .nil, _ => .nil
  | _, _, .cons h r, n => by
    unfold nocls at n
    rw [Bool.and_eq_true] at n
    exact .cons (Rep.less hL _ _ h n.1) (Reps.less hL _ _ r n.2)
end
end
/-- how exceptions lie is not hurt by cells that come and go -/
structure XOk (XT : ExcT) : Prop where
  mono : ∀ {g g' : Gh} {H H' : Hp} {c fs cls dd}, g.Le g' → (∀ a o, H a = some o → H' a = some o) → XT g H c fs cls dd → XT g' H' c fs cls dd
  less : ∀ {g : Gh} {H : Hp} {c fs cls dd} (L : List Addr), (∀ a ∈ L, ∃ o, g.F a = some (ExO a o)) → (∀ a ∈ L, ∃ o, H a = some (ExO a o)) → nocls fs = true → XT g H c fs cls dd → XT (g.less L) (hless H L) c fs cls dd

/-! ### worlds with cells and without -/
section
variable {S : Type} {K : PySem.W.Frag} {T : Tab S} {XT : ExcT} {E : XK} {g g2 : Gh} {H H2 : Hp} {L : List Addr} {h : Heap} {s s2 : S}
theorem Gh.le_more (w : Wd K T g s H) (nH : ∀ a ∈ L, H a = none) : g.Le (g.more L h) := ⟨fun a o e => by
  show hmore g.F L h a = _
  rw [hmore_out fun z => by have := w.sub a o e; rw [nH a z] at this; cases this]
  exact e, fun _ _ e => e, rfl⟩
theorem Wd.more (ok : T.Ok) (w : Wd K T g s H) (nH : ∀ a ∈ L, H a = none) : Wd K T (g.more L h) s (hmore H L h) where
  sub := fun a u e => by
    have e : hmore g.F L h a = some u := e
    by_cases q : a ∈ L
    · unfold hmore at e ⊢
      rw [if_pos q] at e ⊢
      exact e
    · rw [hmore_out q] at e ⊢
      exact w.sub a u e
  cache := fun l t e => by
    obtain ⟨kvs, a, b⟩ := w.cache l t e
    exact ⟨kvs, by rw [hmore_out fun z => by rw [nH l z] at a; cases a]; exact a, ok.cache (Gh.le_more w nH) b⟩
  hand := by
    obtain ⟨vs, a, b⟩ := w.hand
    exact ⟨vs, by show hmore H L h g.ha = _; rw [hmore_out fun z => by rw [nH _ z] at a; cases a]; exact a, ok.hand (Gh.le_more w nH) b⟩
  sepC := fun l t e => by
    obtain ⟨kvs, a, b⟩ := w.cache l t e
    exact ⟨by show hmore g.F L h l = none; rw [hmore_out fun z => by rw [nH l z] at a; cases a]; exact (w.sepC l t e).1, (w.sepC l t e).2⟩
  sepH := by
    obtain ⟨vs, a, b⟩ := w.hand
    show hmore g.F L h g.ha = none
    rw [hmore_out fun z => by rw [nH _ z] at a; cases a]
    exact w.sepH
  tabs := w.tabs.mono (fun b o e => by rw [hmore_out fun z => by rw [nH b z] at e; cases e]; exact e) (fun q ps e n => by show hmore g.F L h q = none; rw [hmore_out fun z => by rw [nH q z] at e; cases e]; exact n) (Gh.le_more w nH)
/-- the world without the cells -/
theorem Wd.less (ok : T.Ok) (w : Wd K T g s H) (hF : ∀ a ∈ L, ∃ o, g.F a = some (ExO a o)) (hne : ∀ a ∈ L, ∀ q, g.F a ≠ some (LamX.CodeO a q)) : Wd K T (g.less L) s (hless H L) := by
  have hH : ∀ a ∈ L, ∃ o, H a = some (ExO a o) := fun a z => let ⟨o, e⟩ := hF a z; ⟨o, w.sub _ _ e⟩
  refine ⟨fun a u e => ?_, fun l t e => ?_, ?_, fun l t e => ?_, ?_, ?_⟩
  · obtain ⟨q, e⟩ := hless_some (show hless g.F L a = some u from e)
    rw [hless_out q]; exact w.sub a u e
  · obtain ⟨kvs, a, b⟩ := w.cache l t e
    exact ⟨kvs, by rw [hless_out fun z => by obtain ⟨o, q⟩ := hH l z; rw [a] at q; cases q]; exact a, ok.cacheL L hF b⟩
  · obtain ⟨vs, a, b⟩ := w.hand
    exact ⟨vs, by show hless H L g.ha = _; rw [hless_out fun z => by obtain ⟨o, q⟩ := hH _ z; rw [a] at q; cases q]; exact a, ok.handL L hF b⟩
  · refine ⟨?_, (w.sepC l t e).2⟩
    show hless g.F L l = none
    by_cases q : l ∈ L
    · exact hless_in q
    · rw [hless_out q]; exact (w.sepC l t e).1
  · show hless g.F L g.ha = none
    by_cases q : g.ha ∈ L
    · exact hless_in q
    · rw [hless_out q]; exact w.sepH
  · intro p hp
    obtain ⟨ps, a, f, b, c⟩ := w.tabs p hp
    have nL : p.1 ∉ L := fun z => by obtain ⟨o, q⟩ := hH _ z; rw [a] at q; cases q
    refine ⟨ps, by rw [hless_out nL]; exact a, by show hless g.F L p.1 = none; rw [hless_out nL]; exact f, b, fun pos cv hcv => ?_⟩
    obtain ⟨d, e1, e2⟩ := c pos cv hcv
    exact ⟨d, e1, by show hless g.F L d = _; rw [hless_out fun z => hne d z p.2 e2]; exact e2⟩
/-- back in the maker's world -/
theorem Step.back (st : Step (g.more L h) (hmore H L h) g2 H2) (w : Wd K T g s H) (nH : ∀ a ∈ L, H a = none) (hh : ∀ a ∈ L, ∃ o, h.get? a = some o) : Step g H (g2.less L) (hless H2 L) where
  le := ⟨fun a o e => by
    have q : a ∉ L := fun z => by have := w.sub a o e; rw [nH a z] at this; cases this
    show hless g2.F L a = _
    rw [hless_out q]
    exact st.le.F a o (by show hmore g.F L h a = _; rw [hmore_out q]; exact e), fun a o e => st.le.C a o e, st.le.ha⟩
  pres := fun a o e c n t => by
    have q : a ∉ L := fun z => by rw [nH a z] at e; cases e
    rw [hless_out q]
    exact st.pres a o (by rw [hmore_out q]; exact e) c n t
  stay := fun a o e => by
    have q : a ∉ L := fun z => by rw [nH a z] at e; cases e
    rw [hless_out q]
    exact st.stay a o (by rw [hmore_out q]; exact e)
  newC := fun l t e => by
    rcases st.newC l t e with z | z
    · exact .inl z
    · by_cases q : l ∈ L
      · obtain ⟨o, ho⟩ := hh l q
        rw [hmore_in q ho] at z; cases z
      · rw [hmore_out q] at z; exact .inr z
  newF := fun a o e => by
    obtain ⟨q, e⟩ := hless_some (show hless g2.F L a = some o from e)
    rcases st.newF a o e with z | z
    · have z : hmore g.F L h a = some o := z
      rw [hmore_out q] at z; exact .inl z
    · rw [hmore_out q] at z; exact .inr z
/-- within: what the cells' objects are, they stay -/
theorem more_stays (st : Step (g.more L h) (hmore H L h) g2 H2) (w : Wd K T g s H) (nH : ∀ a ∈ L, H a = none) (hh : ∀ a ∈ L, ∃ o, h.get? a = some o) : ∀ a ∈ L, ∃ o, h.get? a = some o ∧ g2.F a = some (ExO a o) ∧ H2 a = some (ExO a o) := fun a z => by
  obtain ⟨o, ho⟩ := hh a z
  refine ⟨o, ho, st.le.F a _ (hmore_in z ho), st.pres a _ (hmore_in z ho) ?_ ?_ (fun ps q => nomatch q)⟩
  · show g.C a = none
    cases q : g.C a with
    | none => rfl
    | some t => obtain ⟨kvs, e, _⟩ := w.cache a t q; rw [nH a z] at e; cases e
  · show a ≠ g.ha
    rintro rfl
    obtain ⟨vs, e, _⟩ := w.hand
    rw [nH _ z] at e; cases e
end

/-! ### the maker's side -/
section
variable {S : Type} {X : Cx} {T : Tab S} {XT : ExcT} {E : XK} {B : Hp}
theorem exo_ne {a c : Addr} {o : Obj} {q : Str} {v : Option Value} {h : Heap} (e : h.get? a = some o) (hd : o.data = .cell v) (n : a = c) : ExO a o ≠ LamX.CodeO c q := fun z => by
  subst n
  unfold ExO LamX.CodeO at z
  have z := HO.ext.inj z
  have z2 : (fun h : Heap => h.get? a = some o) h = _ := congrFun z h
  have z3 : ∃ (oc : Obj) (vs : Array Value) (t : Tok), h.get? a = some oc ∧ oc.data = .fields vs ∧ vs[1]? = some (.str q t) := by
    have : h.get? a = some o := e
    rw [← show (h.get? a = some o) = _ from z2]
    exact this
  obtain ⟨oc, vs, t, e1, e2, _⟩ := z3
  rw [e] at e1
  cases e1
  rw [hd] at e2
  cases e2
/-- the cells of a def's own frame -/
structure CellL (X : Cx) (L : List Addr) : Prop where
  of : ∀ c ∈ L, ∃ y, X.env.cells.lookup y = some c
theorem CellL.none {pins : List (Addr × Obj)} {σ : L2.St} {H : Hp} {s : Shared} {L : List Addr} (c : CellL X L) (I : Inv X pins σ H s) : ∀ a ∈ L, H a = none := fun a z => let ⟨y, e⟩ := c.of a z; I.freeC y a e
theorem CellL.obj {pins : List (Addr × Obj)} {σ : L2.St} {H : Hp} {s : Shared} {L : List Addr} (c : CellL X L) (I : Inv X pins σ H s) : ∀ a ∈ L, ∃ o, s.heap.get? a = some o ∧ ∃ v, o.data = .cell v := fun a z => by
  obtain ⟨y, e⟩ := c.of a z
  obtain ⟨v, o, e1, e2⟩ := I.cell y a e
  exact ⟨o, e1, v, e2⟩
theorem hok_more {P : Program} {w : World} {H : Hp} {h : Heap} {L : List Addr} (hok : HOk P w H h) (nH : ∀ a ∈ L, H a = none) : HOk P w (hmore H L h) h := fun a o e => by
  have keep : ∀ b u, H b = some u → hmore H L h b = some u := fun b u e => by rw [hmore_out fun z => by rw [nH b z] at e; cases e]; exact e
  by_cases q : a ∈ L
  · unfold hmore at e
    rw [if_pos q] at e
    obtain ⟨ob, e1, e2⟩ := Option.map_eq_some_iff.mp e
    subst e2
    exact ⟨e1, ⟨ob, e1⟩, fun h1 h2 x k => k _ x⟩
  · rw [hmore_out q] at e
    exact (hok a o e).stay (fun b u _ z => z) (fun b z => keep b _ z) fun b xs z => keep b _ z
theorem hok_less {P : Program} {w : World} {H : Hp} {h : Heap} {L : List Addr} (hok : HOk P w H h) (hL : ∀ a ∈ L, ∃ o, H a = some (ExO a o)) : HOk P w (hless H L) h := fun a o e => by
  obtain ⟨q, e⟩ := hless_some e
  refine (hok a o e).stay (fun b u _ z => z) (fun b z => ?_) fun b xs z => ?_
  · rw [hless_out fun y => by obtain ⟨o, e⟩ := hL b y; rw [z] at e; cases e]; exact z
  · rw [hless_out fun y => by obtain ⟨o, e⟩ := hL b y; rw [z] at e; cases e]; exact z
theorem env0_more {pins : List (Addr × Obj)} {σ : L2.St} {H : Hp} {s : Shared} {L : List Addr} (hfn : ∀ x, X.fn x = true) (hex : X.ex = []) (c : CellL X L) (I : Inv X pins σ H s) : Env0 X.prog X.w X.K X.mg X.base X.A X.stack s (hmore H L s.heap) := by
  have e0 := I.env0
  have ge : ∀ a ∈ L, X.s_0.heap.objs.size ≤ a := fun a z => let ⟨y, e⟩ := c.of a z; I.ok.cab y a (hfn y) e
  refine ⟨e0.frames, e0.mod, fun b o e => ⟨(e0.bs b o e).1, ?_⟩, e0.bsz, e0.funs, fun b hb => ?_, hok_more I.hok (c.none I), e0.bare⟩
  · rw [hmore_out fun z => ?_]
    · exact (e0.bs b o e).2
    · exact absurd (Nat.lt_of_lt_of_le (Nat.lt_of_lt_of_le (Heap.lt_size e) I.ok.bsz) (ge b z)) (Nat.lt_irrefl _)
  · rw [hmore_out fun z => ?_]
    · exact e0.frf b hb
    · rcases List.mem_cons.mp (I.stkSub _ hb) with e | e
      · obtain ⟨o, e1, v, e2⟩ := c.obj I b z
        obtain ⟨m, ⟨ob, es, ep, ho, hr⟩, _⟩ := I.loc
        rw [← e] at ho
        rw [e1] at ho
        cases ho
        rw [e2] at hr
        exact nomatch hr.1
      · obtain ⟨_, o, e1, _⟩ := I.ok.funs.mem e
        exact absurd (Nat.lt_of_lt_of_le (Heap.lt_size e1) (ge b z)) (Nat.lt_irrefl _)
/-- a call whose callee may use the cells at L -/
theorem run_more {pins : List (Addr × Obj)} {σ : L2.St} {H : Hp} {s : Shared} {L : List Addr} {Q : VK} {us : List Value} {vs : List V} {k : Nat} {f : Addr} {fd : FuncData} {ps : List Str} {sp : Sp}
    (hfn : ∀ x, X.fn x = true) (hex : X.ex = []) (c : CellL X L) (F : FnOk X.prog X.w X.K X.mg X.base (L2.CX X.prog X.w) k f fd ps sp) (hr : Room k X.A) (hb : Binds X.K fd ps []) (hx : Passes (L2.CX X.prog X.w) X E)
    (I : Inv X pins σ H s) (r : Vals vs us) (h : sp vs (hmore H L s.heap) (fun v H2 => (∀ a ∈ L, H2 a = hmore H L s.heap a) ∧ Q v (hless H2 L)) (fun cls dd H2 => (∀ a ∈ L, H2 a = hmore H L s.heap a) ∧ E cls dd (hless H2 L))) :
    wpAny (model X.prog X.w) X.A (call (.ref f) us) (EP X pins σ Q) X.xe s := by
  have nH := c.none I
  have inL : ∀ a ∈ L, ∀ {H2 : Hp}, H2 a = hmore H L s.heap a → ∃ o, s.heap.get? a = some o ∧ H2 a = some (ExO a o) := fun a z H2 e => by
    obtain ⟨o, e1, _⟩ := c.obj I a z
    exact ⟨o, e1, by rw [e, hmore_in z e1]⟩
  have hl : us.length = ps.length := by rw [← r.length]; exact F.len _ _ _ _ h
  have hbt : BindsTo s fd ⟨us, []⟩ (ps.zip us) := by
    have := hb s us I.kIn (by rw [List.append_nil]; exact hl)
    rw [List.append_nil] at this
    exact this
  refine wpAny_call (codeAny_mono (F.run X.A X.stack s (hmore H L s.heap) ⟨us, []⟩ us vs _ _ hr (env0_more hfn hex c I) hbt r h) fun r s' hq => ?_)
  cases r with
  | error e =>
    obtain ⟨a, G, H2, cls, d, eu, fly, hokB, ub, na, os, ag, hc, q⟩ := hq
    have hL : ∀ b ∈ L, ∃ o, H2 b = some (ExO b o) := fun b z => let ⟨o, _, e⟩ := inL b z (hc b z); ⟨o, e⟩
    refine hx pins σ H s e s' I ⟨a, G, hless H2 L, cls, d, eu, fly, hok_less hokB hL, ⟨fun b o e n hf => ?_, ub.slot, fun b o e n => ?_, ub.there, fun b xs e => ?_, fun b o xs e => ?_, fun b ps e => ?_⟩, ?_, os, ag, q⟩
    · by_cases z : b ∈ L
      · obtain ⟨o', e1, e2⟩ := inL b z (hc b z)
        rw [e] at e1
        cases e1
        exact (hokB b _ e2).1
      · exact ub.keep b o e (by rw [hmore_out z]; exact n) hf
    · by_cases z : b ∈ L
      · exact hless_in z
      · rw [hless_out z]; exact ub.free b o e (by rw [hmore_out z]; exact n)
    · have z : b ∉ L := fun z => by rw [nH b z] at e; cases e
      rw [hless_out z]; exact ub.tups b xs (by rw [hmore_out z]; exact e)
    · have z : b ∉ L := fun z => by rw [nH b z] at e; cases e
      rw [hless_out z]; exact ub.frzs b o xs (by rw [hmore_out z]; exact e)
    · have z : b ∉ L := fun z => by rw [nH b z] at e; cases e
      rw [hless_out z]; exact ub.tbls b ps (by rw [hmore_out z]; exact e)
    · by_cases z : a ∈ L
      · exact hless_in z
      · rw [hless_out z]; exact na
  | ok fl =>
    cases fl with
    | ret u =>
      obtain ⟨v, H2, os, bare, un, hok, rv, hc, q⟩ := hq
      have hL : ∀ b ∈ L, ∃ o, H2 b = some (ExO b o) := fun b z => let ⟨o, _, e⟩ := inL b z (hc b z); ⟨o, e⟩
      refine I.after (u := u) ⟨v, hless H2 L, os, bare, ⟨fun b o e n hf hx => ?_, fun b o e n hf hx => ?_, fun b o e n hx => ?_, un.there, fun b xs e => ?_, fun b o xs e => ?_, fun b ps e => ?_⟩, hok_less hok hL, rv, q⟩
      · by_cases z : b ∈ L
        · obtain ⟨o', e1, e2⟩ := inL b z (hc b z)
          rw [e] at e1
          cases e1
          exact (hok b _ e2).1
        · exact un.keep b o e (by rw [hmore_out z]; exact n) hf hx
      · by_cases z : b ∈ L
        · obtain ⟨o', e1, e2⟩ := inL b z (hc b z)
          rw [e] at e1
          cases e1
          exact ⟨o.slots, (hok b _ e2).1⟩
        · exact un.slot b o e (by rw [hmore_out z]; exact n) hf hx
      · by_cases z : b ∈ L
        · exact hless_in z
        · rw [hless_out z]; exact un.free b o e (by rw [hmore_out z]; exact n) hx
      · have z : b ∉ L := fun z => by rw [nH b z] at e; cases e
        rw [hless_out z]; exact un.tups b xs (by rw [hmore_out z]; exact e)
      · have z : b ∉ L := fun z => by rw [nH b z] at e; cases e
        rw [hless_out z]; exact un.frzs b o xs (by rw [hmore_out z]; exact e)
      · have z : b ∉ L := fun z => by rw [nH b z] at e; cases e
        rw [hless_out z]; exact un.tbls b ps (by rw [hmore_out z]; exact e)
    | next => exact False.elim hq
    | brk => exact False.elim hq
    | cont => exact False.elim hq
end
end Mp

set_option Elab.async false
set_option linter.all false
set_option maxRecDepth 100000
set_option maxHeartbeats 4000000
/-! Lambdas: made, given, called. -/
namespace Mp
open PySem PySem.Spec PyProof.Rows L2

abbrev lamObj (q : Str) (params : Arguments) (body : Expr) (scope : Scope) (cl : List (Str × Addr)) (pm : Value) (c' : Addr) (ctv : Value) : Obj := PySem.W.kla_obj "<lambda>" q params body scope cl pm c' ctv
section
variable {S : Type} {X : Cx} {T : Tab S} {pins : List (Addr × Obj)} {σ : L2.St} {H : Hp} {s : Shared} {g : Gh} {s0 : S}
theorem inv_exo {o : Obj} {t' : Nat} (hno : o.isFreed = false) (I : Inv X pins σ H s) : Inv X pins σ (upd H s.heap.objs.size (ExO s.heap.objs.size o)) { s with heap := s.heap.push o, toks := t' } := by
  refine I.laid (a := s.heap.objs.size) (fun b u e => Heap.get?_push_of_some _ e) (Nat.le_refl _) ?_
  have e : (s.heap.push o).get? s.heap.objs.size = some o := Heap.get?_push_size _ hno
  exact ⟨e, ⟨_, e⟩, fun h1 h2 x st => st _ x⟩
/-- the lambda is made -/
theorem lam_made {c P : Addr} {params : Arguments} {body : Expr} {scope : Scope} {pos : Pos} {E : Value → Shared → Prop} {Q : Value → Shared → Prop} (ok : T.Ok) (I : Inv X pins σ H s) (w : Wd X.K T g s0 H) (TB : LamX.TabB X.base X.mg c P) (hcode : X.env.code = .ref c)
    (hm : (P, X.env.qual ++ "<lambda>") ∈ T.tb) (hu : ∀ p ∈ T.tb, p.1 = P → p.2 = X.env.qual ++ "<lambda>") (hdef : defaultsOf params X.env = ([], [])) (hfree : ∀ y ∈ scope.names, y.2 = .free → ∃ c, X.env.cells.lookup y.1 = some c)
    (h : ∀ (f c' : Addr) (pm ctv : Value) (g1 : Gh) (H1 : Hp) (s' : Shared), Inv X pins σ H1 s' → Step g H g1 H1 → Wd X.K T g1 s0 H1 → g1.F f = some (ExO f (lamObj (X.env.qual ++ "<lambda>") params body scope (cloFrom X.env.cells scope.names []) pm c' ctv)) →
      g1.F c' = some (LamX.CodeO c' (X.env.qual ++ "<lambda>")) → Q (.ref f) s') :
    wpAny (model X.prog X.w) X.A (eval (.Lambda params body scope pos) X.env) Q E s := by
  obtain ⟨ps, hP, hPF, ht, ha⟩ := w.tabs _ hm
  refine PySem.W.kla_eval hdef ?_
  have bP : s.heap.BuiltinsAt X.mg P := TB.bm.keeps I.bk
  have hP' : s.heap.get? P = some { cls := .none, data := .fields ps } := I.hok P _ hP
  cases hc : codeAmong pos ps.toList with
  | none =>
    refine PySem.W.kla_makeFunction (mg := X.mg) (c := c) (P := P) (ps := ps) (closure_ok hfree) I.ok.glob (I.mod.glob.keeps I.bk) hcode (TB.code.keeps I.bk) hP' ht hc TB.gP bP fun c' ctv h' tk hx hge hlt hrec htb => ?_
    obtain ⟨c2, oc, vs, t, e2, hoc, hd, hv⟩ := hrec
    cases e2
    have hsz : s.heap.objs.size ≤ h'.objs.size := Nat.le_trans hge (Nat.le_of_lt hlt)
    have nC : H c' = none := I.hok.fresh hge
    have I1 := LamX.inv_table (t' := tk) (more := #[rawInt pos.line, rawInt pos.col, .ref c']) (h' := h') I hP (fun b o hb e => hx b o hb e) htb hge ⟨oc, vs, t, hoc, hd, hv⟩
    have I2 := inv_exo (t' := tk) (o := lamObj (X.env.qual ++ "<lambda>") params body scope (cloFrom X.env.cells scope.names []) ((X.mg "__name__").getD .none) c' ctv) rfl I1
    -- the abstract heaps
    have nf : H h'.objs.size = none := I.hok.fresh hsz
    have nfc : h'.objs.size ≠ c' := Nat.ne_of_gt hlt
    have nfP : h'.objs.size ≠ P := Nat.ne_of_gt (Nat.lt_of_lt_of_le (Heap.lt_size hP') hsz)
    have nPc : P ≠ c' := ne_of_none hP nC
    generalize hH2 : upd (upd (upd H P (.tbl (ps ++ #[rawInt pos.line, rawInt pos.col, .ref c']))) c' (LamX.CodeO c' (X.env.qual ++ "<lambda>"))) h'.objs.size (ExO h'.objs.size (lamObj (X.env.qual ++ "<lambda>") params body scope (cloFrom X.env.cells scope.names []) ((X.mg "__name__").getD .none) c' ctv)) = H2 at I2
    have at_ : ∀ b, b ≠ P → b ≠ c' → b ≠ h'.objs.size → H2 b = H b := fun b h1 h2 h3 => by rw [← hH2, upd_ne h3, upd_ne h2, upd_ne h1]
    have atf : H2 h'.objs.size = some (ExO h'.objs.size (lamObj (X.env.qual ++ "<lambda>") params body scope (cloFrom X.env.cells scope.names []) ((X.mg "__name__").getD .none) c' ctv)) := by rw [← hH2, upd_same]
    have atc : H2 c' = some (LamX.CodeO c' (X.env.qual ++ "<lambda>")) := by rw [← hH2, upd_ne (Ne.symm nfc), upd_same]
    have atP : H2 P = some (.tbl (ps ++ #[rawInt pos.line, rawInt pos.col, .ref c'])) := by rw [← hH2, upd_ne (Ne.symm nfP), upd_ne nPc, upd_same]
    have keep : ∀ b o, H b = some o → (∀ ps, o ≠ .tbl ps) → H2 b = some o := fun b o e n => by
      rw [at_ b (fun z => by rw [z, hP] at e; exact n ps (Option.some.inj e).symm) (ne_of_none e nC) (ne_of_none e nf)]
      exact e
    have frc := w.free nC
    have frf := w.free nf
    let g1 : Gh := (g.put c' (LamX.CodeO c' (X.env.qual ++ "<lambda>"))).put h'.objs.size (ExO h'.objs.size (lamObj (X.env.qual ++ "<lambda>") params body scope (cloFrom X.env.cells scope.names []) ((X.mg "__name__").getD .none) c' ctv))
    have gf : g1.F h'.objs.size = some (ExO h'.objs.size (lamObj (X.env.qual ++ "<lambda>") params body scope (cloFrom X.env.cells scope.names []) ((X.mg "__name__").getD .none) c' ctv)) := upd_same
    have gc : g1.F c' = some (LamX.CodeO c' (X.env.qual ++ "<lambda>")) := by
      show upd (upd g.F c' _) h'.objs.size _ c' = _
      rw [upd_ne (Ne.symm nfc), upd_same]
    have go : ∀ b, b ≠ c' → b ≠ h'.objs.size → g1.F b = g.F b := fun b h1 h2 => by
      show upd (upd g.F c' _) h'.objs.size _ b = _
      rw [upd_ne h2, upd_ne h1]
    have le : g.Le g1 := ⟨fun a o e => by rw [go a (ne_of_none e frc.1) (ne_of_none e frf.1)]; exact e, fun _ _ e => e, rfl⟩
    have st : Step g H g1 H2 := by
      refine ⟨le, fun a o e _ _ n => keep a o e n, fun a o e => ?_, fun l t e => .inl e, fun a o e => ?_⟩
      · by_cases z : a = P
        · exact ⟨_, by rw [z]; exact atP⟩
        · exact ⟨o, by rw [at_ a z (ne_of_none e nC) (ne_of_none e nf)]; exact e⟩
      · by_cases z1 : a = c'
        · rw [z1]; exact .inr nC
        · by_cases z2 : a = h'.objs.size
          · rw [z2]; exact .inr nf
          · rw [go a z1 z2] at e; exact .inl e
    have nft : ∀ b o, g.F b = some o → H2 b = some o := fun b o e => by
      rw [at_ b (fun z => by rw [z, hPF] at e; cases e) (ne_of_none e frc.1) (ne_of_none e frf.1)]
      exact w.sub b o e
    refine h h'.objs.size c' ((X.mg "__name__").getD .none) ctv g1 H2 _ I2 st ?_ gf gc
    refine ⟨fun a o e => ?_, fun l t e => ?_, ?_, fun l t e => ?_, ?_, fun p hp => ?_⟩
    · by_cases z1 : a = c'
      · rw [z1] at e ⊢; rw [gc] at e; cases e; exact atc
      · by_cases z2 : a = h'.objs.size
        · rw [z2] at e ⊢; rw [gf] at e; cases e; exact atf
        · rw [go a z1 z2] at e
          exact nft a o e
    · obtain ⟨kvs, a, b⟩ := w.cache l t e
      exact ⟨kvs, keep _ _ a (fun _ z => nomatch z), ok.cache le b⟩
    · obtain ⟨vs, a, b⟩ := w.hand
      exact ⟨vs, keep _ _ a (fun _ z => nomatch z), ok.hand le b⟩
    · obtain ⟨kvs, a, b⟩ := w.cache l t e
      exact ⟨by rw [go l (ne_of_none a nC) (ne_of_none a nf)]; exact (w.sepC l t e).1, (w.sepC l t e).2⟩
    · obtain ⟨vs, a, b⟩ := w.hand
      show g1.F g.ha = none
      rw [go _ (ne_of_none a nC) (ne_of_none a nf)]; exact w.sepH
    · by_cases hb : p.1 = P
      · refine ⟨_, by rw [hb]; exact atP, by rw [hb, go _ nPc (Ne.symm nfP)]; exact hPF, ?_, fun p' cv hcv => ?_⟩
        · have eL : (ps ++ #[rawInt pos.line, rawInt pos.col, .ref c']).toList = ps.toList ++ [rawInt pos.line, rawInt pos.col, .ref c'] := by simp
          rw [eL]; exact PySem.TriplesOk_snoc _ _ _ _ ht
        · have eL : (ps ++ #[rawInt pos.line, rawInt pos.col, .ref c']).toList = ps.toList ++ [rawInt pos.line, rawInt pos.col, .ref c'] := by simp
          rw [eL] at hcv
          rw [hu p hp hb]
          rcases LamX.among_app _ ht hcv with z | z
          · obtain ⟨c0, e1, e2⟩ := ha p' cv z
            exact ⟨c0, e1, le.F _ _ e2⟩
          · exact ⟨c', z, gc⟩
      · obtain ⟨ps', a1, a0, a2, a3⟩ := w.tabs p hp
        refine ⟨ps', by rw [at_ _ hb (ne_of_none a1 nC) (ne_of_none a1 nf)]; exact a1, by rw [go _ (ne_of_none a1 nC) (ne_of_none a1 nf)]; exact a0, a2, fun p' cv hcv => ?_⟩
        obtain ⟨c0, e1, e2⟩ := a3 p' cv hcv
        exact ⟨c0, e1, le.F _ _ e2⟩
  | some cv =>
    obtain ⟨c', e, hco⟩ := ha pos cv hc
    subst e
    refine PySem.W.kla_makeFunctionHit (mg := X.mg) (c := c) (P := P) (ps := ps) (closure_ok hfree) I.ok.glob (I.mod.glob.keeps I.bk) hcode (TB.code.keeps I.bk) hP' ht hc bP fun ctv h' tk hx hsz => ?_
    have I1 : Inv X pins σ H { s with heap := h', toks := tk } := I.kept fun b o e => hx b o e
    have nf : H h'.objs.size = none := I.hok.fresh hsz
    have I2 := inv_exo (t' := tk) (o := lamObj (X.env.qual ++ "<lambda>") params body scope (cloFrom X.env.cells scope.names []) ((X.mg "__name__").getD .none) c' ctv) rfl I1
    refine h h'.objs.size c' ((X.mg "__name__").getD .none) ctv (g.put h'.objs.size _) _ _ I2 (.new w _ nf) (w.new ok _ nf) upd_same ?_
    show upd g.F _ _ c' = _
    rw [upd_ne (ne_of_none hco (w.free nf).1)]
    exact hco
end
end Mp

set_option Elab.async false
set_option linter.all false
set_option maxRecDepth 100000
set_option maxHeartbeats 4000000
/-! Lambdas: given, called. -/
namespace Mp
open PySem PySem.Spec PyProof.Rows L2 NdefX

/-- a lambda of the text -/
structure LamD where
  qual : Str
  params : Arguments
  body : Expr
  scope : Scope
  ps : List Str
  fr : List Str
  N : List Str
/-- at a stands the function of the lambda n; its captured names hold vs -/
def CloOk (LT : Nat → LamD → Prop) (g : Gh) (n : Nat) (vs : List V) (a : Addr) : Prop :=
  ∃ (L : LamD) (c' : Addr) (pm ctv : Value) (cl : List (Str × Addr)), LT n L ∧ L.fr.length = vs.length ∧ g.F a = some (ExO a (lamObj L.qual L.params L.body L.scope cl pm c' ctv)) ∧ g.F c' = some (LamX.CodeO c' L.qual) ∧
    (∀ x y c, cl.lookup x = some c → cl.lookup y = some c → x = y) ∧ (∀ p ∈ cl, ∃ y, cl.lookup y = some p.2) ∧ (∀ y c, cl.lookup y = some c → ∃ o v, g.F c = some (ExO c o) ∧ o.data = .cell v) ∧
    ∀ (i : Nat) (y : Str) (v : V), L.fr[i]? = some y → vs[i]? = some v → ∃ c o u, cl.lookup y = some c ∧ g.F c = some (ExO c o) ∧ o.data = .cell (some u) ∧ RelV v u
theorem CloOk.mono {LT : Nat → LamD → Prop} {g g' : Gh} {n : Nat} {vs : List V} {a : Addr} (le : g.Le g') (h : CloOk LT g n vs a) : CloOk LT g' n vs a := by
  obtain ⟨L, c', pm, ctv, cl, h1, h2, h3, h4, h5, h6, h7, h8⟩ := h
  exact ⟨L, c', pm, ctv, cl, h1, h2, le.F _ _ h3, le.F _ _ h4, h5, h6, fun y c e => let ⟨o, v, a, b⟩ := h7 y c e; ⟨o, v, le.F _ _ a, b⟩, fun i y v e1 e2 => let ⟨c, o, u, a, b, d, e⟩ := h8 i y v e1 e2; ⟨c, o, u, a, le.F _ _ b, d, e⟩⟩
section
variable {S : Type} (K : PySem.W.Frag) (T : Tab S) (XT : ExcT) (E : XK)
def tLam (B : Hp) (q : Str) (params : Arguments) (body : Expr) (scope : Scope) (cells : List (Str × Addr)) : TE := fun σ H Q => ∃ g s env fp, Wd K T g s H ∧ Slots K T g H B env σ fp ∧
  ∀ g2 H2 f c' pm ctv, Step g H g2 H2 → Wd K T g2 s H2 → g2.F f = some (ExO f (lamObj q params body scope (cloFrom cells scope.names []) pm c' ctv)) → g2.F c' = some (LamX.CodeO c' q) → Q (.ref f) H2
/-- arguments, the last of them a lambda -/
def tLZ (B : Hp) (q : Str) (params : Arguments) (body : Expr) (scope : Scope) (cells : List (Str × Addr)) (ms : Env → M S (List D)) : TA := fun σ H Q => ∃ g s env fp, Wd K T g s H ∧ Slots K T g H B env σ fp ∧
  Post K T XT E g H (ms env s) fun g1 s1 H1 ds => ∀ g2 H2 vs f c' pm ctv, Step g1 H1 g2 H2 → Wd K T g2 s1 H2 → Reps K T g2 ds vs → g2.F f = some (ExO f (lamObj q params body scope (cloFrom cells scope.names []) pm c' ctv)) → g2.F c' = some (LamX.CodeO c' q) → Q (vs ++ [.ref f]) H2
end
section
variable {S : Type} {X : Cx} {T : Tab S} {XT : ExcT} {E : XK} {B : Hp} {params : Arguments} {body : Expr} {scope : Scope} {lpos : Pos}
theorem me_lam {c P : Addr} (ok : T.Ok) (TB : LamX.TabB X.base X.mg c P) (hcode : X.env.code = .ref c) (hm : (P, X.env.qual ++ "<lambda>") ∈ T.tb) (hu : ∀ p ∈ T.tb, p.1 = P → p.2 = X.env.qual ++ "<lambda>") (hdef : defaultsOf params X.env = ([], []))
    (hfree : ∀ y ∈ scope.names, y.2 = .free → X.env.scope.names.lookup y.1 = some .cell ∨ X.env.scope.names.lookup y.1 = some .free) : PE X (.Lambda params body scope lpos) (tLam X.K T B (X.env.qual ++ "<lambda>") params body scope X.env.cells) :=
  ⟨fun pins s σ H Q I ⟨g, s0, env, fp, w, sl, q⟩ => lam_made ok I w TB hcode hm hu hdef (fun y hy e => (hfree y hy e).elim (fun z => I.ok.has _ (.inl z)) fun z => I.ok.has _ (.inr z)) fun f c' pm ctv g1 H1 s' I1 st1 w1 e1 e2 => ⟨.ref f, H1, I1, rfl, q g1 H1 f c' pm ctv st1 w1 e1 e2⟩⟩
theorem mz_one {e : Expr} {q : Str} {cells : List (Str × Addr)} (h : PE X e (tLam X.K T B q params body scope cells)) (hs : starEach [e] X.env = (false, eval e X.env) :: starEach [] X.env) : PA X [e] (tLZ X.K T XT E B q params body scope cells fun _ => M.pure []) :=
  pa_imp (pa_cons h pa_nil hs) fun σ H Q ⟨g, s, env, fp, w, sl, p⟩ => ⟨g, s, env, fp, w, sl, fun g2 H2 f c' pm ctv st2 w2 e1 e2 => Post.pure w p g2 H2 [] f c' pm ctv st2 w2 .nil e1 e2⟩
theorem mz_cons {e : Expr} {es : List Expr} {q : Str} {cells : List (Str × Addr)} {m : Env → M S D} {ms : Env → M S (List D)} (ok : T.Ok) (h : PE X e (tE X.K T XT E B m)) (hr : PA X es (tLZ X.K T XT E B q params body scope cells ms)) (hs : starEach (e :: es) X.env = (false, eval e X.env) :: starEach es X.env) :
    PA X (e :: es) (tLZ X.K T XT E B q params body scope cells fun env => M.bind (m env) fun x => M.bind (ms env) fun xs => M.pure (x :: xs)) :=
  pa_imp (pa_cons h hr hs) fun σ H Q ⟨g, s, env, fp, w, sl, p⟩ => tE.of' ok w sl p fun g1 s1 H1 x v st1 w1 sl1 r1 p1 =>
    ⟨g1, s1, env, fp, w1, sl1, p1.bind.imp fun g2 s2 H2 xs ⟨w2, st2, p2⟩ g3 H3 vs f c' pm ctv st3 w3 r3 e1 e2 => by
      exact Post.pure w2 p2 g3 H3 (v :: vs) f c' pm ctv st3 w3 (.cons ((r1.mono ok st2.le).mono ok st3.le) r3) e1 e2⟩
theorem gets_reps {K : PySem.W.Frag} {g : Gh} {H : Hp} {env : Env} {σ : L2.St} {fp : Nat → List Addr} (sl : Slots K T g H B env σ fp) : ∀ {cs : List Nat} {ds : List D}, gets env cs = some ds → ∃ vs, Reps K T g ds vs ∧ cs.map (slotAt σ) = vs.map some
  | [], _, e => by cases e; exact ⟨[], .nil, rfl⟩
  | i :: is, ds, e => by
    have e : ((env.get i).bind fun d => (gets env is).map (d :: ·)) = some ds := e
    obtain ⟨d, e1, e2⟩ := Option.bind_eq_some_iff.mp e
    obtain ⟨ds', e3, e4⟩ := Option.map_eq_some_iff.mp e2
    subst e4
    obtain ⟨v, hv, rv⟩ := sl.get e1
    obtain ⟨vs, rs, hs⟩ := gets_reps sl e3
    exact ⟨v :: vs, .cons rv rs, by rw [List.map_cons, List.map_cons, slotAt_of hv, hs]⟩
theorem Reps.snoc {K : PySem.W.Frag} {g : Gh} {ds : List D} {vs : List V} {d : D} {v : V} (r : Reps K T g ds vs) (h : Rep K T g d v) : Reps K T g (ds ++ [d]) (vs ++ [v]) := r.append (.cons h .nil)
theorem me_callc {e : Expr} {es : List Expr} {x : Str} {p pos : Pos} {ms : Env → M S (List D)} {cal : Nat → List D → M S D} {n m k : Nat} {cs : List Nat} {f : Addr} {fd : FuncData} {ps : List Str} {LT : Nat → LamD → Prop} {LD : LamD}
    (ok : T.Ok) (xo : XOk XT) (hT : T.cloOk = CloOk LT) (hLD : LT m LD) (hq : LD.qual = X.env.qual ++ "<lambda>") (hpa : LD.params = params) (hbo : LD.body = body) (hsc : LD.scope = scope) (hfn : ∀ x, X.fn x = true) (hex : X.ex = [])
    (F : FnOk X.prog X.w X.K X.mg X.base (L2.CX X.prog X.w) k f fd ps (spFn X.K T XT cal n)) (hr : Room k X.A) (hg : Gl X x) (hm : X.mg x = some (.ref f)) (hk : PySem.W.keepIn X.K (.ref f) = true) (hb : Binds X.K fd ps []) (hx : Passes (L2.CX X.prog X.w) X E)
    (hfree : ∀ y ∈ scope.names, y.2 = .free → X.env.scope.names.lookup y.1 = some .cell ∨ X.env.scope.names.lookup y.1 = some .free) (hfr : ∀ y ∈ LD.fr, (y, NameKind.free) ∈ scope.names) (hcs : cs.map (fun j => X.N[j]?) = LD.fr.map some)
    (ha : PA X (e :: es) (tLZ X.K T XT E B (X.env.qual ++ "<lambda>") params body scope X.env.cells ms)) (hdb : (x == ("__debug__" : Str)) = false) (he : starEach (e :: es) X.env = (false, eval e X.env) :: starEach es X.env) (hpl : (backTo pos (starEach es X.env)).any (·.1) = false) :
    PE X (.Call (.Name x p) (e :: es) [] pos) (tE X.K T XT E B fun env => M.bind (ms env) fun ds => M.bind (M.opt (gets env cs)) fun vs => M.need (nocls vs) (M.nc (cal n (ds ++ [.clo m vs])))) := by
  refine ⟨fun pins s σ H Q I ⟨g, s0, env, fp, w, sl, p⟩ => ?_⟩
  refine wpAny_Call_Name_kw (ld_glob I hg hm ?_ hdb)
  refine PySem.W.callWith_K (h₀ := X.base) I.ok.mod.kin hk (thn (ha.run pos pins s σ H (fun vs H1 => ∃ g1 s1 ds vs0 f' c' pm ctv, vs = vs0 ++ [.ref f'] ∧ Wd X.K T g1 s1 H1 ∧ Slots X.K T g1 H1 B env σ fp ∧ Reps X.K T g1 ds vs0 ∧
      g1.F f' = some (ExO f' (lamObj (X.env.qual ++ "<lambda>") params body scope (cloFrom X.env.cells scope.names []) pm c' ctv)) ∧ g1.F c' = some (LamX.CodeO c' (X.env.qual ++ "<lambda>")) ∧
      Post X.K T XT E g1 H1 (M.bind (M.opt (gets env cs)) (fun vs => M.need (nocls vs) (M.nc (cal n (ds ++ [.clo m vs])))) s1) fun g' _ H' d => ∀ v, Rep X.K T g' d v → Q v H') I ?_) fun us s1 ⟨vs, H1, I1, r, q⟩ => ⟨I1.kIn, ?_⟩) he hpl
  · exact ⟨g, s0, env, fp, w, sl, p.bind.imp fun g1 s1 H1 ds ⟨w1, st1, p1⟩ g2 H2 vs f' c' pm ctv st2 w2 r2 e1 e2 => ⟨g2, s1, ds, vs, f', c', pm, ctv, rfl, w2, (sl.step ok st1).step ok st2, r2, e1, e2, Post.step st2 p1⟩⟩
  · obtain ⟨g1, st, ds, vs0, f', c', pm, ctv, ev, w1, sl1, r1, ef, ec, p1⟩ := q
    obtain ⟨vd, eg, w1', st1', p2⟩ := Post.opt w1 p1.bind
    obtain ⟨hn, p3⟩ := p2.need
    obtain ⟨wv, rwv, hwv⟩ := gets_reps sl1 eg
    have hcf : ∀ y ∈ scope.names, y.2 = .free → ∃ c, X.env.cells.lookup y.1 = some c := fun y hy e => (hfree y hy e).elim (fun z => I1.ok.has _ (.inl z)) fun z => I1.ok.has _ (.inr z)
    generalize hcl : cloFrom X.env.cells scope.names [] = cl at ef
    have mem : ∀ {y c}, (y, c) ∈ cl → X.env.cells.lookup y = some c := fun {y c} hm => by
      rw [← hcl] at hm
      rcases cloFrom_mem hm with hm | ⟨h1, h2⟩
      · cases hm
      · obtain ⟨c1, hc⟩ := hcf _ h1 rfl
        have hc : X.env.cells.lookup y = some c1 := hc
        rw [hc] at h2
        rw [h2]; exact hc
    have C : CellL X (cl.map (·.2)) := ⟨fun c hc => by
      obtain ⟨p, hp, e⟩ := List.mem_map.mp hc
      exact ⟨p.1, by rw [← e]; exact mem (by cases p; exact hp)⟩⟩
    have inL : ∀ {y c}, cl.lookup y = some c → c ∈ cl.map (·.2) := fun {y c} e => List.mem_map.mpr ⟨(y, c), PySem.mem_of_lookup e, rfl⟩
    have CA : CellsAt cl LD.fr (cs.map (slotAt σ)) s1.heap H1 := by
      rw [← hcl]
      exact cells_of I1 (Caps.made I1.ok hfree hfr hcs)
    have nH := C.none I1
    have hh : ∀ a ∈ cl.map (·.2), ∃ o, s1.heap.get? a = some o := fun a z => let ⟨o, e, _⟩ := C.obj I1 a z; ⟨o, e⟩
    show wpAny _ _ (call (.ref f) us) _ _ _
    refine run_more (sp := spFn X.K T XT cal n) hfn hex C F hr hb hx I1 r ?_
    have le := Gh.le_more (h := s1.heap) w1 nH
    have wm := w1.more (h := s1.heap) ok nH
    have gm : ∀ a ∈ cl.map (·.2), ∀ o, s1.heap.get? a = some o → (g1.more (cl.map (·.2)) s1.heap).F a = some (ExO a o) := fun a z o e => hmore_in z e
    -- the lambda's value
    have rc : Rep X.K T (g1.more (cl.map (·.2)) s1.heap) (.clo m vd) (.ref f') := by
      refine .clo (vs := wv) ?_ (rwv.mono ok le)
      rw [hT]
      have hlen : LD.fr.length = wv.length := by
        have := congrArg List.length hcs
        rw [List.length_map, List.length_map] at this
        have h2 := congrArg List.length hwv
        rw [List.length_map, List.length_map] at h2
        omega
      refine ⟨LD, c', pm, ctv, cl, hLD, hlen, by rw [hq, hpa, hbo, hsc]; exact le.F _ _ ef, by rw [hq]; exact le.F _ _ ec, CA.inj, fun p hp => ?_, fun y c e => ?_, fun i y v e1 e2 => ?_⟩
      · obtain ⟨c2, hc2⟩ := mem_lookup (n := p.1) (c := p.2) hp
        have h1 := mem (y := p.1) (c := p.2) (by cases p; exact hp)
        have h2 := mem (PySem.mem_of_lookup hc2)
        rw [h1] at h2
        cases h2
        exact ⟨p.1, hc2⟩
      · obtain ⟨o, e1, v, e2⟩ := C.obj I1 c (inL e)
        exact ⟨o, v, gm c (inL e) o e1, e2⟩
      · obtain ⟨c, hc, hv⟩ := CA.has i y e1
        obtain ⟨u, ru, o, ho, hd⟩ := hv v (by rw [hwv, List.getElem?_map, e2]; rfl)
        exact ⟨c, o, u, hc, gm c (inL hc) o ho, hd, ru⟩
    subst ev
    refine ⟨_, st, ds ++ [.clo m vd], wm, (r1.mono ok le).snoc rc, ?_⟩
    -- back
    have hexo : ∀ {g2 : Gh} {H2 : Hp}, Step (g1.more (cl.map (·.2)) s1.heap) (hmore H1 (cl.map (·.2)) s1.heap) g2 H2 → (∀ a ∈ cl.map (·.2), ∃ o, g2.F a = some (ExO a o)) ∧ (∀ a ∈ cl.map (·.2), ∃ o, H2 a = some (ExO a o)) ∧ (∀ a ∈ cl.map (·.2), H2 a = hmore H1 (cl.map (·.2)) s1.heap a) ∧ (∀ a ∈ cl.map (·.2), ∀ q, g2.F a ≠ some (LamX.CodeO a q)) := fun {g2 H2} st2 => by
      have ms := more_stays st2 w1 nH hh
      refine ⟨fun a z => let ⟨o, _, e, _⟩ := ms a z; ⟨o, e⟩, fun a z => let ⟨o, _, _, e⟩ := ms a z; ⟨o, e⟩, fun a z => ?_, fun a z q e => ?_⟩
      · obtain ⟨o, e1, _, e2⟩ := ms a z
        rw [e2, hmore_in z e1]
      · obtain ⟨o, e1, e2, _⟩ := ms a z
        obtain ⟨o', e3, v, e4⟩ := C.obj I1 a z
        rw [e1] at e3
        cases e3
        rw [e] at e2
        exact exo_ne e1 e4 rfl (Option.some.inj e2).symm
    have p3 : Post X.K T XT E g1 H1 (M.nc (cal n (ds ++ [.clo m vd])) st) _ := p3
    unfold M.nc at p3
    cases er : cal n (ds ++ [.clo m vd]) st with
    | ok d s2 =>
      rw [er] at p3
      dsimp only at p3
      by_cases hnc : noclo d = true
      · rw [if_pos hnc] at p3
        intro g2 H2 st2 w2 v rv
        obtain ⟨h1, h2, h3, h4⟩ := hexo st2
        exact ⟨h3, p3 (g2.less _) _ (st2.back w1 nH hh) (w2.less ok h1 h4) v (rv.less h1 _ _ hnc)⟩
      · rw [if_neg hnc] at p3; exact p3.elim
    | exc c fs s2 =>
      rw [er] at p3
      dsimp only at p3
      by_cases hnc : nocls fs = true
      · rw [if_pos hnc] at p3
        intro g2 H2 cls dd st2 w2 xt
        obtain ⟨h1, h2, h3, h4⟩ := hexo st2
        exact ⟨h3, p3 (g2.less _) _ cls dd (st2.back w1 nH hh) (w2.less ok h1 h4) (xo.less _ h1 h2 hnc xt)⟩
      · rw [if_neg hnc] at p3; exact p3.elim
    | bad => rw [er] at p3; exact p3.elim
end
end Mp

set_option Elab.async false
set_option linter.all false
set_option maxRecDepth 100000
set_option maxHeartbeats 4000000
/-! Lambdas: called. -/
namespace Mp
open PySem PySem.Spec PyProof.Rows L2 NdefX

/-- the things at L as they stand in H -/
def hput (H' : Hp) (L : List Addr) (H : Hp) : Hp := fun a => if a ∈ L then H a else H' a
def Gh.plus (g2 : Gh) (L : List Addr) (g : Gh) : Gh := { g2 with F := hput g2.F L g.F }
theorem hput_in {H' H : Hp} {L : List Addr} {a : Addr} (h : a ∈ L) : hput H' L H a = H a := if_pos h
theorem hput_out {H' H : Hp} {L : List Addr} {a : Addr} (h : a ∉ L) : hput H' L H a = H' a := if_neg h
section
variable {S : Type} {K : PySem.W.Frag} {T : Tab S} {g g2 : Gh} {H H2 : Hp} {L : List Addr} {s s2 : S}
theorem Gh.le_plus (w2 : Wd K T g2 s2 H2) (hn : ∀ a ∈ L, H2 a = none) : g2.Le (g2.plus L g) := ⟨fun a o e => by
  show hput g2.F L g.F a = _
  rw [hput_out fun z => by have := w2.sub a o e; rw [hn a z] at this; cases this]
  exact e, fun _ _ e => e, rfl⟩
theorem Step.plus (w2 : Wd K T g2 s2 H2) (st : Step (g.less L) (hless H L) g2 H2) (hn : ∀ a ∈ L, H2 a = none) : Step g H (g2.plus L g) (hput H2 L H) where
  le := ⟨fun a o e => by
    show hput g2.F L g.F a = _
    by_cases q : a ∈ L
    · rw [hput_in q]; exact e
    · rw [hput_out q]; exact st.le.F a o (by show hless g.F L a = _; rw [hless_out q]; exact e), fun a o e => st.le.C a o e, st.le.ha⟩
  pres := fun a o e c n t => by
    by_cases q : a ∈ L
    · rw [hput_in q]; exact e
    · rw [hput_out q]; exact st.pres a o (by rw [hless_out q]; exact e) c n t
  stay := fun a o e => by
    by_cases q : a ∈ L
    · exact ⟨o, by rw [hput_in q]; exact e⟩
    · rw [hput_out q]; exact st.stay a o (by rw [hless_out q]; exact e)
  newC := fun l t e => by
    have e : g2.C l = some t := e
    rcases st.newC l t e with z | z
    · exact .inl z
    · by_cases q : l ∈ L
      · obtain ⟨kvs, e2, _⟩ := w2.cache l t e
        rw [hn l q] at e2; cases e2
      · rw [hless_out q] at z; exact .inr z
  newF := fun a o e => by
    have e : hput g2.F L g.F a = some o := e
    by_cases q : a ∈ L
    · rw [hput_in q] at e; exact .inl e
    · rw [hput_out q] at e
      rcases st.newF a o e with z | z
      · exact .inl (hless_some z).2
      · rw [hless_out q] at z; exact .inr z
theorem Wd.plus (ok : T.Ok) (w : Wd K T g s H) (w2 : Wd K T g2 s2 H2) (hn : ∀ a ∈ L, H2 a = none) (hF : ∀ a ∈ L, ∃ o, g.F a = some (ExO a o)) : Wd K T (g2.plus L g) s2 (hput H2 L H) := by
  have le := Gh.le_plus (g := g) w2 hn
  have out : ∀ b o, H2 b = some o → hput H2 L H b = some o := fun b o e => by rw [hput_out fun z => by rw [hn b z] at e; cases e]; exact e
  refine ⟨fun a u e => ?_, fun l t e => ?_, ?_, fun l t e => ?_, ?_, w2.tabs.mono (fun p ps e => out p _ e) (fun q ps e n => ?_) le⟩
  · have e : hput g2.F L g.F a = some u := e
    by_cases q : a ∈ L
    · rw [hput_in q] at e ⊢; exact w.sub a u e
    · rw [hput_out q] at e ⊢; exact w2.sub a u e
  · obtain ⟨kvs, a, b⟩ := w2.cache l t e
    exact ⟨kvs, out _ _ a, ok.cache le b⟩
  · obtain ⟨vs, a, b⟩ := w2.hand
    exact ⟨vs, out _ _ a, ok.hand le b⟩
  · obtain ⟨kvs, a, b⟩ := w2.cache l t e
    refine ⟨?_, (w2.sepC l t e).2⟩
    show hput g2.F L g.F l = none
    rw [hput_out fun z => by rw [hn l z] at a; cases a]
    exact (w2.sepC l t e).1
  · obtain ⟨vs, a, b⟩ := w2.hand
    show hput g2.F L g.F g2.ha = none
    rw [hput_out fun z => by rw [hn _ z] at a; cases a]
    exact w2.sepH
  · show hput g2.F L g.F q = none
    rw [hput_out fun z => by rw [hn q z] at e; cases e]
    exact n
end
/-- every lambda's body keeps to the evaluator, at the level k -/
structure LamsOk {S : Type} (P : Program) (w : World) (K : PySem.W.Frag) (mg : Str → Option Value) (base : Heap) (LT : Nat → LamD → Prop) (T : Tab S) (XT : ExcT) (G : Nat → Option Fn) (dr : Dr S) (k : Nat) : Prop where
  run : ∀ m L, LT m L → ∃ e, G m = some (.code (L.ps.length + L.fr.length) L.N.length [.ret e]) ∧ NScope L.N L.ps L.fr L.scope ∧
    (∀ (cl : List (Str × Addr)) (pm ctv : Value) (c' : Addr) (us : List Value), us.length = L.ps.length → bindArgs (PySem.W.kla_fn "<lambda>" L.qual L.params L.body L.scope cl pm (.ref c') ctv) ⟨us, []⟩ = pure (L.ps.zip us)) ∧
    ∀ (cl : List (Str × Addr)) (c' f : Addr) (A : Around) (outer : List PySem.Env) (s : Shared) (H : Hp) (E : XK), Room (k + 1) (A.deeper (envF ⟨"<lambda>", L.qual, L.params, [], L.scope, cl, c'⟩ f s.heap.objs.size)) →
      PE (ncx (L2.CX P w) P w K mg base L.N ⟨"<lambda>", L.qual, L.params, [], L.scope, cl, c'⟩ f A outer s H E) L.body (tE K T XT E H (ev (callN G dr k) e))
theorem ret_run {S : Type} (call : Nat → List D → M S D) (e : Ex) (env : Env) (s : S) : M.bind (exs call [.ret e] env) (fun f => match f with | .ret d => M.pure d | .nxt _ => M.pure .non | _ => M.bad) s = ev call e env s := by
  have h : exs call [.ret e] env = M.bind (M.bind (ev call e env) fun d => M.pure (Fl.ret d)) fun f => match f with | .nxt e => exs call [] e | f => M.pure f := rfl
  rw [h]
  show R.bind (R.bind (R.bind (ev call e env s) _) _) _ = _
  cases ev call e env s <;> rfl
section
variable {S : Type} {X : Cx} {T : Tab S} {XT : ExcT} {E : XK} {B : Hp} {LT : Nat → LamD → Prop} {G : Nat → Option Fn} {dr : Dr S} {k : Nat}
theorem clo_run {pins : List (Addr × Obj)} {σ : L2.St} {H : Hp} {s : Shared} {g : Gh} {st : S} {f : Addr} {us : List Value} {vs : List V} {ds cs : List D} {m : Nat} {Q : VK} (ok : T.Ok) (xo : XOk XT) (hT : T.cloOk = CloOk LT) (LO : ∀ k', k = k' + 1 → LamsOk X.prog X.w X.K X.mg X.base LT T XT G dr k') (hr : Room (k + 1) X.A) (hx : Passes (L2.CX X.prog X.w) X E)
    (I : Inv X pins σ H s) (w : Wd X.K T g st H) (r : Vals vs us) (rd : Reps X.K T g ds vs) (rc : Rep X.K T g (.clo m cs) (.ref f)) (hnc : nocls (ds ++ cs) = true) (p : Post X.K T XT E g H (callN G dr k m (ds ++ cs) st) fun g' _ H' d => ∀ v, Rep X.K T g' d v → Q v H') :
    PySem.W.FnAt f s.heap ∧ wpAny (model X.prog X.w) X.A (call (.ref f) us) (EP X pins σ Q) X.xe s := by
  cases k with
  | zero => exact p.elim
  | succ k =>
  have LO := LO k rfl
  cases rc with
  | @clo _ _ _ wv hco rcs =>
  rw [hT] at hco
  obtain ⟨L, c', pm, ctv, cl, hL, hlen, hf, hc, hinj, hmem, hcells, hhas⟩ := hco
  obtain ⟨e, hG, SC, hbind, hbody⟩ := LO.run m L hL
  have hof : s.heap.get? f = some (lamObj L.qual L.params L.body L.scope cl pm c' ctv) := (show ObjOk X.prog X.w H s.heap f (ExO f _) from I.hok f _ (w.sub _ _ hf)).1
  refine ⟨⟨_, _, _, _, hof⟩, ?_⟩
  obtain ⟨⟨oc, cvs, ct, hoc, hdc, hvc⟩, _, _⟩ := (show ObjOk X.prog X.w H s.heap c' (LamX.CodeO c' L.qual) from I.hok c' _ (w.sub _ _ hc))
  -- the cells
  have cellF : ∀ a ∈ cl.map (·.2), ∃ o v, g.F a = some (ExO a o) ∧ o.data = .cell v := fun a ha => by
    obtain ⟨q, hq, e⟩ := List.mem_map.mp ha
    obtain ⟨y, hy⟩ := hmem q hq
    rw [← e]
    exact hcells y _ hy
  generalize hLL : cl.map (·.2) = LL at cellF
  have inL : ∀ {y c}, cl.lookup y = some c → c ∈ LL := fun {y c} e => by rw [← hLL]; exact List.mem_map.mpr ⟨(y, c), PySem.mem_of_lookup e, rfl⟩
  have hF : ∀ a ∈ LL, ∃ o, g.F a = some (ExO a o) := fun a z => let ⟨o, _, e, _⟩ := cellF a z; ⟨o, e⟩
  have hH : ∀ a ∈ LL, ∃ o, H a = some (ExO a o) := fun a z => let ⟨o, e⟩ := hF a z; ⟨o, w.sub _ _ e⟩
  have objL : ∀ a o, g.F a = some (ExO a o) → s.heap.get? a = some o := fun a o e => (show ObjOk X.prog X.w H s.heap a (ExO a o) from I.hok a _ (w.sub _ _ e)).1
  have hne : ∀ a ∈ LL, ∀ q, g.F a ≠ some (LamX.CodeO a q) := fun a z q e => by
    obtain ⟨o, v, e1, e2⟩ := cellF a z
    have e3 := objL a o e1
    rw [e] at e1
    exact exo_ne e3 e2 rfl (Option.some.inj e1).symm
  have nfr : ∀ a ∈ LL, a ∉ frs X.stack := fun a z hm => by
    obtain ⟨o, e⟩ := hH a z
    rw [I.stkFree a hm] at e; cases e
  have e0' := I.env0
  have e0 : Env0 X.prog X.w X.K X.mg X.base X.A X.stack s (hless H LL) := by
    refine ⟨e0'.frames, e0'.mod, fun b o e => ⟨(e0'.bs b o e).1, ?_⟩, e0'.bsz, e0'.funs, fun b hb => ?_, hok_less I.hok hH, e0'.bare⟩
    · by_cases z : b ∈ LL
      · exact hless_in z
      · rw [hless_out z]; exact (e0'.bs b o e).2
    · by_cases z : b ∈ LL
      · exact hless_in z
      · rw [hless_out z]; exact e0'.frf b hb
  have CA : CellsAt cl L.fr (wv.map some) s.heap (hless H LL) := by
    refine ⟨by rw [List.length_map]; exact hlen.symm, fun y c e => ⟨hless_in (inL e), ?_⟩, hinj, fun i y e => ?_⟩
    · obtain ⟨o, v, e1, e2⟩ := hcells y c e
      exact ⟨v, o, objL c o e1, e2⟩
    · have hi : i < wv.length := by rw [← hlen]; exact (List.getElem?_eq_some_iff.mp e).1
      obtain ⟨c, o, u, e1, e2, e3, e4⟩ := hhas i y wv[i] e (List.getElem?_eq_getElem hi)
      refine ⟨c, e1, fun v ev => ?_⟩
      rw [List.getElem?_map, List.getElem?_eq_getElem hi] at ev
      cases ev
      exact ⟨u, e4, o, objL c o e2, e3⟩
  have hcall : callN G dr (k + 1) m (ds ++ cs) st = M.need ((ds ++ cs).length == L.ps.length + L.fr.length) (M.bind (exs (callN G dr k) [.ret e] ((ds ++ cs).map Slot.fz ++ List.replicate (L.N.length - (L.ps.length + L.fr.length)) Slot.un)) fun f => match f with
      | .ret d => M.pure d
      | .nxt _ => M.pure .non
      | _ => M.bad) st := by
    rw [callN_code G dr hG]
    rfl
  rw [hcall] at p
  obtain ⟨hl1, p1⟩ := p.need
  have hl1 := eq_of_beq hl1
  rw [ret_run] at p1
  have hcl := rcs.length
  have hdl := rd.length
  have hvl : vs.length = L.ps.length := by
    rw [List.length_append] at hl1
    omega
  have hul : us.length = L.ps.length := by rw [← r.length]; exact hvl
  have lim : s.heap.NoLimit := e0.mod.nolimit.keeps fun b o e => (e0.bs b o e).1
  -- the run
  have rc2 : codeAny (model X.prog X.w) X.A (.call (.ref f) ⟨us, []⟩) (CR (L2.CX X.prog X.w) X.stack X.prog X.w H s Q E) s := by
    refine PySem.W.kla_callFunE hr.depth hof rfl SC.co SC.gen rfl ⟨c', oc, cvs, ct, rfl, hoc, hdc, hvc⟩ ?_
    rw [hbind cl pm ctv c' us hul]
    refine wpAny_pure (wpAny_newFunctionEnv SC.nocell (fun ⟨n, _⟩ hy => SC.par n (List.of_mem_zip hy).1) (fun h₁ hns hsb => ⟨lim.fresh _ hsb, ?_⟩) SC.kind)
    show codeAny _ _ (.expr L.body (envF ⟨"<lambda>", L.qual, L.params, [], L.scope, cl, c'⟩ f s.heap.objs.size)) _ _
    have kp : ∀ b o, s.heap.get? b = some o → h₁.get? b = some o := fun b o e => hsb.extBut b o (Nat.ne_of_lt (Heap.lt_size e)) (Heap.get?_push_of_some _ e)
    generalize hEE : (fun (cls : Value) (dd : Option Addr) (H' : Hp) => (∀ a ∈ LL, H' a = none) → E cls dd (hput H' LL H)) = EE
    have J : Inv (ncx (L2.CX X.prog X.w) X.prog X.w X.K X.mg X.base L.N ⟨"<lambda>", L.qual, L.params, [], L.scope, cl, c'⟩ f X.A X.stack s (hless H LL) EE) [] (startF L.N vs (wv.map some)) (hless H LL) { s with heap := h₁, toks := s.toks + (L.ps.zip us).length } := inv_startN (F := ⟨"<lambda>", L.qual, L.params, [], L.scope, cl, c'⟩) SC hr.hd e0 hvl r CA hns kp
    have hst : startF L.N vs (wv.map some) = L2.start L.N (vs ++ wv) := by
      unfold startF L2.start
      rw [List.map_append, List.append_assoc, List.length_append, List.length_map, Nat.sub_sub]
    rw [hst] at J
    have rall : Reps X.K T (g.less LL) (ds ++ cs) (vs ++ wv) := Reps.less hF _ _ (rd.append rcs) hnc
    have hpl : L.ps.length + L.fr.length ≤ L.N.length := by
      have q := congrArg List.length SC.pre
      rw [List.length_take, List.length_append] at q
      omega
    refine PySem.W.kla_codeExpr (wpAny_mono ((hbody cl c' f X.A X.stack s (hless H LL) EE (hr.deeper _)).run [] _ _ (hless H LL) (fun v H' => (∀ a ∈ LL, H' a = none) → Q v (hput H' LL H)) J ?_) (fun v s' hq => ?_) fun e s' hq => ?_)
    · refine ⟨g.less LL, st, (ds ++ cs).map Slot.fz ++ List.replicate (L.N.length - (ds ++ cs).length) Slot.un, fun _ => [], w.less ok hF hne, slots_start rall rfl (by rw [hl1]; exact hpl), ?_⟩
      rw [hl1]
      cases er : ev (callN G dr k) e ((ds ++ cs).map Slot.fz ++ List.replicate (L.N.length - (L.ps.length + L.fr.length)) Slot.un) st with
      | ok d s2 =>
        rw [er] at p1
        exact fun g2 H2 st2 w2 v rv hn => p1 (g2.plus LL g) (hput H2 LL H) (Step.plus w2 st2 hn) (w.plus ok w2 hn hF) v (rv.mono ok (Gh.le_plus w2 hn))
      | exc c fs s2 =>
        rw [er] at p1
        intro g2 H2 cls dd st2 w2 xt
        rw [← hEE]
        intro hn
        exact p1 (g2.plus LL g) (hput H2 LL H) cls dd (Step.plus w2 st2 hn) (w.plus ok w2 hn hF) (xo.mono (Gh.le_plus w2 hn) (fun a o e => by rw [hput_out fun z => by rw [hn a z] at e; cases e]; exact e) xt)
      | bad => rw [er] at p1; exact p1
    · obtain ⟨w', H', J', rv, q⟩ := hq
      have un := J'.base
      have hn : ∀ a ∈ LL, H' a = none := fun a z => by
        obtain ⟨o, e1⟩ := hF a z
        exact un.free a o (objL a o e1) (hless_in z) (fun z => nomatch (show a ∈ ([] : List Addr) from z))
      refine ⟨w', hput H' LL H, J'.os, J'.bare, ⟨fun b o e n hf hx => ?_, fun b o e n hf hx => ?_, fun b o e n hx => ?_, un.there, fun b xs e => ?_, fun b o u e => ?_, fun b ps e => ?_⟩, fun a o e => ?_, rv, q hn⟩
      · have z : b ∉ LL := fun z => by obtain ⟨o, e⟩ := hH b z; rw [n] at e; cases e
        exact un.keep b o e (by show hless H LL b = none; rw [hless_out z]; exact n) hf hx
      · have z : b ∉ LL := fun z => by obtain ⟨o, e⟩ := hH b z; rw [n] at e; cases e
        exact un.slot b o e (by show hless H LL b = none; rw [hless_out z]; exact n) hf hx
      · have z : b ∉ LL := fun z => by obtain ⟨o, e⟩ := hH b z; rw [n] at e; cases e
        rw [hput_out z]
        exact un.free b o e (by show hless H LL b = none; rw [hless_out z]; exact n) hx
      · have z : b ∉ LL := fun z => by obtain ⟨o, e2⟩ := hH b z; rw [e] at e2; cases e2
        rw [hput_out z]; exact un.tups b xs (by show hless H LL b = _; rw [hless_out z]; exact e)
      · have z : b ∉ LL := fun z => by obtain ⟨o, e2⟩ := hH b z; rw [e] at e2; cases e2
        rw [hput_out z]; exact un.frzs b o u (by show hless H LL b = _; rw [hless_out z]; exact e)
      · have z : b ∉ LL := fun z => by obtain ⟨o, e2⟩ := hH b z; rw [e] at e2; cases e2
        rw [hput_out z]; exact un.tbls b ps (by show hless H LL b = _; rw [hless_out z]; exact e)
      · by_cases z : a ∈ LL
        · rw [hput_in z] at e
          obtain ⟨o', e1⟩ := hF a z
          have e2 := w.sub _ _ e1
          rw [e] at e2
          cases e2
          have e3 := un.keep a o' (objL a o' e1) (hless_in z) (nfr a z) (fun z => nomatch (show a ∈ ([] : List Addr) from z))
          exact ⟨e3, ⟨o', e3⟩, fun h1 h2 x st => st _ x⟩
        · rw [hput_out z] at e
          have out : ∀ b o, H' b = some o → hput H' LL H b = some o := fun b o e => by rw [hput_out fun z => by rw [hn b z] at e; cases e]; exact e
          exact (J'.hok a o e).stay (fun b u _ z => z) (fun b z => out b _ z) fun b xs z => out b _ z
    · refine wpAny_mono hq (fun _ s'' hq => ?_) fun e' s'' hq => ?_
      all_goals
        obtain ⟨a, G', H', cls, d, eu, fly, hokB, ub, na, os, ag, hE⟩ := hq
        have hn : ∀ b ∈ LL, H' b = none := fun b z => by
          obtain ⟨o, e1⟩ := hF b z
          exact ub.free b o (objL b o e1) (hless_in z)
        have inG : ∀ b ∈ LL, ∀ o, g.F b = some (ExO b o) → G'.get? b = some o := fun b z o e1 => ub.keep b o (objL b o e1) (hless_in z) (nfr b z)
        rw [← hEE] at hE
        refine ⟨a, G', hput H' LL H, cls, d, eu, fly, fun b o e => ?_, ⟨fun b o e n hf => ?_, ub.slot, fun b o e n => ?_, ub.there, fun b xs e => ?_, fun b o u e => ?_, fun b ps e => ?_⟩, ?_, os, ag, hE hn⟩
        · by_cases z : b ∈ LL
          · rw [hput_in z] at e
            obtain ⟨o', e1⟩ := hF b z
            have e2 := w.sub _ _ e1
            rw [e] at e2
            cases e2
            exact ⟨inG b z o' e1, ⟨o', inG b z o' e1⟩, fun h1 h2 x st => st _ x⟩
          · rw [hput_out z] at e
            have out : ∀ b o, H' b = some o → hput H' LL H b = some o := fun b o e => by rw [hput_out fun z => by rw [hn b z] at e; cases e]; exact e
            exact (hokB b o e).stay (fun b u _ z => z) (fun b z => out b _ z) fun b xs z => out b _ z
        · have z : b ∉ LL := fun z => by obtain ⟨o, e⟩ := hH b z; rw [n] at e; cases e
          exact ub.keep b o e (by rw [hless_out z]; exact n) hf
        · have z : b ∉ LL := fun z => by obtain ⟨o, e⟩ := hH b z; rw [n] at e; cases e
          rw [hput_out z]; exact ub.free b o e (by rw [hless_out z]; exact n)
        · have z : b ∉ LL := fun z => by obtain ⟨o, e2⟩ := hH b z; rw [e] at e2; cases e2
          rw [hput_out z]; exact ub.tups b xs (by rw [hless_out z]; exact e)
        · have z : b ∉ LL := fun z => by obtain ⟨o, e2⟩ := hH b z; rw [e] at e2; cases e2
          rw [hput_out z]; exact ub.frzs b o u (by rw [hless_out z]; exact e)
        · have z : b ∉ LL := fun z => by obtain ⟨o, e2⟩ := hH b z; rw [e] at e2; cases e2
          rw [hput_out z]; exact ub.tbls b ps (by rw [hless_out z]; exact e)
        · by_cases z : a ∈ LL
          · exfalso
            obtain ⟨o, e1⟩ := hF a z
            have := inG a z o e1
            rw [fly.2.1] at this; cases this
          · rw [hput_out z]; exact na
  refine wpAny_call (codeAny_mono rc2 fun r s' hq => ?_)
  cases r with
  | error e => exact hx pins σ H s e s' I hq
  | ok fl =>
    cases fl with
    | ret u => exact I.after hq
    | next => exact False.elim hq
    | brk => exact False.elim hq
    | cont => exact False.elim hq
theorem clo_at {pins : List (Addr × Obj)} {σ : L2.St} {H : Hp} {s : Shared} {g : Gh} {st : S} {f : Addr} {cs : List D} {m : Nat} (hT : T.cloOk = CloOk LT) (I : Inv X pins σ H s) (w : Wd X.K T g st H) (rc : Rep X.K T g (.clo m cs) (.ref f)) : PySem.W.FnAt f s.heap := by
  cases rc with
  | clo hco rcs =>
  rw [hT] at hco
  obtain ⟨L, c', pm, ctv, cl, hL, hlen, hf, _⟩ := hco
  exact ⟨_, _, _, _, (show ObjOk X.prog X.w H s.heap f (ExO f _) from I.hok f _ (w.sub _ _ hf)).1⟩
theorem asClo_some {d : D} {c : Nat × List D} (h : asClo d = some c) : d = .clo c.1 c.2 := by
  unfold asClo at h
  split at h
  · cases h; rfl
  · cases h
theorem rep_clo_ref {K : PySem.W.Frag} {g : Gh} {m : Nat} {cs : List D} {v : V} (r : Rep K T g (.clo m cs) v) : ∃ f, v = .ref f := by
  cases r with
  | clo _ _ => exact ⟨_, rfl⟩
/-- x(e, ..), x a lambda that was given -/
theorem me_callv {i : Nat} {e : Expr} {es : List Expr} {x : Str} {p pos : Pos} {ms : Env → M S (List D)} (ok : T.Ok) (xo : XOk XT) (hT : T.cloOk = CloOk LT) (LO : ∀ k', k = k' + 1 → LamsOk X.prog X.w X.K X.mg X.base LT T XT G dr k') (hr : Room (k + 1) X.A) (hx : Passes (L2.CX X.prog X.w) X E)
    (hN : X.N[i]? = some x) (hv : Vis X.env.scope x) (ha : PA X (e :: es) (tL X.K T XT E B ms)) (hd : (x == ("__debug__" : Str)) = false) (hcd : (x == ("__classdict__" : Str)) = false)
    (he : starEach (e :: es) X.env = (false, eval e X.env) :: starEach es X.env) (hpl : (backTo pos (starEach es X.env)).any (·.1) = false) :
    PE X (.Call (.Name x p) (e :: es) [] pos) (tE X.K T XT E B fun env => M.bind (M.opt ((env.get i).bind asClo)) fun c => M.bind (ms env) fun ds => M.need (nocls (ds ++ c.2)) (callN G dr k c.1 (ds ++ c.2))) := by
  refine ⟨fun pins s σ H Q I ⟨g, s0, env, fp, w, sl, pp⟩ => ?_⟩
  obtain ⟨c, ec, w', st', p1⟩ := Post.opt w pp.bind
  obtain ⟨d, ed, edc⟩ := Option.bind_eq_some_iff.mp ec
  obtain rfl := asClo_some edc
  obtain ⟨v, hσ, rv⟩ := sl.get ed
  obtain ⟨f, rfl⟩ := rep_clo_ref rv
  refine wpAny_Call_Name_kw (thn ((pe_var (pos := p) hN hv hd hcd).run pins s σ H (fun v H1 => v = .ref f ∧ H1 = H) I ⟨.ref f, hσ, rfl, rfl⟩) fun u s1 ⟨v, H1, I1, r1, q1⟩ => ?_)
  obtain ⟨ev, eH⟩ := q1
  subst ev
  rw [eH] at I1
  obtain rfl : u = Value.ref f := r1
  refine PySem.W.callWith_F (first := []) (clo_at hT I1 w rv) (thn (ha.run pos pins s1 σ H (fun vs H2 => ∃ g2 s2 ds, Wd X.K T g2 s2 H2 ∧ Reps X.K T g2 ds vs ∧ Rep X.K T g2 (.clo c.1 c.2) (.ref f) ∧
      Post X.K T XT E g2 H2 (M.need (nocls (ds ++ c.2)) (callN G dr k c.1 (ds ++ c.2)) s2) fun g' _ H' d => ∀ v, Rep X.K T g' d v → Q v H') I1 ?_) fun us s2 ⟨vs, H2, I2, r, g2, st2, ds, w2, rd, rc2, p2⟩ => ?_) he hpl
  · exact ⟨g, s0, env, fp, w, sl, p1.bind.imp fun g2 s2 H2 ds ⟨w2, st2, p2⟩ vs r => ⟨g2, s2, ds, w2, r, rv.mono ok st2.le, p2⟩⟩
  · obtain ⟨hn, p3⟩ := p2.need
    exact clo_run ok xo hT LO hr hx I2 w2 r rd rc2 hn p3
theorem me_callv0 {i : Nat} {x : Str} {p pos : Pos} (ok : T.Ok) (xo : XOk XT) (hT : T.cloOk = CloOk LT) (LO : ∀ k', k = k' + 1 → LamsOk X.prog X.w X.K X.mg X.base LT T XT G dr k') (hr : Room (k + 1) X.A) (hx : Passes (L2.CX X.prog X.w) X E)
    (hN : X.N[i]? = some x) (hv : Vis X.env.scope x) (hd : (x == ("__debug__" : Str)) = false) (hcd : (x == ("__classdict__" : Str)) = false) :
    PE X (.Call (.Name x p) [] [] pos) (tE X.K T XT E B fun env => M.bind (M.opt ((env.get i).bind asClo)) fun c => M.bind (M.pure []) fun ds => M.need (nocls (ds ++ c.2)) (callN G dr k c.1 (ds ++ c.2))) := by
  refine ⟨fun pins s σ H Q I ⟨g, s0, env, fp, w, sl, pp⟩ => ?_⟩
  obtain ⟨c, ec, w', st', p1⟩ := Post.opt w pp.bind
  obtain ⟨d, ed, edc⟩ := Option.bind_eq_some_iff.mp ec
  obtain rfl := asClo_some edc
  obtain ⟨v, hσ, rv⟩ := sl.get ed
  obtain ⟨f, rfl⟩ := rep_clo_ref rv
  refine wpAny_Call_Name_kw (thn ((pe_var (pos := p) hN hv hd hcd).run pins s σ H (fun v H1 => v = .ref f ∧ H1 = H) I ⟨.ref f, hσ, rfl, rfl⟩) fun u s1 ⟨v, H1, I1, r1, q1⟩ => ?_)
  obtain ⟨ev, eH⟩ := q1
  subst ev
  rw [eH] at I1
  obtain rfl : u = Value.ref f := r1
  obtain ⟨hn, p3⟩ := Post.need (m := callN G dr k c.1 ([] ++ c.2)) p1
  obtain ⟨h1, h2⟩ := clo_run (us := []) (vs := []) (ds := []) ok xo hT LO hr hx I1 w .nil .nil rv hn p3
  exact PySem.W.callWith_F0 (first := []) h1 h2
end
end Mp

set_option Elab.async false
set_option linter.all false
set_option maxRecDepth 100000
set_option maxHeartbeats 4000000
/-! New instances. -/
namespace Mp
open PySem PySem.Spec PyProof.Rows L2

section
variable {S : Type} {X : Cx} {T : Tab S} {XT : ExcT} {E : XK} {g0 : Gh} {B : Hp}
/-- statements by the evaluator, then u -/
def tSq (K : PySem.W.Frag) (T : Tab S) (XT : ExcT) (E : XK) (g0 : Gh) (B : Hp) (m : Env → M S Fl) (u : TS) : TS := fun Dn σ H => tS K T XT E g0 B m { Dn with nx := u Dn } σ H
theorem mq_nil {sts : List Stmt} {u : TS} (h : PSs X sts u) : PSs X sts (tSq X.K T XT E g0 B (fun env => M.pure (.nxt env)) u) := pss_imp h fun Dn σ H ⟨g, s, env, fp, w, sl, st, p⟩ => p g H σ fp (.refl g) st w sl
theorem mq_cons {t : Stmt} {ts : List Stmt} {m : Env → M S Fl} {ms : Env → M S Fl} {u : TS} (h : PS X t (tS X.K T XT E g0 B m)) (hs : PSs X ts (tSq X.K T XT E g0 B ms u)) :
    PSs X (t :: ts) (tSq X.K T XT E g0 B (fun env => M.bind (m env) fun f => match f with | .nxt e => ms e | f => M.pure f) u) :=
  pss_imp (pss_cons h hs) fun Dn σ H ⟨g, s, env, fp, w, sl, st, p⟩ => ⟨g, s, env, fp, w, sl, st, by
    have p : PostS X.K T XT E g0 B g ((m env s).bind fun f s => (match f with | .nxt e => ms e | f => M.pure f : M S Fl) s) { Dn with nx := u Dn } := p
    cases e : m env s with
    | ok f s1 =>
      rw [e] at p
      cases f with
      | nxt env' => exact fun g' H' σ' fp' l st' w' sl' => ⟨g', s1, env', fp', w', sl', st', PostS.le l p⟩
      | brk env' => exact p
      | cnt env' => exact p
      | ret d => exact p
    | exc c fs s1 => rw [e] at p; exact p
    | bad => rw [e] at p; exact p⟩
/-- an attribute of an instance is stored -/
def gFld (K : PySem.W.Frag) (ta : TE) (f : Str) : TG := fun v σ H Q => ta σ H fun x H2 => ∃ a C dx fs, x = .ref a ∧ H2 a = some (.ins C dx fs) ∧ Cls K C ∧ NoAttr K C f ∧ fs.length < 1000 ∧ Q σ (upd H2 a (.ins C dx (putF f v fs)))
theorem pg_fld {o : Expr} {f : Str} {pos : Pos} {ta : TE} (ha : PE X o ta) : PG X (.Attribute o f pos) (gFld X.K ta f) := by
  refine ⟨fun pins s σ H v u Q I r h => ?_⟩
  show wpAny _ _ (do let ov ← holding [u] (eval o X.env); standAt pos.atName; holding [u, ov] (setAttr ov f u); release [u, ov] []) _ _ _
  refine wpAny_bind (wpAny_holding (thn (ha.run pins s σ H _ I h) fun ov s1 ⟨x, H1, I1, rx, a, C, dx, fs, ex, ea, c, n, l, q⟩ => ?_))
  subst ex
  obtain rfl : ov = Value.ref a := rx
  exact wpAny_bind (wpAny_standAt (wpAny_bind (wpAny_holding (setattr_ok I1 ea c n l r fun s3 I3 => wpAny_release ⟨σ, _, I3, q⟩))))
end
/-! ### new instances -/
/-- what the making leaves: the instance's fields, its cache -/
structure Made (H : Hp) (x dx C : Addr) (fs : List (Str × V)) (l : Option Addr) (H3 : Hp) : Prop where
  at_ : H3 x = some (.ins C dx fs)
  new : ∀ a, l = some a → H a = none ∧ H3 a = some (.dK []) ∧ a ≠ x
  oth : ∀ a, a ≠ x → l ≠ some a → H3 a = H a
def exOf (l : Option Addr) : List (Str × V) := match l with
  | some a => [("looked", .ref a)]
  | none => []
section
variable {S : Type} (K : PySem.W.Frag) (T : Tab S) (XT : ExcT)
/-- what the init function of a class with the fields fl promises -/
def spInit (cal : Nat → List D → M S D) (n : Nat) (C : Addr) (fl : List Str) (lk : Bool) : Sp := fun vs H Q E => ∃ g s ds us x dx B, vs = .ref x :: us ∧ us.length = fl.length ∧ Wd K T g s B ∧ Reps K T g ds us ∧ B x = none ∧ B dx = none ∧ dx ≠ x ∧ H = upd (upd B dx (.own x)) x (.ins C dx []) ∧
  Post K T XT E g B (cal n ds s) fun g' _ H' _ => H' x = some (.ins C dx []) → g'.F x = none → ∀ l H3, l.isSome = lk → Made H' x dx C (fl.zip us ++ exOf l) l H3 → Q .non H3
end
section
variable {S : Type} {X : Cx} {T : Tab S} {XT : ExcT} {E : XK} {g0 : Gh} {B : Hp}
/-- an instance is made: it lasts, its cache is the caches' -/
theorem made_ok {K : PySem.W.Frag} {g1 g2 : Gh} {H1 H2 H3 : Hp} {s : S} {x dx C : Addr} {c : Nat} {ds : List D} {us : List V} {l : Option Addr} (ok : T.Ok) (hC : T.cls c = some C) (hmemo : T.memo c = true → l.isSome = true) (hlen : us.length = (T.flds c).length) (hfl : ("looked" : Str) ∉ T.flds c)
    (w : Wd K T g2 s H2) (st : Step g1 H1 g2 H2) (hx1 : H1 x = none) (hx2 : H2 x = some (.ins C dx [])) (hFx : g2.F x = none) (m : Made H2 x dx C ((T.flds c).zip us ++ exOf l) l H3) (r : Reps K T g2 ds us) :
    ∃ g3, Step g1 H1 g3 H3 ∧ Wd K T g3 s H3 ∧ Rep K T g3 (.ins c ds) (.ref x) := by
  have nCx : g2.C x = none := by
    cases q : g2.C x with
    | none => rfl
    | some t => obtain ⟨kvs, e, _⟩ := w.cache x t q; rw [hx2] at e; cases e
  have nHx : x ≠ g2.ha := by
    rintro rfl
    obtain ⟨vs, e, _⟩ := w.hand
    rw [hx2] at e; cases e
  have keep : ∀ a o, H2 a = some o → a ≠ x → H3 a = some o := fun a o e n => by
    rw [m.oth a n fun z => by have := (m.new a z).1; rw [e] at this; cases this]
    exact e
  have lF : ∀ a, l = some a → g2.F a = none ∧ g2.C a = none ∧ a ≠ g2.ha := fun a e => w.free (m.new a e).1
  let g3 : Gh := { F := upd g2.F x (.ins C dx ((T.flds c).zip us ++ exOf l)), C := fun a => if l = some a then some (.ins c ds) else g2.C a, ha := g2.ha }
  have le : g2.Le g3 := ⟨fun a o e => by show upd g2.F x _ a = _; rw [upd_ne (ne_of_none e hFx)]; exact e, fun a o e => by
    show (if l = some a then _ else g2.C a) = _
    rw [if_neg fun z => by have := (lF a z).2.1; rw [e] at this; cases this]
    exact e, rfl⟩
  refine ⟨g3, ⟨st.le.trans le, fun a o e cn hn nt => ?_, fun a o e => ?_, fun a t e => ?_, fun a o e => ?_⟩, ⟨fun a o e => ?_, fun a t e => ?_, ?_, fun a t e => ?_, ?_, ?_⟩, ?_⟩
  · exact keep a o (st.pres a o e cn hn nt) (ne_of_none e hx1)
  · obtain ⟨o', e'⟩ := st.stay a o e
    exact ⟨o', keep a o' e' (ne_of_none e hx1)⟩
  · have e : (if l = some a then some (D.ins c ds) else g2.C a) = some t := e
    by_cases z : l = some a
    · exact .inr (st.fresh (m.new a z).1)
    · rw [if_neg z] at e; exact st.newC a t e
  · have e : upd g2.F x (.ins C dx ((T.flds c).zip us ++ exOf l)) a = some o := e
    by_cases z : a = x
    · rw [z]; exact .inr hx1
    · rw [upd_ne z] at e; exact st.newF a o e
  · have e : upd g2.F x (.ins C dx ((T.flds c).zip us ++ exOf l)) a = some o := e
    by_cases z : a = x
    · rw [z, upd_same] at e; cases e; rw [z]; exact m.at_
    · rw [upd_ne z] at e; exact keep a o (w.sub a o e) z
  · have e : (if l = some a then some (D.ins c ds) else g2.C a) = some t := e
    by_cases z : l = some a
    · exact ⟨[], (m.new a z).2.1, ok.cache0 _ _⟩
    · rw [if_neg z] at e
      obtain ⟨kvs, e1, e2⟩ := w.cache a t e
      exact ⟨kvs, keep a _ e1 (fun y => by rw [y, nCx] at e; cases e), ok.cache le e2⟩
  · obtain ⟨vs, e1, e2⟩ := w.hand
    exact ⟨vs, keep _ _ e1 (Ne.symm nHx), ok.hand le e2⟩
  · have e : (if l = some a then some (D.ins c ds) else g2.C a) = some t := e
    by_cases z : l = some a
    · exact ⟨by show upd g2.F x _ a = none; rw [upd_ne (m.new a z).2.2]; exact (lF a z).1, (lF a z).2.2⟩
    · rw [if_neg z] at e
      have q := w.sepC a t e
      exact ⟨by show upd g2.F x _ a = none; rw [upd_ne (fun y => by rw [y, nCx] at e; cases e)]; exact q.1, q.2⟩
  · show upd g2.F x _ g2.ha = none
    rw [upd_ne (Ne.symm nHx)]; exact w.sepH
  · exact w.tabs.mono (fun p ps e => keep p _ e (fun y => by rw [y, hx2] at e; cases e)) (fun q ps e n => by show upd g2.F x _ q = none; rw [upd_ne (fun y => by rw [y, hx2] at e; cases e)]; exact n) le
  · refine .ins (ex := exOf l) hC (show upd g2.F x _ x = _ from upd_same) hlen (r.mono ok le) fun hm => ?_
    obtain ⟨a, ha⟩ := Option.isSome_iff_exists.mp (hmemo hm)
    subst ha
    exact ⟨a, rfl, if_pos rfl⟩
theorem me_make {e : Expr} {es : List Expr} {x : Str} {p pos : Pos} {ms : Env → M S (List D)} {cal : Nat → List D → M S D} {n c k : Nat} {f C : Addr} {fd : FuncData} {ps : List Str} {lk : Bool} (ok : T.Ok) (hC : T.cls c = some C) (hmemo : T.memo c = true → lk = true) (hfl : ("looked" : Str) ∉ T.flds c)
    (MK : Mk X.K C f) (F : FnOk X.prog X.w X.K X.mg X.base (L2.CX X.prog X.w) k f fd ps (spInit X.K T XT cal n C (T.flds c) lk)) (hps : ps.length = (T.flds c).length + 1) (hr : Room (k + 1) X.A) (hg : Gl X x) (hm : X.mg x = some (.ref C)) (hb : Binds X.K fd ps []) (hx : Passes (L2.CX X.prog X.w) X E)
    (ha : PA X (e :: es) (tL X.K T XT E B ms)) (hl : ∀ env s, match ms env s with | .ok ds _ => ds.length = (T.flds c).length | _ => True) (hdb : (x == ("__debug__" : Str)) = false) (he : starEach (e :: es) X.env = (false, eval e X.env) :: starEach es X.env) (hpl : (backTo pos (starEach es X.env)).any (·.1) = false) :
    PE X (.Call (.Name x p) (e :: es) [] pos) (tE X.K T XT E B fun env => M.bind (ms env) fun ds => M.bind (cal n ds) fun _ => M.pure (.ins c ds)) :=
  pe_imp (pe_make MK F hr hg hm hb .nil hx ha hdb he hpl) fun σ H Q ⟨g, s, env, fp, w, sl, p⟩ => by
    refine ⟨g, s, env, fp, w, sl, ?_⟩
    have h0 := hl env s
    have p0 := p.bind
    cases em : ms env s with
    | ok ds s1 =>
      rw [em] at p0 h0
      intro g1 H1 st1 w1
      obtain ⟨_, _, p1⟩ := p0 g1 H1 st1 w1
      intro us r y dy hy hdy hne
      show spInit X.K T XT cal n C (T.flds c) lk (.ref y :: (us ++ [])) _ _ _
      rw [List.append_nil]
      have hlen : us.length = (T.flds c).length := by rw [← r.length]; exact h0
      refine ⟨g1, s1, ds, us, y, dy, H1, rfl, hlen, w1, r, hy, hdy, hne, rfl, (Post.bind2 (.refl g1 H1) p1).imp fun g2 s2 H2 _ ⟨w2, st2, p2⟩ hx2 hFx l H3 hlk md => ⟨rfl, ?_⟩⟩
      obtain ⟨g3, st3, w3, r3⟩ := made_ok ok hC (fun z => by rw [hlk]; exact hmemo z) hlen hfl w2 st2 hy hx2 hFx md (r.mono ok st2.le)
      exact p2 g3 H3 st3 w3 (.ref y) r3
    | exc c fs s1 => rw [em] at p0; exact p0
    | bad => rw [em] at p0; exact p0
theorem ms_dead {st : Stmt} : PS X st (tS X.K T XT E g0 B fun _ => M.bad) := ps_imp ps_never fun Dn σ H ⟨g, s, env, fp, w, sl, st, p⟩ => p.elim
theorem mq_dead {sts : List Stmt} {u : TS} : PSs X sts (tSq X.K T XT E g0 B (fun _ => M.bad) u) := pss_imp pss_never fun Dn σ H ⟨g, s, env, fp, w, sl, st, p⟩ => p.elim
/-- checks ahead of a tail: the names stay as they are -/
def PostC (K : PySem.W.Frag) (T : Tab S) (XT : ExcT) (E : XK) (g0 : Gh) (B : Hp) (g : Gh) (H : Hp) (q : Hp → Prop) (r : R S Fl) : Prop :=
  match r with
  | .ok (.nxt _) s' => ∀ g' H', Step g H g' H' → Wd K T g' s' H' → q H'
  | .ok _ _ => False
  | .exc c fs s' => ∀ g' H' cls dd, Step g0 B g' H' → Wd K T g' s' H' → XT g' H' c fs cls dd → E cls dd H'
  | .bad => False
def tCh (K : PySem.W.Frag) (T : Tab S) (XT : ExcT) (E : XK) (g0 : Gh) (B : Hp) (m : Env → M S Fl) (u : TS) : TS := fun Dn σ H => ∃ g s env fp, Wd K T g s H ∧ Slots K T g H B env σ fp ∧ Step g0 B g H ∧ PostC K T XT E g0 B g H (u Dn σ) (m env s)
theorem mc_nil {sts : List Stmt} {u : TS} (h : PSs X sts u) : PSs X sts (tCh X.K T XT E g0 B (fun env => M.pure (.nxt env)) u) := pss_imp h fun Dn σ H ⟨g, s, env, fp, w, sl, st, p⟩ => p g H (.refl g H) w
theorem mc_cons {c : Expr} {a rest : List Stmt} {pos : Pos} {mc : Env → M S D} {ma ms : Env → M S Fl} {u : TS} (ok : T.Ok) (hc : PT X c (tT X.K T XT E B mc)) (ha : PSs X a (tS X.K T XT E g0 B ma)) (hna : ∀ env s f s', ma env s ≠ .ok f s') (hr : PSs X rest (tCh X.K T XT E g0 B ms u)) :
    PSs X (.If c a [] pos :: rest) (tCh X.K T XT E g0 B (fun env => M.bind (M.bind (mc env) fun x => M.bind (M.opt (asBl x)) fun k => if k = true then ma env else M.pure (.nxt env)) fun f => match f with | .nxt e => ms e | f => M.pure f) u) :=
  pss_imp (pss_cons (ps_if hc ha pss_nil) hr) fun Dn σ H ⟨g, s, env, fp, w, sl, st, p⟩ => by
    refine ⟨g, s, env, fp, w, sl, ?_⟩
    have p : PostC X.K T XT E g0 B g H (u Dn σ) (R.bind (R.bind (mc env s) fun x => M.bind (M.opt (asBl x)) fun k => if k = true then ma env else M.pure (.nxt env)) fun f => match f with | .nxt e => ms e | f => M.pure f) := p
    cases ec : mc env s with
    | ok x s1 =>
      intro g1 H1 st1 w1
      rw [ec] at p
      cases x with
      | bl b =>
        refine ⟨b, rfl, ?_⟩
        have p : PostC X.K T XT E g0 B g H (u Dn σ) (R.bind ((if b = true then ma env else M.pure (.nxt env)) s1) fun f => match f with | .nxt e => ms e | f => M.pure f) := p
        cases b with
        | true =>
          rw [if_pos rfl] at p
          show if true = true then _ else _
          rw [if_pos rfl]
          refine ⟨g1, s1, env, fp, w1, sl.step ok st1, st.trans st1, ?_⟩
          cases em : ma env s1 with
          | ok f s2 => exact (hna env s1 f s2 em).elim
          | exc c fs s2 => rw [em] at p; exact p
          | bad => rw [em] at p; exact p
        | false =>
          rw [if_neg Bool.false_ne_true] at p
          show if false = true then _ else _
          rw [if_neg Bool.false_ne_true]
          refine ⟨g1, s1, env, fp, w1, sl.step ok st1, st.trans st1, ?_⟩
          have p : PostC X.K T XT E g0 B g H (u Dn σ) (ms env s1) := p
          cases em : ms env s1 with
          | ok f s2 =>
            rw [em] at p
            cases f with
            | nxt env' => exact fun g' H' st' w' => p g' H' (st1.trans st') w'
            | brk env' => exact p
            | cnt env' => exact p
            | ret d => exact p
          | exc c fs s2 => rw [em] at p; exact p
          | bad => rw [em] at p; exact p
      | _ => exact p.elim
    | exc c fs s1 => rw [ec] at p; exact fun g' H' cls dd st' w' x => p g' H' cls dd (st.trans st') w' x
    | bad => rw [ec] at p; exact p.elim
/-- the fields are stored -/
def tFin (C : Addr) (fl : List Str) (lk : Bool) : TS := fun Dn σ H => ∃ x dx us, σ[0]? = some (some (.ref x)) ∧ H x = some (.ins C dx []) ∧ us.length = fl.length ∧ (∀ i v, us[i]? = some v → σ[i + 1]? = some (some v)) ∧
  ∀ p l H3, H p = none → l.isSome = lk → Made (upd H p (.tup us)) x dx C (fl.zip us ++ exOf l) l H3 → Dn.nx σ H3
theorem made_upd {H : Hp} {x dx C : Addr} {fs : List (Str × V)} (hx : ∃ o, H x = some o) : Made H x dx C fs none (upd H x (.ins C dx fs)) := ⟨upd_same, (fun _ z => nomatch z), fun a h _ => upd_ne h⟩
/-- self.a, self.b = x, y -/
theorem tail_two {sf a b f1 f2 : Str} {k1 k2 : Nat} {p1 p2 p3 p4 p5 q1 q2 q3 q4 : Pos} {C : Addr} (hc : X.calm = true) (hK : Cls X.K C) (n1 : NoAttr X.K C f1) (n2 : NoAttr X.K C f2) (hne : f1 ≠ f2)
    (h0 : PE X (.Name sf p1) (tVar 0)) (h0' : PE X (.Name sf p3) (tVar 0)) (ha : PE X (.Name a q1) (tVar 1)) (hb : PE X (.Name b q2) (tVar 2))
    (hs : swapsWithSole [.Tuple [.Attribute (.Name sf p1) f1 p2, .Attribute (.Name sf p3) f2 p4] k1 p5] (.Tuple [.Name a q1, .Name b q2] k2 q3) q4.line X.env = pure false) (hw : swappedStores [.Tuple [.Attribute (.Name sf p1) f1 p2, .Attribute (.Name sf p3) f2 p4] k1 p5] (.Tuple [.Name a q1, .Name b q2] k2 q3) X.env = pure none) :
    PS X (.Assign [.Tuple [.Attribute (.Name sf p1) f1 p2, .Attribute (.Name sf p3) f2 p4] k1 p5] (.Tuple [.Name a q1, .Name b q2] k2 q3) q4)
      (fun Dn σ H => ∃ x dx us, σ[0]? = some (some (.ref x)) ∧ H x = some (.ins C dx []) ∧ us.length = 2 ∧ (∀ (i : Nat) v, us[i]? = some v → σ[i + 1]? = some (some v)) ∧ ∀ p, H p = none → Dn.nx σ (upd (upd H p (.tup us)) x (.ins C dx ([f1, f2].zip us)))) :=
  ps_imp (ps_asg (pe_tup (pa_cons ha (pa_cons hb pa_nil))) (pg_tup (n := 2) hc (pgs_cons (pg_fld h0) (pgs_cons (pg_fld h0') pgs_nil))) hs hw) fun Dn σ H ⟨x, dx, us, hx, hH, hl, hu, q⟩ => by
    obtain ⟨v1, v2, rfl⟩ : ∃ v1 v2, us = [v1, v2] := by
      match us, hl with
      | [v1, v2], _ => exact ⟨v1, v2, rfl⟩
    refine ⟨v1, hu 0 v1 rfl, v2, hu 1 v2 rfl, (show 2 ≤ sizeLine by decide), fun p hp => ?_⟩
    have hxp : x ≠ p := ne_of_none hH hp
    have e0 : upd H p (.tup [v1, v2]) x = some (.ins C dx []) := by rw [upd_ne hxp]; exact hH
    refine ⟨p, [v1, v2], rfl, .inl (.inl upd_same), rfl, v1, [v2], rfl, .ref x, hx, x, C, dx, [], rfl, e0, hK, n1, (show 0 < 1000 by decide), v2, [], rfl, .ref x, hx, x, C, dx, _, rfl, upd_same, hK, n2, (show 1 < 1000 by decide), rfl, ?_⟩
    have e1 : upd (upd (upd H p (.tup [v1, v2])) x (.ins C dx (putF f1 v1 []))) x (.ins C dx (putF f2 v2 (putF f1 v1 []))) = upd (upd H p (.tup [v1, v2])) x (.ins C dx ([f1, f2].zip [v1, v2])) := by
      rw [upd_upd]
      show upd _ x (.ins C dx (if f1 = f2 then _ else _)) = _
      rw [if_neg hne]
      rfl
    rw [e1]
    exact q p hp
/-- .. and no cache -/
theorem tail_fin {C : Addr} {f1 f2 : Str} {st : Stmt} (h : PS X st (fun Dn σ H => ∃ x dx us, σ[0]? = some (some (.ref x)) ∧ H x = some (.ins C dx []) ∧ us.length = 2 ∧ (∀ (i : Nat) v, us[i]? = some v → σ[i + 1]? = some (some v)) ∧ ∀ p, H p = none → Dn.nx σ (upd (upd H p (.tup us)) x (.ins C dx ([f1, f2].zip us))))) :
    PSs X [st] (tFin C [f1, f2] false) :=
  pss_imp (pss_one h) fun Dn σ H ⟨x, dx, us, hx, hH, hl, hu, q⟩ => ⟨x, dx, us, hx, hH, hl, hu, fun p hp => q p none _ hp rfl (by
    show Made _ x dx C ([f1, f2].zip us ++ []) none _
    rw [List.append_nil]
    exact made_upd ⟨_, by rw [upd_ne (ne_of_none hH hp)]; exact hH⟩)⟩
/-- .. and self.looked = {} -/
theorem tail_finL {C : Addr} {f1 f2 sf : Str} {st : Stmt} {r1 r2 r3 r4 : Pos} (hK : Cls X.K C) (nl : NoAttr X.K C "looked") (h1 : f1 ≠ "looked") (h2 : f2 ≠ "looked") (h : PS X st (fun Dn σ H => ∃ x dx us, σ[0]? = some (some (.ref x)) ∧ H x = some (.ins C dx []) ∧ us.length = 2 ∧ (∀ (i : Nat) v, us[i]? = some v → σ[i + 1]? = some (some v)) ∧ ∀ p, H p = none → Dn.nx σ (upd (upd H p (.tup us)) x (.ins C dx ([f1, f2].zip us)))))
    (h0 : PE X (.Name sf r1) (tVar 0)) (hs : swapsWith (.Dict [] [] r3) (some (.Attribute (.Name sf r1) "looked" r2)) r4.line X.env = pure false) :
    PSs X [st, .Assign [.Attribute (.Name sf r1) "looked" r2] (.Dict [] [] r3) r4] (tFin C [f1, f2] true) :=
  pss_imp (pss_cons h (pss_one (ps_fld h0 pe_dnewK hs))) fun Dn σ H ⟨x, dx, us, hx, hH, hl, hu, q⟩ => ⟨x, dx, us, hx, hH, hl, hu, fun p hp l hl' => by
    refine ⟨.ref x, hx, x, C, dx, [f1, f2].zip us, rfl, ?_, hK, nl, ?_, ?_⟩
    · have n1 : x ≠ l := by
        rintro rfl
        rw [upd_same] at hl'
        cases hl'
      rw [upd_ne n1, upd_same]
    · rw [List.length_zip, hl]
      exact (show 2 < 1000 by decide)
    · obtain ⟨v1, v2, rfl⟩ : ∃ v1 v2, us = [v1, v2] := by
        match us, hl with
        | [v1, v2], _ => exact ⟨v1, v2, rfl⟩
      have hxl : l ≠ x := by
        rintro rfl
        rw [upd_same] at hl'
        cases hl'
      rw [upd_ne hxl] at hl'
      refine q p (some l) _ hp rfl ⟨?_, fun a e => ?_, fun a h1 h2 => ?_⟩
      · rw [upd_same]
        show some (HO.ins C dx (if f1 = ("looked" : Str) then _ else (f1, v1) :: (if f2 = ("looked" : Str) then _ else [(f2, v2), (("looked" : Str), V.ref l)]))) = _
        rw [if_neg h1, if_neg h2]
        rfl
      · cases e
        exact ⟨hl', by rw [upd_ne hxl, upd_same], hxl⟩
      · rw [upd_ne h1, upd_ne (fun e => h2 (by rw [e])), upd_ne h1]⟩
end
section
variable {S : Type} {P : Program} {w : World} {K : PySem.W.Frag} {mg : Str → Option Value} {base : Heap} {T : Tab S} {XT : ExcT} {G : Nat → Option Fn} {dr : Dr S}
theorem fn_init {x qual : Str} {st : Stmt} {f C : Addr} {fd : FuncData} {N ps fl : List Str} {j k n np ns : Nat} {body : List St} {lk : Bool} (ok : T.Ok) (F : Fun K x qual st f fd) (SC : FnScope N ps (defScope st)) (hG : G n = some (.init np ns body)) (hns : ns = N.length) (hnp : ps.length = np + 1) (hfl : fl.length = np)
    (hbody : ∀ (cdv : Value) (A : Around) (outer : List PySem.Env) (s : Shared) (H : Hp) (E : XK) (g0 : Gh) (B : Hp), Room j (A.deeper (envOfC qual (defScope st) s.heap.objs.size f cdv)) →
      PSs (cxOf (L2.CX P w) P w K mg base N qual (defScope st) f cdv A outer s H E) (defBody st) (tCh K T XT E g0 B (exs (callN G dr k) body) (tFin C fl lk))) :
    FnOk P w K mg base (L2.CX P w) (j + 1) f fd ps (spInit K T XT (callN G dr (k + 2)) n C fl lk) := by
  refine F.okX SC (fun vs H Q E h => ?_) fun cdv A outer s H vs Q E hr h => ?_
  · obtain ⟨g, s, ds, us, y, dy, B, rfl, hul, _⟩ := h
    rw [List.length_cons, hul, hfl, hnp]
  · obtain ⟨g, s1, ds, us, y, dy, B, rfl, hul, wd, r, hyB, hdB, hne, rfl, p⟩ := h
    rw [callN_init G dr hG] at p
    have p : Post K T XT E g B (M.need (ds.length == np) (M.bind (exs (callN G dr k) body (Slot.un :: (ds.map Slot.fz ++ List.replicate (ns - 1 - np) Slot.un))) (fun f => match f with
        | .nxt _ => M.pure D.non
        | _ => M.bad)) s1) _ := p
    obtain ⟨hl1, p⟩ := p.need
    have hl1 := eq_of_beq hl1
    have hdl := r.length
    have hpl : ps.length ≤ N.length := by
      have := congrArg List.length SC.pre
      rw [List.length_take] at this
      omega
    have hy1 : upd B dy (.own y) y = none := by rw [upd_ne (Ne.symm hne)]; exact hyB
    have w1 := wd.raw (.own y) hdB
    have w2 := w1.raw (.ins C dy []) hy1
    have st1 := (Step.raw wd (.own y) hdB).trans (Step.raw w1 (.ins C dy []) hy1)
    have atY : upd (upd B dy (.own y)) y (.ins C dy []) y = some (.ins C dy []) := upd_same
    have nFy : g.F y = none := (wd.free hyB).1
    refine ⟨_, hbody cdv A outer s _ E g B hr, g, s1, Slot.un :: (ds.map Slot.fz ++ List.replicate (ns - 1 - np) Slot.un), fun _ => [], w2, ?_, st1, ?_⟩
    · have hs0 := slots_start (g := g) (H := B) (N := N.tail) (ns := ns - 1) r (by rw [List.length_tail, hns]) (by omega)
      have hs1 := hs0.step ok st1
      rw [hl1] at hs1
      have est : L2.start N (.ref y :: us) = some (V.ref y) :: L2.start N.tail us := by
        unfold L2.start
        rw [List.map_cons, List.cons_append, List.length_cons, List.length_tail, Nat.sub_sub, Nat.add_comm 1]
      rw [est]
      refine ⟨by rw [List.length_cons, List.length_cons, hs1.len], fun i sl e => ?_, fun _ => List.nodup_nil, fun _ _ _ p hp => by simp at hp, fun _ => .nil⟩
      cases i with
      | zero => cases e; exact ⟨_, rfl, .un⟩
      | succ i =>
        obtain ⟨o, a, b⟩ := hs1.at_ i sl (by simpa using e)
        exact ⟨o, by simpa using a, b⟩
    · have p : Post K T XT E g B (R.bind (exs (callN G dr k) body (Slot.un :: (ds.map Slot.fz ++ List.replicate (ns - 1 - np) Slot.un)) s1) (fun f => match f with
          | .nxt _ => M.pure D.non
          | _ => M.bad)) _ := p
      cases er : exs (callN G dr k) body (Slot.un :: (ds.map Slot.fz ++ List.replicate (ns - 1 - np) Slot.un)) s1 with
      | ok fl2 s2 =>
        rw [er] at p
        cases fl2 with
        | nxt env' =>
          intro g' H' st' w'
          have hY : H' y = some (.ins C dy []) := by
            refine st'.pres y _ atY ?_ ?_ (fun _ z => nomatch z)
            · cases q : g.C y with
              | none => rfl
              | some t => obtain ⟨kvs, e, _⟩ := wd.cache y t q; rw [hyB] at e; cases e
            · rintro rfl
              obtain ⟨vs, e, _⟩ := wd.hand
              rw [hyB] at e; cases e
          refine ⟨y, dy, us, rfl, hY, hul, fun i v hv => ?_, fun q l H3 hq hlk md => ?_⟩
          · have hi := (List.getElem?_eq_some_iff.mp hv).1
            show ((V.ref y :: us).map some ++ _)[i + 1]? = _
            rw [List.getElem?_append_left (by rw [List.length_map, List.length_cons]; omega), List.getElem?_map, List.getElem?_cons_succ, hv]
            rfl
          · have hyq : y ≠ q := ne_of_none hY hq
            refine p g' (upd H' q (.tup us)) ((st1.trans st').trans (Step.raw w' _ hq)) (w'.raw _ hq) (by rw [upd_ne hyq]; exact hY) ?_ l H3 hlk md
            cases z : g'.F y with
            | none => rfl
            | some o =>
              rcases st'.newF y o z with h | h
              · rw [nFy] at h; cases h
              · rw [atY] at h; cases h
        | brk env' => exact p.elim
        | cnt env' => exact p.elim
        | ret d => exact p.elim
      | exc c fs s2 => rw [er] at p; exact fun g' H' cls dd st' w' x => p g' H' cls dd st' w' x
      | bad => rw [er] at p; exact p.elim
end
end Mp

set_option Elab.async false
set_option linter.all false
set_option maxRecDepth 100000
set_option maxHeartbeats 4000000
/-! More rules. -/
namespace Mp
open PySem PySem.Spec PyProof.Rows L2

section
variable {S : Type} {X : Cx} {T : Tab S} {XT : ExcT} {E : XK} {g0 : Gh} {B : Hp}
/-- a op1 b op2 c -/
theorem me_chain {a b c : Expr} {pos : Pos} {ma mb mc : Env → M S D} {f1 f2 : D → D → Option Bool} {o1 o2 : CmpOp} (ok : T.Ok) (h1 : OpR X (compareOp o1) (rOp X.K T fun x y => (f1 x y).map .bl)) (h2 : OpR X (compareOp o2) (rOp X.K T fun x y => (f2 x y).map .bl))
    (ha : PE X a (tE X.K T XT E B ma)) (hb : PE X b (tE X.K T XT E B mb)) (hc : PE X c (tE X.K T XT E B mc)) (hm : lastMarks [o1, o2] [b, c] = false) :
    PE X (.Compare a [o1, o2] [b, c] pos) (tE X.K T XT E B fun env => M.bind (ma env) fun x => M.bind (mb env) fun y => M.bind (M.opt (f1 x y)) fun k => if k = true then M.bind (mc env) fun z => M.opt ((f2 y z).map .bl) else M.pure (.bl false)) :=
  pe_imp (pe_chain h1 h2 ha hb hc hm) fun σ H Q ⟨g, s, env, fp, w, sl, p⟩ => tE.of' ok w sl p fun g1 s1 H1 x v st1 w1 sl1 r1 p1 => tE.of' ok w1 sl1 p1 fun g2 s2 H2 y u st2 w2 sl2 r2 p2 => by
    obtain ⟨k, e, w3, st3, p3⟩ := Post.opt w2 p2.bind
    refine ⟨g2, s2, x, y, .bl k, w2, .inl (r1.mono ok st2.le), .inl r2, by show (f1 x y).map D.bl = _; rw [e]; rfl, fun g' H' z st' w' rz => ?_⟩
    cases rz
    refine ⟨k, rfl, ?_⟩
    cases k with
    | false => rw [if_neg Bool.false_ne_true] at p3 ⊢; exact Post.pure w' (Post.step st' p3) _ (.bl _)
    | true =>
      rw [if_pos rfl] at p3 ⊢
      refine tE.of' ok w' (sl2.step ok st') (Post.step st' p3) fun g4 s4 H4 z v4 st4 w4 sl4 r4 p4 => ?_
      obtain ⟨c', e', q⟩ := Post.opt w4 p4
      exact ⟨g4, s4, y, z, c', w4, .inl ((r2.mono ok st'.le).mono ok st4.le), .inl r4, e', fun g5 H5 v5 st5 w5 r5 => by rw [e'] at p4; exact p4 g5 H5 st5 w5 v5 r5⟩
theorem mt_chain {a b c : Expr} {pos : Pos} {ma mb mc : Env → M S D} {f1 f2 : D → D → Option Bool} {o1 o2 : CmpOp} (ok : T.Ok) (h1 : OpR X (compareOp o1) (rOp X.K T fun x y => (f1 x y).map .bl)) (h2 : OpR X (compareOp o2) (rOp X.K T fun x y => (f2 x y).map .bl))
    (ha : PE X a (tE X.K T XT E B ma)) (hb : PE X b (tE X.K T XT E B mb)) (hc : PE X c (tE X.K T XT E B mc)) (hm : lastMarks [o1, o2] [b, c] = false) :
    PT X (.Compare a [o1, o2] [b, c] pos) (tT X.K T XT E B fun env => M.bind (ma env) fun x => M.bind (mb env) fun y => M.bind (M.opt (f1 x y)) fun k => if k = true then M.bind (mc env) fun z => M.opt ((f2 y z).map .bl) else M.pure (.bl false)) :=
  pt_imp (pt_chain h1 h2 ha hb hc hm) fun σ H Q ⟨g, s, env, fp, w, sl, p⟩ => tE.of' ok w sl p fun g1 s1 H1 x v st1 w1 sl1 r1 p1 => tE.of' ok w1 sl1 p1 fun g2 s2 H2 y u st2 w2 sl2 r2 p2 => by
    obtain ⟨k, e, w3, st3, p3⟩ := Post.opt w2 p2.bind
    refine ⟨g2, s2, x, y, .bl k, w2, .inl (r1.mono ok st2.le), .inl r2, by show (f1 x y).map D.bl = _; rw [e]; rfl, fun g' H' z st' w' rz => ?_⟩
    cases rz
    refine ⟨k, rfl, ?_⟩
    cases k with
    | false =>
      rw [if_neg Bool.false_ne_true] at p3 ⊢
      obtain ⟨b', e', q⟩ := Post.pure w' (Post.step st' p3)
      cases e'
      exact ⟨false, rfl, q⟩
    | true =>
      rw [if_pos rfl] at p3 ⊢
      refine tE.of' ok w' (sl2.step ok st') (Post.step st' p3) fun g4 s4 H4 z v4 st4 w4 sl4 r4 p4 => ?_
      obtain ⟨c', e', b', eb, q⟩ := Post.opt w4 p4
      subst eb
      refine ⟨g4, s4, y, z, .bl b', w4, .inl ((r2.mono ok st'.le).mono ok st4.le), .inl r4, e', fun g5 H5 v5 st5 w5 r5 => ?_⟩
      cases r5
      rw [e'] at p4
      obtain ⟨b2, eb2, q2⟩ := p4 g5 H5 st5 w5
      cases eb2
      exact ⟨b', rfl, q2⟩
/-- a is True, a is False -/
theorem me_isb {a : Expr} {b : Bool} {j : Nat} {pos pos' : Pos} {ma : Env → M S D} (ok : T.Ok) (ha : PE X a (tE X.K T XT E B ma)) : PE X (.Compare a [.Is] [.Constant (.bool b) j pos'] pos) (tE X.K T XT E B fun env => M.bind (ma env) fun x => M.bind (M.opt (asBl x)) fun c => M.pure (.bl (decide (c = b)))) :=
  pe_imp (pe_cmpR op_isBl ha (pe_bl (b := b)) rfl) fun σ H Q ⟨g, s, env, fp, w, sl, p⟩ => tE.of ok w sl p fun g1 s1 H1 x v st1 w1 sl1 r1 p1 => by
    obtain ⟨c, e, w2, st2, q⟩ := Post.opt w1 p1.bind
    cases x with
    | bl y =>
      have : y = c := Option.some.inj e
      subst this
      cases r1
      exact ⟨y, b, rfl, rfl, Post.pure w1 q _ (.bl _)⟩
    | _ => cases e
theorem mt_isb {a : Expr} {b : Bool} {j : Nat} {pos pos' : Pos} {ma : Env → M S D} (ok : T.Ok) (ha : PE X a (tE X.K T XT E B ma)) : PT X (.Compare a [.Is] [.Constant (.bool b) j pos'] pos) (tT X.K T XT E B fun env => M.bind (ma env) fun x => M.bind (M.opt (asBl x)) fun c => M.pure (.bl (decide (c = b)))) :=
  pt_imp (pt_cmpR op_isBl ha (pe_bl (b := b)) rfl) fun σ H Q ⟨g, s, env, fp, w, sl, p⟩ => tE.of ok w sl p fun g1 s1 H1 x v st1 w1 sl1 r1 p1 => by
    obtain ⟨c, e, w2, st2, q⟩ := Post.opt w1 p1.bind
    cases x with
    | bl y =>
      have : y = c := Option.some.inj e
      subst this
      cases r1
      refine ⟨y, b, rfl, rfl, ?_⟩
      obtain ⟨b2, e2, q2⟩ := Post.pure w1 q
      cases e2
      exact ⟨_, rfl, q2⟩
    | _ => cases e
/-! ### isinstance -/
/-- what isinstance tells of the own classes -/
structure IsC (K : PySem.W.Frag) (T : Tab S) : Prop where
  co : ClsOk K T
  ha : ∀ c C, T.cls c = some C → PySem.W.findIn K (.ref C) "__class__" = some (some (.builtin "object.__class__"))
  hn : PySem.W.specialIn K (.builtin "object.__class__") "__get__" = some (some (.builtin "getset_descriptor.__get__"))
  ht : PySem.W.takesIn K (.builtin "object.__class__") = some true
  hm : ∀ c C, T.cls c = some C → PySem.W.mroIn K C (.type "object") = some true
  ib : ∀ c C n, T.cls c = some C → n ∈ (["int", "bool", "str", "tuple", "list", "dict"] : List String) → PySem.W.kitOne K (.ref C) (.type n) = some false
  bc : ∀ c C n, T.cls c = some C → n ∈ (["NoneType", "int", "bool", "str", "tuple", "list", "dict"] : List String) → PySem.W.kitOne K (.type n) (.ref C) = some false
  cc : ∀ c c' C C', T.cls c = some C → T.cls c' = some C' → PySem.W.kitOne K (.ref C) (.ref C') = some (c == c')
theorem kitB_ok : ∀ a ∈ (["NoneType", "int", "bool", "str", "tuple", "list", "dict"] : List String), ∀ b ∈ (["int", "bool", "str", "tuple", "list", "dict"] : List String), kitB a b = some (tyIs a b) := by
  decide +kernel
/-- the value of the class that is asked -/
def TyV (T : Tab S) (t : Ty) (u : Value) : Prop := match t with
  | .cls c => ∃ C, T.cls c = some C ∧ u = .ref C
  | t => ∃ n, t.name = some n ∧ u = .type n
theorem isi_run {pins : List (Addr × Obj)} {σ : L2.St} {H : Hp} {s : Shared} {g : Gh} {st : S} {d : D} {v : V} {u c : Value} {t : Ty} {b : Bool} {Q : Value → Shared → Prop} {E' : Value → Shared → Prop} (ic : IsC X.K T) (I : Inv X pins σ H s) (w : Wd X.K T g st H) (r : Rep X.K T g d v) (rv : RelV v u) (hc : TyV T t c) (e : isTy d t = some b) (h : ∀ tk, Q (.bool b) { s with toks := tk }) :
    wpAny (model X.prog X.w) X.A (call (.builtin "isinstance") [u, c]) Q E' s := by
  have key : ∀ n, tyName d = some n → PySem.W.kitOne X.K (.type n) c = some b := fun n hn => by
    have mem : n ∈ (["NoneType", "int", "bool", "str", "tuple", "list", "dict"] : List String) := by
      cases d <;> cases hn <;> decide
    cases t with
    | cls c' =>
      obtain ⟨C, hC, rfl⟩ := hc
      have hb : b = false := by
        cases d <;> first | (cases hn; cases e; rfl) | cases hn
      subst hb
      exact ic.bc c' C n hC mem
    | _ =>
      obtain ⟨m, hm, rfl⟩ := hc
      have hb : b = tyIs n m := by
        cases d <;> first | (cases hn; cases hm; cases e; rfl) | cases hn
      subst hb
      exact kit_ty (kitB_ok n mem m (by cases hm; decide))
  cases r with
  | non => cases (show u = Value.none from rv); exact PySem.W.kia_one PySem.W.kitx_none I.kIn True.intro (key _ rfl) (fun z => nomatch z) h
  | bl y => cases (show u = Value.bool y from rv); exact PySem.W.kia_one PySem.W.kitx_bool I.kIn True.intro (key _ rfl) (fun z => nomatch z) h
  | int i => obtain ⟨tk, q⟩ := (show ∃ t, u = Value.int i t from rv); cases q; exact PySem.W.kia_one PySem.W.kitx_int I.kIn True.intro (key _ rfl) (fun z => nomatch z) h
  | str y => obtain ⟨tk, q⟩ := (show ∃ t, u = Value.str y t from rv); cases q; exact PySem.W.kia_one PySem.W.kitx_str I.kIn True.intro (key _ rfl) (fun z => nomatch z) h
  | tup ht hr =>
    cases (show u = Value.ref _ from rv)
    obtain ⟨o, h1, h2, _⟩ := (ht.mono w.sub).obj I
    exact PySem.W.kia_one PySem.W.kitx_tuple I.kIn ⟨o, h1, h2⟩ (key _ rfl) (fun z => nomatch z) h
  | lst hl hr =>
    cases (show u = Value.ref _ from rv)
    obtain ⟨_, _, n, _, _, h1⟩ := I.lstM (w.sub _ _ hl)
    exact PySem.W.kia_one PySem.W.kitx_list I.kIn ⟨_, h1, rfl⟩ (key _ rfl) (fun z => nomatch z) h
  | @ins c' C a dx ds vs ex h1 h2 h3 hr hm =>
    have ty : TyOf X.K H (.ref a) (.ref C) := .ins (w.sub _ _ h2) (ic.co.cls _ _ h1) (ic.ha _ _ h1) ic.hn ic.ht (ic.hm _ _ h1)
    refine isinst_ok I rv ty ?_ h
    cases t with
    | cls c2 =>
      obtain ⟨C2, hC2, rfl⟩ := hc
      cases e
      exact ic.cc c' c2 C C2 h1 hC2
    | _ =>
      obtain ⟨m, hm2, rfl⟩ := hc
      cases e
      cases hm2
      exact ic.ib c' C _ h1 (by decide)
  | dct _ _ _ => cases t <;> cases e
  | hand => cases t <;> cases e
  | clo _ _ => cases t <;> cases e
theorem me_isi {a c : Expr} {p pos : Pos} {ma : Env → M S D} {t : Ty} {cv : V} {cu : Value} (ok : T.Ok) (ic : IsC X.K T) (ha : PE X a (tE X.K T XT E B ma)) (hc : PE X c (L2.tC cv)) (hr : ∀ u, RelV cv u → u = cu) (ht : TyV T t cu) (hg : Gl X "isinstance") (hm : X.mg "isinstance" = none)
    (hs : starEach [a, c] X.env = (false, eval a X.env) :: starEach [c] X.env) (hs2 : starEach [c] X.env = (false, eval c X.env) :: starEach [] X.env) (hpl : (backTo pos (starEach [c] X.env)).any (·.1) = false) :
    PE X (.Call (.Name "isinstance" p) [a, c] [] pos) (tE X.K T XT E B fun env => M.bind (ma env) fun x => M.opt ((isTy x t).map .bl)) := by
  have cr : CallR X (.builtin "isinstance") fun vs H Q => ∃ (g : Gh) (s : S) (d : D) (v : V) (b : Bool), vs = [v, cv] ∧ Wd X.K T g s H ∧ Rep X.K T g d v ∧ isTy d t = some b ∧ Q (.bl b) H := by
    intro pins s σ H xs us Q I r ⟨g, st, d, v, b, ev, w, rd, e, q⟩
    subst ev
    obtain ⟨u1, u2, rfl, r1, r2⟩ := vals2 r
    rw [hr u2 r2]
    exact isi_run ic I w rd r1 ht e fun tk => ⟨.bl b, H, I.tok _, rfl, q⟩
  refine pe_imp (pe_callB cr hg hm rfl (pa_cons ha (pa_cons hc pa_nil hs2) hs) (by decide) (by decide) hs hpl) fun σ H Q ⟨g, s, env, fp, w, sl, p⟩ => tE.of ok w sl p fun g1 s1 H1 x v st1 w1 sl1 r1 p1 => ?_
  obtain ⟨d, e, q⟩ := Post.opt w1 p1
  obtain ⟨b, e1, e2⟩ := Option.map_eq_some_iff.mp e
  subst e2
  exact ⟨g1, s1, x, v, b, rfl, w1, r1, e1, q _ (.bl _)⟩
end
end Mp

set_option Elab.async false
set_option linter.all false
set_option maxRecDepth 100000
set_option maxHeartbeats 4000000
/-! == and != of instances by the class's own __eq__. -/
namespace Mp
open PySem PySem.Spec PyProof.Rows L2

/-- a class with an own == and no own != -/
structure EqIn (K : PySem.W.Frag) (C f : Addr) : Prop where
  eq : PySem.W.findIn K (.ref C) "__eq__" = some (some (.ref f))
  fn : PySem.W.isFn K (.ref f) = true
  ne : PySem.W.findIn K (.ref C) "__ne__" = some (some (.builtin "object.__ne__"))
  ob : PySem.W.mroIn K C (.type "object") = some true
section
variable {prog : Program} {w : World} {A : Around} {E : Value → Shared → Prop} {s : Shared} {K : PySem.W.Frag} {x C f : Addr} {ox : Obj} {od : Option Obj} {b : Value}
open PySem.W in
theorem ifBound_ne {M : Model} {args : List Value} {Q : Option Value → Shared → Prop} (X : K.In s.heap) (I : InstAt s.heap x ox C od) (hs : findIn K (.ref C) "__ne__" = some (some (.builtin "object.__ne__")))
    (h : wpAny M A (call (.builtin "object.__ne__") (.ref x :: args)) (fun v => Q (some v)) E s) : wpAny M A (callSpecialIfBound? (.ref x) "__ne__" args) Q E s := by
  simp only [callSpecialIfBound?, bindSpecialIfBound?]
  refine wpAny_holding (wpAny_bind (wpAny_bind (wpAny_bind (I.type.here ((looks_findIn X hs).here ?_)))))
  simp only [F.cmp_object.ne.bind]
  refine wpAny_bind (wpAny_askSetting (wpAny_ite ?_))
  have fin : wpAny M A (call (.builtin "object.__ne__") ([.ref x] ++ args) >>= fun v => pure (some v)) Q E s := wpAny_bind (wpAny_mono h (fun v s' h' => wpAny_pure h') fun _ _ h' => h')
  split
  · exact wpAny_bind (wpAny_pure (wpAny_pure fin))
  · exact wpAny_tryCatch (wpAny_bind (wpAny_pure (wpAny_pure fin)))
open PySem.W in
theorem check_ne {M : Model} {Q : Unit → Shared → Prop} (X : K.In s.heap) (I : InstAt s.heap x ox C od) (hm : mroIn K C (.type "object") = some true) (hq : Q () s) : wpAny M A (checkBuiltinCall "object.__ne__" ⟨[.ref x, b], []⟩) Q E s := by
  simp only [checkBuiltinCall, F.cmpKind_ne, F.cmpSplit_ne]
  refine wpAny_bind ?_
  unfold isInstance
  refine wpAny_bind (I.type.here ((looks_mroIn X hm).here ?_))
  simp only [Bool.not_true, Bool.false_eq_true, if_false]
  refine wpAny_pure ?_
  exact hq
open PySem.W in
theorem objNe_own {Q : Fin → Shared → Prop} (X : K.In s.heap) (I : InstAt s.heap x ox C od) (hs : findIn K (.ref C) "__eq__" = some (some (.ref f))) (hf : isFn K (.ref f) = true) (hu : A.units < cLine)
    (hcall : wpAny (model prog w) A (call (.ref f) [.ref x, b]) (fun v s' => ∃ b, v = .bool b ∧ Q (.done (.ret (.bool (!b)))) s') E s) :
    wpAny (model prog w) A (Builtin.«object.__ne__» ⟨[.ref x, b], []⟩) Q E s := by
  obtain ⟨h, g, d, t, os⟩ := s
  unfold Builtin.«object.__ne__»
  repeat (first
    | with_reducible refine wpAny_cRoomFor hu ?_
    | (refine wpAny_bind (m := callSpecialIfBound? (.ref x) (Str.ofString "__eq__") [b])
        (ifBound_K X I hs hf (wpAny_mono hcall (fun r s' hr => by
          obtain ⟨b, rfl, hq⟩ := hr
          repeat (first | exact hq | exact wpAny_pure hq | exact wpAny_truthy_bool hq | (refine wpAny_bind (m := truthy (.bool _)) (wpAny_truthy_bool ?_)) | wp_step)) fun _ _ e => e)))
    | wp_step)
open PySem.W in
theorem cmp_ne {L : Addr} {h₀ : Heap} {m : Str → Option Value} {tb : Value} {Q : Value → Shared → Prop} (hu : A.units + 1 < cLine) (FR : Fr h₀ L s.heap m) (X₀ : K.In h₀) (I : InstAt s.heap x ox C od) (hb : Looks (model prog w) s.heap (typeOf b) tb) (hn : notFirst K C tb = true) (e : EqIn K C f)
    (h : wpAny (model prog w) A.in1 (call (.ref f) [.ref x, b]) (fun v s' => ∃ b, v = .bool b ∧ Q (.bool (!b)) s') E s) : wpAny (model prog w) A (richCompare .NotEq (.ref x) b) Q E s := by
  have X := X₀.keeps FR.keep
  have one : wpAny (model prog w) A (tryCompare (.ref x) "__ne__" b) (fun r s' => ∃ v, r = some v ∧ Q v s') E s := by
    unfold tryCompare
    refine wpAny_bind (ifBound_ne X I e.ne (wpAny_call (codeAny_call_builtin F.cmp_object.ne.plain F.cmpEntry_ne (check_ne X I e.ob
      (objNe_own (A := A.in1) X I e.eq e.fn hu (wpAny_mono h (fun v s' hv => ?_) fun _ _ e => e))))))
    obtain ⟨b, rfl, hq⟩ := hv
    first | exact ⟨b, rfl, wpAny_pure ⟨_, rfl, hq⟩⟩ | exact ⟨b, rfl, _, rfl, hq⟩
  unfold richCompare
  simp only [oneThing_ref]
  refine wpAny_holding (wpAny_bind (wpAny_cRoomFor (Nat.lt_of_succ_lt hu) ?_))
  rw [cmpInfo_NotEq]
  dsimp only
  refine wpAny_bind (I.type.here (wpAny_bind (hb.here ?_)))
  split
  · rename_i q
    have e : subIn K tb (.ref C) = some false := by
      rcases Bool.or_eq_true_iff.mp hn with e | e
      · rw [beq_iff_eq.mp e] at q; simp at q
      · exact beq_iff_eq.mp e
    refine wpAny_bind ((looks_subIn X e).here ?_)
    simp only [Bool.false_eq_true, if_false]
    refine wpAny_bind (wpAny_mono one (fun r s' z => ?_) fun _ _ e => e)
    obtain ⟨v, rfl, hq⟩ := z
    exact wpAny_pure hq
  · refine wpAny_bind (wpAny_pure ?_)
    simp only [Bool.false_eq_true, if_false]
    refine wpAny_bind (wpAny_mono one (fun r s' z => ?_) fun _ _ e => e)
    obtain ⟨v, rfl, hq⟩ := z
    exact wpAny_pure hq
end
section
variable {S : Type} {X : Cx} {T : Tab S} {XT : ExcT} {E : XK} {cal : Nat → List D → M S D} {n k : Nat} {C f : Addr} {fd : FuncData} {ps : List Str}
/-- the own == by the evaluator -/
def rIns (K : PySem.W.Frag) (T : Tab S) (XT : ExcT) (E : XK) (cal : Nat → List D → M S D) (n : Nat) (C : Addr) (ne : Bool) : R2 := fun x y H Q => ∃ a b dx dy fs gs, x = .ref a ∧ y = .ref b ∧ H a = some (.ins C dx fs) ∧ H b = some (.ins C dy gs) ∧
  spFn K T XT cal n [x, y] H (fun v H' => ∃ k, v = .bl k ∧ Q (.bl (Bool.xor ne k)) H') E
theorem call_eq (F : FnOk X.prog X.w X.K X.mg X.base (L2.CX X.prog X.w) k f fd ps (spFn X.K T XT cal n)) (hb : Binds X.K fd ps []) (hx : Passes (L2.CX X.prog X.w) X E) {A : Around} (sb : Sub X k A) {pins : List (Addr × Obj)} {s : Shared} {σ : L2.St} {H : Hp} {a b : Addr} {Q : Bool → Hp → Prop}
    (I : Inv X pins σ H s) (hsp : spFn X.K T XT cal n [.ref a, .ref b] H (fun v H' => ∃ k, v = .bl k ∧ Q k H') E) :
    wpAny (model X.prog X.w) A (call (.ref f) [.ref a, .ref b]) (fun v s' => ∃ k H', v = .bool k ∧ Inv X pins σ H' s' ∧ Q k H') X.xe s := by
  have e0 : Env0 X.prog X.w X.K X.mg X.base A X.stack s H := by
    have e := I.env0
    exact ⟨by rw [sb.fr]; exact e.frames, e.mod, e.bs, e.bsz, e.funs, e.frf, e.hok, e.bare⟩
  have hl := F.len _ _ _ _ hsp
  have r2 : Vals [V.ref a, V.ref b] [Value.ref a, Value.ref b] := .cons rfl (.cons rfl .nil)
  refine wpAny_call (codeAny_mono (F.run A X.stack s H ⟨[.ref a, .ref b], []⟩ [.ref a, .ref b] [.ref a, .ref b] _ E sb.room e0 (by
    have := hb s [.ref a, .ref b] I.kIn (by simpa using hl)
    simpa using this) r2 hsp) fun r s' hq => ?_)
  cases r with
  | error e => exact hx pins σ H s e s' I hq
  | ok fl =>
    cases fl with
    | ret w =>
      obtain ⟨z, H', I', rz, c, ez, q⟩ := I.after hq
      subst ez
      cases rz
      exact ⟨c, H', rfl, I', q⟩
    | next => exact False.elim hq
    | brk => exact False.elim hq
    | cont => exact False.elim hq
theorem op_ins (F : FnOk X.prog X.w X.K X.mg X.base (L2.CX X.prog X.w) k f fd ps (spFn X.K T XT cal n)) (e : EqIn X.K C f) (hr : Room (k + 1) X.A) (hb : Binds X.K fd ps []) (hx : Passes (L2.CX X.prog X.w) X E) :
    ∀ ne : Bool, OpR X (compareOp (if ne then .NotEq else .Eq)) (rIns X.K T XT E cal n C ne) := by
  intro ne pins s σ H x y v u Q I rx ry ⟨a, b, dx, dy, fs, gs, ex, ey, ha, hb', hsp⟩
  subst ex ey
  cases rx
  cases ry
  obtain ⟨mA, J, _⟩ := ins_get I.hok ha
  obtain ⟨mB, J', _⟩ := ins_get I.hok hb'
  obtain ⟨od, J, _⟩ := J.look
  obtain ⟨od', J', _⟩ := J'.look
  obtain ⟨m, hF⟩ := I.fr
  cases ne with
  | false =>
    show wpAny (model X.prog X.w) X.A (richCompare .Eq _ _) _ _ _
    refine PySem.W.cmp_K (op := .Eq) (tb := .ref C) hr.units0 hF I.ok.mod.kin J J'.type (by simp [PySem.W.notFirst]) e.eq e.fn ?_
    refine wpAny_mono (call_eq F hb hx ⟨hr.mono (Nat.le_succ _), rfl⟩ I hsp) (fun r s' hq => ?_) fun _ _ z => z
    obtain ⟨c, H', rfl, I', q⟩ := hq
    exact ⟨.bl c, H', I', rfl, by simpa using q⟩
  | true =>
    show wpAny (model X.prog X.w) X.A (richCompare .NotEq _ _) _ _ _
    refine cmp_ne (tb := .ref C) (by have := hr.un; omega) hF I.ok.mod.kin J J'.type (by simp [PySem.W.notFirst]) e ?_
    refine wpAny_mono (call_eq F hb hx ⟨hr.in1, rfl⟩ I hsp) (fun r s' hq => ?_) fun _ _ z => z
    obtain ⟨c, H', rfl, I', q⟩ := hq
    exact ⟨c, rfl, .bl (!c), H', I', rfl, by simpa using q⟩
/-- what comes is True or False -/
def OB (m : M S D) : Prop := ∀ s d s', m s = .ok d s' → ∃ b, d = .bl b
theorem OB.pure {b : Bool} : OB (M.pure (D.bl b) : M S D) := fun s d s' h => by
  cases h
  exact ⟨b, rfl⟩
theorem OB.need {b : Bool} {m : M S D} (h : OB m) : OB (M.need b m) := fun s d s' e => by
  unfold M.need at e
  split at e
  · exact h s d s' e
  · cases e
theorem OB.bind {α : Type} {m : M S α} {f : α → M S D} (h : ∀ x, OB (f x)) : OB (M.bind m f) := fun s d s' e => by
  unfold M.bind at e
  cases q : m s with
  | ok x s1 => rw [q] at e; exact h x s1 d s' e
  | exc => rw [q] at e; cases e
  | bad => rw [q] at e; cases e
theorem isIns_rep {K : PySem.W.Frag} {g : Gh} {H : Hp} {st : S} {d : D} {v : V} {c : Nat} (w : Wd K T g st H) (r : Rep K T g d v) (h : isIns c d = true) (hC : T.cls c = some C) : ∃ a dx fs, v = .ref a ∧ H a = some (.ins C dx fs) := by
  cases r with
  | ins h1 h2 h3 hr hm =>
    have := eq_of_beq (show (_ == c) = true from h)
    subst this
    rw [hC] at h1
    cases h1
    exact ⟨_, _, _, rfl, w.sub _ _ h2⟩
  | _ => cases h
variable {B : Hp} {c : Nat} {a b : Expr} {pos : Pos} {ma mb : Env → M S D} {ne : Bool} {op : CmpOp}
theorem ecmp_of (ok : T.Ok) (hC : T.cls c = some C) {σ : L2.St} {H : Hp} {Q : VK} (h : ∃ g s env fp, Wd X.K T g s H ∧ Slots X.K T g H B env σ fp ∧ Post X.K T XT E g H (M.bind (ma env) (fun x => M.bind (mb env) fun y => M.need (isIns c x && isIns c y) (M.bind (cal n [x, y]) fun r => M.bind (M.opt (asBl r)) fun k => M.pure (D.bl (Bool.xor ne k)))) s) fun g' _ H' (d : D) => ∃ b : Bool, d = D.bl b ∧ Q (V.bl b) H') :
    tOp (rIns X.K T XT E cal n C ne) (tE X.K T XT E B ma) (tE X.K T XT E B mb) σ H Q := by
  obtain ⟨g, s, env, fp, w, sl, p⟩ := h
  refine tE.of ok w sl p fun g1 s1 H1 x v st1 w1 sl1 r1 p1 => tE.of ok w1 sl1 p1 fun g2 s2 H2 y u st2 w2 sl2 r2 p2 => ?_
  obtain ⟨hi, p3⟩ := p2.need
  obtain ⟨i1, i2⟩ := Bool.and_eq_true_iff.mp hi
  have r1' := r1.mono ok st2.le
  obtain ⟨p, dx, fs, rfl, ep⟩ := isIns_rep w2 r1' i1 hC
  obtain ⟨q, dy, gs, rfl, eq⟩ := isIns_rep w2 r2 i2 hC
  refine ⟨p, q, dx, dy, fs, gs, rfl, rfl, ep, eq, g2, s2, [x, y], w2, .cons r1' (.cons r2 .nil), p3.bind.imp fun g' s' H' r ⟨w', st', p4⟩ z rz => ?_⟩
  obtain ⟨k, ek, w5, st5, p5⟩ := Post.opt w' p4.bind
  cases r with
  | bl k' =>
    cases ek
    cases rz
    obtain ⟨b', eb, hq⟩ := Post.pure w' p5
    cases eb
    exact ⟨_, rfl, hq⟩
  | _ => cases ek
theorem me_ecmp (ok : T.Ok) (hC : T.cls c = some C) (ho : OpR X (compareOp op) (rIns X.K T XT E cal n C ne)) (ha : PE X a (tE X.K T XT E B ma)) (hb : PE X b (tE X.K T XT E B mb)) (hm : behindInMarks op b = false) :
    PE X (.Compare a [op] [b] pos) (tE X.K T XT E B fun env => M.bind (ma env) fun x => M.bind (mb env) fun y => M.need (isIns c x && isIns c y) (M.bind (cal n [x, y]) fun r => M.bind (M.opt (asBl r)) fun k => M.pure (.bl (Bool.xor ne k)))) :=
  pe_imp (pe_cmpR ho ha hb hm) fun σ H Q ⟨g, s, env, fp, w, sl, p⟩ => ecmp_of ok hC ⟨g, s, env, fp, w, sl, by
    have ob : OB (M.bind (ma env) fun x => M.bind (mb env) fun y => M.need (isIns c x && isIns c y) (M.bind (cal n [x, y]) fun r => M.bind (M.opt (asBl r)) fun k => M.pure (D.bl (Bool.xor ne k)))) := .bind fun x => .bind fun y => .need (.bind fun r => .bind fun k => .pure)
    have key : ∀ mm : M S D, OB mm → (Post X.K T XT E g H (mm s) fun g' _ H' d => ∀ v, Rep X.K T g' d v → Q v H') → Post X.K T XT E g H (mm s) fun g' _ H' (d : D) => ∃ b : Bool, d = D.bl b ∧ Q (V.bl b) H' := fun mm ob p => by
      have ob := ob s
      cases e : mm s with
      | exc => rw [e] at p; exact p
      | bad => rw [e] at p; exact p
      | ok d s' =>
        rw [e] at p
        obtain ⟨b, rfl⟩ := ob d s' e
        exact fun g' H' st' w' => ⟨_, rfl, p g' H' st' w' _ (.bl _)⟩
    exact key _ ob p⟩
theorem mt_ecmp (ok : T.Ok) (hC : T.cls c = some C) (ho : OpR X (compareOp op) (rIns X.K T XT E cal n C ne)) (ha : PE X a (tE X.K T XT E B ma)) (hb : PE X b (tE X.K T XT E B mb)) (hm : behindInMarks op b = false) :
    PT X (.Compare a [op] [b] pos) (tT X.K T XT E B fun env => M.bind (ma env) fun x => M.bind (mb env) fun y => M.need (isIns c x && isIns c y) (M.bind (cal n [x, y]) fun r => M.bind (M.opt (asBl r)) fun k => M.pure (.bl (Bool.xor ne k)))) :=
  pt_imp (pt_cmpR ho ha hb hm) fun σ H Q ⟨g, s, env, fp, w, sl, p⟩ => ecmp_of ok hC ⟨g, s, env, fp, w, sl, p.imp fun g' s' H' d h => by obtain ⟨b, e, q⟩ := h; exact ⟨b, e, b, rfl, q⟩⟩
end
end Mp

set_option Elab.async false
set_option linter.all false
set_option maxRecDepth 100000
set_option maxHeartbeats 4000000
/-! Several names at once; lists of lists. -/
namespace Mp
open PySem PySem.Spec PyProof.Rows L2

def setsV : List Nat → List V → L2.St → L2.St
  | i :: is, v :: vs, σ => setsV is vs (σ.set i (some v))
  | _, _, σ => σ
/-- the names is get the values; a tuple may have been laid -/
def tPars (is : List Nat) (ta : TA) : TS := fun Dn σ H => ta σ H fun vs H1 => vs.length = is.length ∧ vs.length ≤ sizeLine ∧ ∀ H2, (H2 = H1 ∨ ∃ p, H1 p = none ∧ H2 = upd H1 p (.tup vs)) → Dn.nx (setsV is vs σ) H2
section
variable {X : Cx}
theorem pars2 {i j : Nat} {ta : TA} {st : Stmt} (h : PS X st (tPar i j ta)) (hm : ∀ σ H (Q Q' : List V → Hp → Prop), (∀ vs H, Q vs H → Q' vs H) → ta σ H Q → ta σ H Q') : PS X st (tPars [i, j] ta) :=
  ps_imp h fun Dn σ H q => hm σ H _ _ (fun vs H1 ⟨hl, _, q⟩ => by
    match vs, hl with
    | [v, u], _ => exact ⟨v, u, rfl, q H1 (.inl rfl)⟩) q
theorem pars3 {i j l : Nat} {ta : TA} {st : Stmt} (h : PS X st (tPar3 i j l ta)) (hm : ∀ σ H (Q Q' : List V → Hp → Prop), (∀ vs H, Q vs H → Q' vs H) → ta σ H Q → ta σ H Q') : PS X st (tPars [i, j, l] ta) :=
  ps_imp h fun Dn σ H q => hm σ H _ _ (fun vs H1 ⟨hl, _, q⟩ => by
    match vs, hl with
    | [v, u, w], _ => exact ⟨v, u, w, rfl, q H1 (.inl rfl)⟩) q
def gNames : List Nat → TGs
  | [] => gNil
  | i :: is => gCons (gName i) (gNames is)
theorem gNames_ok : ∀ {is : List Nat} {vs : List V} {σ : L2.St} {H : Hp} {Q : L2.St → Hp → Prop}, vs.length = is.length → Q (setsV is vs σ) H → gNames is vs σ H Q
  | [], [], _, _, _, _, q => ⟨rfl, q⟩
  | i :: is, v :: vs, σ, H, Q, h, q => ⟨v, vs, rfl, gNames_ok (is := is) (by simpa using h) q⟩
  | [], _ :: _, _, _, _, h, _ => by cases h
  | _ :: _, [], _, _, _, h, _ => by cases h
theorem parsT {is : List Nat} {ta : TA} {ts es : List Expr} {k1 k2 : Nat} {p1 p2 pos : Pos} (hc : X.calm = true) (ha : PA X es ta) (hg : PGs X ts (gNames is)) (hn : (assignEach ts X.env).length = is.length) (hst : (assignEach ts X.env).findIdx? (·.1) = none)
    (hs : swapsWithSole [.Tuple ts k1 p1] (.Tuple es k2 p2) pos.line X.env = pure false) (hw : swappedStores [.Tuple ts k1 p1] (.Tuple es k2 p2) X.env = pure none) (h1 : (assignEach [.Tuple ts k1 p1] X.env).map (·.2) = [assign (.Tuple ts k1 p1) X.env])
    (hm : ∀ σ H (Q Q' : List V → Hp → Prop), (∀ vs H, Q vs H → Q' vs H) → ta σ H Q → ta σ H Q') : PS X (.Assign [.Tuple ts k1 p1] (.Tuple es k2 p2) pos) (tPars is ta) :=
  ps_imp (ps_asg (pe_tup ha) (pg_tup hc hg hn hst) hs hw h1) fun Dn σ H q => hm σ H _ _ (fun vs H1 ⟨hl, hz, q⟩ => ⟨hz, fun p hp => ⟨p, vs, rfl, .inl (.inl upd_same), hl, gNames_ok hl (q _ (.inr ⟨p, hp, rfl⟩))⟩⟩) q
end
section
variable {S : Type} (K : PySem.W.Frag) (T : Tab S) (XT : ExcT) (E : XK)
/-- values that are stored at once: lasting ones, new lists (of lists) -/
inductive News (g : Gh) (H0 H : Hp) : List Nat → List D → List V → List (List Addr) → Prop
  | nil : News g H0 H [] [] [] []
  | cons {m : Nat} {ms : List Nat} {d : D} {ds : List D} {v : V} {vs : List V} {f : List Addr} {fs : List (List Addr)} : SlotOk K T g H (slotOf m d) (some v) f → f.Nodup → Mine g H H0 f → (∀ p ∈ f, ∀ f' ∈ fs, p ∉ f') → News g H0 H ms ds vs fs → News g H0 H (m :: ms) (d :: ds) (v :: vs) (f :: fs)
def tLN (B : Hp) (ks : List Nat) (m : Env → M S (List D)) : TA := fun σ H Q => ∃ g s env fp, Wd K T g s H ∧ Slots K T g H B env σ fp ∧ Post K T XT E g H (m env s) fun g' _ H' ds => ∀ vs fs, News K T g' H H' ks ds vs fs → Q vs H'
end
section
variable {S : Type} {K : PySem.W.Frag} {T : Tab S} {XT : ExcT} {E : XK} {g g' : Gh} {H0 H H' B : Hp}
theorem News.base {H00 : Hp} {ks : List Nat} {ds : List D} {vs : List V} {fs : List (List Addr)} (h : News K T g H0 H ks ds vs fs) (hb : ∀ p, H0 p = none → H00 p = none) : News K T g H00 H ks ds vs fs := by
  induction h with
  | nil => exact .nil
  | cons a b c d _ ih => exact .cons a b ⟨c.here, c.nF, c.nC, c.nH, fun p hp => hb p (c.nB p hp)⟩ d ih
theorem News.out {ks : List Nat} {ds : List D} {vs : List V} {fs : List (List Addr)} (h : News K T g H0 H ks ds vs fs) : ∀ f ∈ fs, ∀ p ∈ f, H0 p = none := by
  induction h with
  | nil => simp
  | cons a b c d _ ih =>
    intro f hf
    rcases List.mem_cons.mp hf with e | e
    · subst e; exact c.nB
    · exact ih f e
theorem News.len {ks : List Nat} {ds : List D} {vs : List V} {fs : List (List Addr)} (h : News K T g H0 H ks ds vs fs) : ks.length = vs.length ∧ ds.length = vs.length := by
  induction h with
  | nil => exact ⟨rfl, rfl⟩
  | cons a b c d _ ih => exact ⟨by rw [List.length_cons, List.length_cons, ih.1], by rw [List.length_cons, List.length_cons, ih.2]⟩
theorem sets_ok {ks : List Nat} {ds : List D} {vs : List V} {fs : List (List Addr)} (h : News K T g H0 H ks ds vs fs) : ∀ {is : List Nat} {env env' : Env} {σ : L2.St} {fp : Nat → List Addr}, Slots K T g H B env σ fp → (∀ f ∈ fs, ∀ p ∈ f, ∀ j, p ∉ fp j) → (∀ f ∈ fs, ∀ p ∈ f, B p = none) → sets (is.zip ks) ds env = some env' → is.length = ks.length →
    ∃ fp', Slots K T g H B env' (setsV is vs σ) fp' := by
  induction h with
  | nil =>
    intro is env env' σ fp sl _ _ e hl
    cases is with
    | nil => cases e; exact ⟨fp, sl⟩
    | cons _ _ => cases hl
  | @cons m ms d ds v vs f fs a b c dj _ ih =>
    intro is env env' σ fp sl hd hB e hl
    cases is with
    | nil => cases hl
    | cons i is =>
      have e : sets (is.zip ms) ds (env.set i (slotOf m d)) = some env' := e
      have sl' := sl.setS (i := i) a b (fun j _ p hp => hd f (by simp) p hp j) ⟨c.here, c.nF, c.nC, c.nH, hB f (by simp)⟩
      refine ih (is := is) sl' (fun f' hf' p hp j => ?_) (fun f' hf' => hB f' (List.mem_cons_of_mem _ hf')) e (by simpa using hl)
      show p ∉ (if j = i then f else fp j)
      by_cases hj : j = i
      · rw [if_pos hj]; exact fun z => dj p z f' hf' hp
      · rw [if_neg hj]; exact hd f' (List.mem_cons_of_mem _ hf') p hp j
end
section
variable {S : Type} {X : Cx} {T : Tab S} {XT : ExcT} {E : XK} {g0 : Gh} {B : Hp}
theorem tLN_mono {K : PySem.W.Frag} {ks : List Nat} {m : Env → M S (List D)} : ∀ σ H (Q Q' : List V → Hp → Prop), (∀ vs H, Q vs H → Q' vs H) → tLN K T XT E B ks m σ H Q → tLN K T XT E B ks m σ H Q' :=
  fun σ H Q Q' h ⟨g, s, env, fp, w, sl, p⟩ => ⟨g, s, env, fp, w, sl, p.imp fun _ _ _ _ q vs fs n => h _ _ (q vs fs n)⟩
theorem mn_nil : PA X [] (tLN X.K T XT E B [] fun _ => M.pure []) := pa_imp pa_nil fun σ H Q ⟨g, s, env, fp, w, sl, p⟩ => Post.pure w p [] [] .nil
theorem SlotOk.mine {K : PySem.W.Frag} {g g' : Gh} {H H' B' : Hp} (ok : T.Ok) (st : Step g H g' H') {sl : Slot} {o : Option V} {f : List Addr} (h : SlotOk K T g H sl o f) (m : Mine g H B' f) : SlotOk K T g' H' sl o f := h.step ok st m
/-- the first value lasts -/
theorem mn_fz {e : Expr} {es : List Expr} {ks : List Nat} {m : Env → M S D} {ms : Env → M S (List D)} (ok : T.Ok) (h : PE X e (tE X.K T XT E B m)) (hr : PA X es (tLN X.K T XT E B ks ms)) (hs : starEach (e :: es) X.env = (false, eval e X.env) :: starEach es X.env) :
    PA X (e :: es) (tLN X.K T XT E B (0 :: ks) fun env => M.bind (m env) fun x => M.bind (ms env) fun xs => M.pure (x :: xs)) :=
  pa_imp (pa_cons h hr hs) fun σ H Q ⟨g, s, env, fp, w, sl, p⟩ => tE.of' ok w sl p fun g1 s1 H1 x v st1 w1 sl1 r1 p1 =>
    ⟨g1, s1, env, fp, w1, sl1, p1.bind.imp fun g2 s2 H2 xs ⟨w2, st2, p2⟩ vs fs n => by
      exact Post.pure w2 p2 (v :: vs) ([] :: fs) (.cons (.fz (r1.mono ok st2.le)) List.nodup_nil .nil (by simp) (n.base fun p hp => st1.fresh hp))⟩
/-- the first value is a new list -/
theorem mn_ow {e : Expr} {es : List Expr} {ks : List Nat} {m : Env → M S D} {ms : Env → M S (List D)} (ok : T.Ok) (h : PE X e (tF X.K T XT E B m)) (hl : ∀ env s, match m env s with | .ok (.lst _) _ => True | .ok _ _ => False | _ => True) (hr : PA X es (tLN X.K T XT E B ks ms)) (hs : starEach (e :: es) X.env = (false, eval e X.env) :: starEach es X.env) :
    PA X (e :: es) (tLN X.K T XT E B (1 :: ks) fun env => M.bind (m env) fun x => M.bind (ms env) fun xs => M.pure (x :: xs)) :=
  pa_imp (pa_cons h hr hs) fun σ H Q ⟨g, s, env, fp, w, sl, p⟩ => ⟨g, s, env, fp, w, sl, by
    refine p.bind.imp fun g1 s1 H1 d ⟨w1, st1, p1⟩ q us xs e hq hq1 hF hC hH r => ?_
    subst e
    refine ⟨g1, s1, env, fp, w1, sl.step ok st1, p1.bind.imp fun g2 s2 H2 ys ⟨w2, st2, p2⟩ vs fs n => ?_⟩
    have l2 := st2.nob hq1 hF hC hH
    refine Post.pure w2 p2 (.ref q :: vs) ([q] :: fs) (.cons (.ow (.lst l2.1 (r.mono ok st2.le))) (by simp) ⟨?_, ?_, ?_, ?_, ?_⟩ (fun a ha f' hf' hm => ?_) (n.base fun p hp => st1.fresh hp))
    · intro a ha; rw [List.mem_singleton.mp ha]; exact ⟨_, l2.1, trivial⟩
    · intro a ha; rw [List.mem_singleton.mp ha]; exact l2.2.1
    · intro a ha; rw [List.mem_singleton.mp ha]; exact l2.2.2.1
    · intro a ha; rw [List.mem_singleton.mp ha]; exact l2.2.2.2
    · intro a ha; rw [List.mem_singleton.mp ha]; exact hq
    · rw [List.mem_singleton.mp ha] at hm
      have := n.out f' hf' q hm
      rw [hq1] at this; cases this⟩
theorem ms_tset {st : Stmt} {is ks : List Nat} {ms : Env → M S (List D)} (ok : T.Ok) (hl : is.length = ks.length) (hl1 : ks.length ≤ 1000) (h : PS X st (tPars is (tLN X.K T XT E B ks ms))) : PS X st (tS X.K T XT E g0 B fun env => M.bind (ms env) fun ds => M.bind (M.opt (sets (is.zip ks) ds env)) fun e => M.pure (.nxt e)) :=
  ps_imp h fun Dn σ H ⟨g, s, env, fp, w, sl, st, p⟩ => ⟨g, s, env, fp, w, sl, (p.bind st).imp fun g1 s1 H1 ds ⟨w1, st1, st2, p1⟩ vs fs n => by
    obtain ⟨env', e, q⟩ := p1.opt
    have sl1 := sl.step ok st1
    obtain ⟨fp', sl2⟩ := sets_ok n sl1 (fun f hf p hp j hm => by
      obtain ⟨o, e, _⟩ := (sl.own j).here p hm
      rw [n.out f hf p hp] at e; cases e) (fun f hf p hp => st.fresh (n.out f hf p hp)) e hl
    refine ⟨by rw [hl]; exact n.len.1.symm, Nat.le_trans (by rw [← n.len.1]; exact hl1) (by decide), fun H2 h2 => ?_⟩
    rcases h2 with rfl | ⟨p, hp, rfl⟩
    · exact q g1 _ _ fp' (.refl _) st2 w1 sl2
    · exact q g1 _ _ fp' (.refl _) (st2.trans (Step.raw w1 _ hp)) (w1.raw _ hp) (sl2.step ok (Step.raw w1 _ hp))⟩
end
end Mp

set_option Elab.async false
set_option linter.all false
set_option maxRecDepth 100000
set_option maxHeartbeats 4000000
/-! Lists of lists of one's own. -/
namespace Mp
open PySem PySem.Spec PyProof.Rows L2

section
variable {S : Type} (K : PySem.W.Frag) (T : Tab S) (XT : ExcT) (E : XK)
/-- a new list of new lists -/
def tFM (B : Hp) (m : Env → M S D) : TE := fun σ H Q => ∃ g s env fp, Wd K T g s H ∧ Slots K T g H B env σ fp ∧ Post K T XT E g H (m env s) fun g' _ H' d =>
  ∀ p vs ds f, d = .lst ds → H p = none → H' p = some (.lst vs) → g'.F p = none → g'.C p = none → p ≠ g'.ha → Owns K T g' H' ds vs f → Mine g' H' H f → (p :: f).Nodup → Q (.ref p) H'
end
section
variable {S : Type} {K : PySem.W.Frag} {T : Tab S} {XT : ExcT} {E : XK} {B : Hp}
theorem Owns.len {g : Gh} {H : Hp} : ∀ {ds : List D} {vs : List V} {f : List Addr}, Owns K T g H ds vs f → ds.length = vs.length
  | _, _, _, .nil => rfl
  | _, _, _, .cons _ r => by rw [List.length_cons, List.length_cons, Owns.len r]
theorem Owns.snoc {g : Gh} {H : Hp} {d : D} {v : V} {f' : List Addr} (o : Own K T g H d v f') : ∀ {ds : List D} {vs : List V} {f : List Addr}, Owns K T g H ds vs f → Owns K T g H (ds ++ [d]) (vs ++ [v]) (f ++ f')
  | _, _, _, .nil => by
    have := Owns.cons o .nil
    rw [List.append_nil] at this
    exact this
  | _, _, _, .cons h r => by
    rw [List.append_assoc]
    exact .cons h (Owns.snoc o r)
theorem lc2_imp {tt : Tg} {mi : Env → M S (List D)} {mc : Env → M S Bool} {me : Env → M S D} (ok : T.Ok) {σ : L2.St} {H : Hp} {Q : VK} (h : tFM K T XT E B (lcM tt mi mc me) σ H Q) :
    tLc (tI K T XT E false B tt mi) (tG K T B tt) (tC K T XT EN B mc) (tF K T XT EN B me) tt.places σ H Q := by
  obtain ⟨g, s, env, fp, w, sl, p⟩ := h
  refine ⟨g, s, env, fp, w, sl, p.bind.imp fun g1 s1 H1 xs ⟨w1, st1, p1⟩ J its L hL => ?_⟩
  have hL0 := st1.fresh hL
  refine ⟨fun i n H2 => i ≤ xs.length ∧ n = xs.length - i ∧ ∃ g2 s2 ds vs ys sE f, Step g1 H1 g2 H2 ∧ Wd K T g2 s2 H2 ∧ H2 L = some (.lst vs) ∧ g2.F L = none ∧ g2.C L = none ∧ L ≠ g2.ha ∧ Owns K T g2 H2 ds vs f ∧ Mine g2 H2 H1 f ∧ (L :: f).Nodup ∧
    turns (lcTurn tt mc me env) (xs.drop i) s2 = .ok ys sE ∧ (ds ++ ys).length ≤ LIM ∧ ∀ g3 H3, Step g1 H1 g3 H3 → Wd K T g3 sE H3 → ∀ us f, H3 L = some (.lst us) → g3.F L = none → g3.C L = none → L ≠ g3.ha → Owns K T g3 H3 (ds ++ ys) us f → Mine g3 H3 H1 f → (L :: f).Nodup → Q (.ref L) H3, ?_, ?_⟩
  · have f := w1.free hL
    have p2 := p1
    unfold M.bind at p2
    cases e : turns (lcTurn tt mc me env) xs s1 with
    | ok ys s3 =>
      rw [e] at p2
      obtain ⟨hn, p3⟩ := Post.need (m := M.pure (D.lst ys)) p2
      refine ⟨xs.length, Nat.zero_le _, rfl, g1, s1, [], [], ys, s3, [], .raw w1 _ hL, w1.raw _ hL, upd_same, f.1, f.2.1, f.2.2, .nil, .nil, by simp, by rw [List.drop_zero]; exact e, of_decide_eq_true hn, ?_⟩
      intro g3 H3 st3 w3 us f h1 h2 h3 h4 r m nd
      exact p3 g3 H3 st3 w3 L us ys f rfl hL0 h1 h2 h3 h4 r ⟨m.here, m.nF, m.nC, m.nH, fun p hp => st1.fresh (m.nB p hp)⟩ nd
    | exc c fs s3 => exact (turns_calm (fun _ _ _ _ _ z => calm_exc z) _ _ _ _ _ e).elim
    | bad => rw [e] at p2; exact p2.elim
  · rintro i n H2 ⟨hi, hn, g2, s2, ds, vs, ys, sE, f2, st2, w2, hL2, hF2, hC2, hH2, r2, m2, nd2, et, hlim, p2⟩
    obtain ⟨it, stop⟩ := its g2 s2 H2 (by show Way false _ _ _ _; exact st2) w2
    by_cases hlt : i < xs.length
    · have hx : xs[i]? = some xs[i] := List.getElem?_eq_getElem hlt
      obtain ⟨go, yld⟩ := it i _ hx
      refine .inr ⟨go, _, fun H' q => ⟨xs.length - (i + 1), by omega, q⟩, fun x H' hy => ?_⟩
      obtain ⟨g3, st3, w3, io⟩ := yld x H' hy
      rw [List.drop_eq_getElem_cons hlt] at et
      obtain ⟨y, s3, zs, e1, e2, e3⟩ := turns_cons et
      subst e3
      have st13 := st2.trans st3
      have p4 := Post.det (K := K) (T := T) (XT := XT) (E := EN) (g := g3) (H := H') (calm_ok e1)
      obtain ⟨env', e', w4, st4, p5⟩ := Post.opt w3 p4.bind
      refine ⟨g3, s2, _, _, xs[i], env', w3, ((((sl.step ok st1).step ok st2).step ok st3).wiped tt.places), io, e', fun σ' fp' sl' hw => ⟨?_, ?_⟩⟩
      · rw [hw tt.places fun _ z => z, wipe_wipe _ _ _ fun _ z => z]
      have l3 := st3.nob hL2 hF2 hC2 hH2
      refine ⟨g3, s2, env', fp', w3, sl', p5.bind.imp fun g5 s5 H5 k ⟨w5, st5, p6⟩ => ?_⟩
      have l5 := st5.nob l3.1 l3.2.1 l3.2.2.1 l3.2.2.2
      have st15 := st13.trans st5
      have r5 := (r2.step ok st3 m2).step ok st5 (m2.step st3)
      have m5 := (m2.step st3).step st5
      by_cases hk : k = true
      · show if k = true then _ else _
        rw [if_pos hk] at p6 ⊢
        refine ⟨g5, s5, env', fp', w5, sl'.step ok st5, p6.bind.imp fun g6 s6 H6 z ⟨w6, st6, p7⟩ q us xs ez hq5 hq6 hqF hqC hqH rq => ?_⟩
        have l6 := st6.nob l5.1 l5.2.1 l5.2.2.1 l5.2.2.2
        obtain ⟨ey, es, _, _⟩ := Post.pure w6 p7
        subst ey es
        have r6 := r5.step ok st6 m5
        have m6 := m5.step st6
        have hlen := r2.len
        have e4 : ds ++ ((some z).toList ++ zs) = (ds ++ [z]) ++ zs := by simp
        rw [e4] at hlim p2
        have hl2 : ds.length + 1 ≤ LIM := by
          rw [List.length_append, List.length_append] at hlim
          have h1 : (ds.length + [z].length) ≤ LIM := Nat.le_trans (Nat.le_add_right _ _) hlim
          exact h1
        subst ez
        have hqL : q ≠ L := by
          rintro rfl
          rw [l5.1] at hq5; cases hq5
        have hqf : q ∉ f2 := fun z => by
          obtain ⟨o, e, _⟩ := m5.here q z
          rw [hq5] at e; cases e
        have nL : L ∉ f2 := (List.nodup_cons.mp nd2).1
        have oq : Own K T g6 (upd H6 L (.lst (vs ++ [.ref q]))) (.lst xs) (.ref q) [q] := .lst (by rw [upd_ne hqL]; exact hq6) rq
        refine ⟨vs, l6.1, Nat.lt_of_lt_of_le (by rw [← hlen]; exact hl2) (lim_line (Nat.le_refl _)), by omega, rfl, g6, s6, ds ++ [.lst xs], vs ++ [.ref q], zs, sE, f2 ++ [q], upd_step (st15.trans st6) hL, w6.updL l6.1 l6.2.1 l6.2.2.1 l6.2.2.2, upd_same, l6.2.1, l6.2.2.1, l6.2.2.2, (r6.upd nL).snoc oq, ?_, ?_, e2, hlim, p2⟩
        · refine ⟨fun a ha => ?_, fun a ha => ?_, fun a ha => ?_, fun a ha => ?_, fun a ha => ?_⟩
          all_goals rcases List.mem_append.mp ha with ha | ha
          · obtain ⟨o, e, oo⟩ := m6.here a ha
            exact ⟨o, by rw [upd_ne (fun z => nL (by rw [← z]; exact ha))]; exact e, oo⟩
          · rw [List.mem_singleton.mp ha]; exact ⟨HO.lst _, by rw [upd_ne hqL]; exact hq6, trivial⟩
          · exact m6.nF a ha
          · rw [List.mem_singleton.mp ha]; exact hqF
          · exact m6.nC a ha
          · rw [List.mem_singleton.mp ha]; exact hqC
          · exact m6.nH a ha
          · rw [List.mem_singleton.mp ha]; exact hqH
          · exact m6.nB a ha
          · rw [List.mem_singleton.mp ha]; exact st15.fresh hq5
        · rw [List.nodup_cons]
          refine ⟨fun z => ?_, List.nodup_append.mpr ⟨(List.nodup_cons.mp nd2).2, by simp, fun a ha b hb e => hqf (by rw [← List.mem_singleton.mp hb, ← e]; exact ha)⟩⟩
          rcases List.mem_append.mp z with z | z
          · exact nL z
          · exact hqL (List.mem_singleton.mp z).symm
      · show if k = true then _ else _
        rw [if_neg hk] at p6 ⊢
        obtain ⟨ey, es, _, _⟩ := Post.pure w5 p6
        subst ey es
        exact ⟨by omega, rfl, g5, s5, ds, vs, zs, sE, f2, st15, w5, l5.1, l5.2.1, l5.2.2.1, l5.2.2.2, r5, m5, nd2, e2, hlim, p2⟩
    · have e : i = xs.length := by omega
      subst e
      rw [List.drop_length] at et
      refine .inl ⟨stop, ?_⟩
      cases et
      rw [List.append_nil] at p2
      exact p2 g2 H2 st2 w2 vs f2 hL2 hF2 hC2 hH2 r2 m2 nd2
end
section
variable {S : Type} {X : Cx} {T : Tab S} {XT : ExcT} {E : XK} {g0 : Gh} {B : Hp}
theorem mm_lc {elt tg iter : Expr} {ifs : List Expr} {scope : Scope} {own : List (Str × Nat)} {pos : Pos} {tt : Tg} {mi : Env → M S (List D)} {mc : Env → M S Bool} {me : Env → M S D} (ok : T.Ok) (hc : X.calm = true) (hN : X.N.Nodup)
    (hi : PI X tg iter (tI X.K T XT E false B tt mi)) (okb : BlkOk X.N X.env.scope scope own) (hown : own.map (·.2) = tt.places)
    (hg : ∀ (s : Shared) (H : Hp) (C : Addr) (cl : List (Str × Addr)) (fp : List Addr), PG (X.blk s H scope (compEnvC scope cl C X.env) fp) tg (tG X.K T B tt))
    (ht : ∀ (s : Shared) (H : Hp) (C : Addr) (cl : List (Str × Addr)) (fp : List Addr), PTs (X.blk s H scope (compEnvC scope cl C X.env) fp) ifs (tC X.K T XT EN B mc))
    (he : ∀ (s : Shared) (H : Hp) (C : Addr) (cl : List (Str × Addr)) (fp : List Addr), PE (X.blk s H scope (compEnvC scope cl C X.env) fp) elt (tF X.K T XT EN B me))
    (hs : ∀ x, foldedSetIterable iter X.env x = pure x) : PE X (.ListComp elt [⟨tg, iter, ifs, 0⟩] scope pos) (tFM X.K T XT E B (lcM tt mi mc me)) :=
  pe_imp (pe_lc hc hN hi okb hg ht he hs) fun σ H Q h => by rw [hown]; exact lc2_imp ok h
/-- name = a new list of new lists -/
theorem ms_mat {st : Stmt} {i : Nat} {m : Env → M S D} (ok : T.Ok) (h : PS X st (tAsg (tFM X.K T XT E B m) (gName i))) :
    PS X st (tS X.K T XT E g0 B fun env => M.bind (m env) fun d => M.pure (.nxt (env.set i (.mx d)))) :=
  ps_imp h fun Dn σ H ⟨g, s, env, fp, w, sl, st, p⟩ => ⟨g, s, env, fp, w, sl, by
    refine (p.bind st).imp fun g1 s1 H1 d ⟨w1, st1, st2, p1⟩ q vs ds f e hq hq1 hF hC hH r mf nd => ?_
    subst e
    refine p1 g1 H1 _ _ (.refl _) st2 w1 ((sl.step ok st1).setS (f := q :: f) (.mx (.lst hq1 r)) nd (fun j _ a ha => ?_) ⟨?_, ?_, ?_, ?_, ?_⟩)
    · rcases List.mem_cons.mp ha with ha | ha
      · rw [ha]; exact sl.new hq j
      · exact sl.new (mf.nB a ha) j
    · intro a ha
      rcases List.mem_cons.mp ha with ha | ha
      · rw [ha]; exact ⟨_, hq1, trivial⟩
      · exact mf.here a ha
    · intro a ha
      rcases List.mem_cons.mp ha with ha | ha
      · rw [ha]; exact hF
      · exact mf.nF a ha
    · intro a ha
      rcases List.mem_cons.mp ha with ha | ha
      · rw [ha]; exact hC
      · exact mf.nC a ha
    · intro a ha
      rcases List.mem_cons.mp ha with ha | ha
      · rw [ha]; exact hH
      · exact mf.nH a ha
    · intro a ha
      rcases List.mem_cons.mp ha with ha | ha
      · rw [ha]; exact st.fresh hq
      · exact st.fresh (mf.nB a ha)⟩
/-- one row of one's own is written -/
theorem Owns.row {K : PySem.W.Frag} {g : Gh} {H : Hp} : ∀ {ds : List D} {vs : List V} {f : List Addr} {j : Nat} {xs : List D}, Owns K T g H ds vs f → f.Nodup → ds[j]? = some (.lst xs) →
    ∃ q us, vs[j]? = some (.ref q) ∧ q ∈ f ∧ H q = some (.lst us) ∧ Reps K T g xs us ∧ ∀ xs' us', Reps K T g xs' us' → Owns K T g (L2.upd H q (.lst us')) (ds.set j (.lst xs')) vs f
  | _, _, _, _, _, .nil, _, e => by simp at e
  | _, _, _, 0, xs, .cons (fs := fs) h r, nd, e => by
    simp at e
    subst e
    cases h with
    | @lst q _ us h1 h2 =>
      refine ⟨q, us, rfl, by simp, h1, h2, fun xs' us' r' => ?_⟩
      have nq : q ∉ fs := (List.nodup_cons.mp nd).1
      exact .cons (.lst upd_same r') (r.upd nq)
  | _, _, _, j + 1, xs, .cons (f := f) (fs := fs) h r, nd, e => by
    have nd2 := List.nodup_append.mp nd
    obtain ⟨q, us, h1, h2, h3, h4, h5⟩ := Owns.row (j := j) r nd2.2.1 (by simpa using e)
    refine ⟨q, us, by simpa using h1, List.mem_append_right _ h2, h3, h4, fun xs' us' r' => ?_⟩
    show Owns K T g _ (_ :: List.set _ j _) _ _
    exact .cons (h.upd fun z => nd2.2.2 q z q h2 rfl) (h5 xs' us' r')
theorem mat_slot {env : Env} {i : Nat} {rows : List D} (h : matAt env i = some rows) : env[i]? = some (.mx (.lst rows)) := by
  unfold matAt Env.mat at h
  split at h
  · rename_i e
    split at e
    · rename_i e2; cases h; cases e; exact e2
    · cases e
  · cases h
theorem ms_put2 {i : Nat} {st : Stmt} {mv mk ml : Env → M S D} (ok : T.Ok) (h : PS X st (tAsg (tE X.K T XT E B mv) (gSub (tOp (rIxL X.K) (tVar i) (tE X.K T XT E B mk)) (tE X.K T XT E B ml) rSetL))) :
    PS X st (tS X.K T XT E g0 B fun env => M.bind (mv env) fun v => M.bind (M.opt (matAt env i)) fun rows => M.bind (mk env) fun kv => M.bind (M.opt (rowAt rows kv)) fun p => M.bind (ml env) fun lv => M.bind (M.opt (D.putAt (.lst p.2) lv v)) fun r => M.pure (.nxt (env.set i (.mx (.lst (rows.set p.1 r)))))) :=
  ps_imp h fun Dn σ H ⟨g, s, env, fp, w, sl, st, p⟩ => ⟨g, s, env, fp, w, sl, (p.bind st).imp fun g1 s1 H1 d ⟨w1, st1, st2, p1⟩ v rv => by
    obtain ⟨rows, e1, p2⟩ := p1.opt
    have sl1 := sl.step ok st1
    have hi := mat_slot e1
    obtain ⟨o, a, b⟩ := sl1.at_ i _ hi
    obtain ⟨q, rfl⟩ : ∃ q, o = some (.ref q) := by
      generalize fp i = f at b
      cases b with
      | mx hm => cases hm with | lst _ _ => exact ⟨_, rfl⟩
    refine ⟨_, a, g1, s1, env, fp, w1, sl1, (p2.bind st2).imp fun g3 s3 H3 kv ⟨w3, st3, st4, p3⟩ u ru => ?_⟩
    obtain ⟨pr, e2, p4⟩ := p3.opt
    have sl3 := sl1.step ok st3
    obtain ⟨o, a3, b3⟩ := sl3.at_ i _ hi
    rw [a] at a3
    cases a3
    have nd := sl3.nd i
    have own := sl3.own i
    cases kv with
    | int k =>
      obtain ⟨j, e3, e4⟩ := Option.bind_eq_some_iff.mp (show ((ixN rows.length k).bind fun j => (rows[j]?.bind asLst).map fun xs => (j, xs)) = some pr from e2)
      obtain ⟨xs, e5, e6⟩ := Option.map_eq_some_iff.mp e4
      subst e6
      obtain ⟨dx, e7, e8⟩ := Option.bind_eq_some_iff.mp e5
      have e8 : dx = .lst xs := by
        unfold asLst at e8
        split at e8
        · cases e8; rfl
        · cases e8
      subst e8
      cases ru
      generalize hf : fp i = f at b3 nd own
      cases b3 with
      | mx hm =>
        cases hm with
        | @lst _ _ vs fs h1 h2 =>
          have nd' := List.nodup_cons.mp nd
          obtain ⟨r0, us0, hv0, hm0, _, _, _⟩ := h2.row nd'.2 e7
          refine ⟨q, vs, k, .ref r0, rfl, rfl, .inl (.inl h1), by unfold atI; rw [← h2.len, e3]; exact hv0, g3, s3, env, fp, w3, sl3, (p4.bind st4).imp fun g5 s5 H5 lv ⟨w5, st5, st6, p5⟩ u2 ru2 => ?_⟩
          obtain ⟨rr, e9, p6⟩ := p5.opt
          have sl5 := sl3.step ok st5
          obtain ⟨o5, a5, b5⟩ := sl5.at_ i _ hi
          rw [a] at a5
          cases a5
          have own5 := sl5.own i
          rw [hf] at b5 own5
          cases b5 with
          | mx hm5 =>
            cases hm5 with
            | @lst _ _ vs5 fs5 h15 h25 =>
              obtain ⟨q5, us5, hv5, hm5, hq5, hr5, hw5⟩ := h25.row nd'.2 e7
              have h13 := st5.nob h1 (own.nF q (by simp)) (own.nC q (by simp)) (own.nH q (by simp))
              rw [h13.1] at h15
              cases h15
              rw [hv0] at hv5
              cases hv5
              cases lv with
              | int l =>
                obtain ⟨j2, e10, e11⟩ := Option.map_eq_some_iff.mp (show ((ixN xs.length l).map fun j => D.lst (xs.set j d)) = some rr from e9)
                subst e11
                cases ru2
                have rv5 := ((rv.mono ok st3.le).mono ok st5.le)
                have mq : r0 ∈ q :: fs := List.mem_cons_of_mem _ hm5
                refine ⟨r0, us5, l, j2, rfl, rfl, hq5, by rw [← hr5.length]; exact e10, ?_⟩
                refine p6 g5 (upd H5 r0 (.lst (us5.set j2 v))) σ fp (.refl _) (upd_step st6 (own5.nB r0 mq)) (w5.updL hq5 (own5.nF r0 mq) (own5.nC r0 mq) (own5.nH r0 mq)) ?_
                refine ⟨by rw [List.length_set]; exact sl5.len, fun m slm em => ?_, sl5.nd, sl5.dis, fun m => (sl5.own m).upd trivial⟩
                by_cases hm : i = m
                · subst hm
                  rw [List.getElem?_set_self (List.getElem?_eq_some_iff.mp hi).1] at em
                  cases em
                  refine ⟨_, a, ?_⟩
                  rw [hf]
                  refine .mx (.lst ?_ (hw5 _ _ (hr5.set rv5 j2)))
                  rw [upd_ne (fun z => nd'.1 (by rw [z]; exact hm5))]
                  exact h13.1
                · rw [List.getElem?_set_ne hm] at em
                  obtain ⟨o', a', b'⟩ := sl5.at_ m slm em
                  exact ⟨o', a', b'.upd fun z => sl5.dis i m hm r0 (by rw [hf]; exact mq) z⟩
              | _ => cases e9
    | _ => cases e2⟩
end
end Mp

set_option Elab.async false
set_option linter.all false
set_option maxRecDepth 100000
set_option maxHeartbeats 4000000
/-! enumerate, zip. -/
namespace Mp
open PySem PySem.Spec PyProof.Rows L2
open PySem (IsEnum IsEnumOut)

theorem meets_enumB {v : Value} {o : Obj} {H : Heap → Prop} (B : Begins v o H) :
    Meets (Builtin.«enumerate.__new__» ⟨[.type "enumerate", v], []⟩) (fun _ R s => H s.heap ∧
      R (.ok (.ret (.ref (s.heap.push o).objs.size))) { s with heap := (s.heap.push o).push { cls := .type "enumerate", data := .fields #[.none, .bool false, .ref s.heap.objs.size, rawInt 0, .none, .none] } }) :=
  .of_wp fun prog w A R s h => by
    obtain ⟨hp, g, d, tk, os⟩ := s; obtain ⟨h1, h⟩ := h
    have hsub := sub_enumerate
    have q1 : ∀ {A' : Around} {E : Value → Shared → Prop} {Q : Value → Shared → Prop}, Q (.ref hp.objs.size) ⟨hp.push o, g, d, tk, os⟩ → wpAny (model prog w) A' (pyIter v) Q E ⟨hp, g, d, tk, os⟩ :=
      fun q => B.iter prog w _ _ ⟨hp, g, d, tk, os⟩ _ h1 q
    wp_walk using q1
    refine wpAny_stack_any fun st => wpAny_pure ?_
    split
    · rename_i c _ _ _ _ _
      cases (c == Value.type "enumerate")
      · wp_walk using q1
        exact ⟨_, rfl, h⟩
      · wp_walk using q1
        exact ⟨_, rfl, h⟩
    · wp_walk using q1
      exact ⟨_, rfl, h⟩
theorem enum1_begins {prog : Program} {w : World} {A : Around} {E : Value → Shared → Prop} {s : Shared} {v : Value} {o : Obj} {H : Heap → Prop} {Q : Value → Shared → Prop} (B : Begins v o H) (h1 : H s.heap)
    (h : ∀ h', IsEnum h' (s.heap.objs.size + 1) s.heap.objs.size 0 .none → h'.get? s.heap.objs.size = some o → h'.objs.size = s.heap.objs.size + 2 → (∀ b o, s.heap.get? b = some o → h'.get? b = some o) → Q (.ref (s.heap.objs.size + 1)) { s with heap := h' }) :
    wpAny (model prog w) A (call (.type "enumerate") [v]) Q E s := by
  refine callType_new F.called_enumerate (by decide) (F.typeCall_enumerate_1 _) (F.newCall_enumerate_1 _) (fun obj => F.args_object_init_2 obj _) F.entry_enumerate_new (meets_enumB B) ⟨h1, ?_⟩
  have hz : (s.heap.push o).objs.size = s.heap.objs.size + 1 := Heap.size_push ..
  show _ ∧ _
  rw [hz]
  have he : IsEnum ((s.heap.push o).push { cls := .type "enumerate", data := .fields #[.none, .bool false, .ref s.heap.objs.size, rawInt 0, .none, .none] }) (s.heap.objs.size + 1) s.heap.objs.size 0 .none := by
    have := Heap.get?_push_size (s.heap.push o) (o := { cls := .type "enumerate", data := .fields #[.none, .bool false, .ref s.heap.objs.size, rawInt 0, .none, .none] }) rfl
    rw [hz] at this; exact this
  exact ⟨⟨_, he, rfl⟩, h _ he (Heap.get?_push_of_some _ (Heap.get?_push_size _ B.free)) (by rw [Heap.size_push, hz]) fun b o x => Heap.get?_push_of_some _ (Heap.get?_push_of_some _ x)⟩
theorem next_enum_endT {prog : Program} {w : World} {A : Around} {E : Value → Shared → Prop} {s : Shared} {e it l : Addr} {i : Nat} {items : Array Value} {old : Value} {Q : Option Value → Shared → Prop} (hh : A.handled = none)
    (he : IsEnum s.heap e it i old) (hit : s.heap.IsTupleIter it l i) (hl : s.heap.IsTuple l items) (hx : items[i]? = none)
    (hQ : ∀ h', Heap.ExtBut it s.heap h' → Q none { s with heap := h' }) : wpAny (model prog w) A (pyNext (.ref e)) Q E s := by
  have hT : s.TypeIs (.ref e) "enumerate" := ⟨_, he, rfl⟩
  unfold pyNext
  refine wpAny_bind (wpAny_attempt (wpAny_callSpecial?_slot (name := Str.ofString "__next__") hT F.slot_enumerate_next
    (wpAny_call_entry F.slot_enumerate_next hT F.entry_enumerate_next ?_ (F.args_enumerate_next_1 _))))
  show wpAny _ _ (field (.ref e) 2 >>= _) _ _ _
  refine wpAny_bind (wpAny_field he rfl (x := .ref it) rfl ?_)
  refine wpAny_bind (wpAny_nextOf_tuple_end hh hit hl hx fun h' x he' hx' => ?_)
  obtain ⟨o, ho, hc⟩ := hx'
  refine wpAny_bind (wpAny_isInstance (T := "StopIteration") (b := true) ⟨o, ho, hc⟩ isSubtype_stop ?_)
  exact wpAny_pure (hQ _ he')
/-- the tuple at a, the items in new pairs with their places -/
def IteT (K : PySem.W.Frag) (a : Addr) : L2.It :=
  ⟨fun i H => ∃ xs x, SqT K H a xs ∧ xs[i]? = some x, fun i H v H' => ∃ T x, v = .ref T ∧ H T = none ∧ H' = upd H T (.tup [.int (i : Nat), x]) ∧ ∀ xs, SqT K H a xs → xs[i]? = some x, fun i H => ∃ xs, SqT K H a xs ∧ xs.length ≤ i⟩
theorem turn_enumT {P : Program} {w : World} {K : PySem.W.Frag} {elts : List Expr} {kk : Nat} {tpos : Pos} (a e it : Addr) :
    Turn P w K (.Tuple elts kk tpos) (IteT K a) [e, it] e (fun i h => (∃ old, IsEnum h e it ((i : Nat) : Int) old) ∧ h.IsTupleIter it a i ∧ e ≠ it) where
  mem := by simp
  obj := fun i h st b hb => by
    obtain ⟨⟨old, he⟩, ⟨o, ho, hc, hd⟩, _⟩ := st
    have e' : b = e ∨ b = it := by simpa using hb
    rcases e' with z | z
    · rw [z]; exact ⟨_, he, fun v q => nomatch q⟩
    · rw [z]; exact ⟨o, ho, fun v q => by rw [hd] at q; cases q⟩
  keep := fun i h h' st k => let ⟨⟨old, he⟩, hi, hne⟩ := st; ⟨⟨old, k e (by simp) _ he⟩, hi.at fun o q => k it (by simp) o q, hne⟩
  item := by
    intro X hP hw hK hc i pins s σ H E I hf st hg
    subst hP hw hK
    obtain ⟨⟨old, he⟩, hit, hne⟩ := st
    obtain ⟨xs, x, hq, hx⟩ := hg
    obtain ⟨its, rv, p, hz⟩ := I.tuple hq
    obtain ⟨u, hu, ru⟩ := rv.get hx
    have hel : e < s.heap.objs.size := Heap.lt_size he
    have hil : it < s.heap.objs.size := by obtain ⟨_, q, _⟩ := hit; exact Heap.lt_size q
    have hai : a ≠ it := by
      rintro rfl
      obtain ⟨o, e1, c1, _⟩ := p
      obtain ⟨o2, e2, c2, _⟩ := hit
      rw [e1] at e2; cases e2
      rw [c1] at c2; exact absurd (Value.type.inj c2) (by decide)
    have hae : e ≠ a := by
      rintro rfl
      obtain ⟨o, e1, c1, _⟩ := p
      have e2 : s.heap.get? e = some _ := he
      rw [e1] at e2; cases e2
      exact absurd (Value.type.inj c1) (by decide)
    have hi : i < its.toArray.size := by
      have := (List.getElem?_eq_some_iff.mp hu).1
      simpa using this
    have D := Draws.tuple (prog := X.prog) (w := X.w) (A := X.A.in1) (I.ok.hd hc) it a hai its.toArray
    refine wpAny_pyNext_enum_itemD D he ⟨hit, p⟩ hi hne (by simp [hne, hae]) fun y h' tk hy ho st' hT hsz hk => ?_
    have hy : y = u := by
      have e1 : its.toArray[i]? = some u := by simpa using hu
      rw [e1] at hy; exact (Option.some.inj hy).symm
    subst hy
    refine ⟨_, rfl, wpAny_letOwnedTupleGo_enum (s := { s with heap := h', toks := tk + 1 }) ho fun h'' he' sb => ?_⟩
    have hT2 : h''.get? s.heap.objs.size = some { cls := .type "tuple", data := .seq #[.int i tk, y] } := (sb.2 _ (Nat.ne_of_gt hel)).trans hT
    have new : ObjOk X.prog X.w (upd H s.heap.objs.size (.tup [.int (i : Nat), x])) h'' s.heap.objs.size (.tup [.int (i : Nat), x]) :=
      ⟨by show 2 ≤ sizeLine; decide, [.int i tk, y], .cons ⟨_, rfl⟩ (.cons ru .nil), ⟨_, hT2, rfl, _, rfl⟩⟩
    have I1 : Inv X pins σ (upd H s.heap.objs.size (.tup [.int (i : Nat), x])) { s with heap := h'', toks := tk + 1 } :=
      I.turnedNew (ch := [e, it]) (fun b ob hb q => (sb.2 b (fun z => hb (by simp [z]))).trans (hk b ob (fun z => hb (by simp [z])) (fun z => hb (by simp [z])) q)) hf (Nat.le_refl _) new
    refine ⟨.ref s.heap.objs.size, _, I1, rfl, ⟨_, x, rfl, I.hok.fresh (Nat.le_refl _), rfl, fun ys hy => by rw [I.tuple_inj hy hq]; exact hx⟩, ⟨⟨y, ?_⟩, st'.1.at fun o q => (sb.2 it (Ne.symm hne)).trans q, hne⟩, fun b hb => ?_⟩
    · have e1 : ((i + 1 : Nat) : Int) = (i : Int) + 1 := by omega
      rw [e1]; exact he'
    · have hb' : b < s.heap.objs.size := by
        have e' : b = e ∨ b = it := by simpa using hb
        rcases e' with z | z
        · rw [z]; exact hel
        · rw [z]; exact hil
      rw [upd_ne (Nat.ne_of_lt hb')]
      exact (hf b hb).1
  done := by
    intro X hP hw hK hc i pins s σ H E I hf st hg
    subst hP hw hK
    obtain ⟨⟨old, he⟩, hit, hne⟩ := st
    obtain ⟨xs, hq, hx⟩ := hg
    obtain ⟨its, rv, p, hz⟩ := I.tuple hq
    obtain ⟨f0, f1, f2, f3, f4, f5⟩ := hf it (by simp)
    have hl := rv.length
    have hai : a ≠ it := by
      rintro rfl
      obtain ⟨o, e1, c1, _⟩ := p
      obtain ⟨o2, e2, c2, _⟩ := hit
      rw [e1] at e2; cases e2
      rw [c1] at c2; exact absurd (Value.type.inj c2) (by decide)
    exact next_enum_endT (I.ok.hd hc) he hit p (by simp; omega) fun h' eb => ⟨rfl, I.turned (t' := s.toks) (fun b o hb q => eb b o hb q) f0 f1 f3 f4 f5⟩
  self := fun A i s Q E st h => let ⟨⟨_, he⟩, _⟩ := st; wpAny_pyIter_enum he h
section
variable {S : Type} {K : PySem.W.Frag} {T : Tab S} {XT : ExcT} {E : XK} {g : Gh} {H B : Hp}
theorem enumD_at : ∀ (xs : List D) (k i : Nat) (d : D), (enumD k xs)[i]? = some d → ∃ x, xs[i]? = some x ∧ d = .tup [.int ((k + i : Nat) : Int), x]
  | [], _, _, _, h => by simp [enumD] at h
  | x :: r, k, 0, d, h => by
    have h : some (D.tup [.int (k : Nat), x]) = some d := h
    cases h
    exact ⟨x, rfl, rfl⟩
  | x :: r, k, i + 1, d, h => by
    obtain ⟨y, h1, h2⟩ := enumD_at r (k + 1) i d (by simpa [enumD] using h)
    exact ⟨y, by simpa using h1, by rw [h2, Nat.add_right_comm, Nat.add_assoc]⟩
theorem enumD_length : ∀ (xs : List D) (k : Nat), (enumD k xs).length = xs.length
  | [], _ => rfl
  | _ :: r, k => by
    show (enumD (k + 1) r).length + 1 = _
    rw [enumD_length r (k + 1)]; rfl
theorem zipD_at : ∀ (xs ys : List D) (i : Nat) (d : D), (zipD xs ys)[i]? = some d → ∃ x y, xs[i]? = some x ∧ ys[i]? = some y ∧ d = .tup [x, y]
  | [], _, _, _, h => by simp [zipD] at h
  | _ :: _, [], _, _, h => by simp [zipD] at h
  | x :: r, y :: t, 0, d, h => by
    have h : some (D.tup [x, y]) = some d := h
    cases h
    exact ⟨x, y, rfl, rfl, rfl⟩
  | x :: r, y :: t, i + 1, d, h => by
    obtain ⟨a, b, h1, h2, h3⟩ := zipD_at r t i d (by simpa [zipD] using h)
    exact ⟨a, b, by simpa using h1, by simpa using h2, h3⟩
theorem zipD_length : ∀ xs ys : List D, (zipD xs ys).length = min xs.length ys.length
  | [], _ => by simp [zipD]
  | _ :: _, [] => by simp [zipD]
  | _ :: r, _ :: t => by
    show (zipD r t).length + 1 = _
    rw [zipD_length r t, List.length_cons, List.length_cons, Nat.succ_min_succ]
/-- a new pair that a walk yields -/
theorem pair_new {s : S} {tg : Tg} {ts : List Tg} {p : Addr} {x y : D} {v u : V} (ok : T.Ok) (htg : tg = .tup ts) (w : Wd K T g s H) (hp : H p = none) (rx : Rep K T g x v) (ry : Rep K T g y u) :
    ∃ g', Step g H g' (upd H p (.tup [v, u])) ∧ Wd K T g' s (upd H p (.tup [v, u])) ∧ ItOk K T g' (upd H p (.tup [v, u])) tg (.tup [x, y]) (.ref p) :=
  ⟨g, Step.raw w _ hp, w.raw _ hp, .inr ⟨⟨ts, htg⟩, _, p, [v, u], rfl, rfl, .inl (.inl upd_same), .cons rx (.cons ry .nil)⟩⟩
theorem its_enumL {fz : Bool} {xs : List D} {a : Addr} {tg : Tg} {ts : List Tg} (ok : T.Ok) (htg : tg = .tup ts) (h : KRep K T fz g H (.lst xs) (.ref a)) : Its K T fz tg g H (Ite K a) (enumD 0 xs) := by
  intro g1 s1 H1 wy w
  obtain ⟨p, vs, e, hp, r⟩ := brep_lst w (h.way ok wy).b
  cases e
  refine ⟨fun i d hi => ?_, ⟨vs, .inl (.inl hp), by rw [enumD_length, ← r.length]; exact Nat.le_refl _⟩⟩
  obtain ⟨x, h1, rfl⟩ := enumD_at xs 0 i d hi
  obtain ⟨v, hv, rv⟩ := r.get h1
  refine ⟨⟨vs, v, .inl (.inl hp), hv⟩, fun y H' ⟨q, v', e1, e2, e3, e4⟩ => ?_⟩
  have := (e4 vs (.inl (.inl hp))).symm.trans hv
  cases this
  subst e1 e3
  rw [Nat.zero_add]
  exact pair_new ok htg w e2 (.int _) rv
theorem its_enumT {fz : Bool} {xs : List D} {a : Addr} {tg : Tg} {ts : List Tg} (ok : T.Ok) (htg : tg = .tup ts) (h : KRep K T fz g H (.tup xs) (.ref a)) : Its K T fz tg g H (IteT K a) (enumD 0 xs) := by
  intro g1 s1 H1 wy w
  obtain ⟨p, vs, e, hp, r, _⟩ := brep_tup w (h.way ok wy).b
  cases e
  refine ⟨fun i d hi => ?_, ⟨vs, hp, by rw [enumD_length, ← r.length]; exact Nat.le_refl _⟩⟩
  obtain ⟨x, h1, rfl⟩ := enumD_at xs 0 i d hi
  obtain ⟨v, hv, rv⟩ := r.get h1
  refine ⟨⟨vs, v, hp, hv⟩, fun y H' ⟨q, v', e1, e2, e3, e4⟩ => ?_⟩
  have := (e4 vs hp).symm.trans hv
  cases this
  subst e1 e3
  rw [Nat.zero_add]
  exact pair_new ok htg w e2 (.int _) rv
theorem its_zipL {fz : Bool} {xs ys : List D} {a b : Addr} {tg : Tg} {ts : List Tg} (ok : T.Ok) (htg : tg = .tup ts) (h : KRep K T fz g H (.lst xs) (.ref a)) (h2 : KRep K T fz g H (.lst ys) (.ref b)) : Its K T fz tg g H (Itz K a b) (zipD xs ys) := by
  intro g1 s1 H1 wy w
  obtain ⟨p, vs, e, hp, r⟩ := brep_lst w (h.way ok wy).b
  cases e
  obtain ⟨p2, us, e, hp2, r2⟩ := brep_lst w (h2.way ok wy).b
  cases e
  refine ⟨fun i d hi => ?_, ⟨vs, us, .inl (.inl hp), .inl (.inl hp2), ?_⟩⟩
  · obtain ⟨x, y, h1, h2, rfl⟩ := zipD_at xs ys i d hi
    obtain ⟨v, hv, rv⟩ := r.get h1
    obtain ⟨u, hu, ru⟩ := r2.get h2
    refine ⟨⟨vs, us, v, u, .inl (.inl hp), .inl (.inl hp2), hv, hu⟩, fun z H' ⟨q, v', u', e1, e2, e3, e4, e5⟩ => ?_⟩
    have := (e4 vs (.inl (.inl hp))).symm.trans hv
    cases this
    have := (e5 us (.inl (.inl hp2))).symm.trans hu
    cases this
    subst e1 e3
    exact pair_new ok htg w e2 rv ru
  · rw [zipD_length, ← r.length, ← r2.length]; exact (by omega : xs.length ≤ min xs.length ys.length ∨ ys.length ≤ min xs.length ys.length)
theorem its_zipT {fz : Bool} {xs ys : List D} {a b : Addr} {tg : Tg} {ts : List Tg} (ok : T.Ok) (htg : tg = .tup ts) (h : KRep K T fz g H (.tup xs) (.ref a)) (h2 : KRep K T fz g H (.tup ys) (.ref b)) : Its K T fz tg g H (RZ.ItzT K a b) (zipD xs ys) := by
  intro g1 s1 H1 wy w
  obtain ⟨p, vs, e, hp, r, _⟩ := brep_tup w (h.way ok wy).b
  cases e
  obtain ⟨p2, us, e, hp2, r2, _⟩ := brep_tup w (h2.way ok wy).b
  cases e
  refine ⟨fun i d hi => ?_, ⟨vs, us, hp, hp2, ?_⟩⟩
  · obtain ⟨x, y, h1, h2, rfl⟩ := zipD_at xs ys i d hi
    obtain ⟨v, hv, rv⟩ := r.get h1
    obtain ⟨u, hu, ru⟩ := r2.get h2
    refine ⟨⟨vs, us, v, u, hp, hp2, hv, hu⟩, fun z H' ⟨q, v', u', e1, e2, e3, e4, e5⟩ => ?_⟩
    have := (e4 vs hp).symm.trans hv
    cases this
    have := (e5 us hp2).symm.trans hu
    cases this
    subst e1 e3
    exact pair_new ok htg w e2 rv ru
  · rw [zipD_length, ← r.length, ← r2.length]; exact (by omega : xs.length ≤ min xs.length ys.length ∨ ys.length ≤ min xs.length ys.length)
end
section
variable {S : Type} {X : Cx} {T : Tab S} {XT : ExcT} {E : XK} {B : Hp} {tt : Tg}
theorem pi_enumA {e : Expr} {ta : TE} {p pos tpos : Pos} {elts : List Expr} {kk : Nat} (hg : Gl X "enumerate") (hm : X.mg "enumerate" = none) (ha : PE X e ta) (hs : starEach [e] X.env = [(false, eval e X.env)]) :
    PI X (.Tuple elts kk tpos) (.Call (.Name "enumerate" p) [e] [] pos) (fun σ H R => ta σ H fun v H1 => ∃ a, v = .ref a ∧ ((∃ xs, SqL X.K H1 a xs ∧ R (Ite X.K a) H1) ∨ (∃ xs, SqT X.K H1 a xs ∧ R (IteT X.K a) H1))) := by
  refine ⟨fun pins s σ H R I h => ?_⟩
  refine Call_ (ld_blt I hg hm boot_enumerate (PyProof.Rows.callWith_type1 (thn ((pa_cons ha pa_nil (by rw [hs] <;> rfl)).run pos pins s σ H (fun vs H1 => match vs with | [v] => ∃ a, v = .ref a ∧ ((∃ xs, SqL X.K H1 a xs ∧ R (Ite X.K a) H1) ∨ (∃ xs, SqT X.K H1 a xs ∧ R (IteT X.K a) H1)) | _ => False) I h) fun us s1 ⟨vs, H1, I1, r1, q0⟩ => ?_) hs rfl))
  · obtain ⟨v, ev, a, ea, q⟩ : ∃ v, vs = [v] ∧ ∃ a, v = .ref a ∧ ((∃ xs, SqL X.K H1 a xs ∧ R (Ite X.K a) H1) ∨ (∃ xs, SqT X.K H1 a xs ∧ R (IteT X.K a) H1)) := by
      match vs, q0 with
      | [v], q0 => exact ⟨v, rfl, q0⟩
    subst ev ea
    cases r1 with
    | cons r rr =>
      cases rr
      cases r
      rcases q with ⟨xs, hq, q⟩ | ⟨xs, hq, q⟩
      · obtain ⟨its, rv, p', hz⟩ := I1.list hq
        refine call_enumerate_list p'.isList fun h' he hit hsz hk => wpAny_pyIter_enum he ?_
        have I2 : Inv X pins σ H1 { s1 with heap := h' } := I1.kept (t' := s1.toks) hk
        refine ⟨s1.heap.objs.size + 1, [s1.heap.objs.size + 1, s1.heap.objs.size], _, _, H1, rfl, I2, turn_enum a (s1.heap.objs.size + 1) s1.heap.objs.size, ⟨⟨.none, he⟩, hit, Nat.succ_ne_self _⟩, fun b hb => ?_, q⟩
        have e' : b = s1.heap.objs.size + 1 ∨ b = s1.heap.objs.size := by simpa using hb
        have hle : s1.heap.objs.size ≤ b := by
          rcases e' with z | z
          · rw [z]; exact Nat.le_add_right _ _
          · rw [z]; exact Nat.le_refl _
        exact I1.fpOk hle (I1.hok.fresh hle)
      · obtain ⟨its, rv, p', hz⟩ := I1.tuple hq
        refine enum1_begins (begins_tuple a its.toArray) p' fun h' he hit hsz hk => wpAny_pyIter_enum he ?_
        have I2 : Inv X pins σ H1 { s1 with heap := h' } := I1.kept (t' := s1.toks) hk
        refine ⟨s1.heap.objs.size + 1, [s1.heap.objs.size + 1, s1.heap.objs.size], _, _, H1, rfl, I2, turn_enumT a (s1.heap.objs.size + 1) s1.heap.objs.size, ⟨⟨.none, he⟩, ⟨_, hit, rfl, rfl⟩, Nat.succ_ne_self _⟩, fun b hb => ?_, q⟩
        have e' : b = s1.heap.objs.size + 1 ∨ b = s1.heap.objs.size := by simpa using hb
        have hle : s1.heap.objs.size ≤ b := by
          rcases e' with z | z
          · rw [z]; exact Nat.le_add_right _ _
          · rw [z]; exact Nat.le_refl _
        exact I1.fpOk hle (I1.hok.fresh hle)
/-- enumerate(e), the target of several names -/
theorem mi_enum {e : Expr} {p pos tpos : Pos} {elts : List Expr} {kk : Nat} {fz : Bool} {m : Env → M S D} {ts : List Tg} (ok : T.Ok) (htt : tt = .tup ts) (hg : Gl X "enumerate") (hm : X.mg "enumerate" = none) (ha : PE X e (tK X.K T XT E fz B m)) (hs : starEach [e] X.env = [(false, eval e X.env)]) :
    PI X (.Tuple elts kk tpos) (.Call (.Name "enumerate" p) [e] [] pos) (tI X.K T XT E fz B tt fun env => M.bind (m env) fun x => M.bind (M.opt (items? x)) fun xs => M.pure (enumD 0 xs)) :=
  pi_imp (pi_enumA hg hm ha hs) fun σ H R ⟨g, s, env, fp, w, sl, p⟩ => ⟨g, s, env, fp, w, sl, p.bind.imp fun g1 s1 H1 d ⟨w1, st1, p1⟩ v r => by
    obtain ⟨xs, e, w2, st2, q⟩ := Post.opt w1 p1.bind
    have q := Post.pure w1 q
    unfold items? at e
    split at e
    · cases e
      obtain ⟨a, vs, rfl, hq, _⟩ := brep_tup w1 r.b
      exact ⟨a, rfl, .inr ⟨vs, hq, q _ (its_enumT ok htt r)⟩⟩
    · cases e
      obtain ⟨a, vs, rfl, hq, _⟩ := brep_lst w1 r.b
      exact ⟨a, rfl, .inl ⟨vs, .inl (.inl hq), q _ (its_enumL ok htt r)⟩⟩
    · cases e⟩
/-- two values that are walked at once -/
theorem tk2 {a b : Expr} {fz : Bool} {ma mb : Env → M S D} (ok : T.Ok) (ha : PE X a (tK X.K T XT E fz B ma)) (hb : PE X b (tK X.K T XT E fz B mb)) (hs : starEach [a, b] X.env = (false, eval a X.env) :: starEach [b] X.env) (hs2 : starEach [b] X.env = (false, eval b X.env) :: starEach [] X.env) :
    PA X [a, b] (fun σ H Q => ∃ g s env fp, Wd X.K T g s H ∧ Slots X.K T g H B env σ fp ∧ Post X.K T XT E g H (M.bind (ma env) (fun x => M.bind (mb env) fun y => M.pure (x, y)) s) fun g' _ H' p => ∀ v u, KRep X.K T fz g' H' p.1 v → KRep X.K T fz g' H' p.2 u → Q [v, u] H') :=
  pa_imp (pa_cons ha (pa_cons hb pa_nil hs2) hs) fun σ H Q ⟨g, s, env, fp, w, sl, p⟩ => ⟨g, s, env, fp, w, sl, p.bind.imp fun g1 s1 H1 x ⟨w1, st1, p1⟩ v r => ⟨g1, s1, env, fp, w1, sl.step ok st1, p1.bind.imp fun g2 s2 H2 y ⟨w2, st2, p2⟩ u r2 => by
    refine Post.pure w2 p2 v u ?_ r2
    rcases r with r | ⟨e, r⟩
    · exact .inl (r.mono ok st2.le)
    · exact .inr ⟨e, r.step ok st2⟩⟩⟩
theorem Post.pair {K : PySem.W.Frag} {g : Gh} {H : Hp} {α β γ : Type} {ma : M S α} {mb : M S β} {f : α → β → M S γ} {s : S} {Q : Gh → S → Hp → γ → Prop} (h : Post K T XT E g H (M.bind ma (fun x => M.bind mb fun y => f x y) s) Q) : Post K T XT E g H (M.bind (M.bind ma (fun x => M.bind mb fun y => M.pure (x, y))) (fun p => f p.1 p.2) s) Q := by
  have e : M.bind (M.bind ma (fun x => M.bind mb fun y => M.pure (x, y))) (fun p => f p.1 p.2) s = M.bind ma (fun x => M.bind mb fun y => f x y) s := by
    show R.bind (R.bind (ma s) _) _ = R.bind (ma s) _
    cases ma s with
    | ok x s1 =>
      show R.bind (R.bind (mb s1) _) _ = R.bind (mb s1) _
      cases mb s1 <;> rfl
    | exc c fs s1 => rfl
    | bad => rfl
  rw [e]
  exact h
/-- zip(a, b) of two lists or two tuples -/
theorem mi_zip {a b : Expr} {p pos tpos : Pos} {elts : List Expr} {kk : Nat} {fz : Bool} {ma mb : Env → M S D} {ts : List Tg} (ok : T.Ok) (htt : tt = .tup ts) (hg : Gl X "zip") (hm : X.mg "zip" = none) (ha : PE X a (tK X.K T XT E fz B ma)) (hb : PE X b (tK X.K T XT E fz B mb))
    (hs : starEach [a, b] X.env = (false, eval a X.env) :: starEach [b] X.env) (hs2 : starEach [b] X.env = (false, eval b X.env) :: starEach [] X.env) (hpl : (backTo pos (starEach [b] X.env)).any (·.1) = false) :
    PI X (.Tuple elts kk tpos) (.Call (.Name "zip" p) [a, b] [] pos) (tI X.K T XT E fz B tt fun env => M.bind (ma env) fun x => M.bind (mb env) fun y => M.bind (M.opt (zips? x y)) fun p => M.pure (zipD p.1 p.2)) :=
  pi_imp (RZ.pi_zipA hg hm (tk2 ok ha hb hs hs2) hs hpl) fun σ H R ⟨g, s, env, fp, w, sl, p⟩ => ⟨g, s, env, fp, w, sl, (Post.pair p).bind.imp fun g1 s1 H1 pr ⟨w1, st1, p1⟩ v u r r2 => by
    obtain ⟨q, e, w2, st2, p2⟩ := Post.opt w1 p1.bind
    have q2 := Post.pure w1 p2
    unfold zips? at e
    split at e
    · rename_i xs ys e1 e2
      cases e
      rw [e1] at r
      rw [e2] at r2
      obtain ⟨a, vs, rfl, hq, _⟩ := brep_tup w1 r.b
      obtain ⟨b, us, rfl, hq2, _⟩ := brep_tup w1 r2.b
      exact ⟨a, b, vs, us, rfl, .inr ⟨hq, hq2, q2 _ (its_zipT ok htt r r2)⟩⟩
    · rename_i xs ys e1 e2
      cases e
      rw [e1] at r
      rw [e2] at r2
      obtain ⟨a, vs, rfl, hq, _⟩ := brep_lst w1 r.b
      obtain ⟨b, us, rfl, hq2, _⟩ := brep_lst w1 r2.b
      exact ⟨a, b, vs, us, rfl, .inl ⟨.inl (.inl hq), .inl (.inl hq2), q2 _ (its_zipL ok htt r r2)⟩⟩
    · cases e⟩
end
end Mp

set_option Elab.async false
set_option linter.all false
set_option maxRecDepth 100000
set_option maxHeartbeats 4000000
/-! New lists by operators and calls. -/
namespace Mp
open PySem PySem.Spec PyProof.Rows L2

def lstOnly (f : D → D → Option D) (a b : D) : Option (List D) := (f a b).bind asLst
section
variable {S : Type} {X : Cx} {T : Tab S} {XT : ExcT} {E : XK} {B : Hp}
/-- what makes a new list asks -/
def FrQ (K : PySem.W.Frag) (T : Tab S) (g : Gh) (H : Hp) (c : List D) (Q : VK) : Prop := ∀ p vs, H p = none → Reps K T g c vs → Q (.ref p) (upd H p (.lst vs))
def rOpF (K : PySem.W.Frag) (T : Tab S) (f : D → D → Option D) : R2 := fun x y H Q => ∃ (g : Gh) (s : S) (a b : D) (c : List D), Wd K T g s H ∧ BRep K T g H a x ∧ BRep K T g H b y ∧ f a b = some (.lst c) ∧ FrQ K T g H c Q
theorem opF_cat : OpR X (binaryOp .Add) (rOpF X.K T addD) := by
  intro pins s σ H x y v u Q I rx ry ⟨g, st, a, b, c, w, ra, rb, e, q⟩
  unfold addD at e
  split at e
  · cases e
  · split at e <;> cases e
  · rename_i xs ys
    split at e
    · rename_i hl
      cases e
      obtain ⟨pa, va, rfl, ha, ka⟩ := brep_lst w ra
      obtain ⟨pb, vb, rfl, hb, kb⟩ := brep_lst w rb
      have e1 := ka.length
      have e2 := kb.length
      exact op_cat pins s σ H _ _ v u Q I rx ry ⟨pa, pb, va, vb, rfl, rfl, ha, hb, lim_line (by omega), fun p hp => q p _ hp (ka.append kb)⟩
    · cases e
  · split at e <;> cases e
  · cases e
theorem opF_rep : OpR X (binaryOp .Mult) (rOpF X.K T mulD) := by
  intro pins s σ H x y v u Q I rx ry ⟨g, st, a, b, c, w, ra, rb, e, q⟩
  unfold mulD at e
  split at e
  · split at e <;> cases e
  · split at e <;> cases e
  · rename_i xs k
    split at e
    · rename_i hs
      cases e
      simp only [Bool.and_eq_true, decide_eq_true_eq] at hs
      obtain ⟨⟨h1, h2⟩, h3⟩ := hs
      obtain ⟨pa, va, rfl, ha, ka⟩ := brep_lst w ra
      cases brep_int rb
      have e1 := ka.length
      exact op_rep pins s σ H _ _ v u Q I rx ry ⟨pa, k, va, rfl, rfl, ha, by omega, by omega, lim_line (by rw [← e1]; exact h3), fun p hp => q p _ hp (ka.flat _)⟩
    · cases e
  · cases e
/-- from what an evaluator's answer is wanted for, as a new list -/
theorem frq {g : Gh} {s : S} {H H0 : Hp} {c : List D} {Q : VK} (w : Wd X.K T g s H) (hb : ∀ p, H p = none → H0 p = none)
    (h : ∀ g' H' , Step g H g' H' → Wd X.K T g' s H' → ∀ p vs ds, D.lst c = .lst ds → H0 p = none → H' p = some (.lst vs) → g'.F p = none → g'.C p = none → p ≠ g'.ha → Reps X.K T g' ds vs → Q (.ref p) H') : FrQ X.K T g H c Q := fun p vs hp r => by
  have f := w.free hp
  exact h g _ (.raw w _ hp) (w.raw _ hp) p vs c rfl (hb p hp) upd_same f.1 f.2.1 f.2.2 r
theorem mf_op {a b : Expr} {pos : Pos} {ma mb : Env → M S D} {f : D → D → Option D} {op : Operator} (ok : T.Ok) (ho : OpR X (binaryOp op) (rOpF X.K T f)) (hf : ∀ x y c, f x y = some c → (∃ xs, x = .lst xs) → ∃ ys, c = .lst ys) (hl : ∀ env s, match ma env s with | .ok (.lst _) _ => True | .ok _ _ => False | _ => True) (ha : PE X a (tB X.K T XT E B ma)) (hb : PE X b (tB X.K T XT E B mb)) :
    PE X (.BinOp a op b pos) (tF X.K T XT E B fun env => M.bind (ma env) fun x => M.bind (mb env) fun y => M.opt (f x y)) :=
  pe_imp (pe_op ho ha hb) fun σ H Q ⟨g, s, env, fp, w, sl, p⟩ => by
    refine ⟨g, s, env, fp, w, sl, ?_⟩
    have h0 := hl env s
    have p := p.bind
    cases ea : ma env s with
    | ok x s1 =>
      rw [ea] at p h0
      intro g1 H1 st1 w1 v r1
      obtain ⟨_, _, p1⟩ := p g1 H1 st1 w1
      have hx : ∃ xs, x = .lst xs := by
        cases x with
        | lst xs => exact ⟨xs, rfl⟩
        | _ => exact h0.elim
      refine ⟨g1, s1, env, fp, w1, sl.step ok st1, p1.bind.imp fun g2 s2 H2 y ⟨w2, st2, p2⟩ u r2 => ?_⟩
      cases e : f x y with
      | none => rw [e] at p2; exact p2.elim
      | some c =>
        obtain ⟨ys, rfl⟩ := hf x y c e hx
        rw [e] at p2
        exact ⟨g2, s2, x, y, ys, w2, r1.step ok st2, r2, e, frq w2 (fun p hp => st1.fresh (st2.fresh hp)) p2⟩
    | exc c fs s1 => rw [ea] at p; exact p
    | bad => rw [ea] at p; exact p
theorem addD_lst {x y c : D} (h : addD x y = some c) (hx : ∃ xs, x = .lst xs) : ∃ ys, c = .lst ys := by
  obtain ⟨xs, rfl⟩ := hx
  unfold addD at h
  split at h
  · rename_i h1; cases h1
  · rename_i h1; cases h1
  · split at h
    · cases h; exact ⟨_, rfl⟩
    · cases h
  · rename_i h1; cases h1
  · cases h
theorem mulD_lst {x y c : D} (h : mulD x y = some c) (hx : ∃ xs, x = .lst xs) : ∃ ys, c = .lst ys := by
  obtain ⟨xs, rfl⟩ := hx
  unfold mulD at h
  split at h
  · rename_i h1; cases h1
  · rename_i h1; cases h1
  · split at h
    · cases h; exact ⟨_, rfl⟩
    · cases h
  · cases h
/-- list(e) -/
theorem mf_blist {e : Expr} {p pos : Pos} {ms : Env → M S (List D)} (ok : T.Ok) (hg : Gl X "list") (hm : X.mg "list" = none) (ha : PA X [e] (tLB X.K T XT E B ms)) (he : starEach [e] X.env = (false, eval e X.env) :: starEach [] X.env) (hpl : (backTo pos (starEach [] X.env)).any (·.1) = false) :
    PE X (.Call (.Name "list" p) [e] [] pos) (tF X.K T XT E B fun env => M.bind (ms env) fun ds => M.opt (biList ds)) := by
  have cr : CallR X (.type "list") fun vs H Q => ∃ (g : Gh) (s : S) (ds : List D) (c : List D), Wd X.K T g s H ∧ BReps X.K T g H ds vs ∧ biList ds = some (.lst c) ∧ FrQ X.K T g H c Q := by
    intro pins s σ H xs us Q I r ⟨g, st, ds, c, w, rs, e, q⟩
    unfold biList at e
    split at e
    · cases e
      obtain ⟨v, rfl, rv⟩ := breps1 rs
      obtain ⟨pa, va, rfl, ha, ka⟩ := brep_lst w rv
      exact call_list_of pins s σ H _ us Q I r ⟨pa, va, rfl, .inl (.inl (.inl ha)), fun l hl => q l _ hl ka⟩
    · cases e
      obtain ⟨v, rfl, rv⟩ := breps1 rs
      obtain ⟨pa, va, rfl, ha, ka, la⟩ := brep_tup w rv
      exact call_list_of pins s σ H _ us Q I r ⟨pa, va, rfl, .inr ha, fun l hl => q l _ hl ka⟩
    · cases e
  refine pe_imp (pe_callTy cr hg hm rfl ha (by decide) (by decide) he hpl) fun σ H Q ⟨g, s, env, fp, w, sl, p⟩ => ⟨g, s, env, fp, w, sl, p.bind.imp fun g1 s1 H1 ds ⟨w1, st1, p1⟩ vs r => ?_⟩
  cases e : biList ds with
  | none => rw [e] at p1; exact p1.elim
  | some c =>
    rw [e] at p1
    have hc : ∃ ys, c = .lst ys := by
      unfold biList at e
      split at e <;> cases e <;> exact ⟨_, rfl⟩
    obtain ⟨ys, rfl⟩ := hc
    exact ⟨g1, s1, ds, ys, w1, r, e, frq w1 (fun p hp => st1.fresh hp) p1⟩
end
end Mp

set_option Elab.async false
set_option linter.all false
set_option maxRecDepth 100000
set_option maxHeartbeats 4000000
/-! sorted of tuples, the first of them empty. -/
namespace Mp
open PySem PySem.Spec PyProof.Rows PySem.W PySem.SeqAt
open MeetsSeq MeetsSeq2 MeetsSeq3 SeqRoads2

section
variable {A : Around} {s : Shared}
theorem call_tup_lt {prog : Program} {w : World} {E : Value → Shared → Prop} {Q : Value → Shared → Prop} {l b : Addr} {items items2 : Array Value} {e r : Nat → Bool} (hl : s.heap.IsTuple l items) (hb : s.heap.IsTuple b items2)
    (he : ∀ j (h1 : j < items.size) (h2 : j < items2.size), EqAt A.in1 s items[j] items2[j] (e j)) (hr : ∀ j (h1 : j < items.size) (h2 : j < items2.size), e j = false → RcLt A.in1 s items[j] items2[j] (r j))
    (h : Q (.bool (firstLt e r (decide (items.size < items2.size)) (List.range (min items.size items2.size)))) s) : wpAny (model prog w) A (call (.builtin "tuple.__lt__") [.ref l, .ref b]) Q E s := by
  obtain ⟨⟨cls, dd, data, sl⟩, ho, hc, n, hd⟩ := id hl
  obtain ⟨⟨cls2, dd2, data2, sl2⟩, ho2, hc2, n2, hd2⟩ := id hb
  simp only at hc hd hc2 hd2
  subst hc hd hc2 hd2
  exact call_meets F.slot_tuple_lt ⟨_, ho, rfl⟩ F.entry_tuple_lt (F.args_tuple_lt_2 _ _) (tuple_ltAt l b items items2 n n2 dd dd2 sl sl2 e r) ⟨ho, ho2, he, hr, h⟩
variable {prog : Program} {w : World}
theorem oneLt_tup {E : Value → Shared → Prop} {xs ys : List PyData} {a b : Value} {as bs : List Addr} {Q : Bool → Shared → Prop} (ra : Reads s.heap a (.tuple xs) as) (rb : Reads s.heap b (.tuple ys) bs) (h : alike (.tuple xs) (.tuple ys) = true)
    (hu : A.units + min (PyData.tuple xs).depth (PyData.tuple ys).depth < cLine) (hq : Q (dataLt (.tuple xs) (.tuple ys)) s) : wpAny (model prog w) A (oneLt' true a b) Q E s := by
  have hal : alikeAll xs ys = true := by simpa [alike] using h
  cases ra with
  | @tuple l o vs n _ as₁ h1 h2 h3 h4 =>
    cases rb with
    | @tuple l' o' vs' n' _ bs₁ k1 k2 k3 k4 =>
      have n1 : vs.size = xs.length := by simpa using SeqAt.ReadsAll.length _ _ _ h4
      have n2 : vs'.size = ys.length := by simpa using SeqAt.ReadsAll.length _ _ _ k4
      rw [dataLt_tuple, ← firstLt_toks xs ys hal, ← n1, ← n2] at hq
      rw [oneLt'_eq]
      simp only [if_true]
      refine wpAny_bind (wpAny_cRoomFor (room_here hu) ?_)
      refine wpAny_bind (wpAny_callSpecialIfBound?_slot (T := "tuple") ⟨_, h1, h2⟩ F.slot_tuple_lt (call_tup_lt (e := pairEq xs ys) (r := fun j => dataLt (xs.getD j .none) (ys.getD j .none)) ⟨_, h1, h2, _, h3⟩ ⟨_, k1, k2, _, k3⟩ (fun j j1 j2 => ?_) (fun j j1 j2 hj => ?_) ?_))
      · have := eqAt_alikeAll xs ys A.in1 s vs.toList vs'.toList _ _ h4 k4 hal (room_in hu) j (by simpa using j1) (by simpa using j2)
        simpa using this
      · have := rcLt_alikeAll xs ys A.in1 s vs.toList vs'.toList _ _ h4 k4 hal (room_in hu) j (by simpa using j1) (by simpa using j2) hj
        simpa using this
      · exact wpAny_truthy_bool hq
theorem firsts_any {M : Model} {E : Value → Shared → Prop} : ∀ (vs : List Value) (ds : List PyData) {Q : List (Option Value) → Shared → Prop}, EachIs (fun v d => ∃ as, Reads s.heap v d as) vs ds → (∀ d ∈ ds, ∃ xs, d = .tuple xs) →
    (∀ os : List (Option Value), os.length = vs.length → (ds.head? = some (.tuple []) → os.head? = some none) → Q os s) → wpAny M A (vs.mapM firstOfTuple') Q E s
  | [], _, _, .nil, _, h => by rw [List.mapM_nil]; exact wpAny_pure (h [] rfl fun z => nomatch z)
  | v :: vs, d :: ds, Q, .cons r t, ht, h => by
    rw [List.mapM_cons]
    obtain ⟨xs, rfl⟩ := ht _ (List.mem_cons_self ..)
    obtain ⟨as, r⟩ := r
    cases r with
    | @tuple a o its n _ _ ho hc hd hr =>
      rw [kas_first_eq]
      refine wpAny_bind (wpAny_bind (Looks.here (show Looks M s.heap (typeOf (.ref a)) o.cls from (Looks.ld ho).andThen .now) ?_))
      rw [hc, if_neg (by first | decide | simp)]
      refine wpAny_bind (listItems_at ho hd ?_)
      refine wpAny_pure (wpAny_bind (firsts_any vs ds t (fun d hd => ht d (List.mem_cons_of_mem _ hd)) fun os hl _ => wpAny_pure (h _ (by rw [List.length_cons, List.length_cons, hl]) fun z => ?_)))
      have z : xs = [] := by simpa using z
      subst z
      have : its.toList.length = 0 := by simpa using SeqAt.ReadsAll.length _ _ _ hr
      have e0 : its.size = 0 := by simpa using this
      simp [e0]
theorem kind_empty {M : Model} {E : Value → Shared → Prop} {vs : List Value} {ds : List PyData} {Q : SortKind → Shared → Prop} (e : EachIs (fun v d => ∃ as, Reads s.heap v d as) vs ds) (ht : ∀ d ∈ ds, ∃ xs, d = .tuple xs) (h0 : ds.head? = some (.tuple [])) (h : Q oneType' s) : wpAny M A (keyKind' vs.toArray) Q E s := by
  rw [keyKind'_eq, List.mapM_toArray, map_eq_pure_bind]
  refine wpAny_bind (wpAny_bind (firsts_any vs ds e ht fun os hl hh => wpAny_pure ?_))
  have hh := hh h0
  have hne : vs ≠ [] := by
    rintro rfl
    cases e
    cases h0
  cases os with
  | nil => cases hh
  | cons o os =>
    have : o = none := by simpa using hh
    subst this
    rw [if_neg (by simp), if_neg (by simp)]
    rw [oneTypeOnly'_eq, List.mapM_toArray, map_eq_pure_bind]
    refine wpAny_bind (wpAny_bind (wpAny_bind (kas_mapM (r := Value.type "tuple") _ (fun v hv Q' hq => ?_) (wpAny_pure ?_))))
    · obtain ⟨d, hd, as, r⟩ := e.left v hv
      obtain ⟨xs, rfl⟩ := ht d hd
      exact (looks_reads r).here hq
    · have hall : ((List.map (fun _ => Value.type "tuple") vs).toArray.all fun x => x == Value.type "tuple") = true := by
        simp only [List.all_toArray, List.all_map, List.all_eq_true]
        intro _ _
        rfl
      have h0 : (List.map (fun _ => Value.type "tuple") vs).toArray[0]? = some (Value.type "tuple") := by
        cases vs with
        | nil => exact absurd rfl hne
        | cons => simp
      rw [h0]
      simp only [hall, if_true]
      exact wpAny_pure (wpAny_pure h)
theorem sortsAt_empty {vs : List Value} {ds : List PyData} (e : EachIs (fun v d => ∃ as, Reads s.heap v d as) vs ds) (hal : AllAlike ds) (ht : ∀ d ∈ ds, ∃ xs, d = .tuple xs) (h0 : ds.head? = some (.tuple [])) (hu : ∀ d, d ∈ ds → A.units + d.depth < cLine) : SortsAt prog w A s (dataKind s.heap ds) vs := by
  refine ⟨fun v hv => ?_, oneType', ?_, fun h2 E Q hq => kind_empty e ht h0 hq⟩
  · obtain ⟨d, hd, as, r⟩ := e.left v hv
    exact ⟨_, dataKind_some hal hd r⟩
  · intro E x y a b Q ha hb hq
    obtain ⟨d, as, hd, ra, rfl⟩ := dataKind_inv ha
    obtain ⟨d', as', hd', rb, rfl⟩ := dataKind_inv hb
    rw [keyLt'_oneType]
    obtain ⟨xs, rfl⟩ := ht d hd
    obtain ⟨ys, rfl⟩ := ht d' hd'
    exact oneLt_tup ra rb (hal _ hd _ hd') (Nat.lt_of_le_of_lt (Nat.add_le_add_left (Nat.min_le_left _ _) _) (hu _ hd)) hq
variable {β : Type} {vs : List Value} {bs : List β} {enc : β → PyData} {R : Value → β → Prop} {E : Value → Shared → Prop}
theorem sorted_empty {l : Addr} {Q : Value → Shared → Prop} (hl : s.heap.IsList l vs.toArray) (e : EachIs R vs bs) (er : EachIs (fun v b => ∃ as, Reads s.heap v (enc b) as) vs bs) (hal : AllAlike (bs.map enc)) (ht : ∀ d ∈ bs.map enc, ∃ xs, d = .tuple xs) (h0 : (bs.map enc).head? = some (.tuple [])) (hL : bs.length ≤ sizeLine)
    (hu : ∀ b, b ∈ bs → A.units + 2 + (enc b).depth < cLine) (h : ∀ out, out.length = bs.length → EachIs R out (bs.mergeSort (dataLe false enc)) → Q (.ref (s.heap.objs.size + 1)) { s with heap := sortedAll s.heap vs (List.toArray out) }) :
    wpAny (model prog w) A (call (.builtin "sorted") [.ref l]) Q E s := by
  have er' : EachIs (fun v b => ∃ as, Reads (sortingHeap (copyHeap s.heap vs) (s.heap.objs.size + 1) vs) v (enc b) as) vs bs := er.mono fun _ _ ⟨as, r⟩ => ⟨as, PyProof.Rows.Reads.keeps (fun _ _ => sorting_copy_old) r⟩
  exact sorted_vals hl (sortsAt_empty (s := { s with heap := sortingHeap (copyHeap s.heap vs) (s.heap.objs.size + 1) vs }) (each_map (R := fun v d => ∃ as, Reads (sortingHeap (copyHeap s.heap vs) (s.heap.objs.size + 1) vs) v d as) enc er') hal ht h0 (bound_map hu)) (by rw [e.length]; exact hL)
    (h _ (by rw [sortVals_length false rfl]; exact e.length) (sortVals_data false e er' hal))
end
end Mp

set_option Elab.async false
set_option linter.all false
set_option maxRecDepth 100000
set_option maxHeartbeats 4000000
/-! sorted of plain data; list(range); sets in passing. -/
namespace Mp
open PySem PySem.Spec PyProof.Rows L2
open PySem.W (EachIs)

section
variable {S : Type} {X : Cx} {T : Tab S} {XT : ExcT} {E : XK} {B : Hp}
theorem reps_zip {K : PySem.W.Frag} {g : Gh} : ∀ {xs : List D} {vs : List V}, Reps K T g xs vs → (xs.zip vs).map (·.1) = xs ∧ (xs.zip vs).map (·.2) = vs ∧ ∀ p ∈ xs.zip vs, Rep K T g p.1 p.2
  | _, _, .nil => ⟨rfl, rfl, fun _ h => nomatch h⟩
  | _, _, .cons h r => by
    obtain ⟨a, b, c⟩ := reps_zip r
    refine ⟨by rw [List.zip_cons_cons, List.map_cons, a], by rw [List.zip_cons_cons, List.map_cons, b], fun p hp => ?_⟩
    rcases List.mem_cons.mp hp with rfl | hp
    · exact h
    · exact c p hp
theorem reps_of_zip {K : PySem.W.Frag} {g : Gh} : ∀ {l : List (D × V)}, (∀ p ∈ l, Rep K T g p.1 p.2) → Reps K T g (l.map (·.1)) (l.map (·.2))
  | [], _ => .nil
  | p :: r, h => .cons (h p List.mem_cons_self) (reps_of_zip fun q hq => h q (List.mem_cons_of_mem _ hq))
theorem each_vals : ∀ {l : List (D × V)} {us : List Value}, Vals (l.map (·.2)) us → EachIs (fun u b => RelV b.2 u) us l
  | [], _, .nil => .nil
  | _ :: _, _, .cons h r => .cons h (each_vals r)
theorem vals_each : ∀ {l : List (D × V)} {us : List Value}, EachIs (fun u b => RelV b.2 u) us l → Vals (l.map (·.2)) us
  | [], _, .nil => .nil
  | _ :: _, _, .cons h r => .cons h (vals_each r)
theorem each_mem {α β : Type} {R : α → β → Prop} {P : β → Prop} : ∀ {us : List α} {l : List β}, EachIs R us l → (∀ b ∈ l, P b) → EachIs (fun u b => R u b ∧ P b) us l
  | _, [], .nil, _ => .nil
  | _, _ :: _, .cons h r, k => .cons ⟨h, k _ List.mem_cons_self⟩ (each_mem r fun b hb => k b (List.mem_cons_of_mem _ hb))
theorem cr_msorted (ok : T.Ok) (hu : X.A.units + 64 < cLine) : CallR X (.builtin "sorted") (rBi X.K T biSorted) := by
  intro pins s σ H xs us Q I r ⟨g, st, ds, c, w, rs, e, q⟩
  unfold biSorted at e
  split at e
  · rename_i ys
    split at e
    · rename_i hs
      rw [Bool.and_eq_true] at hs
      obtain ⟨hs, hl⟩ := hs
      unfold sortable at hs
      rw [Bool.and_eq_true, Bool.and_eq_true] at hs
      obtain ⟨⟨h1, h2⟩, h3⟩ := hs
      rw [List.all_eq_true] at h1 h2
      cases e
      obtain ⟨v, rfl, rv⟩ := breps1 rs
      obtain ⟨pa, va, rfl, ha, ka⟩ := brep_lst w rv
      obtain ⟨z1, z2, z3⟩ := reps_zip ka
      obtain ⟨its, rvs, hli, hz⟩ := I.list (.inl (.inl ha))
      rw [Vals.ref1 r]
      have rvs' : Vals ((ys.zip va).map (·.2)) its := by rw [z2]; exact rvs
      have ee := each_vals rvs'
      have hmem : ∀ b ∈ ys.zip va, b.1 ∈ ys := fun b hb => by
        have : b.1 ∈ (ys.zip va).map (·.1) := List.mem_map_of_mem hb
        rwa [z1] at this
      have hlen : (ys.zip va).length = ys.length := by rw [← List.length_map (f := fun p : D × V => p.1), z1]
      have hlim : ys.length ≤ LIM := of_decide_eq_true hl
      have hsz : ys.length ≤ sizeLine := lim_line hlim
      have er : EachIs (fun v b => ∃ as, Reads s.heap v ((fun b : D × V => b.1.py) b) as) its (ys.zip va) := by
        refine (each_mem ee fun b hb => hb).mono fun u b ⟨e1, hb⟩ => ?_
        exact rep_reads I w.sub b.1 b.2 u (z3 b hb) e1 (ok_pl (h1 _ (hmem b hb)))
      have hal : PySem.W.AllAlike ((ys.zip va).map fun b => b.1.py) := by
        intro d hd d' hd'
        obtain ⟨b, hb, rfl⟩ := List.mem_map.mp hd
        obtain ⟨b', hb', rfl⟩ := List.mem_map.mp hd'
        exact List.all_eq_true.mp (h2 _ (hmem b hb)) _ (hmem b' hb')
      have hdp : ∀ b, b ∈ ys.zip va → X.A.units + 2 + ((fun b : D × V => b.1.py) b).depth < cLine := fun b hb => by
        have := ok_dp (h1 _ (hmem b hb))
        show X.A.units + 2 + b.1.py.depth < cLine
        omega
      have fin : ∀ out : List Value, out.length = (ys.zip va).length → EachIs (fun u b => RelV b.2 u) out ((ys.zip va).mergeSort (PySem.W.dataLe false fun b => b.1.py)) → EP X pins σ Q (.ref (s.heap.objs.size + 1)) { s with heap := sortedAll s.heap its (List.toArray out) } := fun out ho hout => by
        have hmv : (ys.zip va).mergeSort (PySem.W.dataLe false fun b => b.1.py) = (ys.zip va).mergeSort (fun a b => dle a.1 b.1) := rfl
        rw [hmv] at hout
        have vs' := vals_each hout
        have rr : Reps X.K T g (((ys.zip va).mergeSort (fun a b => dle a.1 b.1)).map (·.1)) (((ys.zip va).mergeSort (fun a b => dle a.1 b.1)).map (·.2)) := reps_of_zip fun p hp => z3 p ((List.mergeSort_perm _ _).mem_iff.mp hp)
        have e1 : ((ys.zip va).mergeSort (fun a b => dle a.1 b.1)).map (·.1) = ys.mergeSort dle := by
          rw [List.map_mergeSort (s := dle) (fun a _ b _ => rfl), z1]
        rw [e1] at rr
        obtain ⟨ep, he'⟩ := PyProof.Rows.sortedAll_at s.heap its out.toArray
        have hlo : (((ys.zip va).mergeSort (fun a b => dle a.1 b.1)).map (·.2)).length ≤ sizeLine := by
          rw [List.length_map, (List.mergeSort_perm _ _).length_eq, hlen]; exact hsz
        have hfree : H (s.heap.objs.size + 1) = none := I.hok.fresh (Nat.le_succ _)
        exact ⟨.ref _, upd H (s.heap.objs.size + 1) (.lst (((ys.zip va).mergeSort (fun a b => dle a.1 b.1)).map (·.2))), I.laid (t' := s.toks) (fun _ _ => PyProof.Rows.sortedAll_old) (Nat.le_succ _) ⟨hlo, out, ep, vs', he'⟩, rfl,
          q _ _ _ (.new w _ hfree) (w.new ok _ hfree) (rep_newL ok (w.free hfree).1 rr)⟩
      rcases Bool.or_eq_true_iff.mp h3 with h3 | h3
      · refine PySem.W.sorted_data (β := D × V) (bs := ys.zip va) (enc := fun b => b.1.py) (R := fun u b => RelV b.2 u) hli.isList ee er hal ?_ (by rw [hlen]; exact hsz) hdp fin
        rcases Bool.or_eq_true_iff.mp h3 with h3 | h3
        · rw [List.all_eq_true] at h3
          refine .inl fun d hd => ?_
          obtain ⟨b, hb, rfl⟩ := List.mem_map.mp hd
          have := h3 _ (hmem b hb)
          revert this
          cases b.1 with
          | tup l => cases l with
            | nil => intro z; cases z
            | cons x l => intro _; exact ⟨_, _, rfl⟩
          | _ => intro z; cases z
        · rw [List.all_eq_true] at h3
          refine .inr fun d hd => ?_
          obtain ⟨b, hb, rfl⟩ := List.mem_map.mp hd
          have := h3 _ (hmem b hb)
          have k := ok_pl (h1 _ (hmem b hb))
          revert this k
          cases b.1 <;> intro z k <;> first | (cases z; done) | (cases k; done) | exact ⟨(fun z => nomatch z), (fun _ z => nomatch z)⟩
      · obtain ⟨h4, h5⟩ := Bool.and_eq_true_iff.mp h3
        rw [List.all_eq_true] at h4
        refine sorted_empty (β := D × V) (bs := ys.zip va) (enc := fun b => b.1.py) (R := fun u b => RelV b.2 u) hli.isList ee er hal (fun d hd => ?_) ?_ (by rw [hlen]; exact hsz) hdp fin
        · obtain ⟨b, hb, rfl⟩ := List.mem_map.mp hd
          have := h4 _ (hmem b hb)
          revert this
          cases b.1 with
          | tup l => intro _; exact ⟨_, rfl⟩
          | _ => intro z; cases z
        · have e3 : (ys.zip va).map (fun b => b.1.py) = pys ys := by
            have : (ys.zip va).map (fun b => b.1.py) = ((ys.zip va).map (·.1)).map D.py := by rw [List.map_map]; rfl
            rw [this, z1]
            have q : ∀ l : List D, l.map D.py = pys l := fun l => by
              induction l with
              | nil => rfl
              | cons x r ih => rw [List.map_cons, ih]; rfl
            exact q ys
          rw [e3]
          cases ys with
          | nil => cases h5
          | cons y r =>
            cases y with
            | tup l =>
              cases l with
              | nil => rfl
              | cons => cases h5
            | _ => cases h5
    · cases e
  · cases e
end
end Mp

set_option Elab.async false
set_option linter.all false
set_option maxRecDepth 100000
set_option maxHeartbeats 4000000
/-! Sets in passing; list(range); dict. -/
namespace Mp
open PySem PySem.Spec PyProof.Rows L2
open PySem.W (EachIs)
theorem entry_set_eq : entryFor table "set.__eq__" = some Builtin.«frozenset.__eq__» := entryFor_alias (id' := "frozenset.__eq__") (by kernel_rfl) rfl (by decide +kernel) (by kernel_rfl)
section
variable {P : Program} {w : World} {A : Around} {E : Value → Shared → Prop} {s : Shared}
theorem for_calm {α : Type} {f : Int × Value → α × Unit → Sem (ForInStep (α × Unit))} {z : α × Unit} : ∀ {l : List (Int × Value)} {Q : α × Unit → Shared → Prop}, (∀ e ∈ l, ∀ Q' : ForInStep (α × Unit) → Shared → Prop, Q' (.yield z) s → wpAny (model P w) A (f e z) Q' E s) → Q z s → wpAny (model P w) A (forIn l z f) Q E s
  | [], Q, _, h => by
    rw [List.forIn_nil]
    exact wpAny_pure h
  | e :: l, Q, hf, h => by
    rw [List.forIn_cons]
    exact wpAny_bind (hf e List.mem_cons_self _ (for_calm (fun e he => hf e (List.mem_cons_of_mem _ he)) h))
theorem for_all {α : Type} {f : Int × Value → α × Unit → Sem (ForInStep (α × Unit))} {z y : α × Unit} {p : Int × Value → Bool} : ∀ {l : List (Int × Value)} {Q : α × Unit → Shared → Prop},
    (∀ e ∈ l, ∀ Q' : ForInStep (α × Unit) → Shared → Prop, Q' (if p e = true then .yield z else .done y) s → wpAny (model P w) A (f e z) Q' E s) → Q (if l.all p = true then z else y) s → wpAny (model P w) A (forIn l z f) Q E s
  | [], Q, _, h => by
    rw [List.forIn_nil]
    exact wpAny_pure h
  | e :: l, Q, hf, h => by
    rw [List.forIn_cons]
    refine wpAny_bind (hf e List.mem_cons_self _ ?_)
    rw [List.all_cons] at h
    cases hp : p e with
    | true =>
      rw [hp, Bool.true_and] at h
      exact for_all (fun e he => hf e (List.mem_cons_of_mem _ he)) h
    | false =>
      rw [hp, Bool.false_and, if_neg Bool.false_ne_true] at h
      exact wpAny_pure h
theorem int_shape {k : Int} {v : Value} (h : (intKind P w).is k v = true) : ∃ tk, v = .int k tk := by
  cases v with
  | int n tk =>
    have : (n == k) = true := h
    rw [eq_of_beq this]
    exact ⟨tk, rfl⟩
  | _ => cases h
theorem sub_run {a b : Addr} {nm : String} {S1 S2 : Int → Bool} {n1 n2 : Nat} {Q : Bool → Shared → Prop} (h1 : s.heap.SetOf (intKind P w) a S1 n1) (h2 : s.heap.SetOf (intKind P w) b S2 n2) (hl : n1 ≤ n2)
    (h : ∀ r : Bool, (r = true ↔ ∀ k, S1 k = true → S2 k = true) → Q r s) : wpAny (model P w) A (Builtin.Frozenset.subsetOf nm a b) Q E s := by
  obtain ⟨o1, es1, ep1, t1, ho1, hx1, hd1, he1, hm1, hb1, hf1, hn1⟩ := id h1
  obtain ⟨o2, es2, ep2, t2, ho2, hx2, hd2, he2, hm2, hb2, hf2, hn2⟩ := id h2
  unfold Builtin.Frozenset.subsetOf
  refine wpAny_bind (m := Builtin.Frozenset.sizeOf a) (wpAny_bind (wpAny_setEntries_of ho1 hd1 hf1 (wpAny_pure ?_)))
  refine wpAny_bind (m := Builtin.Frozenset.sizeOf b) (wpAny_bind (wpAny_setEntries_of ho2 hd2 hf2 (wpAny_pure ?_)))
  refine wp_if_neg (by omega) ?_
  refine wpAny_bind (wpAny_setEpoch_of ho1 hd1 hf1 ?_)
  unfold Builtin.Frozenset.walkUnseen Builtin.Frozenset.unchanged
  refine wpAny_bind ?_
  refine wpAny_bind (wpAny_setEntries_of ho1 hd1 hf1 (wpAny_bind (wpAny_setEntries_of ho2 hd2 hf2 ?_)))
  refine wpAny_bind (for_calm (fun e he Q' q => ?_) ?_)
  · have : ∃ k tk, e.2 = Value.int k tk := by
      rcases List.mem_append.mp he with he | he
      · obtain ⟨⟨k, hk, _⟩, _⟩ := he1 e he
        exact ⟨k, int_shape hk⟩
      · obtain ⟨⟨k, hk, _⟩, _⟩ := he2 e he
        exact ⟨k, int_shape hk⟩
    obtain ⟨k, tk, ek⟩ := this
    obtain ⟨eh, ev⟩ := e
    dsimp only at ek
    subst ek
    refine wpAny_bind (m := Builtin.Frozenset.quietEq _) (wpAny_pure ?_)
    exact wp_if_neg (by decide) (wpAny_pure q)
  · refine wpAny_pure ?_
    refine wpAny_bind (for_all (y := (some false, ())) (p := fun e => S2 (L2.keyOf e)) (fun e he Q' q => ?_) ?_)
    · obtain ⟨⟨k, hk, hh⟩, hsc⟩ := he1 e he
      obtain ⟨tk, ek⟩ := int_shape hk
      obtain ⟨eh, ev⟩ := e
      dsimp only at ek hh
      subst ek hh
      refine wpAny_bind (wpAny_holding (wpAny_setFind_of hk hsc h2 fun r hr => ?_))
      have q : Q' (if S2 k = true then .yield (none, ()) else .done (some false, ())) s := q
      rw [← hr] at q
      cases r with
      | none => exact wpAny_pure q
      | some n => exact wpAny_bind (wpAny_bind (wpAny_setEpoch_of ho1 hd1 hf1 (wp_if_neg (by simp) (wpAny_pure (wpAny_pure q)))))
    · have key : (es1.toList.all fun e => S2 (L2.keyOf e)) = true ↔ ∀ k, S1 k = true → S2 k = true := by
        rw [List.all_eq_true]
        constructor
        · intro z k hk
          obtain ⟨e, he, hi⟩ := (hm1 k).mp hk
          have y := z e he
          obtain ⟨tk, ek⟩ := int_shape hi
          unfold L2.keyOf at y
          rw [ek] at y
          exact y
        · intro z e he
          obtain ⟨⟨k, hk, hh⟩, hsc⟩ := he1 e he
          have y := z k ((hm1 k).mpr ⟨e, he, hk⟩)
          obtain ⟨tk, ek⟩ := int_shape hk
          unfold L2.keyOf
          rw [ek]
          exact y
      cases z : es1.toList.all fun e => S2 (L2.keyOf e) with
      | true => exact wpAny_pure (h true ⟨fun _ => key.mp z, fun _ => rfl⟩)
      | false => exact wpAny_pure (h false ⟨fun y => (by cases y), fun y => by rw [key.mpr y] at z; cases z⟩)
theorem set_eq {a b : Addr} {S1 S2 : Int → Bool} {n1 n2 : Nat} {Q : Value → Shared → Prop} (h1 : s.heap.SetOf (intKind P w) a S1 n1) (h2 : s.heap.SetOf (intKind P w) b S2 n2) (hu : A.units < cLine)
    (h : ∀ r : Bool, (r = true ↔ (n1 = n2 ∧ ∀ k, S1 k = true → S2 k = true)) → Q (.bool r) s) : wpAny (model P w) A (compareOp .Eq (.ref a) (.ref b)) Q E s := by
  show wpAny _ _ (richCompare .Eq (.ref a) (.ref b)) Q E s
  refine wpAny_richCompare_same_room h1.typeIs h2.typeIs F.slot_set_eq (wpAny_call_entry F.slot_set_eq h1.typeIs entry_set_eq ?_ (F.args_set_eq_2 _ _)) hu
  delta Builtin.«frozenset.__eq__»
  obtain ⟨o1, es1, ep1, t1, ho1, hx1, hd1, he1, hm1, hb1, hf1, hn1⟩ := id h1
  obtain ⟨o2, es2, ep2, t2, ho2, hx2, hd2, he2, hm2, hb2, hf2, hn2⟩ := id h2
  refine wpAny_bind (m := Builtin.Frozenset.slot1 "__eq__" _) (wpAny_of_eq (a := (Value.ref a, Value.ref b)) (by rfl) ?_)
  dsimp only
  have sub_sf : isSubtype (.type "set") (.type "frozenset") = pure false := by rw [isSubtype_type]; kernel_rfl
  have any : ∀ {Q' : Bool → Shared → Prop}, Q' true s → wpAny (model P w) A.in1 (Builtin.Frozenset.isAnySet (.ref b)) Q' E s := fun q => by
    unfold Builtin.Frozenset.isAnySet orM
    exact wpAny_bind (wpAny_isInstance h2.typeIs sub_set_self (wpAny_pure q))
  refine wpAny_bind (any ?_)
  refine wp_if_neg (by decide) ?_
  refine wpAny_bind (m := Builtin.Frozenset.addrOf (.ref a)) (wpAny_pure ?_)
  refine wpAny_bind (m := Builtin.Frozenset.addrOf (.ref b)) (wpAny_pure ?_)
  refine wpAny_bind (m := Builtin.Frozenset.sizeOf a) (wpAny_bind (wpAny_setEntries_of ho1 hd1 hf1 (wpAny_pure ?_)))
  refine wpAny_bind (m := Builtin.Frozenset.sizeOf b) (wpAny_bind (wpAny_setEntries_of ho2 hd2 hf2 (wpAny_pure ?_)))
  by_cases hn : n1 = n2
  · rw [if_neg (by rw [hn1, hn2, hn]; simp)]
    refine wpAny_bind ?_
    have inst : wpAny (model P w) A.in1 (isInstance (Value.ref a) (Value.type "frozenset") <&&> isInstance (Value.ref b) (Value.type "frozenset")) (fun r s' => r = false ∧ s' = s) E s := by
      unfold andM
      exact wpAny_bind (wpAny_isInstance h1.typeIs sub_sf (wpAny_pure ⟨rfl, rfl⟩))
    refine wpAny_bind (wpAny_mono inst (fun r s' ⟨e1, e2⟩ => ?_) fun _ _ z => z)
    subst e1 e2
    refine wp_if_neg (by decide) ?_
    refine sub_run h1 h2 (Nat.le_of_eq hn) fun r hr => wpAny_pure ⟨_, rfl, (fun z => nomatch z), h r ?_⟩
    rw [hr]
    exact ⟨fun z => ⟨hn, z⟩, fun z => z.2⟩
  · rw [if_pos (by rw [hn1, hn2]; simpa using hn)]
    exact wpAny_bind (wpAny_pure (wpAny_pure ⟨_, rfl, (fun z => nomatch z), h false ⟨fun z => (by cases z), fun z => absurd z.1 hn⟩⟩))
end
/-! ### ints without the doubles -/
theorem dedI_mem {k : Int} : ∀ {l : List Int}, k ∈ dedI l ↔ k ∈ l
  | [] => Iff.rfl
  | x :: r => by
    have ih := dedI_mem (k := k) (l := r)
    unfold dedI
    split
    · rename_i h
      rw [ih, List.mem_cons]
      exact ⟨.inr, fun z => z.elim (fun e => by rw [e]; simpa using h) id⟩
    · rw [List.mem_cons, List.mem_cons, ih]
theorem dedI_nodup : ∀ l : List Int, (dedI l).Nodup
  | [] => List.nodup_nil
  | x :: r => by
    unfold dedI
    split
    · exact dedI_nodup r
    · rename_i h
      exact List.nodup_cons.mpr ⟨fun z => h (by simpa using dedI_mem.mp z), dedI_nodup r⟩
theorem ded_len {l m : List Int} (hl : l.Nodup) (h : ∀ k, k ∈ l ↔ k ∈ m) : l.length = (dedI m).length :=
  ((List.perm_ext_iff_of_nodup hl (dedI_nodup m)).mpr fun k => (h k).trans dedI_mem.symm).length_eq
theorem dedup_nodup : ∀ (l acc : List Int), acc.Nodup → (l.foldl PyProof.Rows.step_dedup acc).Nodup ∧ ∀ k, k ∈ l.foldl PyProof.Rows.step_dedup acc ↔ k ∈ acc ∨ k ∈ l
  | [], acc, h => ⟨h, fun k => by simp⟩
  | x :: r, acc, h => by
    rw [List.foldl_cons]
    unfold PyProof.Rows.step_dedup
    by_cases hx : (acc.any fun y => y == x) = true
    · rw [if_pos hx]
      obtain ⟨a, b⟩ := dedup_nodup r acc h
      refine ⟨a, fun k => ?_⟩
      have hx : x ∈ acc := by simpa using hx
      refine (b k).trans ⟨fun z => z.imp id (List.mem_cons_of_mem _), fun z => z.elim .inl fun y => ?_⟩
      rcases List.mem_cons.mp y with rfl | y
      · exact .inl hx
      · exact .inr y
    · rw [if_neg hx]
      have hx : x ∉ acc := by simpa using hx
      obtain ⟨a, b⟩ := dedup_nodup r (acc ++ [x]) (List.nodup_append.mpr ⟨h, by simp, fun u hu v hv z => by
        rw [List.mem_singleton] at hv
        rw [z, hv] at hu
        exact hx hu⟩)
      refine ⟨a, fun k => ?_⟩
      refine (b k).trans ?_
      rw [List.mem_append, List.mem_singleton, List.mem_cons]
      exact ⟨fun z => by rcases z with (z | z) | z <;> simp [z], fun z => by rcases z with z | z | z <;> simp [z]⟩
theorem sub_len : ∀ {l m : List Int}, l.Nodup → (∀ k ∈ l, k ∈ m) → l.length ≤ m.length
  | [], _, _, _ => Nat.zero_le _
  | x :: r, m, h, q => by
    obtain ⟨h1, h2⟩ := List.nodup_cons.mp h
    have hx := q x List.mem_cons_self
    have ih := sub_len (m := m.erase x) h2 fun k hk => (List.mem_erase_of_ne (fun z => h1 (by rw [← z]; exact hk))).mpr (q k (List.mem_cons_of_mem _ hk))
    have e := List.length_erase_of_mem hx
    have p := List.length_pos_of_mem hx
    rw [List.length_cons]
    omega
theorem sub_same {ns ms : List Int} : sameI ns ms = true ↔ ((dedI ns).length = (dedI ms).length ∧ ∀ k, decide (k ∈ ns) = true → decide (k ∈ ms) = true) := by
  unfold sameI
  rw [Bool.and_eq_true, List.all_eq_true, List.all_eq_true]
  simp only [List.contains_iff_mem, decide_eq_true_eq]
  constructor
  · intro ⟨a, b⟩
    refine ⟨ded_len (dedI_nodup ns) fun k => dedI_mem.trans ⟨a k, b k⟩, a⟩
  · intro ⟨a, b⟩
    refine ⟨b, fun k hk => ?_⟩
    refine Decidable.by_contra fun hn => ?_
    have := sub_len (l := k :: dedI ns) (m := dedI ms) (List.nodup_cons.mpr ⟨fun z => hn (dedI_mem.mp z), dedI_nodup ns⟩) fun j hj => by
      rcases List.mem_cons.mp hj with rfl | hj
      · exact dedI_mem.mpr hk
      · exact dedI_mem.mpr (b j (dedI_mem.mp hj))
    rw [List.length_cons] at this
    omega
theorem scan1000 {n : Nat} (h : n ≤ 1000) : n + 1 < scanBound := by
  unfold scanBound
  omega
theorem setR_len {w : World} {h : Heap} {a : Addr} {ns : List Int} {n : Nat} (R : SetR w h a (fun k => decide (k ∈ ns)) n) : n = (dedI ns).length := by
  obtain ⟨o, es, ep, t, ho, hx, hd, g, nd, hm, hb, hf, hn, _⟩ := R
  rw [← hn, ← Array.length_toList, ← List.length_map (f := L2.keyOf)]
  exact ded_len nd fun k => by rw [← hm k, decide_eq_true_eq]
/-- set(e) of a short list or tuple of ints -/
def tSt {S : Type} (K : PySem.W.Frag) (T : Tab S) (XT : ExcT) (E : XK) (B : Hp) (m : Env → M S D) : TE := fun σ H Q => ∃ g s env fp, Wd K T g s H ∧ Slots K T g H B env σ fp ∧ Post K T XT E g H (M.bind (m env) (fun x => M.opt (setInts x)) s) fun g' _ H' ns =>
  ns.length ≤ 1000 → ∀ p, H' p = none → Q (.ref p) (upd H' p (.set (fun k => decide (k ∈ ns)) (dedI ns).length))
theorem ints_len : ∀ {xs : List D} {ns : List Int}, ints? xs = some ns → xs.length = ns.length
  | [], _, e => by cases e; rfl
  | x :: r, ns, e => by
    unfold ints? at e
    split at e
    · rename_i h; cases h
    · rename_i i r' h
      injection h with h1 h2
      obtain ⟨ms, e1, rfl⟩ := Option.map_eq_some_iff.mp e
      subst h1 h2
      rw [List.length_cons, List.length_cons, ints_len e1]
    · cases e
theorem setInts_len {d : D} {ns : List Int} (h : setInts d = some ns) : ns.length ≤ 1000 := by
  unfold setInts at h
  obtain ⟨xs, e1, e2⟩ := Option.bind_eq_some_iff.mp h
  split at e2
  · rename_i hl
    rw [← ints_len e2]; exact hl
  · cases e2
section
variable {S : Type} {X : Cx} {T : Tab S} {XT : ExcT} {E : XK} {B : Hp}
theorem m_set {e : Expr} {p pos : Pos} {m : Env → M S D} (ok : T.Ok) (hc : X.calm = true) (hg : Gl X "set") (hm : X.mg "set" = none) (ha : PE X e (tB X.K T XT E B m)) (he : starEach [e] X.env = (false, eval e X.env) :: starEach [] X.env) (hpl : (backTo pos (starEach [] X.env)).any (·.1) = false) :
    PE X (.Call (.Name "set" p) [e] [] pos) (tSt X.K T XT E B m) := by
  have cr : CallR X (.type "set") fun vs H Q => ∃ (g : Gh) (s : S) (d : D) (v : V) (ns : List Int), vs = [v] ∧ Wd X.K T g s H ∧ BRep X.K T g H d v ∧ setInts d = some ns ∧ ∀ p, H p = none → Q (.ref p) (upd H p (.set (fun k => decide (k ∈ ns)) (dedI ns).length)) := by
    intro pins s σ H xs us Q I r ⟨g, st, d, v, ns, ev, w, rv, e, q⟩
    subst ev
    have hl := setInts_len e
    have lay : ∀ {h' : Heap} {t' : Nat}, (∀ b o, s.heap.get? b = some o → h'.get? b = some o) → h'.SetOf (intKind X.prog X.w) s.heap.objs.size (fun k => decide (k ∈ ns)) (dedI ns).length → EP X pins σ Q (.ref s.heap.objs.size) { s with heap := h', toks := t' } := fun {h' t'} k hS =>
      ⟨.ref s.heap.objs.size, upd H s.heap.objs.size (.set (fun k => decide (k ∈ ns)) (dedI ns).length), I.laid (t' := t') k (Nat.le_refl _) (show ObjOk X.prog X.w _ _ _ (.set (fun k => decide (k ∈ ns)) (dedI ns).length) from hS), rfl, q _ (I.hok.fresh (Nat.le_refl _))⟩
    unfold setInts at e
    obtain ⟨ys, e1, e2⟩ := Option.bind_eq_some_iff.mp e
    split at e2
    · cases d with
      | tup zs =>
        cases e1
        obtain ⟨pa, va, rfl, ha, ka, _⟩ := brep_tup w rv
        have := ints_reps e2 ka
        subst this
        rw [Vals.ref1 r]
        obtain ⟨its, rvs, ht, _⟩ := I.tuple ha
        exact call_set_tupI ns (I.ok.hd hc) (show s.heap.IsTuple pa its.toArray from ht) (ints_of_vals rvs) (scan1000 hl) fun h' tk c hR hcn k => lay k (by
          have e3 := setR_len hR
          subst e3
          exact hR.setOf)
      | lst zs =>
        cases e1
        obtain ⟨pa, va, rfl, ha, ka⟩ := brep_lst w rv
        have := ints_reps e2 ka
        subst this
        rw [Vals.ref1 r]
        obtain ⟨its, rvs, hli, _⟩ := I.list (.inl (.inl ha))
        have hia := ints_of_vals rvs
        have hlen : its.length = ns.length := hia.length
        have eM : (List.range its.toArray.size).map (fun i => ns.getD i 0) = ns := by
          rw [List.size_toArray, hlen]
          refine List.ext_getElem (by simp) fun i h1 h2 => ?_
          rw [List.getElem_map, List.getElem_range, List.getD_eq_getElem?_getD, List.getElem?_eq_getElem h2]
          rfl
        obtain ⟨nd, mm⟩ := dedup_nodup ns [] List.nodup_nil
        have eF : PyProof.Rows.firstMet (fun i => ns.getD i 0) its.toArray.size = ns.foldl PyProof.Rows.step_dedup [] := by
          unfold PyProof.Rows.firstMet
          rw [eM]
        refine call_set_list (I.ok.hd hc) hli.isList hia (by rw [List.size_toArray, hlen]; exact scan1000 hl) fun h' tk hS k => lay (fun b o e => k b o (Heap.lt_size e) e) ?_
        rw [eF] at hS
        refine PyProof.Rows.SetOf_congr hS (fun k => ?_) (ded_len nd fun k => (mm k).trans (by simp))
        rw [Bool.eq_iff_iff, decide_eq_true_eq, List.any_eq_true]
        have := mm k
        simp only [List.not_mem_nil, false_or] at this
        rw [← this]
        exact ⟨fun ⟨x, hx, hk⟩ => by rw [← eq_of_beq hk]; exact hx, fun z => ⟨k, z, by simp⟩⟩
      | _ => cases e1
    · cases e2
  refine pe_imp (pe_callTy cr hg hm rfl (pa_cons ha pa_nil he) (by decide) (by decide) he hpl) fun σ H Q ⟨g, s, env, fp, w, sl, p⟩ => tB.of ok w sl p fun g1 s1 H1 x v st1 w1 sl1 r1 p1 => ?_
  obtain ⟨ns, e, q⟩ := Post.opt w1 p1
  exact ⟨g1, s1, x, v, ns, rfl, w1, r1, e, q (setInts_len e)⟩
/-- a set just made, in passing -/
theorem cr_lenset : CallR X (.builtin "len") fun vs H Q => ∃ p F n, vs = [.ref p] ∧ H p = some (.set F n) ∧ n ≤ 1000 ∧ Q (.int n) H := by
  intro pins s σ H xs us Q I r ⟨p, F, n, ev, hp, hn, q⟩
  subst ev
  rw [Vals.ref1 r]
  obtain ⟨o, es, ep, t, ho, hx, hd, he, hm, hb, hf, e⟩ := (show s.heap.SetOf (intKind X.prog X.w) p F n from I.hok p _ hp)
  refine call_len_set ho hx hd hf (by omega) ⟨.int n, H, I.tok _, ⟨_, by rw [e]⟩, q⟩
theorem op_seteq (hu : X.A.units + 64 < cLine) : OpR X (compareOp .Eq) fun x y H Q => ∃ p q ns ms, x = .ref p ∧ y = .ref q ∧ H p = some (.set (fun k => decide (k ∈ ns)) (dedI ns).length) ∧ H q = some (.set (fun k => decide (k ∈ ms)) (dedI ms).length) ∧ Q (.bl (sameI ns ms)) H := by
  intro pins s σ H x y v u Q I rx ry ⟨p, q, ns, ms, ex, ey, hp, hq, k⟩
  subst ex ey
  cases rx
  cases ry
  refine set_eq (I.hok p _ hp) (I.hok q _ hq) (by omega) fun r hr => ⟨.bl r, H, I, rfl, ?_⟩
  have : r = sameI ns ms := by
    rw [Bool.eq_iff_iff, hr, sub_same]
  rw [this]
  exact k
theorem bind3 {α β γ : Type} (m : M S α) (f : α → M S β) (h : β → M S γ) (s : S) : M.bind m (fun x => M.bind (f x) h) s = M.bind (M.bind m f) h s := by
  unfold M.bind
  cases m s <;> rfl
theorem me_lset {e : Expr} {p1 p2 q1 q2 : Pos} {m : Env → M S D} (ok : T.Ok) (hc : X.calm = true) (hgl : Gl X "len") (hml : X.mg "len" = none) (hg : Gl X "set") (hm : X.mg "set" = none) (ha : PE X e (tB X.K T XT E B m)) (he : starEach [e] X.env = (false, eval e X.env) :: starEach [] X.env) :
    PE X (.Call (.Name "len" p1) [.Call (.Name "set" p2) [e] [] q2] [] q1) (tE X.K T XT E B fun env => M.bind (m env) fun x => M.bind (M.opt (setInts x)) fun ns => M.pure (.int (dedI ns).length)) :=
  pe_imp (pe_callB cr_lenset hgl hml rfl (pa_cons (m_set ok hc hg hm ha he rfl) pa_nil rfl) (by decide) (by decide) rfl rfl) fun σ H Q ⟨g, s, env, fp, w, sl, p⟩ => by
    have p := (bind3 (m env) (fun x => M.opt (setInts x)) (fun ns => M.pure (D.int (dedI ns).length)) s) ▸ (show Post X.K T XT E g H (M.bind (m env) (fun x => M.bind (M.opt (setInts x)) fun ns => M.pure (D.int (dedI ns).length)) s) _ from p)
    refine ⟨g, s, env, fp, w, sl, p.bind.imp fun g1 s1 H1 ns ⟨w1, st1, p1⟩ hl q hq => ⟨q, _, _, rfl, upd_same, ?_, ?_⟩⟩
    · exact Nat.le_trans (sub_len (dedI_nodup ns) fun k hk => dedI_mem.mp hk) hl
    · exact p1 g1 _ (.raw w1 _ hq) (w1.raw _ hq) _ (.int _)
theorem rSe {a b : Expr} {ma mb : Env → M S D} (ok : T.Ok) {σ : L2.St} {H : Hp} {Q : Bool → Hp → Prop} {g : Gh} {s : S} {env : Env} {fp : Nat → List Addr} (w : Wd X.K T g s H) (sl : Slots X.K T g H B env σ fp)
    (p : Post X.K T XT E g H (M.bind (ma env) (fun x => M.bind (M.opt (setInts x)) fun ns => M.bind (mb env) fun y => M.bind (M.opt (setInts y)) fun ms => M.pure (D.bl (Bool.xor false (sameI ns ms)))) s) fun _ _ H' d => ∀ k, d = .bl k → Q k H') :
    tOp (fun x y H (Q : VK) => ∃ p q ns ms, x = .ref p ∧ y = .ref q ∧ H p = some (.set (fun k => decide (k ∈ ns)) (dedI ns).length) ∧ H q = some (.set (fun k => decide (k ∈ ms)) (dedI ms).length) ∧ Q (.bl (sameI ns ms)) H) (tSt X.K T XT E B ma) (tSt X.K T XT E B mb) σ H fun v H' => ∃ k, v = .bl k ∧ Q k H' := by
  rw [bind3] at p
  refine ⟨g, s, env, fp, w, sl, p.bind.imp fun g1 s1 H1 ns ⟨w1, st1, p1⟩ hl l hq => ?_⟩
  have st2 := Step.raw w1 (.set (fun k => decide (k ∈ ns)) (dedI ns).length) hq
  have w2 := w1.raw (.set (fun k => decide (k ∈ ns)) (dedI ns).length) hq
  have fr := w1.free hq
  rw [bind3] at p1
  refine ⟨g1, s1, env, fp, w2, (sl.step ok st1).step ok st2, (Post.step st2 p1).bind.imp fun g3 s3 H3 ms ⟨w3, st3, p3⟩ hl3 l3 hq3 => ?_⟩
  have e1 := st3.pres l _ upd_same fr.2.1 fr.2.2 (fun _ z => nomatch z)
  refine ⟨l, l3, ns, ms, rfl, rfl, ?_, upd_same, sameI ns ms, rfl, ?_⟩
  · rw [upd_ne (ne_of_none e1 hq3)]
    exact e1
  · exact p3 g3 _ (.raw w3 _ hq3) (w3.raw _ hq3) _ (by rw [Bool.false_xor])
abbrev evSe (ma mb : Env → M S D) : Env → M S D := fun env => M.bind (ma env) fun x => M.bind (M.opt (setInts x)) fun ns => M.bind (mb env) fun y => M.bind (M.opt (setInts y)) fun ms => M.pure (.bl (Bool.xor false (sameI ns ms)))
variable {a b : Expr} {p1 p2 q1 q2 pos : Pos} {ma mb : Env → M S D}
theorem me_eset (ok : T.Ok) (hu : X.A.units + 64 < cLine) (hc : X.calm = true) (hg : Gl X "set") (hm : X.mg "set" = none) (ha : PE X a (tB X.K T XT E B ma)) (hb : PE X b (tB X.K T XT E B mb)) (na : starEach [a] X.env = (false, eval a X.env) :: starEach [] X.env) (nb : starEach [b] X.env = (false, eval b X.env) :: starEach [] X.env) :
    PE X (.Compare (.Call (.Name "set" p1) [a] [] q1) [.Eq] [.Call (.Name "set" p2) [b] [] q2] pos) (tE X.K T XT E B (evSe ma mb)) :=
  pe_imp (pe_cmpR (op_seteq hu) (m_set ok hc hg hm ha na rfl) (m_set ok hc hg hm hb nb rfl) rfl) fun σ H Q ⟨g, s, env, fp, w, sl, p⟩ => by
    have := rSe (a := a) (b := b) (ma := ma) (mb := mb) (XT := XT) (E := E) (Q := fun k H' => Q (.bl k) H') ok w sl (p.imp fun _ _ _ d q k e => q _ (by rw [e]; exact .bl k))
    obtain ⟨g1, s1, env1, fp1, w1, sl1, p1⟩ := this
    refine ⟨g1, s1, env1, fp1, w1, sl1, p1.imp fun g2 s2 H2 ns q hl l hq => ?_⟩
    obtain ⟨g3, s3, env3, fp3, w3, sl3, p3⟩ := q hl l hq
    refine ⟨g3, s3, env3, fp3, w3, sl3, p3.imp fun g4 s4 H4 ms q hl l hq => ?_⟩
    obtain ⟨x1, x2, x3, x4, x5, x6, x7, x8, k, x9, x10⟩ := q hl l hq
    exact ⟨x1, x2, x3, x4, x5, x6, x7, x8, by rw [x9]; exact x10⟩
theorem mt_eset (ok : T.Ok) (hu : X.A.units + 64 < cLine) (hc : X.calm = true) (hg : Gl X "set") (hm : X.mg "set" = none) (ha : PE X a (tB X.K T XT E B ma)) (hb : PE X b (tB X.K T XT E B mb)) (na : starEach [a] X.env = (false, eval a X.env) :: starEach [] X.env) (nb : starEach [b] X.env = (false, eval b X.env) :: starEach [] X.env) :
    PT X (.Compare (.Call (.Name "set" p1) [a] [] q1) [.Eq] [.Call (.Name "set" p2) [b] [] q2] pos) (tT X.K T XT E B (evSe ma mb)) :=
  pt_imp (pt_cmpR (op_seteq hu) (m_set ok hc hg hm ha na rfl) (m_set ok hc hg hm hb nb rfl) rfl) fun σ H Q ⟨g, s, env, fp, w, sl, p⟩ =>
    rSe (a := a) (b := b) (ma := ma) (mb := mb) (XT := XT) (E := E) ok w sl (p.imp fun _ _ _ d ⟨k, e, q⟩ j ej => by
      rw [e] at ej
      cases ej
      exact q)
/-! ### list(range), tuple(range) -/
theorem rep_rngD {K : PySem.W.Frag} {g : Gh} (i j : Int) : Reps K T g (rngD i j) (rgV i j) := by
  unfold rngD rgV
  generalize List.range (j - i).toNat = l
  induction l with
  | nil => exact .nil
  | cons x r ih => exact .cons (.int _) ih
theorem rg_ok {i j : Int} (h : (inRng i && inRng j && decide ((j - i).toNat ≤ LIM)) = true) : RgOk i j := by
  unfold inRng at h
  simp only [Bool.and_eq_true, decide_eq_true_eq] at h
  obtain ⟨⟨⟨h1, h2⟩, h3, h4⟩, h5⟩ := h
  have := lim_def
  exact ⟨h1, h2, h3, h4, by omega⟩
abbrev evRg (t : Bool) (ma mb : Env → M S D) : Env → M S D := fun env => M.bind (ma env) fun x => M.bind (mb env) fun y => M.bind (M.opt (asInt x)) fun i => M.bind (M.opt (asInt y)) fun j =>
  M.need (inRng i && inRng j && decide ((j - i).toNat ≤ LIM)) (M.pure (if t then .tup (rngD i j) else .lst (rngD i j)))
/-- what is asked of a range -/
def tRq (K : PySem.W.Frag) (T : Tab S) (XT : ExcT) (E : XK) (B : Hp) (t : Bool) (ma mb : Env → M S D) : L2.St → Hp → (Int → Int → Hp → Prop) → Prop := fun σ H Q => ∃ (R : Gh → S → Hp → D → Prop) (g : Gh) (s : S) (env : Env) (fp : Nat → List Addr), Wd K T g s H ∧ Slots K T g H B env σ fp ∧ Post K T XT E g H (evRg t ma mb env s) R ∧
  ∀ g1 s1 H1 i j, Step g H g1 H1 → Wd K T g1 s1 H1 → (inRng i && inRng j && decide ((j - i).toNat ≤ LIM)) = true → Post K T XT E g1 H1 (M.pure (if t then .tup (rngD i j) else .lst (rngD i j)) s1) R → Q i j H1
theorem rg_two {t : Bool} (ok : T.Ok) (hg : Gl X "range") (hm : X.mg "range" = none) (ha : PE X a (tE X.K T XT E B ma)) (hb : PE X b (tE X.K T XT E B mb)) (na : starEach [a, b] X.env = (false, eval a X.env) :: starEach [b] X.env) (nb : starEach [b] X.env = (false, eval b X.env) :: starEach [] X.env) (hp : (backTo pos (starEach [b] X.env)).any (·.1) = false) :
    PRg X (.Call (.Name "range" p1) [a, b] [] pos) (tRq X.K T XT E B t ma mb) := by
  intro pins s σ H Q I ⟨R, g, st, env, fp, w, sl, p, k⟩
  refine prg_2 hg hm ha hb na nb hp pins s σ H Q I ?_
  refine tE.of' ok w sl p fun g1 s1 H1 x v st1 w1 sl1 r1 p1 => tE.of' ok w1 sl1 p1 fun g2 s2 H2 y u st2 w2 sl2 r2 p2 => ?_
  obtain ⟨i, e1, p3⟩ := Post.opt w2 p2.bind
  obtain ⟨_, _, p3⟩ := p3
  obtain ⟨j, e2, p4⟩ := Post.opt w2 p3.bind
  obtain ⟨_, _, p4⟩ := p4
  obtain ⟨h5, p5⟩ := p4.need
  cases x with
  | int i' =>
    cases e1
    cases y with
    | int j' =>
      cases e2
      cases r1
      cases r2
      exact ⟨i, j, rfl, rfl, k g2 s2 H2 i j (st1.trans st2) w2 h5 p5⟩
    | _ => cases e2
  | _ => cases e1
theorem rg_one {t : Bool} (ok : T.Ok) (hg : Gl X "range") (hm : X.mg "range" = none) (hb : PE X b (tE X.K T XT E B mb)) (nb : starEach [b] X.env = (false, eval b X.env) :: starEach [] X.env) :
    PRg X (.Call (.Name "range" p1) [b] [] pos) (tRq X.K T XT E B t (fun _ => M.pure (.int 0)) mb) := by
  intro pins s σ H Q I ⟨R, g, st, env, fp, w, sl, p, k⟩
  refine prg_1 hg hm hb nb pins s σ H Q I ?_
  have p : Post X.K T XT E g H (M.bind (mb env) (fun y => M.bind (M.opt (some 0)) fun i => M.bind (M.opt (asInt y)) fun j => M.need (inRng i && inRng j && decide ((j - i).toNat ≤ LIM)) (M.pure (if t then D.tup (rngD i j) else .lst (rngD i j)))) st) R := p
  refine tE.of' ok w sl p fun g2 s2 H2 y u st2 w2 sl2 r2 p2 => ?_
  obtain ⟨i, e1, p3⟩ := Post.opt w2 p2.bind
  obtain ⟨_, _, p3⟩ := p3
  obtain ⟨j, e2, p4⟩ := Post.opt w2 p3.bind
  obtain ⟨_, _, p4⟩ := p4
  obtain ⟨h5, p5⟩ := p4.need
  cases e1
  cases y with
  | int j' =>
    cases e2
    cases r2
    exact ⟨j, rfl, k g2 s2 H2 0 j st2 w2 h5 p5⟩
  | _ => cases e2
theorem mf_lrng {e : Expr} (hc : X.calm = true) (hg : Gl X "list") (hm : X.mg "list" = none) (he : PRg X e (tRq X.K T XT E B false ma mb)) (na : starEach [e] X.env = (false, eval e X.env) :: starEach [] X.env) : PE X (.Call (.Name "list" p1) [e] [] pos) (tF X.K T XT E B (evRg false ma mb)) :=
  pe_imp (pe_listRg hc hg hm he na) fun σ H Q ⟨g, s, env, fp, w, sl, p⟩ => ⟨_, g, s, env, fp, w, sl, p, fun g1 s1 H1 i j st1 w1 h p1 => ⟨rg_ok h, fun q hq => by
    have fr := w1.free hq
    exact p1 g1 _ (.raw w1 _ hq) (w1.raw _ hq) q _ _ rfl (st1.fresh hq) upd_same fr.1 fr.2.1 fr.2.2 (rep_rngD i j)⟩⟩
/-- tuple(range(..)), the new tuple known -/
theorem pe_tupRgF {e : Expr} {te : L2.St → Hp → (Int → Int → Hp → Prop) → Prop} (hc : X.calm = true) (hg : Gl X "tuple") (hm : X.mg "tuple" = none) (he : PRg X e te) (na : starEach [e] X.env = (false, eval e X.env) :: starEach [] X.env) :
    PE X (.Call (.Name "tuple" p1) [e] [] pos) fun σ H Q => te σ H fun i j H1 => RgOk i j ∧ NewT H1 (rgV i j) Q := by
  refine ⟨fun pins s σ H Q I h => ?_⟩
  have inner := he pins s σ H _ I h
  refine Call_ (ld_blt I hg hm boot_tuple (PyProof.Rows.callWith_type1 (args_cons (thn inner ?_) na) na))
  rintro x s1 ⟨r, i, j, t, u, v, H1, rfl, hr, I1, ⟨b1, b2, b3, b4, b5⟩, q⟩
  refine args_nil ?_
  refine call_tuple_range (n := (j - i).toNat) (I1.ok.hd hc) hr (small_one b1 b2 b3 b4) (rangeSize_nat i j) b5 ?_
  intro h' tk acc hk hi
  have I2 : Inv X pins σ H1 { s1 with heap := h', toks := tk } := I1.kept hk
  have hz : (rgV i j).length ≤ sizeLine := by
    rw [rgV_length, sizeLine_eq]
    omega
  have fin := NewT.ep (its := acc.toList) (tk := tk) I2 (vals_rg hi) hz q
  rw [Array.toArray_toList] at fin
  exact fin
theorem me_trng {e : Expr} (ok : T.Ok) (hc : X.calm = true) (hg : Gl X "tuple") (hm : X.mg "tuple" = none) (he : PRg X e (tRq X.K T XT E B true ma mb)) (na : starEach [e] X.env = (false, eval e X.env) :: starEach [] X.env) : PE X (.Call (.Name "tuple" p1) [e] [] pos) (tE X.K T XT E B (evRg true ma mb)) :=
  pe_imp (pe_tupRgF hc hg hm he na) fun σ H Q ⟨g, s, env, fp, w, sl, p⟩ => ⟨_, g, s, env, fp, w, sl, p, fun g1 s1 H1 i j st1 w1 h p1 => ⟨rg_ok h, newT_of ok w1 (rep_rngD i j) fun g' H' v st w' r => p1 g' H' st w' v r⟩⟩
/-! ### dicts -/
theorem ix_md (hu : X.A.units + 64 < cLine) : IxR X (rOp X.K T D.idx) := by
  intro value slice pins s σ H x y v u Q I rx ry ⟨g, st, a, b, c, w, ra, rb, e, q⟩ hs
  unfold D.idx at e
  split at e
  · exact ix_ms value slice pins s σ H x y v u Q I rx ry ⟨g, st, _, _, c, w, ra, rb, e, q⟩ hs
  · exact ix_ms value slice pins s σ H x y v u Q I rx ry ⟨g, st, _, _, c, w, ra, rb, e, q⟩ hs
  · split at e
    · rename_i hk
      obtain ⟨k, rfl⟩ := key_D hk
      obtain ⟨pa, kv, rfl, hp, r⟩ := brep_dct w ra
      cases brep_kD rb
      cases rx
      obtain ⟨z, e1, e2⟩ := (r.look k).2 c e
      have dg : DGet H pa (kV k) (some z) := by
        rw [← e1]
        exact DGet.k hp
      exact tail_any (dict_typeIs I dg) PySem.F.slot_dict_getitem.lookup (d_getItem (by omega) I dg ry fun w' s3 I3 rw' => ⟨z, H, I3, rw', q g H _ (.refl g H) w e2⟩) hs
    · cases e
  · cases e
theorem pairs_reps {K : PySem.W.Frag} {g : Gh} {H : Hp} {s : S} (w : Wd K T g s H) : ∀ {xs : List D} {ps : List (D × D)} {vs : List V}, pairs? xs = some ps → Reps K T g xs vs →
    ∃ (as : List Addr) (kv : List (Key × V)), vs = as.map V.ref ∧ Paired (fun p q => SqT K H p [kV q.1, q.2]) as kv ∧ RepKV K T g ps kv
  | [], _, _, e, r => by
    cases e
    cases r
    exact ⟨[], [], rfl, .nil, .nil⟩
  | x :: xs, ps, vs, e, r => by
    unfold pairs? at e
    split at e
    · rename_i h; cases h
    · rename_i k d r' h
      injection h with h1 h2
      subst h1 h2
      split at e
      · rename_i hk
        obtain ⟨k, rfl⟩ := key_D hk
        obtain ⟨ps', e1, rfl⟩ := Option.map_eq_some_iff.mp e
        cases r with
        | cons r1 r2 =>
          obtain ⟨as, kv, rfl, h3, h4⟩ := pairs_reps w e1 r2
          obtain ⟨pa, va, rfl, ha, ka, _⟩ := brep_tup w (.inl r1)
          cases ka with
          | cons k1 k2 =>
            cases k2 with
            | cons k3 k4 =>
              cases k4
              cases brep_kD (H := H) (.inl k1)
              exact ⟨pa :: as, (k, _) :: kv, rfl, .cons ha h3, .cons rfl k3 h4⟩
      · cases e
    · cases e
theorem cr_mdict (ok : T.Ok) (hc : X.calm = true) : CallR X (.type "dict") (rBi X.K T biDict) := by
  intro pins s σ H xs us Q I r ⟨g, st, ds, c, w, rs, e, q⟩
  unfold biDict at e
  split at e
  · obtain ⟨ps, e1, rfl⟩ := Option.map_eq_some_iff.mp e
    obtain ⟨v, rfl, rv⟩ := breps1 rs
    obtain ⟨pa, va, rfl, ha, ka⟩ := brep_lst w rv
    obtain ⟨as, kv, rfl, h3, h4⟩ := pairs_reps w e1 ka
    exact call_dictP hc pins s σ H _ us Q I r ⟨pa, as, kv, rfl, .inl (.inl ha), h3, fun p hp => q _ _ _ (.new w _ hp) (w.new ok _ hp) (rep_newD ok (w.free hp).1 (RepKV.merge h4 .nil))⟩
  · cases e
end
end Mp

set_option Elab.async false
set_option linter.all false
set_option maxRecDepth 100000
set_option maxHeartbeats 4000000
/-! repr of plain data, where no repr is under way. -/
namespace Mp
open PySem PySem.Spec PyProof.Rows L2

mutual
theorem py_noDict : ∀ d : D, d.py.hasDict = false
  | .non => by simp [D.py, PyData.hasDict]
  | .bl _ => by simp [D.py, PyData.hasDict]
  | .int _ => by simp [D.py, PyData.hasDict]
  | .str _ => by simp [D.py, PyData.hasDict]
  | .tup xs => by simp [D.py, PyData.hasDict, pys_noDict xs]
  | .lst xs => by simp [D.py, PyData.hasDict, pys_noDict xs]
  | .dct _ => by simp [D.py, PyData.hasDict]
  | .set _ => by simp [D.py, PyData.hasDict]
  | .ins _ _ => by simp [D.py, PyData.hasDict]
  | .hand => by simp [D.py, PyData.hasDict]
  | .clo _ _ => by simp [D.py, PyData.hasDict]
theorem pys_noDict : ∀ ds : List D, PyData.hasDictAll (pys ds) = false
  | [] => by simp [pys, PyData.hasDictAll]
  | d :: ds => by simp [pys, PyData.hasDictAll, py_noDict d, pys_noDict ds]
end
section
variable {S : Type} {X : Cx} {T : Tab S} {XT : ExcT} {E : XK} {B : Hp}
theorem repr_data {prog : Program} {w : World} {A : Around} {E' : Value → Shared → Prop} {s : Shared} {Q : Value → Shared → Prop} {d : PyData} {u : Value} {as : List Addr} (rd : Reads s.heap u d as) (h2 : d.showable = true) (hn : d.hasDict = false) (hg : A.guards = some []) (hu : A.units + (d.depth + 1) < cLine) (hsz : d.shown.length ≤ sizeLine)
    (fin : ∀ (h' : Heap) (t tk : Tok), (∀ b o, s.heap.get? b = some o → h'.get? b = some o) → Q (.str d.shown t) { s with heap := h', toks := tk }) : wpAny (model prog w) A (call (.builtin "repr") [u]) Q E' s := by
  cases rd with
  | none => exact P.repr_of_none (by have := fin s.heap s.toks (s.toks + 1) (fun _ _ e => e); rwa [PyData.shown_none] at this)
  | bool b => exact P.repr_of_bool (by have := fin s.heap s.toks (s.toks + 1) (fun _ _ e => e); rwa [PyData.shown_bool] at this)
  | int i t => exact P.repr_of_int (by simpa [PyData.showable] using h2) (by have := fin s.heap s.toks (s.toks + 1) (fun _ _ e => e); rwa [PyData.shown_int] at this)
  | str y t => exact P.repr_of_str (by have := fin s.heap s.toks (s.toks + 1) (fun _ _ e => e); rwa [PyData.shown_str] at this) (by rwa [PyData.shown_str] at hsz)
  | list a1 a2 a3 a4 => exact repr_of_reads' (.list a1 a2 a3 a4) h2 (PyData.noDict_hsm hn) hg hu (fun _ _ e => e) (fun h' t tk kp => fin h' t tk kp) hsz
  | tuple a1 a2 a3 a4 => exact repr_of_reads' (.tuple a1 a2 a3 a4) h2 (PyData.noDict_hsm hn) hg hu (fun _ _ e => e) (fun h' t tk kp => fin h' t tk kp) hsz
  | dict a1 a2 a3 a4 a5 => simp [PyData.hasDict] at hn
theorem cr_mrpr (hg : X.A.guards = some []) (hu : X.A.units + 64 < cLine) : CallR X (.builtin "repr") (rBi X.K T biRpr) := by
  intro pins s σ H xs us Q I r ⟨g, st, ds, c, w, rs, e, q⟩
  unfold biRpr at e
  split at e
  · rename_i x
    split at e
    · rename_i hx
      cases e
      obtain ⟨v, rfl, rv⟩ := breps1 rs
      obtain ⟨u, rfl, ru⟩ := vals1 r
      unfold rprOk at hx
      simp only [Bool.and_eq_true, decide_eq_true_eq] at hx
      obtain ⟨⟨⟨h1, h2⟩, h3⟩, h4⟩ := hx
      have hd := ok_dp h1
      obtain ⟨as, rd⟩ := brep_reads I w.sub rv ru (ok_pl h1)
      exact repr_data rd h2 (py_noDict x) hg (by omega) (PyData.shown_fits_bulk (B := 13) (by decide) (by decide) h3 (Nat.le_trans h4 (by decide)))
        fun h' t tk kp => ⟨.str _, H, I.kept (t' := tk) kp, ⟨_, rfl⟩, q g H _ (.refl g H) w (.str _)⟩
    · cases e
  · cases e
theorem me_rpr {e : Expr} {p pos : Pos} {ma : Env → M S D} (ok : T.Ok) (hg : X.A.guards = some []) (hu : X.A.units + 64 < cLine) (hG : Gl X "repr") (hm : X.mg "repr" = none) (ha : PE X e (tB X.K T XT E B ma)) (hs : starEach [e] X.env = (false, eval e X.env) :: starEach [] X.env) :
    PE X (.Call (.Name "repr" p) [e] [] pos) (tE X.K T XT E B fun env => M.bind (ma env) fun x => M.opt (biRpr [x])) :=
  pe_imp (pe_callB (cr_mrpr hg hu) hG hm rfl (pa_cons ha pa_nil hs) (by decide) (by decide) hs rfl) fun σ H Q ⟨g, s, env, fp, w, sl, p⟩ => tB.of ok w sl p fun g1 s1 H1 x v st1 w1 sl1 r1 p1 => by
    obtain ⟨c, e, q⟩ := Post.opt w1 p1
    exact ⟨g1, s1, [x], c, w1, .cons r1 .nil, e, fun g' H' v st w' r => by rw [e] at p1; exact p1 g' H' st w' v r⟩
end
end Mp

set_option Elab.async false
set_option linter.all false
set_option maxRecDepth 100000
set_option maxHeartbeats 4000000
/-! xs[::-1] of tuples and lists. -/
namespace Mp
open PySem PySem.Spec PyProof.Rows L2

section
variable {prog : Program} {w : World} {A : Around} {E : Value → Shared → Prop} {s : Shared}
theorem adj_back (n : Nat) : Builtin.Slice.sliceAdjust none none (-1) (n : Int) = ((n : Int) - 1, -1) := by
  unfold Builtin.Slice.sliceAdjust
  simp
theorem plc_back (n : Nat) : Builtin.Slice.slicePlaces ((n : Int) - 1) (-1) (-1) = n := by
  unfold Builtin.Slice.slicePlaces
  simp only [show ¬ ((-1 : Int) > 0) by omega, if_false]
  split
  · rw [show (- (-1 : Int)) = 1 by omega, Int.ediv_one]
    omega
  · omega
theorem pick_back (xs : Array Value) : (List.range xs.size).filterMap (fun (k : Nat) => xs[(((xs.size : Int) - 1) + (k : Int) * (-1)).toNat]?) = xs.toList.reverse := by
  have e : ∀ l : List Nat, (∀ k ∈ l, k < xs.size) → l.filterMap (fun (k : Nat) => xs[(((xs.size : Int) - 1) + (k : Int) * (-1)).toNat]?) = l.map fun k => xs.toList.reverse.getD k .none := fun l => by
    induction l with
    | nil => intro _; rfl
    | cons k r ih =>
      intro h
      have hk := h k List.mem_cons_self
      have e1 : (((xs.size : Int) - 1) + (k : Int) * (-1)).toNat = xs.size - 1 - k := by omega
      have e2 : xs[xs.size - 1 - k]? = some (xs.toList.reverse.getD k .none) := by
        rw [List.getD_eq_getElem?_getD, List.getElem?_reverse (by simpa using hk), ← Array.getElem?_toList]
        have : xs.size - 1 - k < xs.toList.length := by simp; omega
        rw [show xs.toList.length - 1 - k = xs.size - 1 - k by simp, List.getElem?_eq_getElem this]
        rfl
      rw [List.filterMap_cons, e1, e2, List.map_cons, ih fun j hj => h j (List.mem_cons_of_mem _ hj)]
  rw [e _ fun k hk => List.mem_range.mp hk]
  refine List.ext_getElem? fun i => ?_
  rw [List.getElem?_map]
  by_cases hi : i < xs.size
  · rw [List.getElem?_eq_getElem (by rw [List.length_range]; exact hi), List.getElem_range]
    show some (xs.toList.reverse.getD i .none) = _
    rw [List.getD_eq_getElem?_getD, List.getElem?_eq_getElem (by simp; exact hi)]
    rfl
  · rw [List.getElem?_eq_none (by rw [List.length_range]; omega), List.getElem?_eq_none (by simp; omega)]
    rfl
theorem getItem_tuple_back {t sl : Addr} {items : Array Value} {vs : Value} {Q : Value → Shared → Prop} (ht : IsTup s.heap t items) (hs : s.heap.IsSliceOf sl .none .none vs) (ps : IsPart vs (some (-1)))
    (h : Q (.ref s.heap.objs.size) { s with heap := s.heap.push { cls := .type "tuple", data := .seq items.toList.reverse.toArray } }) (hz : items.size ≤ sizeLine) : wpAny (model prog w) A (getItem (.ref t) (.ref sl)) Q E s := by
  have hok : sizeOk (.seq items.toList.reverse.toArray) := by
    show items.toList.reverse.toArray.size ≤ sizeLine
    simpa using hz
  obtain ⟨os, hos, hcs, hds⟩ := id hs
  have hTs : s.TypeIs (.ref sl) "slice" := ⟨os, hos, hcs⟩
  have applied : ∀ {Q' : Int × Int × Nat → Shared → Prop} {A' : Around} {E' : Value → Shared → Prop}, Q' ((items.size : Int) - 1, -1, items.size) s → wpAny (model prog w) A' (Builtin.Slice.sliceApplied (.ref sl) (pure (items.size : Int))) Q' E' s := fun {Q' A' E'} q => by
    unfold Builtin.Slice.sliceApplied Builtin.Slice.sliceFields
    refine wpAny_bind (wpAny_bind (wpAny_field hos hds (x := .none) rfl (wpAny_bind (wpAny_field hos hds (x := .none) rfl (wpAny_bind (wpAny_field hos hds (x := vs) rfl (wpAny_pure ?_)))))))
    refine wpAny_bind (HT.slicePart_ ps ?_)
    show wpAny _ _ (if ((-1 : Int) == 0) = true then _ else _) _ _ s
    rw [if_neg (by decide)]
    refine wpAny_bind (HT.slicePart_ .none (wpAny_bind (HT.slicePart_ .none (wpAny_bind (wpAny_pure ?_)))))
    show wpAny _ _ (match Builtin.Slice.sliceAdjust none none (-1) (items.size : Int) with | (lo, hi) => pure (lo, (-1 : Int), Builtin.Slice.slicePlaces lo hi (-1))) _ _ s
    rw [adj_back]
    show wpAny _ _ (pure ((items.size : Int) - 1, (-1 : Int), Builtin.Slice.slicePlaces ((items.size : Int) - 1) (-1) (-1))) _ _ s
    rw [plc_back]
    exact wpAny_pure q
  unfold getItem
  try with_reducible refine wpAny_holding ?_
  first | refine wpAny_bind (wpAny_pure ?_) | skip
  have hT := ht.typeIs
  have sg := PyProof.Rows.slot_tuple_getitem
  refine wpAny_bind (wpAny_sequenceKey hT (by decide) (wpAny_bind (wpAny_callSpecial?_slot (name := Str.ofString "__getitem__") hT sg (wpAny_call_entry sg hT PyProof.Rows.entry_tuple_getitem ?_ (PyProof.Rows.args_tuple_getitem _ _)))))
  show wpAny _ _ (Builtin.Tuple.tupleItemsOf (.ref t) >>= _) _ _ s
  refine wpAny_bind (PyProof.Rows.tupleItemsOf_ ht (wpAny_bind (wpAny_typeOf hTs ?_)))
  rw [if_pos (by decide)]
  refine wpAny_bind (applied ?_)
  show wpAny _ _ (if (((items.size : Int) - 1) == 0 && (-1 : Int) == 1 && items.size == items.size) = true then _ else _) _ _ s
  rw [if_neg (by simp), pick_back]
  have new : ∀ {A' : Around} {E' : Value → Shared → Prop} {Q' : Value → Shared → Prop}, Q' (.ref s.heap.objs.size) { s with heap := s.heap.push { cls := .type "tuple", data := .seq items.toList.reverse.toArray } } → wpAny (model prog w) A' (Builtin.Tuple.tupleExact items.toList.reverse.toArray) Q' E' s := fun q => wpAny_newObj_type q hok
  first
    | exact wpAny_bind (new (wpAny_pure ⟨_, rfl, wpAny_pure h⟩))
    | exact wpAny_bind (new (wpAny_bind (wpAny_pure (wpAny_pure ⟨_, rfl, wpAny_pure h⟩))))
    | exact wpAny_bind (wpAny_bind (new (wpAny_pure (wpAny_pure ⟨_, rfl, wpAny_pure h⟩))))
    | exact wpAny_bind (wpAny_bind (new (wpAny_pure ⟨_, rfl, wpAny_pure h⟩)))
end
section
variable {S : Type} {X : Cx} {T : Tab S} {XT : ExcT} {E : XK} {B : Hp}
def tRevT (K : PySem.W.Frag) (te : TE) : TE := fun σ H Q => te σ H fun x H1 => ∃ a xs, x = .ref a ∧ SqT K H1 a xs ∧ NewT H1 xs.reverse Q
theorem pe_revT {e : Expr} {te : TE} {k : Nat} {p1 p2 p3 pos : Pos} (he : PE X e te) : PE X (.Subscript e (.Slice none none (some (.UnaryOp .USub (.Constant (.int 1) k p1) p2)) p3) pos) (tRevT X.K te) := by
  have back : PO X (some (.UnaryOp .USub (.Constant (.int 1) k p1) p2)) (tPart (L2.tUn (L2.rU fun i => .int (-i)) (L2.tC (.int 1)))) := po_some (pe_un un_neg pe_int)
  refine ⟨fun pins s σ H Q I h => PyProof.Rows.Subscript_ (thn (he.run pins s σ H _ I h) fun v s1 ⟨x, H1, I1, r1, a, xs, ex, hx, q⟩ => ?_)⟩
  subst ex
  cases r1
  refine wpAny_Slice (thn (po_none.run pins s1 σ H1 (fun o H2 => o = none ∧ H2 = H1) I1 ⟨rfl, rfl⟩) fun vl s2 ⟨_, _, I2, pl, el, e2⟩ => thn (po_none.run pins s2 σ H1 (fun o H3 => o = none ∧ H3 = H1) (e2 ▸ I2) ⟨rfl, rfl⟩) fun vu s3 ⟨_, _, I3, pu, eu, e3⟩ =>
    thn (back.run pins s3 σ H1 (fun o H4 => o = some (-1) ∧ H4 = H1) (e3 ▸ I3) ⟨1, rfl, -1, rfl, rfl, rfl⟩) fun vs s4 ⟨_, _, I4, ps, eo, e4⟩ => ?_)
  subst el eu eo e2 e3 e4
  cases pl
  cases pu
  have I5 : Inv X pins σ _ { s4 with heap := s4.heap.push { cls := .type "slice", data := .fields #[.none, .none, vs] } } := I4.kept (t' := s4.toks) fun b ob q => Heap.get?_push_of_some _ q
  obtain ⟨its, r, ht, hz⟩ := I5.tuple hx
  show wpAny (model X.prog X.w) X.A (subscriptTail e (.Slice none none (some (.UnaryOp .USub (.Constant (.int 1) k p1) p2)) p3) (.ref a) (.ref s4.heap.objs.size)) (EP X pins σ Q) X.xe { s4 with heap := s4.heap.push { cls := .type "slice", data := .fields #[.none, .none, vs] } }
  refine tail_any (ops := [.ref a, .ref s4.heap.objs.size]) ht.typeIs (PyProof.Rows.slot_tuple_getitem.lookup) ?_ (by with_unfolding_all rfl)
  refine getItem_tuple_back ht (Heap.IsSliceOf.new _ .none .none vs) ps ?_ (by rw [List.size_toArray, ← r.length]; exact hz)
  exact NewT.ep (tk := s4.toks) I5 r.reverse (by rw [List.length_reverse]; exact hz) q
theorem me_rev {e : Expr} {ma : Env → M S D} {k : Nat} {p1 p2 p3 pos : Pos} (ok : T.Ok) (ha : PE X e (tE X.K T XT E B ma)) : PE X (.Subscript e (.Slice none none (some (.UnaryOp .USub (.Constant (.int 1) k p1) p2)) p3) pos) (tE X.K T XT E B fun env => M.bind (ma env) fun x => M.opt (revD x)) :=
  pe_imp (pe_revT ha) fun σ H Q ⟨g, s, env, fp, w, sl, p⟩ => tE.of ok w sl p fun g1 s1 H1 x v st1 w1 sl1 r1 p1 => by
    obtain ⟨c, e, q⟩ := Post.opt w1 p1
    rw [e] at p1
    cases x with
    | tup xs =>
      cases e
      cases r1 with
      | tup ht hr => exact ⟨_, _, rfl, (ht.mono w1.sub).sq, newT_of ok w1 hr.reverse fun g' H' v st w' r => p1 g' H' st w' v r⟩
    | _ => cases e
end
end Mp

set_option Elab.async false
set_option linter.all false
set_option maxRecDepth 100000
set_option maxHeartbeats 4000000
/-! The text's trees against the evaluator's. -/
namespace Mp
open PySem PySem.Spec PyProof.Rows L2

/-- how a tree is read: a lasting value, in passing, a test, a new list, a new list of new lists -/
inductive Md where
  | e | b | t | f | m
  deriving DecidableEq
/-- the module's names -/
structure Prg where
  fns : List (Str × Nat)
  cls : List (Str × Nat)
  cons : List (Str × D)
  flds : Nat → List Str
  inits : Nat → Nat
  /-- the evaluator's functions; the names in a lambda's body -/
  G : Nat → Option Fn
  lamN : Nat → List Str
  /-- classes with an own ==, its function -/
  eqs : List (Nat × Nat) := []
structure Ck where
  N : List Str
  sc : Scope
  /-- a def's own frame, not a comprehension's block -/
  own : Bool
  /-- the block's own scope, as written -/
  bs : Scope
  /-- the qualified name of a lambda made here -/
  lq : Option Str
  /-- a lambda that has been looked at -/
  lo : Nat → LamD → Bool
  pr : Prg
  /-- the law's own body: no repr is under way -/
  gd : Bool := false
def Bop.is (b : Bop) (o : Operator) : Bool := decide (b.py = o)
def Cop.is (b : Cop) (o : CmpOp) : Bool := decide (b.py = o)
def notD (x : Str) : Bool := !(x == ("__debug__" : Str)) && !(x == ("__classdict__" : Str)) && !(x == ("__name__" : Str))
def visB (sc : Scope) (x : Str) : Bool := match sc.names.lookup x with
  | some .local => true
  | some .cell => true
  | some .free => true
  | _ => false
def locB (Γ : Ck) (x : Str) : Bool := match Γ.sc.names.lookup x with
  | some .local => true
  | some .cell => Γ.own || decide (Γ.bs.names.lookup x = some .cell)
  | _ => false
def glB (Γ : Ck) (x : Str) : Bool := decide (Γ.sc.names.lookup x = some .globalImplicit)
def ckVar (Γ : Ck) (i : Nat) (x : Str) : Bool := decide (Γ.N[i]? = some x) && visB Γ.sc x && notD x
def conB : D → Const → Bool
  | .non, .none => true
  | .bl a, .bool b => a == b
  | .int a, .int b => decide (a = b)
  | .str a, .str b => decide (a = b)
  | _, _ => false
def dB : D → D → Bool
  | .non, .non => true
  | .bl a, .bl b => a == b
  | .int a, .int b => decide (a = b)
  | .str a, .str b => decide (a = b)
  | _, _ => false
def plainE : Expr → Bool
  | .Starred _ _ => false
  | _ => true
def allPlain (es : List Expr) : Bool := es.all plainE
def notSl : Expr → Bool
  | .Slice _ _ _ _ => false
  | _ => true
/-- its truth is its value's -/
def plainT : Expr → Bool
  | .UnaryOp _ _ _ => false
  | .BoolOp _ _ _ => false
  | .IfExp _ _ _ _ => false
  | .Compare _ _ _ _ => false
  | _ => true
def notSup : Expr → Bool
  | .Call (.Name id _) [] [] _ => !(id == ("super" : Str))
  | _ => true
/-- names of built-ins -/
def Bi.name : Bi → Option (Str × Bool)
  | .len => some ("len", false)
  | .tuple => some ("tuple", true)
  | .list => some ("list", true)
  | .all => some ("all", false)
  | .any => some ("any", false)
  | .min => some ("min", false)
  | .max => some ("max", false)
  | .sum => some ("sum", false)
  | .abs => some ("abs", false)
  | .int => some ("int", true)
  | .sorted => some ("sorted", false)
  | .dict => some ("dict", true)
  | _ => none
def Bi.meth : Bi → Option Str
  | .index => some "index"
  | .count => some "count"
  | _ => none
def Md.val (m : Md) : Bool := decide (m = .e) || decide (m = .b) || decide (m = .t)
def Md.valT (m : Md) (e : Expr) : Bool := decide (m = .e) || decide (m = .b) || (decide (m = .t) && plainT e)
def Md.valF (m : Md) : Bool := decide (m = .e) || decide (m = .b) || decide (m = .f)
def ckTy (Γ : Ck) (t : Ty) (x : Str) : Bool := glB Γ x && notD x && match t with
  | .cls c => decide (Γ.pr.cls.lookup x = some c)
  | .int => decide (x = "int")
  | .bool => decide (x = "bool")
  | .str => decide (x = "str")
  | .tuple => decide (x = "tuple")
  | .list => decide (x = "list")
  | .dict => decide (x = "dict")
mutual
def ckG (Γ : Ck) : Tg → Expr → Bool
  | .one i, e => match e with
    | .Name x _ => decide (Γ.N[i]? = some x) && locB Γ x
    | _ => false
  | .tup ts, e => match e with
    | .Tuple es _ _ => ckGs Γ ts es
    | _ => false
def ckGs (Γ : Ck) : List Tg → List Expr → Bool
  | [], [] => true
  | t :: ts, e :: es => plainE e && ckG Γ t e && ckGs Γ ts es
  | _, _ => false
end
def isTupT : Tg → Bool
  | .tup _ => true
  | _ => false
def fieldOf (Γ : Ck) (c n : Nat) (f : Str) : Bool := decide ((Γ.pr.flds c)[n]? = some f)
/-- the block of a comprehension -/
def Ck.blk (Γ : Ck) (scope : Scope) : Ck := { Γ with sc := relS scope Γ.sc, own := false, bs := scope, lq := none }
def ownOf (N : List Str) (ps : List Nat) : List (Str × Nat) := ps.map fun i => (N.getD i "", i)
/-- plain parameters of these names -/
def paramsB (p : Arguments) (ps : List Str) : Bool := match p with
  | ⟨[], args, none, [], [], none, []⟩ => decide (args.map (·.arg) = ps) && decide (args.length ≤ 3) && decide ps.Nodup
  | _ => false
def freeB (sc scope : Scope) : Bool := scope.names.all fun y => !decide (y.2 = .free) || decide (sc.names.lookup y.1 = some .cell) || decide (sc.names.lookup y.1 = some .free)
def frOf (scope : Scope) : List Str := (scope.names.filter fun y => decide (y.2 = .free)).map (·.1)
/-- the lambda n of the evaluator -/
def lamOf (pr : Prg) (n : Nat) : Option (Nat × Nat × Ex) := match pr.G n with
  | some (.code np ns [.ret e]) => some (np, ns, e)
  | _ => none
mutual
def ck : Ck → Md → Ex → Expr → Bool
  | Γ, m, .var i, e => match e with
    | .Name x _ => m.val && ckVar Γ i x
    | _ => false
  | Γ, m, .bor i, e => match e with
    | .Name x _ => decide (m = .b) && ckVar Γ i x
    | _ => false
  | _, _, .idx2 _ _ _, _ => false
  | Γ, m, .con d, e => match e with
    | .Constant c _ _ => m.val && conB d c
    | .Name x _ => m.val && glB Γ x && notD x && (match Γ.pr.cons.lookup x with | some d' => dB d d' | none => false)
    | _ => false
  | Γ, m, .tup es, e => match e with
    | .Tuple l _ _ => m.val && ckL Γ .e es l && decide (l.length ≤ 1000)
    | _ => false
  | Γ, m, .list es, e => match e with
    | .List l _ => m.valF && ckL Γ .e es l && decide (l.length ≤ 1000)
    | _ => false
  | _, _, .dict _ _, _ => false
  | Γ, m, .bin op a b, e => match e with
    | .BinOp l o r _ => op.is o && ck Γ .b b r && (if m = .f then (decide (op = .add) || decide (op = .mul)) && isL a && ck Γ .b a l else m.val && ck Γ .b a l)
    | _ => false
  | Γ, m, .neg a, e => match e with
    | .UnaryOp .USub l _ => (decide (m = .e) || decide (m = .b)) && ck Γ .e a l
    | _ => false
  | Γ, m, .cmp op a b, e => match e with
    | .Compare l [o] [r] _ => m.val && op.is o && ck Γ .b a l && ck Γ .b b r && !behindInMarks o r
    | _ => false
  | Γ, m, .chain o1 o2 a b c, e => match e with
    | .Compare l [p1, p2] [r, r2] _ => m.val && o1.is p1 && o2.is p2 && ck Γ .e a l && ck Γ .e b r && ck Γ .e c r2 && !lastMarks [p1, p2] [r, r2]
    | _ => false
  | Γ, m, .isn a, e => match e with
    | .Compare l [.Is] [.Constant .none _ _] _ => m.val && ck Γ .e a l
    | _ => false
  | Γ, m, .notn a, e => match e with
    | .Compare l [.IsNot] [.Constant .none _ _] _ => m.val && ck Γ .e a l
    | _ => false
  | Γ, m, .and a b, e => match e with
    | .BoolOp .And (x :: y :: rest) pos => m.val && ck Γ (if m = .t then .t else .e) a x && ck Γ (if m = .t then .t else .e) b (if rest.isEmpty then y else .BoolOp .And (y :: rest) pos)
    | _ => false
  | Γ, m, .or a b, e => match e with
    | .BoolOp .Or (x :: y :: rest) pos => m.val && ck Γ (if m = .t then .t else .e) a x && ck Γ (if m = .t then .t else .e) b (if rest.isEmpty then y else .BoolOp .Or (y :: rest) pos)
    | _ => false
  | Γ, m, .not a, e => match e with
    | .UnaryOp .Not l _ => m.val && ck Γ (if m = .t then .t else .e) a l
    | _ => false
  | Γ, m, .ite c a b, e => match e with
    | .IfExp t x y _ => (decide (m = .e) || decide (m = .b)) && ck Γ .t c t && ck Γ .e a x && ck Γ .e b y
    | _ => false
  | Γ, m, .idx a i, e => match e with
    | .Subscript l r _ => m.val && ck Γ .b a l && ck Γ .b i r && notSl r
    | _ => false
  | Γ, m, .slice a lo hi, e => match e with
    | .Subscript l (.Slice p q none _) _ => m.val && ck Γ .b a l && ckO Γ lo p && ckO Γ hi q
    | _ => false
  | Γ, m, .rev a, e => match e with
    | .Subscript l (.Slice none none (some (.UnaryOp .USub (.Constant (.int 1) _ _) _)) _) _ => m.val && ck Γ .e a l
    | _ => false
  | Γ, m, .lrng t a b, e => match e with
    | .Call (.Name f _) [.Call (.Name r _) [l] [] _] [] _ => (if t then decide (f = "tuple") && m.val else decide (f = "list") && m.valF) && glB Γ f && decide (r = "range") && glB Γ r && plainE l && isZero a && ck Γ .e b l
    | .Call (.Name f _) [.Call (.Name r _) [l, l2] [] _] [] _ => (if t then decide (f = "tuple") && m.val else decide (f = "list") && m.valF) && glB Γ f && decide (r = "range") && glB Γ r && plainE l && plainE l2 && ck Γ .e a l && ck Γ .e b l2
    | _ => false
  | Γ, m, .lset x, e => match e with
    | .Call (.Name f _) [.Call (.Name r _) [l] [] _] [] _ => m.val && decide (f = "len") && glB Γ f && decide (r = "set") && glB Γ r && plainE l && ck Γ .b x l
    | _ => false
  | _, _, .sset _, _ => false
  | Γ, m, .eset ne a b, e => match e with
    | .Compare (.Call (.Name f _) [l] [] _) [.Eq] [.Call (.Name r _) [l2] [] _] _ => m.val && !ne && decide (f = "set") && decide (r = "set") && glB Γ f && plainE l && plainE l2 && ck Γ .b a l && ck Γ .b b l2
    | _ => false
  | Γ, m, .rpr x, e => match e with
    | .Call (.Name f _) [l] [] _ => m.val && Γ.gd && decide (f = "repr") && glB Γ f && plainE l && ck Γ .b x l
    | _ => false
  | Γ, m, .isb a b, e => match e with
    | .Compare l [.Is] [.Constant (.bool b') _ _] _ => m.val && (b == b') && ck Γ .e a l
    | _ => false
  | Γ, m, .ecmp ne c f a b, e => match e with
    | .Compare l [o] [r] _ => m.val && decide (o = if ne then CmpOp.NotEq else CmpOp.Eq) && decide (Γ.pr.eqs.lookup c = some f) && ck Γ .e a l && ck Γ .e b r && !behindInMarks o r
    | _ => false
  | Γ, m, .fld c a n, e => match e with
    | .Attribute l f _ => m.val && fieldOf Γ c n f && notSup l && ck Γ .e a l
    | _ => false
  | Γ, m, .isi a t, e => match e with
    | .Call (.Name f _) [l, .Name x _] [] _ => m.val && decide (f = "isinstance") && glB Γ f && plainE l && ckTy Γ t x && ck Γ .e a l
    | _ => false
  | Γ, m, .bi b es, e => match e with
    | .Call (.Name x _) (l :: ls) [] _ => (match b.name with | some (y, _) => decide (x = y) | none => false) && glB Γ x && allPlain (l :: ls) && ckL Γ .b es (l :: ls) && (m.val || (decide (m = .f) && decide (b = .list) && ls.isEmpty))
    | _ => false
  | Γ, m, .meth b o es, e => match e with
    | .Call (.Attribute l f ap) (a :: as) [] cp => m.val && decide (b.meth = some f) && notSup l && allPlain (a :: as) && decide ((a :: as).length < 20) && (ap.endLine == cp.line) && ck Γ .b o l && ckL Γ .b es (a :: as)
    | _ => false
  | Γ, m, .call f es, e => match e with
    | .Call (.Name x _) as [] _ => m.val && glB Γ x && notD x && decide (Γ.pr.fns.lookup x = some f) && allPlain as && ckL Γ .e es as
    | _ => false
  | Γ, m, .callv i es, e => match e with
    | .Call (.Name x _) as [] _ => m.val && ckVar Γ i x && allPlain as && ckL Γ .e es as
    | _ => false
  | Γ, m, .callc f es n cs, e => match e with
    | .Call (.Name x _) (a :: as) [] _ => m.val && glB Γ x && notD x && decide (Γ.pr.fns.lookup x = some f) && allPlain (a :: as) && Γ.own && ckZ Γ es n cs (a :: as)
    | _ => false
  | Γ, m, .mk c f es, e => match e with
    | .Call (.Name x _) (a :: as) [] _ => m.val && glB Γ x && notD x && decide (Γ.pr.cls.lookup x = some c) && decide (f = Γ.pr.inits c) && allPlain (a :: as) && decide ((a :: as).length = (Γ.pr.flds c).length) && ckL Γ .e es (a :: as)
    | _ => false
  | Γ, m, .lc elt tg it cond, e => match e with
    | .ListComp y [⟨t, iter, ifs, 0⟩] scope _ => (m.valF || decide (m = .m)) && ckG (Γ.blk scope) tg t && ckI Γ false it tg t iter && ckO' (Γ.blk scope) cond ifs && ck (Γ.blk scope) (if m = .m then .f else .e) elt y && blkC Γ.N Γ.sc scope (ownOf Γ.N tg.places)
    | _ => false
def ckL : Ck → Md → List Ex → List Expr → Bool
  | _, _, [], [] => true
  | Γ, m, x :: xs, e :: es => plainE e && ck Γ m x e && ckL Γ m xs es
  | _, _, _, _ => false
/-- .. the last of them the lambda n: looked at elsewhere -/
def ckZ : Ck → List Ex → Nat → List Nat → List Expr → Bool
  | Γ, [], n, cs, [e] => match e, Γ.lq with
    | .Lambda params body scope _, some q => freeB Γ.sc scope && decide (cs.map (fun j => Γ.N[j]?) = (frOf scope).map some) && paramsB params (params.args.map (·.arg)) && Γ.lo n ⟨q, params, body, scope, params.args.map (·.arg), frOf scope, Γ.pr.lamN n⟩
    | _, _ => false
  | Γ, x :: xs, n, cs, e :: es => plainE e && ck Γ .e x e && ckZ Γ xs n cs es
  | _, _, _, _, _ => false
def ckO : Ck → Option Ex → Option Expr → Bool
  | _, none, none => true
  | Γ, some x, some e => ck Γ .e x e
  | _, _, _ => false
def ckO' : Ck → Option Ex → List Expr → Bool
  | _, none, [] => true
  | Γ, some x, [e] => ck Γ .t x e
  | _, _, _ => false
def ckI : Ck → Bool → It → Tg → Expr → Expr → Bool
  | Γ, fz, .ex x, _, _, e => ck Γ (if fz then .e else .b) x e && (match e with | .Set _ _ _ => false | _ => true)
  | Γ, _, .rng a b, _, _, e => match e with
    | .Call (.Name f _) [l] [] _ => decide (f = "range") && glB Γ f && plainE l && isZero a && ck Γ .e b l
    | .Call (.Name f _) [l, r] [] _ => decide (f = "range") && glB Γ f && plainE l && plainE r && ck Γ .e a l && ck Γ .e b r
    | _ => false
  | Γ, fz, .enum x, tg, t, e => match e with
    | .Call (.Name f _) [l] [] _ => decide (f = "enumerate") && glB Γ f && plainE l && isTupT tg && (match t with | .Tuple _ _ _ => true | _ => false) && ck Γ (if fz then .e else .b) x l
    | _ => false
  | Γ, fz, .zip a b, tg, t, e => match e with
    | .Call (.Name f _) [l, r] [] _ => decide (f = "zip") && glB Γ f && plainE l && plainE r && isTupT tg && (match t with | .Tuple _ _ _ => true | _ => false) && ck Γ (if fz then .e else .b) a l && ck Γ (if fz then .e else .b) b r
    | _ => false
/-- surely a list -/
def isL : Ex → Bool
  | .list _ => true
  | .lc _ _ _ _ => true
  | _ => false
def isZero : Ex → Bool
  | .con (.int i) => decide (i = 0)
  | _ => false
end
/-- the setting of a lambda's body -/
def lamCk (pr : Prg) (L : LamD) : Ck := { N := L.N, sc := L.scope, own := false, bs := { kind := .function, names := [], isGenerator := false, isCoroutine := false }, lq := none, lo := fun _ _ => false, pr := pr }
def lamB (pr : Prg) (n : Nat) (L : LamD) : Bool := match lamOf pr n with
  | some (np, ns, e) => decide (np = L.ps.length + L.fr.length) && decide (ns = L.N.length) && NdefX.nscB L.N L.ps L.fr L.scope && paramsB L.params L.ps && ck (lamCk pr L) .e e L.body
  | none => false
end Mp

set_option Elab.async false
set_option linter.all false
set_option maxRecDepth 100000
set_option maxHeartbeats 4000000
/-! What the looks at the trees are worth. -/
namespace Mp
open PySem PySem.Spec PyProof.Rows L2

/-! ### small facts of the trees -/
theorem star_cons {e : Expr} {es : List Expr} {env : PySem.Env} (h : plainE e = true) : starEach (e :: es) env = (false, eval e env) :: starEach es env := by
  cases e <;> first | rfl | cases h
theorem assign_cons {e : Expr} {es : List Expr} {env : PySem.Env} (h : plainE e = true) : assignEach (e :: es) env = (false, assign e env) :: assignEach es env := by
  cases e <;> first | rfl | cases h
theorem back_any {env : PySem.Env} {pos : Pos} : ∀ {es : List Expr}, allPlain es = true → (backTo pos (starEach es env)).any (·.1) = false
  | [], _ => rfl
  | e :: es, h => by
    unfold allPlain at h
    rw [List.all_cons, Bool.and_eq_true] at h
    rw [star_cons h.1]
    show (false || (backTo pos (starEach es env)).any (·.1)) = false
    rw [back_any (es := es) h.2]; rfl
theorem back_all {env : PySem.Env} {pos : Pos} : ∀ {es : List Expr}, allPlain es = true → (backTo pos (starEach es env)).all (fun x => !x.1) = true
  | [], _ => rfl
  | e :: es, h => by
    unfold allPlain at h
    rw [List.all_cons, Bool.and_eq_true] at h
    rw [star_cons h.1]
    show (true && (backTo pos (starEach es env)).all (fun x => !x.1)) = true
    rw [back_all (es := es) h.2]; rfl
theorem few {env : PySem.Env} {cp : Pos} {es : List Expr} (h : allPlain es = true) (hl : es.length < 20) : ((backTo cp (starEach es env)).all (fun x => !x.1) && (backToKw cp (keywordEach [] env)).all (fun x => x.1.isSome) && decide (es.length + ([] : List Keyword).length + (if ([] : List Keyword).isEmpty then 0 else 1) < 30)) = true := by
  rw [back_all h, Bool.true_and, Bool.and_eq_true]
  exact ⟨rfl, decide_eq_true (by show es.length + 0 + 0 < 30; omega)⟩
theorem attrB {o : Expr} {f : Str} {env : PySem.Env} (h : notSup o = true) : attributeBase o f env (eval o env) = eval o env := by
  unfold attributeBase
  split
  · rename_i id p1 pos
    have h : (!(id == ("super" : Str))) = true := h
    have h2 : (id != ("super" : Str)) = true := h
    rw [h2]
    simp
  · rfl
theorem plainT_ok {e : Expr} {env : PySem.Env} (h : plainT e = true) : ∀ whole, isTrue e env whole = (do let v ← whole; standAt e.pos; holding [v] (truthy v)) := by
  cases e <;> first | (intro _; rfl) | cases h
theorem notSl_ok {e : Expr} (h : notSl e = true) : PlainIx e := by
  cases e <;> first | (intro _ _; rfl) | cases h
theorem noSet {e : Expr} {env : PySem.Env} (h : (match e with | .Set _ _ _ => false | _ => true) = true) : ∀ x, foldedSetIterable e env x = pure x := by
  cases e <;> first | (intro _; rfl) | cases h
theorem and3 {a b : Bool} (h : (a && b) = true) : a = true ∧ b = true := by rwa [Bool.and_eq_true] at h
theorem visB_ok {sc : Scope} {x : Str} (h : visB sc x = true) : Vis sc x := by
  unfold visB at h
  split at h
  · rename_i e; exact .inl e
  · rename_i e; exact .inr (.inl e)
  · rename_i e; exact .inr (.inr e)
  · cases h
theorem notD_ok {x : Str} (h : notD x = true) : (x == ("__debug__" : Str)) = false ∧ (x == ("__classdict__" : Str)) = false ∧ x ≠ "__name__" := by
  unfold notD at h
  obtain ⟨h, h3⟩ := and3 h
  obtain ⟨h1, h2⟩ := and3 h
  exact ⟨by simpa using h1, by simpa using h2, by simpa using h3⟩

/-! ### the setting -/
def bltN : List Str := ["len", "tuple", "list", "all", "any", "min", "max", "sum", "abs", "int", "bool", "str", "dict", "range", "enumerate", "zip", "isinstance", "sorted", "set", "repr"]
structure PrOk {S : Type} (pr : Prg) (LOK : Nat → LamD → Prop) (P : Program) (w : World) (K : PySem.W.Frag) (mg : Str → Option Value) (base : Heap) (T : Tab S) (XT : ExcT) (G : Nat → Option Fn) (dr : Dr S) (k : Nat) : Prop where
  ok : T.Ok
  xo : XOk XT
  clo : T.cloOk = CloOk LOK
  ic : IsC K T
  flds : ∀ c, pr.flds c = T.flds c
  blt : ∀ x ∈ bltN, mg x = none
  cons : ∀ x d, pr.cons.lookup x = some d → ∃ u v, mg x = some u ∧ RelV v u ∧ ∀ g, Rep K T g d v
  fns : ∀ x n, pr.fns.lookup x = some n → ∃ f fd ps, mg x = some (.ref f) ∧ PySem.W.keepIn K (.ref f) = true ∧ Binds K fd ps [] ∧ FnOk P w K mg base (L2.CX P w) (k + 1) f fd ps (spFn K T XT (callN G dr k) n)
  cls : ∀ x c, pr.cls.lookup x = some c → ∃ C, T.cls c = some C ∧ mg x = some (.ref C)
  make : ∀ x c, pr.cls.lookup x = some c → ∃ C f fd ps lk, T.cls c = some C ∧ mg x = some (.ref C) ∧ Mk K C f ∧ Binds K fd ps [] ∧ ps.length = (T.flds c).length + 1 ∧ (T.memo c = true → lk = true) ∧ ("looked" : Str) ∉ T.flds c ∧
    FnOk P w K mg base (L2.CX P w) k f fd ps (spInit K T XT (callN G dr k) (pr.inits c) C (T.flds c) lk)
  eqs : ∀ c n, pr.eqs.lookup c = some n → ∃ C f fd ps, T.cls c = some C ∧ EqIn K C f ∧ Binds K fd ps [] ∧ FnOk P w K mg base (L2.CX P w) k f fd ps (spFn K T XT (callN G dr k) n)
  lams : ∀ k', k = k' + 1 → LamsOk P w K mg base LOK T XT G dr k'
structure GoodX {S : Type} (LOK : Nat → LamD → Prop) (Γ : Ck) (X : Cx) (E : XK) (T : Tab S) (XT : ExcT) (G : Nat → Option Fn) (dr : Dr S) (k : Nat) : Prop where
  N : X.N = Γ.N
  nd : X.N.Nodup
  sc : X.env.scope = Γ.sc
  kind : X.env.scope.kind = .function
  calm : X.calm = true
  hr : Room (k + 1) X.A
  pass : Passes (L2.CX X.prog X.w) X E
  own : Γ.own = true → ∀ x, X.fn x = true
  bs : ∀ x, Γ.bs.names.lookup x = some .cell → X.fn x = true
  lo : ∀ n L, Γ.lo n L = true → LOK n L
  gd : Γ.gd = true → X.A.guards = some []
  /-- where lambdas are made -/
  lam : ∀ q, Γ.lq = some q → X.ex = [] ∧ q = X.env.qual ++ "<lambda>" ∧ ∃ c P, LamX.TabB X.base X.mg c P ∧ X.env.code = .ref c ∧ (P, X.env.qual ++ "<lambda>") ∈ T.tb ∧ ∀ p ∈ T.tb, p.1 = P → p.2 = X.env.qual ++ "<lambda>"
  pr : PrOk Γ.pr LOK X.prog X.w X.K X.mg X.base T XT G dr k
section
variable {S : Type} {LOK : Nat → LamD → Prop} {Γ : Ck} {X : Cx} {E : XK} {T : Tab S} {XT : ExcT} {G : Nat → Option Fn} {dr : Dr S} {k : Nat}
theorem GoodX.hu (g : GoodX LOK Γ X E T XT G dr k) : X.A.units + 64 < cLine := by
  have := g.hr.un
  omega
theorem GoodX.gl (g : GoodX LOK Γ X E T XT G dr k) {x : Str} (h : glB Γ x = true) : Gl X x := by
  show X.env.scope.names.lookup x = _
  rw [g.sc]
  exact of_decide_eq_true h
theorem GoodX.var (g : GoodX LOK Γ X E T XT G dr k) {x : Str} {i : Nat} (h : ckVar Γ i x = true) : X.N[i]? = some x ∧ Vis X.env.scope x ∧ (x == ("__debug__" : Str)) = false ∧ (x == ("__classdict__" : Str)) = false := by
  unfold ckVar at h
  obtain ⟨h, h3⟩ := and3 h
  obtain ⟨h1, h2⟩ := and3 h
  have hd := notD_ok h3
  exact ⟨by rw [g.N]; exact of_decide_eq_true h1, by rw [g.sc]; exact visB_ok h2, hd.1, hd.2.1⟩
theorem GoodX.pv (g : GoodX LOK Γ X E T XT G dr k) {x : Str} {i : Nat} {pos : Pos} (h : ckVar Γ i x = true) : PE X (.Name x pos) (tVar i) :=
  let ⟨h1, h2, h3, h4⟩ := g.var h
  pe_var h1 h2 h3 h4
theorem GoodX.blk (g : GoodX LOK Γ X E T XT G dr k) {scope : Scope} (hk : scope.kind = .function) (s : Shared) (H : Hp) (C : Addr) (cl : List (Str × Addr)) (fp : List Addr) :
    GoodX LOK (Γ.blk scope) (X.blk s H scope (compEnvC scope cl C X.env) fp) EN T XT G dr k where
  N := g.N
  nd := g.nd
  sc := by
    show relS scope X.env.scope = relS scope Γ.sc
    rw [g.sc]
  kind := hk
  calm := g.calm
  hr := g.hr
  pass := passL
  own := fun h => by cases h
  bs := fun x h => by
    show (scope.names.lookup x == some .cell) = true
    have h : scope.names.lookup x = some .cell := h
    rw [h]; rfl
  lo := g.lo
  gd := g.gd
  lam := fun q h => by cases h
  pr := g.pr
/-- what a look is worth -/
def Snd (X : Cx) (T : Tab S) (XT : ExcT) (E : XK) (B : Hp) (m : Md) (e : Expr) (f : Env → M S D) : Prop := match m with
  | .e => PE X e (tE X.K T XT E B f)
  | .b => PE X e (tB X.K T XT E B f)
  | .t => PT X e (tT X.K T XT E B f)
  | .f => PE X e (tF X.K T XT E B f)
  | .m => PE X e (tFM X.K T XT E B f)
variable {B : Hp} {m : Md} {e : Expr} {f : Env → M S D}
theorem snd_e (ok : T.Ok) (h : PE X e (tE X.K T XT E B f)) (hm : (decide (m = .e) || decide (m = .b)) = true) : Snd X T XT E B m e f := by
  cases m with
  | e => exact h
  | b => exact pe_b ok h
  | _ => cases hm
theorem snd_v (ok : T.Ok) (hT : plainT e = true) (h : PE X e (tE X.K T XT E B f)) (hm : m.val = true) : Snd X T XT E B m e f := by
  cases m with
  | e => exact h
  | b => exact pe_b ok h
  | t => exact mt_val h (plainT_ok hT)
  | _ => cases hm
theorem snd_t (ok : T.Ok) (h : PE X e (tE X.K T XT E B f)) (ht : PT X e (tT X.K T XT E B f)) (hm : m.val = true) : Snd X T XT E B m e f := by
  cases m with
  | e => exact h
  | b => exact pe_b ok h
  | t => exact ht
  | _ => cases hm
theorem snd_f (ok : T.Ok) (h : PE X e (tF X.K T XT E B f)) (hm : m.valF = true) : Snd X T XT E B m e f := by
  cases m with
  | e => exact me_frz ok h
  | b => exact pe_b ok (me_frz ok h)
  | f => exact h
  | _ => cases hm
def SndL (X : Cx) (T : Tab S) (XT : ExcT) (E : XK) (B : Hp) (m : Md) (es : List Expr) (f : Env → M S (List D)) : Prop := match m with
  | .e => PA X es (tL X.K T XT E B f)
  | .b => PA X es (tLB X.K T XT E B f)
  | _ => True
end
end Mp

set_option Elab.async false
set_option linter.all false
set_option maxRecDepth 100000
set_option maxHeartbeats 8000000
/-! The looks are sound. -/
namespace Mp
open PySem PySem.Spec PyProof.Rows L2

section
variable {S : Type} {LOK : Nat → LamD → Prop} {T : Tab S} {XT : ExcT} {G : Nat → Option Fn} {dr : Dr S} {k : Nat}
theorem evs_len {call : Nat → List D → M S D} : ∀ (es : List Ex) (env : Env) (s : S), match evs call es env s with | .ok ds _ => ds.length = es.length | _ => True
  | [], env, s => rfl
  | e :: es, env, s => by
    have ih := evs_len (call := call) es env
    have h : evs call (e :: es) env s = R.bind (ev call e env s) fun x s1 => R.bind (evs call es env s1) fun xs s2 => .ok (x :: xs) s2 := rfl
    rw [h]
    cases ev call e env s with
    | ok x s1 =>
      have ih := ih s1
      show match (R.bind (evs call es env s1) fun xs s2 => R.ok (x :: xs) s2 : R S (List D)) with | .ok ds _ => ds.length = (e :: es).length | _ => True
      cases q : evs call es env s1 with
      | ok xs s2 =>
        rw [q] at ih
        show (x :: xs).length = _
        rw [List.length_cons, List.length_cons, ih]
      | exc c fs s2 => trivial
      | bad => trivial
    | exc c fs s1 => trivial
    | bad => trivial
theorem ckL_len {Γ : Ck} {m : Md} : ∀ {xs : List Ex} {es : List Expr}, ckL Γ m xs es = true → xs.length = es.length
  | [], [], _ => rfl
  | x :: xs, e :: es, h => by
    have h : (plainE e && ck Γ m x e && ckL Γ m xs es) = true := h
    rw [List.length_cons, List.length_cons, ckL_len (and3 h).2]
  | [], _ :: _, h => by cases h
  | _ :: _, [], h => by cases h
theorem lim1000 {call : Nat → List D → M S D} {es : List Ex} (h : es.length ≤ 1000) (env : Env) (s : S) : match evs call es env s with | .ok ds _ => ds.length ≤ LIM | _ => True := by
  have := evs_len (call := call) es env s
  split
  · rename_i ds s1 e
    rw [e] at this
    have h2 : LIM = 1000000 := rfl
    omega
  · trivial
/-! ### targets -/
mutual
theorem ckG_ok {Γ : Ck} {X : Cx} {E : XK} (g : GoodX LOK Γ X E T XT G dr k) (B : Hp) : ∀ (t : Tg) (e : Expr), ckG Γ t e = true → PG X e (tG X.K T B t)
  | .one i, e, h => by
    unfold ckG at h
    split at h
    · rename_i x pos
      obtain ⟨h1, h2⟩ := and3 h
      have hN : X.N[i]? = some x := by rw [g.N]; exact of_decide_eq_true h1
      unfold locB at h2
      refine mg_one ?_
      split at h2
      · rename_i e2
        have e2 : X.env.scope.names.lookup x = some .local := by rw [g.sc]; exact e2
        exact pg_name g.nd hN (.inl e2) (.inr e2)
      · rename_i e2
        have e2 : X.env.scope.names.lookup x = some .cell := by rw [g.sc]; exact e2
        refine pg_name g.nd hN (.inr e2) (.inl ?_)
        rw [Bool.or_eq_true] at h2
        rcases h2 with h2 | h2
        · exact g.own h2 x
        · exact g.bs x (of_decide_eq_true h2)
      · cases h2
    · cases h
  | .tup ts, e, h => by
    unfold ckG at h
    split at h
    · rename_i es kk pos
      obtain ⟨h1, h2, h3⟩ := ckGs_ok g B ts es h
      exact mg_tup g.calm h1 h2 h3
    · cases h
theorem ckGs_ok {Γ : Ck} {X : Cx} {E : XK} (g : GoodX LOK Γ X E T XT G dr k) (B : Hp) : ∀ (ts : List Tg) (es : List Expr), ckGs Γ ts es = true → PGs X es (tGs X.K T B ts) ∧ (assignEach es X.env).length = ts.length ∧ (assignEach es X.env).findIdx? (·.1) = none
  | [], [], _ => ⟨mgs_nil, rfl, rfl⟩
  | t :: ts, e :: es, h => by
    have h : (plainE e && ckG Γ t e && ckGs Γ ts es) = true := h
    obtain ⟨h, h3⟩ := and3 h
    obtain ⟨h1, h2⟩ := and3 h
    obtain ⟨i1, i2, i3⟩ := ckGs_ok g B ts es h3
    refine ⟨mgs_cons (ckG_ok g B t e h2) i1 (by rw [assign_cons h1] <;> rfl), by rw [assign_cons h1, List.length_cons, List.length_cons, i2], ?_⟩
    rw [assign_cons h1, List.findIdx?_cons, i3]
    rfl
  | [], _ :: _, h => by cases h
  | _ :: _, [], h => by cases h
end
/-! ### built-in calls by name -/
theorem bi_ok {Γ : Ck} {X : Cx} {E : XK} (g : GoodX LOK Γ X E T XT G dr k) {B : Hp} {b : Bi} {x : Str} {ty : Bool} {e : Expr} {es : List Expr} {p pos : Pos} {ms : Env → M S (List D)} (hb : b.name = some (x, ty)) (hg : glB Γ x = true) (ha : PA X (e :: es) (tLB X.K T XT E B ms)) (hp : allPlain (e :: es) = true) :
    PE X (.Call (.Name x p) (e :: es) [] pos) (tE X.K T XT E B fun env => M.bind (ms env) fun ds => M.opt (D.bi b ds)) := by
  have hG := g.gl hg
  obtain ⟨h1, h2⟩ : plainE e = true ∧ allPlain es = true := and3 (by unfold allPlain at hp ⊢; rwa [List.all_cons] at hp)
  have hs := star_cons (es := es) (env := X.env) h1
  have hpl := back_any (env := X.env) (pos := pos) h2
  have ok := g.pr.ok
  cases b <;> cases hb
  · exact me_bi ok cr_mlen hG (g.pr.blt _ (by decide)) rfl ha (by decide) (by decide) hs hpl
  · exact me_ty ok (cr_mtuple ok) hG (g.pr.blt _ (by decide)) rfl ha (by decide) (by decide) hs hpl
  · exact me_ty ok (cr_mlist ok) hG (g.pr.blt _ (by decide)) rfl ha (by decide) (by decide) hs hpl
  · exact me_bi ok (cr_msorted ok g.hu) hG (g.pr.blt _ (by decide)) rfl ha (by decide) (by decide) hs hpl
  · exact me_bi ok (cr_mall g.calm) hG (g.pr.blt _ (by decide)) rfl ha (by decide) (by decide) hs hpl
  · exact me_bi ok (cr_many g.calm) hG (g.pr.blt _ (by decide)) rfl ha (by decide) (by decide) hs hpl
  · exact me_bi ok (cr_mmin g.calm) hG (g.pr.blt _ (by decide)) rfl ha (by decide) (by decide) hs hpl
  · exact me_bi ok (cr_mmax g.calm) hG (g.pr.blt _ (by decide)) rfl ha (by decide) (by decide) hs hpl
  · exact me_bi ok (cr_msum g.calm) hG (g.pr.blt _ (by decide)) rfl ha (by decide) (by decide) hs hpl
  · exact me_bi ok cr_mabs hG (g.pr.blt _ (by decide)) rfl ha (by decide) (by decide) hs hpl
  · exact me_ty ok cr_mint hG (g.pr.blt _ (by decide)) rfl ha (by decide) (by decide) hs hpl
  · exact me_ty ok (cr_mdict ok g.calm) hG (g.pr.blt _ (by decide)) rfl ha (by decide) (by decide) hs hpl
theorem con_ok {X : Cx} {E : XK} {B : Hp} {d : D} {c : Const} {j : Nat} {pos : Pos} (h : conB d c = true) : PE X (.Constant c j pos) (tE X.K T XT E B fun _ => M.pure d) := by
  cases d <;> cases c <;> first | cases h | skip
  · exact me_c pe_non fun g => .non
  · rename_i a b
    have : a = b := eq_of_beq h
    subst this
    exact me_c pe_bl fun g => .bl _
  · rename_i a b
    have : a = b := of_decide_eq_true h
    subst this
    exact me_c pe_int fun g => .int _
  · rename_i a b
    have : a = b := of_decide_eq_true h
    subst this
    exact me_c pe_str fun g => .str _
theorem dB_ok {a b : D} (h : dB a b = true) : a = b := by
  cases a <;> cases b <;> first | cases h | skip
  · rfl
  · rw [eq_of_beq h]
  · rw [of_decide_eq_true h]
  · rw [of_decide_eq_true h]
theorem ty_ok {Γ : Ck} {X : Cx} {E : XK} (g : GoodX LOK Γ X E T XT G dr k) {t : Ty} {x : Str} {pos : Pos} (h : ckTy Γ t x = true) : ∃ cv cu, PE X (.Name x pos) (L2.tC cv) ∧ (∀ u, RelV cv u → u = cu) ∧ TyV T t cu := by
  unfold ckTy at h
  obtain ⟨h, h3⟩ := and3 h
  obtain ⟨h1, h2⟩ := and3 h
  have hG := g.gl h1
  have hd := notD_ok h2
  have blt : ∀ (y : Str) (n : String), x = y → y ∈ bltN → bootBuiltins y = some (.type n) → ∃ cv cu, PE X (.Name x pos) (L2.tC cv) ∧ (∀ u, RelV cv u → u = cu) ∧ cu = .type n := fun y n e hm hb => by
    subst e
    exact ⟨.ty n, .type n, pe_bltn hG (g.pr.blt _ hm) hb rfl hd.2.2 hd.1, fun u r => r, rfl⟩
  cases t with
  | cls c =>
    obtain ⟨C, e1, e2⟩ := g.pr.cls x c (of_decide_eq_true h3)
    exact ⟨.ref C, .ref C, pe_glob hG e2 rfl hd.1, fun u r => r, C, e1, rfl⟩
  | int => obtain ⟨cv, cu, a, b, c⟩ := blt "int" "int" (of_decide_eq_true h3) (by decide) rfl; exact ⟨cv, cu, a, b, _, rfl, c⟩
  | bool => obtain ⟨cv, cu, a, b, c⟩ := blt "bool" "bool" (of_decide_eq_true h3) (by decide) rfl; exact ⟨cv, cu, a, b, _, rfl, c⟩
  | str => obtain ⟨cv, cu, a, b, c⟩ := blt "str" "str" (of_decide_eq_true h3) (by decide) rfl; exact ⟨cv, cu, a, b, _, rfl, c⟩
  | tuple => obtain ⟨cv, cu, a, b, c⟩ := blt "tuple" "tuple" (of_decide_eq_true h3) (by decide) rfl; exact ⟨cv, cu, a, b, _, rfl, c⟩
  | list => obtain ⟨cv, cu, a, b, c⟩ := blt "list" "list" (of_decide_eq_true h3) (by decide) rfl; exact ⟨cv, cu, a, b, _, rfl, c⟩
  | dict => obtain ⟨cv, cu, a, b, c⟩ := blt "dict" "dict" (of_decide_eq_true h3) (by decide) rfl; exact ⟨cv, cu, a, b, _, rfl, c⟩
end
end Mp

set_option Elab.async false
set_option linter.all false
set_option maxRecDepth 100000
set_option maxHeartbeats 16000000
/-! The looks are sound: expressions. -/
namespace Mp
open PySem PySem.Spec PyProof.Rows L2

section
variable {S : Type} {LOK : Nat → LamD → Prop} {T : Tab S} {XT : ExcT} {G : Nat → Option Fn} {dr : Dr S} {k : Nat}
theorem val_eb {m : Md} (h : m.val = true) (ht : m ≠ .t) : (decide (m = .e) || decide (m = .b)) = true := by
  cases m <;> first | exact absurd rfl ht | rfl | cases h
theorem isL_run {call : Nat → List D → M S D} {a : Ex} (h : isL a = true) (env : Env) (s : S) : match ev call a env s with | .ok (.lst _) _ => True | .ok _ _ => False | _ => True := by
  cases a with
  | list es =>
    have e : ev call (.list es) env s = R.bind (evs call es env s) fun ds s1 => .ok (.lst ds) s1 := rfl
    rw [e]
    cases evs call es env s <;> trivial
  | lc elt tg it cond =>
    have e : ∃ m : M S (List D), ev call (.lc elt tg it cond) env s = R.bind (m s) fun ys s1 => M.need (decide (ys.length ≤ LIM)) (M.pure (.lst ys)) s1 := by
      refine ⟨M.bind (evi call it env) (turns fun x => M.calm (M.bind (M.opt (tg.store x (wipeE env tg.places))) fun env' =>
        M.bind (evc call cond env') fun k => if k = true then M.bind (ev call elt env') fun y => M.pure (some y) else M.pure none)), ?_⟩
      show R.bind (evi call it env s) _ = R.bind (R.bind (evi call it env s) _) _
      cases evi call it env s <;> rfl
    obtain ⟨mm, e⟩ := e
    rw [e]
    cases mm s with
    | ok ys s1 =>
      show match M.need (decide (ys.length ≤ LIM)) (M.pure (D.lst ys)) s1 with | .ok (.lst _) _ => True | .ok _ _ => False | _ => True
      unfold M.need
      by_cases q : decide (ys.length ≤ LIM) = true
      · rw [if_pos q]; trivial
      · rw [if_neg q]; trivial
    | exc c fs s1 => trivial
    | bad => trivial
  | _ => cases h
theorem ownOf_map {N : List Str} : ∀ ps : List Nat, (ownOf N ps).map (·.2) = ps
  | [] => rfl
  | p :: ps => by
    show p :: (ownOf N ps).map (·.2) = _
    rw [ownOf_map ps]
theorem pw_bool {X : Cx} {op : BoolOp} {es : List Expr} {pos : Pos} {t : TT} (h : PT X (.BoolOp op es pos) t) : PW X (.BoolOp op es pos) t := ⟨fun _ pins s σ H Q I q => h.run pins s σ H Q I q⟩
theorem isZero_ok {a : Ex} (h : isZero a = true) : a = .con (.int 0) := by
  unfold isZero at h
  split at h
  · rw [of_decide_eq_true h]
  · cases h
theorem ckI_set {Γ : Ck} {fz : Bool} {x : It} {tg : Tg} {t e : Expr} {env : PySem.Env} (h : ckI Γ fz x tg t e = true) : ∀ v, foldedSetIterable e env v = pure v := by
  cases x with
  | ex x => unfold ckI at h; exact noSet (and3 h).2
  | rng a b =>
    unfold ckI at h
    split at h
    · intro _; rfl
    · intro _; rfl
    · cases h
  | enum x =>
    unfold ckI at h
    split at h
    · intro _; rfl
    · cases h
  | zip a b =>
    unfold ckI at h
    split at h
    · intro _; rfl
    · cases h
mutual
theorem ck_ok : ∀ (x : Ex) (Γ : Ck) (m : Md) (e : Expr), ck Γ m x e = true → ∀ {X : Cx} {E : XK}, GoodX LOK Γ X E T XT G dr k → ∀ B : Hp, Snd X T XT E B m e (ev (callN G dr k) x)
  | .var i, Γ, m, e, h, X, E, g, B => by
    unfold ck at h
    split at h
    · obtain ⟨h1, h2⟩ := and3 h
      obtain ⟨a, b, c, d⟩ := g.var h2
      exact snd_v g.pr.ok rfl (me_var a b c d) h1
    · cases h
  | .bor i, Γ, m, e, h, X, E, g, B => by
    unfold ck at h
    split at h
    · obtain ⟨h1, h2⟩ := and3 h
      obtain ⟨a, b, c, d⟩ := g.var h2
      have : m = .b := of_decide_eq_true h1
      subst this
      exact me_bor a b c d
    · cases h
  | .idx2 _ _ _, Γ, m, e, h, X, E, g, B => by cases h
  | .con d, Γ, m, e, h, X, E, g, B => by
    unfold ck at h
    split at h
    · obtain ⟨h1, h2⟩ := and3 h
      exact snd_v g.pr.ok rfl (con_ok h2) h1
    · obtain ⟨h, h4⟩ := and3 h
      obtain ⟨h, h3⟩ := and3 h
      obtain ⟨h1, h2⟩ := and3 h
      split at h4
      · rename_i d' hd'
        obtain ⟨u, v, e1, e2, e3⟩ := g.pr.cons _ _ hd'
        have := dB_ok h4
        subst this
        exact snd_v g.pr.ok rfl (me_c (pe_glob (g.gl h2) e1 e2 (notD_ok h3).1) e3) h1
      · cases h4
    · cases h
  | .tup es, Γ, m, e, h, X, E, g, B => by
    unfold ck at h
    split at h
    · obtain ⟨h, h3⟩ := and3 h
      obtain ⟨h1, h2⟩ := and3 h
      have hl : es.length ≤ 1000 := by rw [ckL_len h2]; exact of_decide_eq_true h3
      exact snd_v g.pr.ok rfl (me_tup g.pr.ok (ckL_ok es Γ .e _ (.inl rfl) h2 g B) (lim1000 hl)) h1
    · cases h
  | .list es, Γ, m, e, h, X, E, g, B => by
    unfold ck at h
    split at h
    · obtain ⟨h, h3⟩ := and3 h
      obtain ⟨h1, h2⟩ := and3 h
      have hl : es.length ≤ 1000 := by rw [ckL_len h2]; exact of_decide_eq_true h3
      exact snd_f g.pr.ok (mf_list g.pr.ok (ckL_ok es Γ .e _ (.inl rfl) h2 g B) (lim1000 hl)) h1
    · cases h
  | .dict _ _, Γ, m, e, h, X, E, g, B => by cases h
  | .bin op a b, Γ, m, e, h, X, E, g, B => by
    unfold ck at h
    split at h
    · rename_i l o r pos
      obtain ⟨h, h3⟩ := and3 h
      obtain ⟨h1, h2⟩ := and3 h
      have ho : op.py = o := of_decide_eq_true h1
      subst ho
      have hb := ck_ok b Γ .b r h2 g B
      by_cases hm : m = .f
      · subst hm
        rw [if_pos rfl] at h3
        obtain ⟨h3, h6⟩ := and3 h3
        obtain ⟨h4, h5⟩ := and3 h3
        have ha := ck_ok a Γ .b l h6 g B
        rw [Bool.or_eq_true] at h4
        rcases h4 with h4 | h4
        · obtain rfl := of_decide_eq_true h4
          exact mf_op g.pr.ok opF_cat (fun x y c => addD_lst) (isL_run h5) ha hb
        · obtain rfl := of_decide_eq_true h4
          exact mf_op g.pr.ok opF_rep (fun x y c => mulD_lst) (isL_run h5) ha hb
      · rw [if_neg hm] at h3
        obtain ⟨h4, h5⟩ := and3 h3
        exact snd_v g.pr.ok rfl (me_op g.pr.ok (op_mbin g.pr.ok op) (ck_ok a Γ .b l h5 g B) hb) h4
    · cases h
  | .neg a, Γ, m, e, h, X, E, g, B => by
    unfold ck at h
    split at h
    · obtain ⟨h1, h2⟩ := and3 h
      exact snd_e g.pr.ok (me_neg g.pr.ok (ck_ok a Γ .e _ h2 g B)) h1
    · cases h
  | .cmp op a b, Γ, m, e, h, X, E, g, B => by
    unfold ck at h
    split at h
    · rename_i l o r pos
      obtain ⟨h, h5⟩ := and3 h
      obtain ⟨h, h4⟩ := and3 h
      obtain ⟨h, h3⟩ := and3 h
      obtain ⟨h1, h2⟩ := and3 h
      have ho : op.py = o := of_decide_eq_true h2
      subst ho
      have hm : behindInMarks op.py r = false := by simpa using h5
      exact snd_t g.pr.ok (me_cmp g.pr.ok (op_mcmp g.hu op) (ck_ok a Γ .b l h3 g B) (ck_ok b Γ .b r h4 g B) hm) (mt_cmp g.pr.ok (op_mcmp g.hu op) (ck_ok a Γ .b l h3 g B) (ck_ok b Γ .b r h4 g B) hm) h1
    · cases h
  | .chain o1 o2 a b c, Γ, m, e, h, X, E, g, B => by
    unfold ck at h
    split at h
    · rename_i l p1 p2 r r2 pos
      obtain ⟨h, h7⟩ := and3 h
      obtain ⟨h, h6⟩ := and3 h
      obtain ⟨h, h5⟩ := and3 h
      obtain ⟨h, h4⟩ := and3 h
      obtain ⟨h, h3⟩ := and3 h
      obtain ⟨h1, h2⟩ := and3 h
      have e1 : o1.py = p1 := of_decide_eq_true h2
      have e2 : o2.py = p2 := of_decide_eq_true h3
      subst e1 e2
      have hm : lastMarks [o1.py, o2.py] [r, r2] = false := by simpa using h7
      exact snd_t g.pr.ok (me_chain g.pr.ok (op_mcmp g.hu o1) (op_mcmp g.hu o2) (ck_ok a Γ .e l h4 g B) (ck_ok b Γ .e r h5 g B) (ck_ok c Γ .e r2 h6 g B) hm)
        (mt_chain g.pr.ok (op_mcmp g.hu o1) (op_mcmp g.hu o2) (ck_ok a Γ .e l h4 g B) (ck_ok b Γ .e r h5 g B) (ck_ok c Γ .e r2 h6 g B) hm) h1
    · cases h
  | .isn a, Γ, m, e, h, X, E, g, B => by
    unfold ck at h
    split at h
    · obtain ⟨h1, h2⟩ := and3 h
      exact snd_t g.pr.ok (me_isn g.pr.ok (ck_ok a Γ .e _ h2 g B)) (mt_isn g.pr.ok (ck_ok a Γ .e _ h2 g B)) h1
    · cases h
  | .notn a, Γ, m, e, h, X, E, g, B => by
    unfold ck at h
    split at h
    · obtain ⟨h1, h2⟩ := and3 h
      exact snd_t g.pr.ok (me_notn g.pr.ok (ck_ok a Γ .e _ h2 g B)) (mt_notn g.pr.ok (ck_ok a Γ .e _ h2 g B)) h1
    · cases h
  | .isb a b, Γ, m, e, h, X, E, g, B => by
    unfold ck at h
    split at h
    · obtain ⟨h, h3⟩ := and3 h
      obtain ⟨h1, h2⟩ := and3 h
      have := eq_of_beq h2
      subst this
      exact snd_t g.pr.ok (me_isb g.pr.ok (ck_ok a Γ .e _ h3 g B)) (mt_isb g.pr.ok (ck_ok a Γ .e _ h3 g B)) h1
    · cases h
  | .ecmp ne c f a b, Γ, m, e, h, X, E, g, B => by
    unfold ck at h
    split at h
    · rename_i l o r pos
      obtain ⟨h, h6⟩ := and3 h
      obtain ⟨h, h5⟩ := and3 h
      obtain ⟨h, h4⟩ := and3 h
      obtain ⟨h, h3⟩ := and3 h
      obtain ⟨h1, h2⟩ := and3 h
      have ho := of_decide_eq_true h2
      subst ho
      have hm : behindInMarks (if ne then CmpOp.NotEq else CmpOp.Eq) r = false := by simpa using h6
      obtain ⟨C, fa, fd, ps, e1, e2, e3, e4⟩ := g.pr.eqs _ _ (of_decide_eq_true h3)
      have op := op_ins e4 e2 g.hr e3 g.pass ne
      exact snd_t g.pr.ok (me_ecmp g.pr.ok e1 op (ck_ok a Γ .e l h4 g B) (ck_ok b Γ .e r h5 g B) hm) (mt_ecmp g.pr.ok e1 op (ck_ok a Γ .e l h4 g B) (ck_ok b Γ .e r h5 g B) hm) h1
    · cases h
  | .and a b, Γ, m, e, h, X, E, g, B => by
    unfold ck at h
    split at h
    · rename_i x y rest pos
      obtain ⟨h, h3⟩ := and3 h
      obtain ⟨h1, h2⟩ := and3 h
      by_cases hm : m = .t
      · subst hm
        rw [if_pos rfl] at h2 h3
        have ha := ck_ok a Γ .t x h2 g B
        cases rest with
        | nil =>
          have hb := ck_ok b Γ .t y h3 g B
          exact (mw_and g.pr.ok ha (pw_and1 hb)).pt
        | cons z zs =>
          have hb := ck_ok b Γ .t _ h3 g B
          exact (mw_and g.pr.ok ha (pw_bool hb)).pt
      · rw [if_neg hm] at h2 h3
        have ha := ck_ok a Γ .e x h2 g B
        have hv := val_eb h1 hm
        cases rest with
        | nil =>
          have hb := ck_ok b Γ .e y h3 g B
          exact snd_e g.pr.ok (me_and g.pr.ok ha (pe_one hb)) hv
        | cons z zs =>
          have hb := ck_ok b Γ .e _ h3 g B
          exact snd_e g.pr.ok (me_and g.pr.ok ha hb) hv
    · cases h
  | .or a b, Γ, m, e, h, X, E, g, B => by
    unfold ck at h
    split at h
    · rename_i x y rest pos
      obtain ⟨h, h3⟩ := and3 h
      obtain ⟨h1, h2⟩ := and3 h
      by_cases hm : m = .t
      · subst hm
        rw [if_pos rfl] at h2 h3
        have ha := ck_ok a Γ .t x h2 g B
        cases rest with
        | nil =>
          have hb := ck_ok b Γ .t y h3 g B
          exact (mw_or g.pr.ok ha (pw_or1 hb)).pt
        | cons z zs =>
          have hb := ck_ok b Γ .t _ h3 g B
          exact (mw_or g.pr.ok ha (pw_bool hb)).pt
      · rw [if_neg hm] at h2 h3
        have ha := ck_ok a Γ .e x h2 g B
        have hv := val_eb h1 hm
        cases rest with
        | nil =>
          have hb := ck_ok b Γ .e y h3 g B
          exact snd_e g.pr.ok (me_or g.pr.ok ha (pe_one hb)) hv
        | cons z zs =>
          have hb := ck_ok b Γ .e _ h3 g B
          exact snd_e g.pr.ok (me_or g.pr.ok ha hb) hv
    · cases h
  | .not a, Γ, m, e, h, X, E, g, B => by
    unfold ck at h
    split at h
    · obtain ⟨h1, h2⟩ := and3 h
      by_cases hm : m = .t
      · subst hm
        rw [if_pos rfl] at h2
        exact mt_not g.pr.ok (ck_ok a Γ .t _ h2 g B)
      · rw [if_neg hm] at h2
        exact snd_e g.pr.ok (me_not g.pr.ok (ck_ok a Γ .e _ h2 g B)) (val_eb h1 hm)
    · cases h
  | .ite c a b, Γ, m, e, h, X, E, g, B => by
    unfold ck at h
    split at h
    · obtain ⟨h, h4⟩ := and3 h
      obtain ⟨h, h3⟩ := and3 h
      obtain ⟨h1, h2⟩ := and3 h
      exact snd_e g.pr.ok (me_ite g.pr.ok (ck_ok c Γ .t _ h2 g B) (ck_ok a Γ .e _ h3 g B) (ck_ok b Γ .e _ h4 g B)) h1
    · cases h
  | .idx a i, Γ, m, e, h, X, E, g, B => by
    unfold ck at h
    split at h
    · obtain ⟨h, h4⟩ := and3 h
      obtain ⟨h, h3⟩ := and3 h
      obtain ⟨h1, h2⟩ := and3 h
      exact snd_v g.pr.ok rfl (me_idx g.pr.ok (ix_md g.hu) (ck_ok a Γ .b _ h2 g B) (ck_ok i Γ .b _ h3 g B) (notSl_ok h4)) h1
    · cases h
  | .slice a lo hi, Γ, m, e, h, X, E, g, B => by
    unfold ck at h
    split at h
    · obtain ⟨h, h4⟩ := and3 h
      obtain ⟨h, h3⟩ := and3 h
      obtain ⟨h1, h2⟩ := and3 h
      exact snd_v g.pr.ok rfl (me_slice g.pr.ok (ck_ok a Γ .b _ h2 g B) (ckO_ok lo Γ _ h3 g B) (ckO_ok hi Γ _ h4 g B)) h1
    · cases h
  | .rev a, Γ, m, e, h, X, E, g, B => by
    unfold ck at h
    split at h
    · obtain ⟨h1, h2⟩ := and3 h
      exact snd_v g.pr.ok rfl (me_rev g.pr.ok (ck_ok a Γ .e _ h2 g B)) h1
    · cases h
  | .rpr x, Γ, m, e, h, X, E, g, B => by
    unfold ck at h
    split at h
    · obtain ⟨h, h6⟩ := and3 h
      obtain ⟨h, h5⟩ := and3 h
      obtain ⟨h, h4⟩ := and3 h
      obtain ⟨h, h3⟩ := and3 h
      obtain ⟨h1, h2⟩ := and3 h
      have hf := of_decide_eq_true h3
      subst hf
      exact snd_v g.pr.ok rfl (me_rpr g.pr.ok (g.gd h2) g.hu (g.gl h4) (g.pr.blt _ (by decide)) (ck_ok x Γ .b _ h6 g B) (star_cons h5)) h1
    · cases h
  | .sset _, Γ, m, e, h, X, E, g, B => by cases h
  | .lrng t a b, Γ, m, e, h, X, E, g, B => by
    unfold ck at h
    split at h
    · rename_i f p1 r p2 l p3 p4
      obtain ⟨h, h7⟩ := and3 h
      obtain ⟨h, h6⟩ := and3 h
      obtain ⟨h, h5⟩ := and3 h
      obtain ⟨h, h4⟩ := and3 h
      obtain ⟨h, h3⟩ := and3 h
      obtain ⟨h1, h2⟩ := and3 h
      have hr := of_decide_eq_true h3
      subst hr
      have e0 := isZero_ok h6
      subst e0
      have hp := rg_one (p1 := p2) (pos := p3) (t := t) g.pr.ok (g.gl h4) (g.pr.blt _ (by decide)) (ck_ok b Γ .e _ h7 g B) (star_cons h5)
      cases t with
      | true =>
        obtain ⟨h1, h8⟩ := and3 h1
        have hf := of_decide_eq_true h1
        subst hf
        exact snd_v g.pr.ok rfl (me_trng g.pr.ok g.calm (g.gl h2) (g.pr.blt _ (by decide)) hp rfl) h8
      | false =>
        obtain ⟨h1, h8⟩ := and3 h1
        have hf := of_decide_eq_true h1
        subst hf
        exact snd_f g.pr.ok (mf_lrng g.calm (g.gl h2) (g.pr.blt _ (by decide)) hp rfl) h8
    · rename_i f p1 r p2 l l2 p3 p4
      obtain ⟨h, h8⟩ := and3 h
      obtain ⟨h, h7⟩ := and3 h
      obtain ⟨h, h6⟩ := and3 h
      obtain ⟨h, h5⟩ := and3 h
      obtain ⟨h, h4⟩ := and3 h
      obtain ⟨h, h3⟩ := and3 h
      obtain ⟨h1, h2⟩ := and3 h
      have hr := of_decide_eq_true h3
      subst hr
      have hp := rg_two (p1 := p2) (pos := p3) (t := t) g.pr.ok (g.gl h4) (g.pr.blt _ (by decide)) (ck_ok a Γ .e _ h7 g B) (ck_ok b Γ .e _ h8 g B) (star_cons h5) (star_cons h6) (by rw [star_cons h6]; rfl)
      cases t with
      | true =>
        obtain ⟨h1, h9⟩ := and3 h1
        have hf := of_decide_eq_true h1
        subst hf
        exact snd_v g.pr.ok rfl (me_trng g.pr.ok g.calm (g.gl h2) (g.pr.blt _ (by decide)) hp rfl) h9
      | false =>
        obtain ⟨h1, h9⟩ := and3 h1
        have hf := of_decide_eq_true h1
        subst hf
        exact snd_f g.pr.ok (mf_lrng g.calm (g.gl h2) (g.pr.blt _ (by decide)) hp rfl) h9
    · cases h
  | .lset x, Γ, m, e, h, X, E, g, B => by
    unfold ck at h
    split at h
    · obtain ⟨h, h7⟩ := and3 h
      obtain ⟨h, h6⟩ := and3 h
      obtain ⟨h, h5⟩ := and3 h
      obtain ⟨h, h4⟩ := and3 h
      obtain ⟨h, h3⟩ := and3 h
      obtain ⟨h1, h2⟩ := and3 h
      have hr := of_decide_eq_true h4
      subst hr
      have hf := of_decide_eq_true h2
      subst hf
      exact snd_v g.pr.ok rfl (me_lset g.pr.ok g.calm (g.gl h3) (g.pr.blt _ (by decide)) (g.gl h5) (g.pr.blt _ (by decide)) (ck_ok x Γ .b _ h7 g B) (star_cons h6)) h1
    · cases h
  | .eset ne a b, Γ, m, e, h, X, E, g, B => by
    unfold ck at h
    split at h
    · obtain ⟨h, h9⟩ := and3 h
      obtain ⟨h, h8⟩ := and3 h
      obtain ⟨h, h7⟩ := and3 h
      obtain ⟨h, h6⟩ := and3 h
      obtain ⟨h, h5⟩ := and3 h
      obtain ⟨h, h4⟩ := and3 h
      obtain ⟨h, h3⟩ := and3 h
      obtain ⟨h1, h2⟩ := and3 h
      have hr := of_decide_eq_true h4
      subst hr
      have hf := of_decide_eq_true h3
      subst hf
      cases ne with
      | true => cases h2
      | false => exact snd_t g.pr.ok (me_eset g.pr.ok g.hu g.calm (g.gl h5) (g.pr.blt _ (by decide)) (ck_ok a Γ .b _ h8 g B) (ck_ok b Γ .b _ h9 g B) (star_cons h6) (star_cons h7)) (mt_eset g.pr.ok g.hu g.calm (g.gl h5) (g.pr.blt _ (by decide)) (ck_ok a Γ .b _ h8 g B) (ck_ok b Γ .b _ h9 g B) (star_cons h6) (star_cons h7)) h1
    · cases h
  | .fld c a n, Γ, m, e, h, X, E, g, B => by
    unfold ck at h
    split at h
    · rename_i l f pos
      obtain ⟨h, h4⟩ := and3 h
      obtain ⟨h, h3⟩ := and3 h
      obtain ⟨h1, h2⟩ := and3 h
      have hf : (T.flds c)[n]? = some f := by rw [← g.pr.flds]; exact of_decide_eq_true h2
      exact snd_v g.pr.ok rfl (me_fld g.pr.ok g.pr.ic.co hf (ck_ok a Γ .e _ h4 g B) (attrB h3)) h1
    · cases h
  | .isi a t, Γ, m, e, h, X, E, g, B => by
    unfold ck at h
    split at h
    · obtain ⟨h, h6⟩ := and3 h
      obtain ⟨h, h5⟩ := and3 h
      obtain ⟨h, h4⟩ := and3 h
      obtain ⟨h, h3⟩ := and3 h
      obtain ⟨h1, h2⟩ := and3 h
      have hf := of_decide_eq_true h2
      subst hf
      obtain ⟨cv, cu, hc, hr, ht⟩ := ty_ok g h5
      exact snd_v g.pr.ok rfl (me_isi g.pr.ok g.pr.ic (ck_ok a Γ .e _ h6 g B) hc hr ht (g.gl h3) (g.pr.blt _ (by decide)) (star_cons h4) (star_cons rfl) (back_any rfl)) h1
    · cases h
  | .bi b es, Γ, m, e, h, X, E, g, B => by
    unfold ck at h
    split at h
    · rename_i x p l ls pos
      obtain ⟨h, h5⟩ := and3 h
      obtain ⟨h, h4⟩ := and3 h
      obtain ⟨h, h3⟩ := and3 h
      obtain ⟨h1, h2⟩ := and3 h
      split at h1
      · rename_i y ty hb
        have hx := of_decide_eq_true h1
        subst hx
        have ha := ckL_ok es Γ .b _ (.inr rfl) h4 g B
        rw [Bool.or_eq_true] at h5
        rcases h5 with h5 | h5
        · exact snd_v g.pr.ok rfl (bi_ok g hb h2 ha h3) h5
        · obtain ⟨h5, h7⟩ := and3 h5
          obtain ⟨h5, h6⟩ := and3 h5
          have hm := of_decide_eq_true h5
          have hb2 := of_decide_eq_true h6
          subst hm hb2
          cases hb
          cases ls with
          | nil =>
            obtain ⟨q1, q2⟩ : plainE l = true ∧ allPlain [] = true := and3 (by unfold allPlain at h3 ⊢; rwa [List.all_cons] at h3)
            exact mf_blist g.pr.ok (g.gl h2) (g.pr.blt _ (by decide)) ha (star_cons q1) (back_any rfl)
          | cons _ _ => cases h7
      · cases h1
    · cases h
  | .meth b o es, Γ, m, e, h, X, E, g, B => by
    unfold ck at h
    split at h
    · rename_i l f ap a as cp
      obtain ⟨h, h8⟩ := and3 h
      obtain ⟨h, h7⟩ := and3 h
      obtain ⟨h, h6⟩ := and3 h
      obtain ⟨h, h5⟩ := and3 h
      obtain ⟨h, h4⟩ := and3 h
      obtain ⟨h, h3⟩ := and3 h
      obtain ⟨h1, h2⟩ := and3 h
      obtain ⟨q1, q2⟩ : plainE a = true ∧ allPlain as = true := and3 (by unfold allPlain at h4 ⊢; rwa [List.all_cons] at h4)
      have ho := ck_ok o Γ .b l h7 g B
      have ha := ckL_ok es Γ .b _ (.inr rfl) h8 g B
      have hb : b.meth = some f := of_decide_eq_true h2
      have hm : MtOk X T f (isRcv b) (D.bi b) := by
        cases b <;> cases hb
        · exact mt_mindex g.hu
        · exact mt_mcount g.hu
      exact snd_v g.pr.ok rfl (me_meth g.pr.ok hm ho ha (attrB h3) (few h4 (of_decide_eq_true h5)) h6 (star_cons q1) (back_any q2)) h1
    · cases h
  | .call f es, Γ, m, e, h, X, E, g, B => by
    unfold ck at h
    split at h
    · rename_i x p as pos
      obtain ⟨h, h6⟩ := and3 h
      obtain ⟨h, h5⟩ := and3 h
      obtain ⟨h, h4⟩ := and3 h
      obtain ⟨h, h3⟩ := and3 h
      obtain ⟨h1, h2⟩ := and3 h
      obtain ⟨fa, fd, ps, e1, e2, e3, e4⟩ := g.pr.fns _ _ (of_decide_eq_true h4)
      have hd := notD_ok h3
      have ha := ckL_ok es Γ .e _ (.inl rfl) h6 g B
      cases as with
      | nil =>
        cases es with
        | nil => exact snd_v g.pr.ok rfl (me_call0 e4 g.hr (g.gl h2) e1 e2 e3 g.pass hd.1) h1
        | cons _ _ => cases h6
      | cons a as =>
        obtain ⟨q1, q2⟩ : plainE a = true ∧ allPlain as = true := and3 (by unfold allPlain at h5 ⊢; rwa [List.all_cons] at h5)
        exact snd_v g.pr.ok rfl (me_call e4 g.hr (g.gl h2) e1 e2 e3 g.pass ha hd.1 (star_cons q1) (back_any q2)) h1
    · cases h
  | .callv i es, Γ, m, e, h, X, E, g, B => by
    unfold ck at h
    split at h
    · rename_i x p as pos
      obtain ⟨h, h4⟩ := and3 h
      obtain ⟨h, h3⟩ := and3 h
      obtain ⟨h1, h2⟩ := and3 h
      obtain ⟨v1, v2, v3, v4⟩ := g.var h2
      have ha := ckL_ok es Γ .e _ (.inl rfl) h4 g B
      cases as with
      | nil =>
        cases es with
        | nil => exact snd_v g.pr.ok rfl (me_callv0 g.pr.ok g.pr.xo g.pr.clo g.pr.lams g.hr g.pass v1 v2 v3 v4) h1
        | cons _ _ => cases h4
      | cons a as =>
        obtain ⟨q1, q2⟩ : plainE a = true ∧ allPlain as = true := and3 (by unfold allPlain at h3 ⊢; rwa [List.all_cons] at h3)
        exact snd_v g.pr.ok rfl (me_callv g.pr.ok g.pr.xo g.pr.clo g.pr.lams g.hr g.pass v1 v2 ha v3 v4 (star_cons q1) (back_any q2)) h1
    · cases h
  | .callc f es n cs, Γ, m, e, h, X, E, g, B => by
    unfold ck at h
    split at h
    · rename_i x p a as pos
      obtain ⟨h, h7⟩ := and3 h
      obtain ⟨h, h6⟩ := and3 h
      obtain ⟨h, h5⟩ := and3 h
      obtain ⟨h, h4⟩ := and3 h
      obtain ⟨h, h3⟩ := and3 h
      obtain ⟨h1, h2⟩ := and3 h
      obtain ⟨fa, fd, ps, e1, e2, e3, e4⟩ := g.pr.fns _ _ (of_decide_eq_true h4)
      have hd := notD_ok h3
      obtain ⟨q1, q2⟩ : plainE a = true ∧ allPlain as = true := and3 (by unfold allPlain at h5 ⊢; rwa [List.all_cons] at h5)
      obtain ⟨params, body, scope, lq, hq, hfree, hcs, hlo, hdef, hz⟩ := ckZ_ok es Γ n cs (a :: as) h7 g B
      obtain ⟨hex, hqq, _⟩ := g.lam _ hq
      refine snd_v g.pr.ok rfl (me_callc (LD := ⟨lq, params, body, scope, params.args.map (·.arg), frOf scope, Γ.pr.lamN n⟩) g.pr.ok g.pr.xo g.pr.clo (g.lo _ _ hlo) hqq rfl rfl rfl (g.own h6) hex e4 g.hr (g.gl h2) e1 e2 e3 g.pass hfree (fun y hy => ?_) hcs hz hd.1 (star_cons q1) (back_any q2)) h1
      obtain ⟨p, hp, rfl⟩ := List.mem_map.mp hy
      obtain ⟨h1, h2⟩ := List.mem_filter.mp hp
      have h2 : p.2 = .free := of_decide_eq_true h2
      rw [← h2]
      exact h1
    · cases h
  | .mk c f es, Γ, m, e, h, X, E, g, B => by
    unfold ck at h
    split at h
    · rename_i x p a as pos
      obtain ⟨h, h8⟩ := and3 h
      obtain ⟨h, h7⟩ := and3 h
      obtain ⟨h, h6⟩ := and3 h
      obtain ⟨h, h5⟩ := and3 h
      obtain ⟨h, h4⟩ := and3 h
      obtain ⟨h, h3⟩ := and3 h
      obtain ⟨h1, h2⟩ := and3 h
      have hf := of_decide_eq_true h5
      subst hf
      obtain ⟨C, fa, fd, ps, lk, e1, e2, e3, e4, e5, e6, e7, e8⟩ := g.pr.make _ _ (of_decide_eq_true h4)
      obtain ⟨q1, q2⟩ : plainE a = true ∧ allPlain as = true := and3 (by unfold allPlain at h6 ⊢; rwa [List.all_cons] at h6)
      have hd := notD_ok h3
      have ha := ckL_ok es Γ .e _ (.inl rfl) h8 g B
      have hl : es.length = (T.flds c).length := by rw [ckL_len h8, ← g.pr.flds]; exact of_decide_eq_true h7
      exact snd_v g.pr.ok rfl (me_make g.pr.ok e1 e6 e7 e3 e8 e5 g.hr (g.gl h2) e2 e4 g.pass ha (fun env s => by
        have := evs_len (call := callN G dr k) es env s
        split
        · rename_i ds s1 eq; rw [eq] at this; rw [this, hl]
        · trivial) hd.1 (star_cons q1) (back_any q2)) h1
    · cases h
  | .lc elt tg it cond, Γ, m, e, h, X, E, g, B => by
    unfold ck at h
    split at h
    · rename_i y t iter ifs scope pos
      obtain ⟨h, h6⟩ := and3 h
      obtain ⟨h, h5⟩ := and3 h
      obtain ⟨h, h4⟩ := and3 h
      obtain ⟨h, h3⟩ := and3 h
      obtain ⟨h1, h2⟩ := and3 h
      have okb : BlkOk X.N X.env.scope scope (ownOf Γ.N tg.places) := by
        rw [g.N, g.sc]
        exact blkOk_by h6
      have hown : (ownOf Γ.N tg.places).map (·.2) = tg.places := ownOf_map _
      have gb := g.blk okb.kind
      have hg := fun s H C cl fp => ckG_ok (gb s H C cl fp) B tg t h2
      have ht := fun s H C cl fp => ckO'_ok cond (Γ.blk scope) ifs h4 (gb s H C cl fp) B
      have hi := ckI_ok it Γ false tg t iter h3 g B
      have hs : ∀ x, foldedSetIterable iter X.env x = pure x := ckI_set h3
      by_cases hm : m = .m
      · subst hm
        rw [if_pos rfl] at h5
        exact mm_lc g.pr.ok g.calm g.nd hi okb hown hg ht (fun s H C cl fp => ck_ok elt (Γ.blk scope) .f y h5 (gb s H C cl fp) B) hs
      · rw [if_neg hm] at h5
        have h1 : m.valF = true := by
          rw [Bool.or_eq_true] at h1
          rcases h1 with h1 | h1
          · exact h1
          · exact absurd (of_decide_eq_true h1) hm
        exact snd_f g.pr.ok (mf_lc g.pr.ok g.calm g.nd hi okb hown hg ht (fun s H C cl fp => ck_ok elt (Γ.blk scope) .e y h5 (gb s H C cl fp) B) hs) h1
    · cases h
theorem ckL_ok : ∀ (xs : List Ex) (Γ : Ck) (m : Md) (es : List Expr), (m = .e ∨ m = .b) → ckL Γ m xs es = true → ∀ {X : Cx} {E : XK}, GoodX LOK Γ X E T XT G dr k → ∀ B : Hp, SndL X T XT E B m es (evs (callN G dr k) xs)
  | [], Γ, m, [], hm, _, X, E, g, B => by
    rcases hm with rfl | rfl
    · exact ml_nil
    · exact mlb_nil
  | x :: xs, Γ, m, e :: es, hm, h, X, E, g, B => by
    have h : (plainE e && ck Γ m x e && ckL Γ m xs es) = true := h
    obtain ⟨h, h3⟩ := and3 h
    obtain ⟨h1, h2⟩ := and3 h
    have i1 := ck_ok x Γ m e h2 g B
    have i2 := ckL_ok xs Γ m es hm h3 g B
    rcases hm with rfl | rfl
    · exact ml_cons g.pr.ok i1 i2 (star_cons h1)
    · exact mlb_cons g.pr.ok i1 i2 (star_cons h1)
  | [], _, _, _ :: _, _, h, _, _, _, _ => by cases h
  | _ :: _, _, _, [], _, h, _, _, _, _ => by cases h
theorem ckZ_ok : ∀ (xs : List Ex) (Γ : Ck) (n : Nat) (cs : List Nat) (es : List Expr), ckZ Γ xs n cs es = true → ∀ {X : Cx} {E : XK}, GoodX LOK Γ X E T XT G dr k → ∀ B : Hp,
    ∃ params body scope q, Γ.lq = some q ∧ (∀ y ∈ scope.names, y.2 = .free → X.env.scope.names.lookup y.1 = some .cell ∨ X.env.scope.names.lookup y.1 = some .free) ∧ cs.map (fun j => X.N[j]?) = (frOf scope).map some ∧
      Γ.lo n ⟨q, params, body, scope, params.args.map (·.arg), frOf scope, Γ.pr.lamN n⟩ = true ∧ defaultsOf params X.env = ([], []) ∧
      PA X es (tLZ X.K T XT E B (X.env.qual ++ "<lambda>") params body scope X.env.cells (evs (callN G dr k) xs))
  | [], Γ, n, cs, [e], h, X, E, g, B => by
    unfold ckZ at h
    split at h
    · rename_i params body scope lpos q hq
      obtain ⟨h, h4⟩ := and3 h
      obtain ⟨h, h3⟩ := and3 h
      obtain ⟨h1, h2⟩ := and3 h
      have hfree : ∀ y ∈ scope.names, y.2 = .free → X.env.scope.names.lookup y.1 = some .cell ∨ X.env.scope.names.lookup y.1 = some .free := fun y hy e => by
        have h1 := List.all_eq_true.mp h1 y hy
        rw [g.sc]
        simp only [Bool.or_eq_true, decide_eq_true_eq, Bool.not_eq_true', decide_eq_false_iff_not] at h1
        rcases h1 with (h1 | h1) | h1
        · exact absurd e h1
        · exact .inl h1
        · exact .inr h1
      have hdef : defaultsOf params X.env = ([], []) := by
        unfold paramsB at h3
        split at h3
        · rfl
        · cases h3
      obtain ⟨hex, hqq, c, P, t1, t2, t3, t4⟩ := g.lam _ hq
      exact ⟨params, body, scope, q, hq, hfree, by rw [g.N]; exact of_decide_eq_true h2, h4, hdef, mz_one (me_lam g.pr.ok t1 t2 t3 t4 hdef hfree) (star_cons rfl)⟩
    · cases h
  | x :: xs, Γ, n, cs, e :: es, h, X, E, g, B => by
    have h : (plainE e && ck Γ .e x e && ckZ Γ xs n cs es) = true := h
    obtain ⟨h, h3⟩ := and3 h
    obtain ⟨h1, h2⟩ := and3 h
    obtain ⟨params, body, scope, q, a1, a2, a3, a4, a5, a6⟩ := ckZ_ok xs Γ n cs es h3 g B
    exact ⟨params, body, scope, q, a1, a2, a3, a4, a5, mz_cons g.pr.ok (ck_ok x Γ .e e h2 g B) a6 (star_cons h1)⟩
  | [], _, _, _, [], h, _, _, _, _ => by cases h
  | [], _, _, _, _ :: _ :: _, h, _, _, _, _ => by cases h
  | _ :: _, _, _, _, [], h, _, _, _, _ => by cases h
theorem ckO_ok : ∀ (x : Option Ex) (Γ : Ck) (e : Option Expr), ckO Γ x e = true → ∀ {X : Cx} {E : XK}, GoodX LOK Γ X E T XT G dr k → ∀ B : Hp, PO X e (tO X.K T XT E B (evo (callN G dr k) x))
  | none, Γ, none, _, X, E, g, B => mo_none
  | some x, Γ, some e, h, X, E, g, B => mo_some g.pr.ok (ck_ok x Γ .e e h g B)
  | none, _, some _, h, _, _, _, _ => by cases h
  | some _, _, none, h, _, _, _, _ => by cases h
theorem ckO'_ok : ∀ (x : Option Ex) (Γ : Ck) (es : List Expr), ckO' Γ x es = true → ∀ {X : Cx} {E : XK}, GoodX LOK Γ X E T XT G dr k → ∀ B : Hp, PTs X es (tC X.K T XT E B (evc (callN G dr k) x))
  | none, Γ, [], _, X, E, g, B => mts_nil
  | some x, Γ, [e], h, X, E, g, B => mts_one (ck_ok x Γ .t e h g B)
  | none, _, _ :: _, h, _, _, _, _ => by cases h
  | some _, _, [], h, _, _, _, _ => by cases h
  | some _, _, _ :: _ :: _, h, _, _, _, _ => by cases h
theorem ckI_ok : ∀ (x : It) (Γ : Ck) (fz : Bool) (tg : Tg) (t e : Expr), ckI Γ fz x tg t e = true → ∀ {X : Cx} {E : XK}, GoodX LOK Γ X E T XT G dr k → ∀ B : Hp, PI X t e (tI X.K T XT E fz B tg (evi (callN G dr k) x))
  | .ex x, Γ, fz, tg, t, e, h, X, E, g, B => by
    unfold ckI at h
    obtain ⟨h1, h2⟩ := and3 h
    refine mi_ex g.pr.ok ?_
    cases fz with
    | true => exact tk_e (ck_ok x Γ .e e h1 g B)
    | false => exact tk_b (ck_ok x Γ .b e h1 g B)
  | .rng a b, Γ, fz, tg, t, e, h, X, E, g, B => by
    unfold ckI at h
    split at h
    · rename_i f p l pos
      obtain ⟨h, h5⟩ := and3 h
      obtain ⟨h, h4⟩ := and3 h
      obtain ⟨h, h3⟩ := and3 h
      obtain ⟨h1, h2⟩ := and3 h
      have hf := of_decide_eq_true h1
      subst hf
      have ha := isZero_ok h4
      subst ha
      exact mi_rng1 g.pr.ok (g.gl h2) (g.pr.blt _ (by decide)) (ml_cons g.pr.ok (ck_ok b Γ .e l h5 g B) ml_nil (star_cons h3)) (star_cons h3)
    · rename_i f p l r pos
      obtain ⟨h, h6⟩ := and3 h
      obtain ⟨h, h5⟩ := and3 h
      obtain ⟨h, h4⟩ := and3 h
      obtain ⟨h, h3⟩ := and3 h
      obtain ⟨h1, h2⟩ := and3 h
      have hf := of_decide_eq_true h1
      subst hf
      exact mi_rng2 g.pr.ok (g.gl h2) (g.pr.blt _ (by decide)) (ml_cons g.pr.ok (ck_ok a Γ .e l h5 g B) (ml_cons g.pr.ok (ck_ok b Γ .e r h6 g B) ml_nil (star_cons h4)) (star_cons h3)) (by rw [star_cons h3, star_cons h4] <;> rfl) (star_cons h4)
    · cases h
  | .enum x, Γ, fz, tg, t, e, h, X, E, g, B => by
    unfold ckI at h
    split at h
    · rename_i f p l pos
      obtain ⟨h, h6⟩ := and3 h
      obtain ⟨h, h5⟩ := and3 h
      obtain ⟨h, h4⟩ := and3 h
      obtain ⟨h, h3⟩ := and3 h
      obtain ⟨h1, h2⟩ := and3 h
      have hf := of_decide_eq_true h1
      subst hf
      have hx : PE X l (tK X.K T XT E fz B (ev (callN G dr k) x)) := by
        cases fz with
        | true => exact tk_e (ck_ok x Γ .e l h6 g B)
        | false => exact tk_b (ck_ok x Γ .b l h6 g B)
      cases tg with
      | one _ => cases h4
      | tup ts =>
        split at h5
        · exact mi_enum g.pr.ok rfl (g.gl h2) (g.pr.blt _ (by decide)) hx (star_cons h3)
        · cases h5
    · cases h
  | .zip a b, Γ, fz, tg, t, e, h, X, E, g, B => by
    unfold ckI at h
    split at h
    · rename_i f p l r pos
      obtain ⟨h, h8⟩ := and3 h
      obtain ⟨h, h7⟩ := and3 h
      obtain ⟨h, h6⟩ := and3 h
      obtain ⟨h, h5⟩ := and3 h
      obtain ⟨h, h4⟩ := and3 h
      obtain ⟨h, h3⟩ := and3 h
      obtain ⟨h1, h2⟩ := and3 h
      have hf := of_decide_eq_true h1
      subst hf
      have hx : PE X l (tK X.K T XT E fz B (ev (callN G dr k) a)) ∧ PE X r (tK X.K T XT E fz B (ev (callN G dr k) b)) := by
        cases fz with
        | true => exact ⟨tk_e (ck_ok a Γ .e l h7 g B), tk_e (ck_ok b Γ .e r h8 g B)⟩
        | false => exact ⟨tk_b (ck_ok a Γ .b l h7 g B), tk_b (ck_ok b Γ .b r h8 g B)⟩
      cases tg with
      | one _ => cases h5
      | tup ts =>
        split at h6
        · exact mi_zip g.pr.ok rfl (g.gl h2) (g.pr.blt _ (by decide)) hx.1 hx.2 (star_cons h3) (star_cons h4) (back_any (by unfold allPlain; rw [List.all_cons, h4]; rfl))
        · cases h6
    · cases h
end
end
end Mp

set_option Elab.async false
set_option linter.all false
set_option maxRecDepth 100000
set_option maxHeartbeats 8000000
/-! Statements against the evaluator's. -/
namespace Mp
open PySem PySem.Spec PyProof.Rows L2

/-- a comprehension whose value goes straight to a name -/
def swB (Γ : Ck) (v : Expr) (x : Str) (p : Pos) : Bool := match v with
  | .ListComp _ _ s q => decide (Γ.sc.names.lookup x = some .local) && (p.line == q.line) && !(s.names.any fun (n, k) => n == x && (k == .local || k == .cell))
  | _ => false
def noSC : Expr → Bool
  | .SetComp _ _ _ _ => false
  | .DictComp _ _ _ _ _ => false
  | _ => true
def noComp : Expr → Bool
  | .ListComp _ _ _ _ => false
  | .SetComp _ _ _ _ => false
  | .DictComp _ _ _ _ _ => false
  | _ => true
def freshB : Ex → Bool
  | .list _ => true
  | .lc _ _ _ _ => true
  | .bin .add a _ => isL a
  | .bin .mul a _ => isL a
  | .bi .list _ => true
  | .lrng t _ _ => !t
  | _ => false
def isLc : Ex → Bool
  | .lc _ _ _ _ => true
  | _ => false
/-- a name of the frame's own -/
def ckNm (Γ : Ck) (i : Nat) (x : Str) : Bool := decide (Γ.N[i]? = some x) && locB Γ x
def notTup : Expr → Bool
  | .Tuple _ _ _ => false
  | _ => true
def nameOf : Expr → Option (Str × Nat)
  | .Name x p => some (x, p.line)
  | _ => none
def swNames (Γ : Ck) (ts : List Expr) : List Str := ts.filterMap fun
  | .Name id pos => if Γ.sc.names.lookup id == some .local && pos.line == (ts.head?.map (·.pos.line)).getD 0 then some id else none
  | _ => none
/-- how a tuple's parts are stored: some none: in order; some (some names): from the right -/
def swPar (Γ : Ck) (ts vs : List Expr) : Option (Option (List Str)) :=
  if !(ts.length == 2 || ts.length == 3) || vs.length != ts.length then some none
  else if !allPlain vs then some none
  else if (swNames Γ ts).length != ts.length || (swNames Γ ts).eraseDups.length != (swNames Γ ts).length then some none
  else if vs.all (foldedForSure 8) then some none
  else if vs.all (constantsAlone 8) then none
  else some (some (swNames Γ ts))
def swapB (Γ : Ck) (ts vs : List Expr) : Bool := (swPar Γ ts vs).isSome
def ckNms (Γ : Ck) : List Nat → List Expr → Bool
  | [], [] => true
  | i :: is, .Name x _ :: es => ckNm Γ i x && ckNms Γ is es
  | _, _ => false
def ckN (Γ : Ck) : List Nat → List Ex → List Expr → Bool
  | [], [], [] => true
  | 0 :: ks, x :: xs, e :: es => plainE e && ck Γ .e x e && ckN Γ ks xs es
  | 1 :: ks, x :: xs, e :: es => plainE e && freshB x && ck Γ .f x e && ckN Γ ks xs es
  | _, _, _ => false
mutual
def ckS (Γ : Ck) : St → Stmt → Bool
  | .set i e, s => match s with
    | .Assign [.Name x p] v _ => ckNm Γ i x && noSC v && (if swB Γ v x p then isLc e && ck Γ .f e v else ck Γ .e e v)
    | _ => false
  | .own i e, s => match s with
    | .Assign [.Name x p] v _ => ckNm Γ i x && noSC v && freshB e && ck Γ .f e v && (!swB Γ v x p || isLc e)
    | _ => false
  | .mat i e, s => match s with
    | .Assign [.Name x p] v _ => ckNm Γ i x && noSC v && isLc e && ck Γ .m e v
    | _ => false
  | .frz _, _ => false
  | .tset is es, s => match s with
    | .Assign [.Tuple ts _ _] (.Tuple vs _ _) _ => ckNms Γ (is.map (·.1)) ts && ckN Γ (is.map (·.2)) es vs && decide (is.length ≤ 1000) && nodupB (is.map (·.1)) && swapB Γ ts vs
    | _ => false
  | .unp t e, s => match s with
    | .Assign [tg] v _ => isTupT t && ckG Γ t tg && notTup v && noComp v && ck Γ .e e v && (match tg with | .Tuple _ _ _ => true | _ => false)
    | _ => false
  | .app i e, s => match s with
    | .Expr (.Call (.Attribute (.Name x _) f ap) [a] [] cp) _ => decide (f = "append") && ckVar Γ i x && plainE a && (ap.endLine == cp.line) && ck Γ .e e a
    | _ => false
  | .ext i e, s => match s with
    | .Expr (.Call (.Attribute (.Name x _) f ap) [a] [] cp) _ => decide (f = "extend") && ckVar Γ i x && plainE a && (ap.endLine == cp.line) && ck Γ .b e a
    | _ => false
  | .pop t j e, s => match s with
    | .Assign [tg] (.Call (.Attribute (.Name x _) f ap) as [] cp) _ => decide (f = "pop") && ckVar Γ j x && (ap.endLine == cp.line) && ckG Γ t tg && plainE tg && (match e, as with
      | none, [] => true
      | some e, [a] => plainE a && ck Γ .e e a
      | _, _ => false)
    | _ => false
  | .appPop i j e, s => match s with
    | .Expr (.Call (.Attribute (.Name x _) f ap) [.Call (.Attribute (.Name y _) f2 ap2) as [] cp2] [] cp) _ => decide (f = "append") && decide (f2 = "pop") && ckVar Γ i x && ckVar Γ j y && (ap.endLine == cp.line) && (ap2.endLine == cp2.line) && (match e, as with
      | none, [] => true
      | some e, [a] => plainE a && ck Γ .e e a
      | _, _ => false)
    | _ => false
  | .put i k e, s => match s with
    | .Assign [.Subscript (.Name x _) ke _] v _ => ckVar Γ i x && notSl ke && noComp v && notTup v && ck Γ .e k ke && ck Γ .e e v
    | _ => false
  | .put2 i k l e, s => match s with
    | .Assign [.Subscript (.Subscript (.Name x _) ke _) le _] v _ => ckVar Γ i x && notSl ke && notSl le && noComp v && notTup v && ck Γ .e k ke && ck Γ .e l le && ck Γ .e e v
    | _ => false
  | .expr e, s => match s with
    | .Expr v _ => noComp v && ck Γ .e e v
    | _ => false
  | .ret e, s => match s with
    | .Return (some v) _ => ck Γ .e e v
    | .Return none _ => isNone e
    | _ => false
  | .ite c a b, s => match s with
    | .If t x y _ => ck Γ .t c t && ckSs Γ a x && ckSs Γ b y
    | _ => false
  | .for tg it body, s => match s with
    | .For t iter x [] _ => ckG Γ tg t && ckI Γ true it tg t iter && ckSs Γ body x
    | _ => false
  | .while c body, s => match s with
    | .While t x [] _ => ck Γ .t c t && ckSs Γ body x
    | _ => false
  | .raise _ _, _ => false
  | .tri _ _ _ _ _, _ => false
  | .dead, _ => true
  | .pass, s => match s with
    | .Pass _ => true
    | _ => false
  | .brk, s => match s with
    | .Break _ => true
    | _ => false
  | .cnt, s => match s with
    | .Continue _ => true
    | _ => false
def ckSs (Γ : Ck) : List St → List Stmt → Bool
  | [], [] => true
  | .frz _ :: r, s => ckSs Γ r s
  | t :: r, s :: ss => ckS Γ t s && ckSs Γ r ss
  | _, _ => false
def nodupB : List Nat → Bool
  | [] => true
  | i :: is => !is.contains i && nodupB is
def isNone : Ex → Bool
  | .con .non => true
  | _ => false
end
end Mp

set_option Elab.async false
set_option linter.all false
set_option maxRecDepth 100000
set_option maxHeartbeats 16000000
/-! The looks are sound: statements. -/
namespace Mp
open PySem PySem.Spec PyProof.Rows L2

section
variable {S : Type} {LOK : Nat → LamD → Prop} {T : Tab S} {XT : ExcT} {G : Nat → Option Fn} {dr : Dr S} {k : Nat}
theorem GoodX.bk {Γ : Ck} {X : Cx} {E : XK} (g : GoodX LOK Γ X E T XT G dr k) : X.env.blockKind = .function := by
  unfold PySem.Env.blockKind
  rw [g.kind]
  rfl
theorem swPar_ok {Γ : Ck} {X : Cx} {E : XK} (g : GoodX LOK Γ X E T XT G dr k) {ts vs : List Expr} {k1 k2 : Nat} {p1 p2 : Pos} {r : Option (List Str)} (h : swPar Γ ts vs = some r) : swappedStores [.Tuple ts k1 p1] (.Tuple vs k2 p2) X.env = pure r := by
  have hk : ∀ x, X.env.kindOf x = Γ.sc.names.lookup x := fun x => by
    show X.env.scope.names.lookup x = _
    rw [g.sc]
  have hn : (ts.filterMap fun | .Name id pos => if X.env.kindOf id == some .local && pos.line == (ts.head?.map (·.pos.line)).getD 0 then some id else none | _ => none) = swNames Γ ts := by
    unfold swNames
    congr 1
    funext e
    cases e <;> first | rfl | (dsimp only; rw [hk])
  unfold swPar at h
  unfold swappedStores
  have hb : (X.env.blockKind != .function) = false := by rw [g.bk]; rfl
  show (if (!(ts.length == 2 || ts.length == 3) || vs.length != ts.length || X.env.blockKind != .function) = true then pure none
    else if (vs.any fun | .Starred .. => true | _ => false) = true then pure none
    else if ((ts.filterMap fun | .Name id pos => if X.env.kindOf id == some .local && pos.line == (ts.head?.map (·.pos.line)).getD 0 then some id else none | _ => none).length != ts.length || (ts.filterMap fun | .Name id pos => if X.env.kindOf id == some .local && pos.line == (ts.head?.map (·.pos.line)).getD 0 then some id else none | _ => none).eraseDups.length != (ts.filterMap fun | .Name id pos => if X.env.kindOf id == some .local && pos.line == (ts.head?.map (·.pos.line)).getD 0 then some id else none | _ => none).length) = true then pure none
    else if vs.all (foldedForSure 8) = true then pure none
    else if vs.all (constantsAlone 8) = true then (do let _ ← (unsupported "assign.tuple-of-constant-expressions:order-of-the-stores" : Sem Unit); pure (some (ts.filterMap fun | .Name id pos => if X.env.kindOf id == some .local && pos.line == (ts.head?.map (·.pos.line)).getD 0 then some id else none | _ => none))) else pure (some (ts.filterMap fun | .Name id pos => if X.env.kindOf id == some .local && pos.line == (ts.head?.map (·.pos.line)).getD 0 then some id else none | _ => none)) : Sem (Option (List Str))) = pure r
  have h2 : (vs.any fun | .Starred .. => true | _ => false) = !allPlain vs := by
    clear h
    unfold allPlain
    induction vs with
    | nil => rfl
    | cons e es ih =>
      rw [List.any_cons, List.all_cons, ih]
      cases e <;> first | rfl | (show (false || !es.all plainE) = !(true && es.all plainE); rw [Bool.false_or, Bool.true_and])
  rw [hn, hb, Bool.or_false, h2]
  by_cases c1 : (!(ts.length == 2 || ts.length == 3) || vs.length != ts.length) = true
  · rw [if_pos c1] at h ⊢
    cases h; rfl
  · rw [if_neg c1] at h ⊢
    by_cases c2 : (!allPlain vs) = true
    · rw [if_pos c2] at h ⊢
      cases h; rfl
    · rw [if_neg c2] at h ⊢
      by_cases c3 : ((swNames Γ ts).length != ts.length || (swNames Γ ts).eraseDups.length != (swNames Γ ts).length) = true
      · rw [if_pos c3] at h ⊢
        cases h; rfl
      · rw [if_neg c3] at h ⊢
        by_cases c4 : vs.all (foldedForSure 8) = true
        · rw [if_pos c4] at h ⊢
          cases h; rfl
        · rw [if_neg c4] at h ⊢
          by_cases c5 : vs.all (constantsAlone 8) = true
          · rw [if_pos c5] at h
            cases h
          · rw [if_neg c5] at h ⊢
            cases h; rfl
theorem swB_ok {Γ : Ck} {X : Cx} {E : XK} (g : GoodX LOK Γ X E T XT G dr k) {v : Expr} {x : Str} {p : Pos} {n : Nat} (h : noSC v = true) (hn : p.line = p.line) : swapsWith v (some (.Name x p)) n X.env = pure (swB Γ v x p) := by
  cases v <;> first | rfl | cases h | skip
  rename_i elt gs s q
  unfold swapsWith swB
  have hb : (X.env.blockKind == .function) = true := by rw [g.bk]; rfl
  show (pure (X.env.blockKind == .function && X.env.kindOf x == some .local && p.line == q.line && !(s.names.any fun (n, k) => n == x && (k == .local || k == .cell))) : Sem Bool) = _
  rw [hb, Bool.true_and]
  have e : (X.env.kindOf x == some .local) = decide (Γ.sc.names.lookup x = some .local) := by
    show (X.env.scope.names.lookup x == some .local) = _
    rw [g.sc]
    by_cases c : Γ.sc.names.lookup x = some .local
    · rw [decide_eq_true c, c]; rfl
    · rw [decide_eq_false c]; exact beq_eq_false_iff_ne.mpr c
  rw [e]
theorem ckNm_ok {Γ : Ck} {X : Cx} {E : XK} (g : GoodX LOK Γ X E T XT G dr k) {i : Nat} {x : Str} (h : ckNm Γ i x = true) : X.N[i]? = some x ∧ Loc X.env.scope x ∧ (X.fn x = true ∨ X.env.scope.names.lookup x = some .local) := by
  unfold ckNm at h
  obtain ⟨h1, h2⟩ := and3 h
  have hN : X.N[i]? = some x := by rw [g.N]; exact of_decide_eq_true h1
  unfold locB at h2
  split at h2
  · rename_i e2
    have e2 : X.env.scope.names.lookup x = some .local := by rw [g.sc]; exact e2
    exact ⟨hN, .inl e2, .inr e2⟩
  · rename_i e2
    have e2 : X.env.scope.names.lookup x = some .cell := by rw [g.sc]; exact e2
    refine ⟨hN, .inr e2, .inl ?_⟩
    rw [Bool.or_eq_true] at h2
    rcases h2 with h2 | h2
    · exact g.own h2 x
    · exact g.bs x (of_decide_eq_true h2)
  · cases h2
theorem bin_lst {call : Nat → List D → M S D} {op : Bop} {a b : Ex} (hop : op = .add ∨ op = .mul) (h : isL a = true) (env : Env) (s : S) : match ev call (.bin op a b) env s with | .ok (.lst _) _ => True | .ok _ _ => False | _ => True := by
  have e : ev call (.bin op a b) env s = R.bind (ev call a env s) fun x s1 => R.bind (ev call b env s1) fun y s2 => M.opt (D.bin op x y) s2 := rfl
  have ha := isL_run (call := call) h env s
  rw [e]
  cases q : ev call a env s with
  | ok x s1 =>
    rw [q] at ha
    show match (R.bind (ev call b env s1) fun y s2 => M.opt (D.bin op x y) s2 : R S D) with | .ok (.lst _) _ => True | .ok _ _ => False | _ => True
    cases ev call b env s1 with
    | ok y s2 =>
      show match (M.opt (D.bin op x y) s2 : R S D) with | .ok (.lst _) _ => True | .ok _ _ => False | _ => True
      cases x with
      | lst xs =>
        cases r : D.bin op (.lst xs) y with
        | none => trivial
        | some c =>
          rcases hop with rfl | rfl
          · obtain ⟨ys, rfl⟩ := addD_lst r ⟨xs, rfl⟩; trivial
          · obtain ⟨ys, rfl⟩ := mulD_lst r ⟨xs, rfl⟩; trivial
      | _ => exact ha.elim
    | exc c fs s2 => trivial
    | bad => trivial
  | exc c fs s1 => trivial
  | bad => trivial
abbrev LstR (r : R S D) : Prop := match r with | .ok (.lst _) _ => True | .ok _ _ => False | _ => True
theorem lst_bind {α : Type} {m : M S α} {f : α → M S D} {s : S} (h : ∀ a s, LstR (f a s)) : LstR (M.bind m f s) := by
  unfold M.bind
  cases m s with
  | ok a s1 => exact h a s1
  | exc c fs s1 => trivial
  | bad => trivial
theorem fresh_run {call : Nat → List D → M S D} {x : Ex} (h : freshB x = true) (env : Env) (s : S) : match ev call x env s with | .ok (.lst _) _ => True | .ok _ _ => False | _ => True := by
  unfold freshB at h
  split at h
  · exact isL_run (a := .list _) rfl env s
  · exact isL_run (a := .lc _ _ _ _) rfl env s
  · exact bin_lst (.inl rfl) h env s
  · exact bin_lst (.inr rfl) h env s
  · rename_i es
    have e : ev call (.bi .list es) env s = R.bind (evs call es env s) fun ds s1 => M.opt (biList ds) s1 := rfl
    rw [e]
    cases evs call es env s with
    | ok ds s1 =>
      show match (M.opt (biList ds) s1 : R S D) with | .ok (.lst _) _ => True | .ok _ _ => False | _ => True
      cases r : biList ds with
      | none => trivial
      | some c =>
        unfold biList at r
        split at r <;> cases r <;> trivial
    | exc c fs s1 => trivial
    | bad => trivial
  · rename_i t a b
    cases t with
    | true => cases h
    | false =>
      refine lst_bind (m := ev call a env) fun x s => lst_bind (m := ev call b env) fun y s => lst_bind (m := M.opt (asInt x)) fun i s => lst_bind (m := M.opt (asInt y)) fun j s => ?_
      unfold M.need
      split
      · trivial
      · trivial
  · cases h
theorem tE_tF {K : PySem.W.Frag} {E : XK} {B : Hp} {m : Env → M S D} (ok : T.Ok) {σ : L2.St} {H : Hp} {Q : VK} (h : tE K T XT E B m σ H Q) : tF K T XT E B m σ H Q := by
  obtain ⟨g, s, env, fp, w, sl, p⟩ := h
  refine ⟨g, s, env, fp, w, sl, ?_⟩
  cases q : m env s with
  | ok d s1 =>
    rw [q] at p
    intro g1 H1 st w1 l vs ds ed hl hl1 hF hC hH r
    subst ed
    exact p (g1.put l (.lst vs)) H1 (st.frz hl hF) (w1.frz ok hl1 (fun _ z => nomatch z) hF hC hH) (.ref l) (rep_newL ok hF r)
  | exc c fs s1 => rw [q] at p; exact p
  | bad => rw [q] at p; exact p
/-- name = [..] on one line -/
theorem set_lc {Γ : Ck} {X : Cx} {E : XK} (g : GoodX LOK Γ X E T XT G dr k) {B : Hp} {elt : Ex} {tg : Tg} {it : It} {cond : Option Ex} {v : Expr} {i : Nat} {y : Str} {py spos : Pos} {m : Md} (hm : m = .f ∨ m = .m) (h : ck Γ m (.lc elt tg it cond) v = true) (hn : ckNm Γ i y = true) (hs : swB Γ v y py = true) :
    PS X (.Assign [.Name y py] v spos) (tAsg (if m = .m then tFM X.K T XT E B (ev (callN G dr k) (.lc elt tg it cond)) else tF X.K T XT E B (ev (callN G dr k) (.lc elt tg it cond))) (gName i)) := by
  obtain ⟨hN, hL, hF⟩ := ckNm_ok g hn
  unfold ck at h
  split at h
  · rename_i yy t iter ifs scope pos
    have hsw := swB_ok g (v := .ListComp yy [⟨t, iter, ifs, 0⟩] scope pos) (x := y) (p := py) (n := spos.line) rfl rfl
    rw [hs] at hsw
    obtain ⟨h, h6⟩ := and3 h
    obtain ⟨h, h5⟩ := and3 h
    obtain ⟨h, h4⟩ := and3 h
    obtain ⟨h, h3⟩ := and3 h
    obtain ⟨h1, h2⟩ := and3 h
    have okb : BlkOk X.N X.env.scope scope (ownOf Γ.N tg.places) := by
      rw [g.N, g.sc]
      exact blkOk_by h6
    have hown : (ownOf Γ.N tg.places).map (·.2) = tg.places := ownOf_map _
    have gb := g.blk okb.kind
    have hg := fun s H C cl fp => ckG_ok (gb s H C cl fp) B tg t h2
    have ht := fun s H C cl fp => ckO'_ok cond (Γ.blk scope) ifs h4 (gb s H C cl fp) B
    have hi := ckI_ok it Γ false tg t iter h3 g B
    have hss : ∀ x, foldedSetIterable iter X.env x = pure x := ckI_set h3
    have hyl : X.env.scope.names.lookup y = some .local := by
      rw [g.sc]
      unfold swB at hs
      exact of_decide_eq_true (and3 (and3 hs).1).1
    rcases hm with rfl | rfl
    · rw [if_neg (by decide)] at h5 ⊢
      refine ps_imp (ps_setLc (g := tG X.K T B tg) (tt := tC X.K T XT EN B (evc (callN G dr k) cond)) (te := tE X.K T XT EN B (ev (callN G dr k) elt)) g.calm g.nd hN hyl hsw hi okb hg ht (fun s H C cl fp => ck_ok elt (Γ.blk scope) .e yy h5 (gb s H C cl fp) B) hss) fun Dn σ H q => ?_
      rw [hown]
      exact lc_imp g.pr.ok q
    · rw [if_pos rfl] at h5 ⊢
      refine ps_imp (ps_setLc (g := tG X.K T B tg) (tt := tC X.K T XT EN B (evc (callN G dr k) cond)) (te := tF X.K T XT EN B (ev (callN G dr k) elt)) g.calm g.nd hN hyl hsw hi okb hg ht (fun s H C cl fp => ck_ok elt (Γ.blk scope) .f yy h5 (gb s H C cl fp) B) hss) fun Dn σ H q => ?_
      rw [hown]
      exact lc2_imp g.pr.ok q
  · cases h
end
end Mp

set_option Elab.async false
set_option linter.all false
set_option maxRecDepth 100000
set_option maxHeartbeats 16000000
/-! The looks are sound: statements. -/
namespace Mp
open PySem PySem.Spec PyProof.Rows L2

section
variable {S : Type} {LOK : Nat → LamD → Prop} {T : Tab S} {XT : ExcT} {G : Nat → Option Fn} {dr : Dr S} {k : Nat}
theorem noComp_sw {v : Expr} {t : Option Expr} {n : Nat} {env : PySem.Env} (h : noComp v = true) : swapsWith v t n env = pure false := by
  cases v <;> first | rfl | cases h
theorem notTup_sw {v : Expr} {ts : List Expr} {k : Nat} {p : Pos} {env : PySem.Env} (h : notTup v = true) : swappedStores [.Tuple ts k p] v env = pure none := by
  cases v <;> first | rfl | cases h
theorem sub_sw {v o i : Expr} {p : Pos} {env : PySem.Env} : swappedStores [.Subscript o i p] v env = pure none := by
  cases v <;> rfl
theorem call_sw {t f : Expr} {as : List Expr} {kw : List Keyword} {p : Pos} {env : PySem.Env} : swappedStores [t] (.Call f as kw p) env = pure none := by
  cases t <;> rfl
theorem fm_all {α β : Type} {f : α → Option β} : ∀ {l : List α}, (l.filterMap f).length = l.length → ∃ ys, l.map f = ys.map some ∧ l.filterMap f = ys
  | [], _ => ⟨[], rfl, rfl⟩
  | x :: l, h => by
    cases e : f x with
    | none =>
      rw [List.filterMap_cons_none e] at h
      have := List.length_filterMap_le f l
      rw [List.length_cons] at h
      omega
    | some y =>
      rw [List.filterMap_cons_some e, List.length_cons, List.length_cons] at h
      obtain ⟨ys, h1, h2⟩ := fm_all (f := f) (l := l) (by omega)
      exact ⟨y :: ys, by rw [List.map_cons, List.map_cons, e, h1], by rw [List.filterMap_cons_some e, h2]⟩
theorem sw_names {Γ : Ck} : ∀ {ts : List Expr} {xs : List Str}, (swNames Γ ts).length = ts.length → (∀ (i : Nat) e, ts[i]? = some e → ∃ x p, e = .Name x p ∧ xs[i]? = some x) → xs.length = ts.length → swNames Γ ts = xs := fun {ts xs} h hx hl => by
  unfold swNames at h ⊢
  obtain ⟨ys, h1, h2⟩ := fm_all h
  rw [h2]
  refine List.ext_getElem? fun i => ?_
  have hyl : ys.length = ts.length := by
    have := congrArg List.length h1
    rw [List.length_map, List.length_map] at this
    exact this.symm
  by_cases hi : i < ts.length
  · obtain ⟨x, p, e1, e2⟩ := hx i ts[i] (List.getElem?_eq_getElem hi)
    have h3 := congrArg (fun l => l[i]?) h1
    simp only [List.getElem?_map, List.getElem?_eq_getElem hi, e1, Option.map_some] at h3
    rw [e2]
    cases hy : ys[i]? with
    | none => rw [hy] at h3; cases h3
    | some y =>
      rw [hy] at h3
      have h3 : (if (Γ.sc.names.lookup x == some .local && p.line == (ts.head?.map (·.pos.line)).getD 0) = true then some x else none) = some y := Option.some.inj h3
      split at h3
      · exact h3.symm
      · cases h3
  · rw [List.getElem?_eq_none (by omega), List.getElem?_eq_none (by omega)]
theorem sole_sw {v t : Expr} {n : Nat} {env : PySem.Env} (h : noComp v = true) : swapsWithSole [t] v n env = pure false := noComp_sw (t := some t) h
/-- xs[k] = e, xs of one's own -/
theorem ms_put {X : Cx} {E : XK} {g0 : Gh} {B : Hp} {i : Nat} {st : Stmt} {mv mk : Env → M S D} (ok : T.Ok) (h : PS X st (tAsg (tE X.K T XT E B mv) (gSub (tVar i) (tE X.K T XT E B mk) rSetL))) :
    PS X st (tS X.K T XT E g0 B fun env => M.bind (mv env) fun v => M.bind (M.opt (env.own i)) fun c => M.bind (mk env) fun kv => M.bind (M.opt (D.putAt c kv v)) fun c' => M.pure (.nxt (env.set i (.ow c')))) :=
  ps_imp (ms_putL (to := tVar i) (tk := tVar i) ok h) fun Dn σ H ⟨g, s, env, fp, w, sl, st, p⟩ => by
    refine ⟨g, s, env, fp, w, sl, st, ?_⟩
    have key : ∀ v : D, (M.bind (M.opt (lstAt env i)) fun xs => M.bind (mk env) fun kv => M.bind (M.opt (D.putAt (.lst xs) kv v)) fun c' => M.pure (Fl.nxt (env.set i (.ow c')))) = (M.bind (M.opt (env.own i)) fun c => M.bind (mk env) fun kv => M.bind (M.opt (D.putAt c kv v)) fun c' => M.pure (Fl.nxt (env.set i (.ow c'))) : M S Fl) := fun v => by
      unfold lstAt
      cases e : env.own i with
      | none => rfl
      | some c =>
        obtain ⟨o, a, b⟩ := sl.at_ i _ (own_slot e)
        generalize fp i = f at b
        cases b with
        | ow q => cases q with | lst _ _ => rfl
    have e : (M.bind (mv env) fun v => M.bind (M.opt (lstAt env i)) fun xs => M.bind (mk env) fun kv => M.bind (M.opt (D.putAt (.lst xs) kv v)) fun c' => M.pure (Fl.nxt (env.set i (.ow c')))) = (M.bind (mv env) fun v => M.bind (M.opt (env.own i)) fun c => M.bind (mk env) fun kv => M.bind (M.opt (D.putAt c kv v)) fun c' => M.pure (Fl.nxt (env.set i (.ow c'))) : M S Fl) := by
      congr 1
      funext v
      exact key v
    show PostS X.K T XT E g0 B g ((M.bind (mv env) fun v => M.bind (M.opt (lstAt env i)) fun xs => M.bind (mk env) fun kv => M.bind (M.opt (D.putAt (.lst xs) kv v)) fun c' => M.pure (Fl.nxt (env.set i (.ow c')))) s) Dn
    rw [e]
    exact p
theorem isLc_ok {x : Ex} (h : isLc x = true) : ∃ a b c d, x = .lc a b c d := by
  unfold isLc at h
  split at h
  · exact ⟨_, _, _, _, rfl⟩
  · cases h
theorem ckNms_ok {Γ : Ck} {X : Cx} {E : XK} (g : GoodX LOK Γ X E T XT G dr k) : ∀ {is : List Nat} {ts : List Expr}, ckNms Γ is ts = true → PGs X ts (gNames is) ∧ (assignEach ts X.env).length = is.length ∧ (assignEach ts X.env).findIdx? (·.1) = none ∧ ts.length = is.length
  | [], [], _ => ⟨pgs_nil, rfl, rfl, rfl⟩
  | i :: is, t :: ts, h => by
    cases t with
    | Name x p =>
      have h : (ckNm Γ i x && ckNms Γ is ts) = true := h
      obtain ⟨h1, h2⟩ := and3 h
      obtain ⟨hN, hL, hF⟩ := ckNm_ok g h1
      obtain ⟨i1, i2, i3, i4⟩ := ckNms_ok g h2
      refine ⟨pgs_cons (pg_name g.nd hN hL hF) i1 (by rw [assign_cons rfl] <;> rfl), by rw [assign_cons rfl, List.length_cons, List.length_cons, i2], ?_, by rw [List.length_cons, List.length_cons, i4]⟩
      rw [assign_cons rfl, List.findIdx?_cons, i3]
      rfl
    | _ => cases h
  | [], _ :: _, h => by cases h
  | _ :: _, [], h => by cases h
theorem ckN_ok {Γ : Ck} {X : Cx} {E : XK} (g : GoodX LOK Γ X E T XT G dr k) (B : Hp) : ∀ {ks : List Nat} {xs : List Ex} {es : List Expr}, ckN Γ ks xs es = true → PA X es (tLN X.K T XT E B ks (evs (callN G dr k) xs)) ∧ ks.length = es.length := fun {ks} => by
  induction ks with
  | nil =>
    intro xs es h
    unfold ckN at h
    split at h
    · exact ⟨mn_nil, rfl⟩
    · contradiction
    · contradiction
    · cases h
  | cons m ks ih =>
    intro xs es h
    unfold ckN at h
    split at h
    · rename_i e; cases e
    · rename_i ks' x xs e es q
      cases q
      obtain ⟨h, h3⟩ := and3 h
      obtain ⟨h1, h2⟩ := and3 h
      obtain ⟨i1, i2⟩ := ih h3
      exact ⟨mn_fz g.pr.ok (ck_ok x Γ .e e h2 g B) i1 (star_cons h1), by rw [List.length_cons, List.length_cons, i2]⟩
    · rename_i ks' x xs e es q
      cases q
      obtain ⟨h, h4⟩ := and3 h
      obtain ⟨h, h3⟩ := and3 h
      obtain ⟨h1, h2⟩ := and3 h
      obtain ⟨i1, i2⟩ := ih h4
      exact ⟨mn_ow g.pr.ok (ck_ok x Γ .f e h3 g B) (fresh_run h2) i1 (star_cons h1), by rw [List.length_cons, List.length_cons, i2]⟩
    · cases h
theorem ckNms_inv {Γ : Ck} {is : List Nat} {t : Expr} {ts : List Expr} (h : ckNms Γ is (t :: ts) = true) : ∃ i is' x p, is = i :: is' ∧ t = .Name x p ∧ ckNm Γ i x = true ∧ ckNms Γ is' ts = true := by
  cases is with
  | nil => cases h
  | cons i is' =>
    cases t with
    | Name x p =>
      have h : (ckNm Γ i x && ckNms Γ is' ts) = true := h
      exact ⟨i, is', x, p, rfl, rfl, (and3 h).1, (and3 h).2⟩
    | _ => cases h
theorem nodupB_ok : ∀ {is : List Nat}, nodupB is = true → is.Nodup
  | [], _ => List.nodup_nil
  | i :: is, h => by
    have h : (!is.contains i && nodupB is) = true := h
    obtain ⟨h1, h2⟩ := and3 h
    refine List.nodup_cons.mpr ⟨fun z => ?_, nodupB_ok h2⟩
    have : is.contains i = true := List.contains_iff_mem.mpr z
    rw [this] at h1
    cases h1
theorem zip_maps : ∀ is : List (Nat × Nat), (is.map (·.1)).zip (is.map (·.2)) = is
  | [] => rfl
  | (a, b) :: r => by
    show (a, b) :: ((r.map (·.1)).zip (r.map (·.2))) = _
    rw [zip_maps r]
theorem par_fin {Γ : Ck} {X : Cx} {E : XK} (g : GoodX LOK Γ X E T XT G dr k) {is ks : List Nat} {ts vs : List Expr} {k1 k2 : Nat} {p1 p2 pos : Pos} {B : Hp} {ms : Env → M S (List D)} (hl : ts.length = 2 ∨ ts.length = 3) (hv : vs.length = ts.length) (hn : (swNames Γ ts).length = ts.length) (h1 : ckNms Γ is ts = true) (hnd : is.Nodup)
    (loc : ∀ x ∈ swNames Γ ts, X.env.scope.names.lookup x = some .local) (hw : swappedStores [.Tuple ts k1 p1] (.Tuple vs k2 p2) X.env = pure (some (swNames Γ ts))) (a1 : PA X vs (tLN X.K T XT E B ks ms)) :
    PS X (.Assign [.Tuple ts k1 p1] (.Tuple vs k2 p2) pos) (tPars is (tLN X.K T XT E B ks ms)) := by
  rcases hl with hl | hl
  · obtain ⟨t1, t2, rfl⟩ : ∃ t1 t2, ts = [t1, t2] := by
      match ts, hl with
      | [t1, t2], _ => exact ⟨t1, t2, rfl⟩
    obtain ⟨i, is, x, px, rfl, rfl, q1, h1⟩ := ckNms_inv h1
    obtain ⟨j, is, y, py, rfl, rfl, q2, h1⟩ := ckNms_inv h1
    have hnil : is = [] := by
      cases is with
      | nil => rfl
      | cons _ _ => cases h1
    subst hnil
    obtain ⟨hN1, _, _⟩ := ckNm_ok g q1
    obtain ⟨hN2, _, _⟩ := ckNm_ok g q2
    have e := sw_names (xs := [x, y]) hn (fun i e he => by
      match i, he with
      | 0, he => cases he; exact ⟨x, px, rfl, rfl⟩
      | 1, he => cases he; exact ⟨y, py, rfl, rfl⟩) rfl
    rw [e] at hw loc
    obtain ⟨a, b, rfl⟩ : ∃ a b, vs = [a, b] := by
      match vs, hv with
      | [a, b], _ => exact ⟨a, b, rfl⟩
    exact pars2 (ps_par g.calm g.nd hN1 hN2 (fun z => by simp [z] at hnd) (loc x (by simp)) (loc y (by simp)) a1 hw) tLN_mono
  · obtain ⟨t1, t2, t3, rfl⟩ : ∃ t1 t2 t3, ts = [t1, t2, t3] := by
      match ts, hl with
      | [t1, t2, t3], _ => exact ⟨t1, t2, t3, rfl⟩
    obtain ⟨i, is, x, px, rfl, rfl, q1, h1⟩ := ckNms_inv h1
    obtain ⟨j, is, y, py, rfl, rfl, q2, h1⟩ := ckNms_inv h1
    obtain ⟨l, is, z, pz, rfl, rfl, q3, h1⟩ := ckNms_inv h1
    have hnil : is = [] := by
      cases is with
      | nil => rfl
      | cons _ _ => cases h1
    subst hnil
    obtain ⟨hN1, _, _⟩ := ckNm_ok g q1
    obtain ⟨hN2, _, _⟩ := ckNm_ok g q2
    obtain ⟨hN3, _, _⟩ := ckNm_ok g q3
    have e := sw_names (xs := [x, y, z]) hn (fun i e he => by
      match i, he with
      | 0, he => cases he; exact ⟨x, px, rfl, rfl⟩
      | 1, he => cases he; exact ⟨y, py, rfl, rfl⟩
      | 2, he => cases he; exact ⟨z, pz, rfl, rfl⟩) rfl
    rw [e] at hw loc
    obtain ⟨a, b, c, rfl⟩ : ∃ a b c, vs = [a, b, c] := by
      match vs, hv with
      | [a, b, c], _ => exact ⟨a, b, c, rfl⟩
    exact pars3 (ps_par3 g.calm g.nd hN1 hN2 hN3 (fun z => by simp [z] at hnd) (fun z => by simp [z] at hnd) (fun z => by simp [z] at hnd) (loc x (by simp)) (loc y (by simp)) (loc z (by simp)) a1 hw) tLN_mono
theorem pop_ok (e : Option Ex) (Γ : Ck) (as : List Expr) {X : Cx} {E : XK} (h : (match e, as with
      | none, [] => true
      | some e, [a] => plainE a && ck Γ .e e a
      | _, _ => false) = true) (g : GoodX LOK Γ X E T XT G dr k) {o : Expr} {j : Nat} {ap cp : Pos} (ho : PE X o (tVar j)) (hl : (ap.endLine == cp.line) = true) (g0 : Gh) (B : Hp) (hno : notSup o = true := by rfl) :
    PE X (.Call (.Attribute o "pop" ap) as [] cp) (tX X.K T XT E g0 B fun env => popM (evo (callN G dr k) e env) j env) := by
  split at h
  · exact mx_pop0 g.pr.ok ho (attrB hno) hl
  · rename_i e a
    obtain ⟨h1, h2⟩ := and3 h
    have hp1 : allPlain [a] = true := by unfold allPlain; rw [List.all_cons, h1]; rfl
    exact mx_pop1 g.pr.ok ho (ck_ok e Γ .e a h2 g B) (attrB hno) (few hp1 (show 1 < 20 by decide)) hl (star_cons h1) (back_any rfl)
  · cases h
mutual
theorem ckS_ok : ∀ (t : St) (Γ : Ck) (s : Stmt), ckS Γ t s = true → ∀ {X : Cx} {E : XK}, GoodX LOK Γ X E T XT G dr k → PassesOwn (model X.prog X.w) X.A X.env X.xe → ∀ (g0 : Gh) (B : Hp), PS X s (tS X.K T XT E g0 B (ex (callN G dr k) t))
  | .set i e, Γ, s, h, X, E, g, hp, g0, B => by
    unfold ckS at h
    split at h
    · rename_i x p v pos
      obtain ⟨h, h3⟩ := and3 h
      obtain ⟨h1, h2⟩ := and3 h
      by_cases hs : swB Γ v x p = true
      · rw [if_pos hs] at h3
        obtain ⟨h4, h5⟩ := and3 h3
        obtain ⟨a, b, c, d, rfl⟩ := isLc_ok h4
        have q := set_lc g (B := B) (spos := pos) (.inl rfl) h5 h1 hs
        rw [if_neg (by decide)] at q
        exact ms_set (e := v) g.pr.ok (ps_imp q fun Dn σ H q => tE_tF g.pr.ok q)
      · rw [if_neg hs] at h3
        obtain ⟨hN, hL, hF⟩ := ckNm_ok g h1
        have hsw := swB_ok g (v := v) (x := x) (p := p) (n := pos.line) h2 rfl
        rw [show swB Γ v x p = false by simpa using hs] at hsw
        exact ms_set (e := v) g.pr.ok (ps_set g.nd hN hL (ck_ok e Γ .e v h3 g B) hsw hF)
    · cases h
  | .own i e, Γ, s, h, X, E, g, hp, g0, B => by
    unfold ckS at h
    split at h
    · rename_i x p v pos
      obtain ⟨h, h5⟩ := and3 h
      obtain ⟨h, h4⟩ := and3 h
      obtain ⟨h, h3⟩ := and3 h
      obtain ⟨h1, h2⟩ := and3 h
      by_cases hs : swB Γ v x p = true
      · rw [hs] at h5
        obtain ⟨a, b, c, d, rfl⟩ := isLc_ok (by simpa using h5)
        have q := set_lc g (B := B) (spos := pos) (.inl rfl) h4 h1 hs
        rw [if_neg (by decide)] at q
        exact ms_own g.pr.ok q (fresh_run h3)
      · obtain ⟨hN, hL, hF⟩ := ckNm_ok g h1
        have hsw := swB_ok g (v := v) (x := x) (p := p) (n := pos.line) h2 rfl
        rw [show swB Γ v x p = false by simpa using hs] at hsw
        exact ms_own g.pr.ok (ps_set g.nd hN hL (ck_ok e Γ .f v h4 g B) hsw hF) (fresh_run h3)
    · cases h
  | .mat i e, Γ, s, h, X, E, g, hp, g0, B => by
    unfold ckS at h
    split at h
    · rename_i x p v pos
      obtain ⟨h, h4⟩ := and3 h
      obtain ⟨h, h3⟩ := and3 h
      obtain ⟨h1, h2⟩ := and3 h
      obtain ⟨a, b, c, d, rfl⟩ := isLc_ok h3
      by_cases hs : swB Γ v x p = true
      · have q := set_lc g (B := B) (spos := pos) (.inr rfl) h4 h1 hs
        rw [if_pos rfl] at q
        exact ms_mat g.pr.ok q
      · obtain ⟨hN, hL, hF⟩ := ckNm_ok g h1
        have hsw := swB_ok g (v := v) (x := x) (p := p) (n := pos.line) h2 rfl
        rw [show swB Γ v x p = false by simpa using hs] at hsw
        exact ms_mat g.pr.ok (ps_set g.nd hN hL (ck_ok (.lc a b c d) Γ .m v h4 g B) hsw hF)
    · cases h
  | .frz _, Γ, s, h, X, E, g, hp, g0, B => by cases h
  | .tset is es, Γ, s, h, X, E, g, hp, g0, B => by
    unfold ckS at h
    split at h
    · rename_i ts k1 p1 vs k2 p2 pos
      obtain ⟨h, h5⟩ := and3 h
      obtain ⟨h, h4⟩ := and3 h
      obtain ⟨h, h3⟩ := and3 h
      obtain ⟨h1, h2⟩ := and3 h
      obtain ⟨n1, n2, n3, n4⟩ := ckNms_ok g h1
      obtain ⟨a1, a2⟩ := ckN_ok g B h2
      have hlen : (is.map (·.1)).length = (is.map (·.2)).length := by rw [List.length_map, List.length_map]
      have fin : PS X (.Assign [.Tuple ts k1 p1] (.Tuple vs k2 p2) pos) (tPars (is.map (·.1)) (tLN X.K T XT E B (is.map (·.2)) (evs (callN G dr k) es))) → PS X (.Assign [.Tuple ts k1 p1] (.Tuple vs k2 p2) pos) (tS X.K T XT E g0 B (ex (callN G dr k) (.tset is es))) := fun q => by
        have r := ms_tset (g0 := g0) g.pr.ok hlen (by rw [List.length_map]; exact of_decide_eq_true h3) q
        rw [zip_maps] at r
        exact r
      unfold swapB at h5
      obtain ⟨r, hr⟩ := Option.isSome_iff_exists.mp h5
      have hw := swPar_ok g (k1 := k1) (k2 := k2) (p1 := p1) (p2 := p2) hr
      refine fin ?_
      cases r with
      | none => exact parsT g.calm a1 n1 n2 n3 rfl hw rfl tLN_mono
      | some nms =>
        -- two or three names
        unfold swPar at hr
        split at hr
        · cases hr
        · rename_i c1
          split at hr
          · cases hr
          · split at hr
            · cases hr
            · rename_i c3
              split at hr
              · cases hr
              · split at hr
                · cases hr
                · cases hr
                  rw [Bool.not_eq_true, Bool.or_eq_false_iff] at c1 c3
                  have c2 : ts.length = 2 ∨ ts.length = 3 := by
                    by_cases z : ts.length = 2
                    · exact .inl z
                    · exact .inr (by simpa [z] using c1.1)
                  have c4 : vs.length = ts.length := by simpa using c1.2
                  have c5 : (swNames Γ ts).length = ts.length := by simpa using c3.1
                  have hnd := nodupB_ok h4
                  have loc : ∀ x ∈ swNames Γ ts, X.env.scope.names.lookup x = some .local := fun x hx => by
                    unfold swNames at hx
                    obtain ⟨e, _, he⟩ := List.mem_filterMap.mp hx
                    cases e with
                    | Name id pos =>
                      dsimp only at he
                      split at he
                      · rename_i c
                        cases he
                        rw [g.sc]
                        exact eq_of_beq (and3 c).1
                      · cases he
                    | _ => cases he
                  exact par_fin g c2 c4 c5 h1 hnd loc hw a1
    · cases h
  | .unp t e, Γ, s, h, X, E, g, hp, g0, B => by
    unfold ckS at h
    split at h
    · rename_i tg v pos
      obtain ⟨h, h6⟩ := and3 h
      obtain ⟨h, h5⟩ := and3 h
      obtain ⟨h, h4⟩ := and3 h
      obtain ⟨h, h3⟩ := and3 h
      obtain ⟨h1, h2⟩ := and3 h
      split at h6
      · exact ms_unp (e := v) (tg := v) g.pr.ok (ps_asg (ck_ok e Γ .e v h5 g B) (ckG_ok g B t _ h2) (sole_sw h4) (notTup_sw h3) rfl)
      · cases h6
    · cases h
  | .app i e, Γ, s, h, X, E, g, hp, g0, B => by
    unfold ckS at h
    split at h
    · rename_i x p f ap a cp pos
      obtain ⟨h, h5⟩ := and3 h
      obtain ⟨h, h4⟩ := and3 h
      obtain ⟨h, h3⟩ := and3 h
      obtain ⟨h1, h2⟩ := and3 h
      have hf := of_decide_eq_true h1
      subst hf
      have hp1 : allPlain [a] = true := by unfold allPlain; rw [List.all_cons, h3]; rfl
      exact ms_app g.pr.ok (g.pv h2) (ck_ok e Γ .e a h5 g B) (attrB rfl) (few hp1 (show 1 < 20 by decide)) h4 (star_cons h3) (back_any rfl) rfl
    · cases h
  | .ext i e, Γ, s, h, X, E, g, hp, g0, B => by
    unfold ckS at h
    split at h
    · rename_i x p f ap a cp pos
      obtain ⟨h, h5⟩ := and3 h
      obtain ⟨h, h4⟩ := and3 h
      obtain ⟨h, h3⟩ := and3 h
      obtain ⟨h1, h2⟩ := and3 h
      have hf := of_decide_eq_true h1
      subst hf
      have hp1 : allPlain [a] = true := by unfold allPlain; rw [List.all_cons, h3]; rfl
      exact ms_ext g.pr.ok (g.pv h2) (ck_ok e Γ .b a h5 g B) (attrB rfl) (few hp1 (show 1 < 20 by decide)) h4 (star_cons h3) (back_any rfl) rfl
    · cases h
  | .pop t j e, Γ, s, h, X, E, g, hp, g0, B => by
    unfold ckS at h
    split at h
    · rename_i tg x p f ap as cp pos
      obtain ⟨h, h6⟩ := and3 h
      obtain ⟨h, h5⟩ := and3 h
      obtain ⟨h, h4⟩ := and3 h
      obtain ⟨h, h3⟩ := and3 h
      obtain ⟨h1, h2⟩ := and3 h
      have hf := of_decide_eq_true h1
      subst hf
      have ho : PE X (.Name x p) (tVar j) := g.pv h2
      refine ms_pop g.pr.ok (ps_asg (pop_ok e Γ as h6 g ho h3 g0 B) (ckG_ok g B t tg h4) (sole_sw rfl) call_sw ?_)
      rw [assign_cons h5]; rfl
    · cases h
  | .appPop i j e, Γ, s, h, X, E, g, hp, g0, B => by
    unfold ckS at h
    split at h
    · rename_i x p f ap y q f2 ap2 as cp2 cp pos
      obtain ⟨h, h7⟩ := and3 h
      obtain ⟨h, h6⟩ := and3 h
      obtain ⟨h, h5⟩ := and3 h
      obtain ⟨h, h4⟩ := and3 h
      obtain ⟨h, h3⟩ := and3 h
      obtain ⟨h1, h2⟩ := and3 h
      have hf := of_decide_eq_true h1
      subst hf
      have hf2 := of_decide_eq_true h2
      subst hf2
      have ho : PE X (.Name y q) (tVar j) := g.pv h4
      exact ms_appPop (mk := fun env => evo (callN G dr k) e env) g.pr.ok (g.pv h3) (pop_ok e Γ as h7 g ho h6 g0 B) (attrB rfl) (few rfl (show 1 < 20 by decide)) h5 (star_cons rfl) (back_any rfl) rfl
    · cases h
  | .put i kx e, Γ, s, h, X, E, g, hp, g0, B => by
    unfold ckS at h
    split at h
    · rename_i x p ke p2 v pos
      obtain ⟨h, h6⟩ := and3 h
      obtain ⟨h, h5⟩ := and3 h
      obtain ⟨h, h4⟩ := and3 h
      obtain ⟨h, h3⟩ := and3 h
      obtain ⟨h1, h2⟩ := and3 h
      refine ms_put g.pr.ok (ps_asg (ck_ok e Γ .e v h6 g B) (pg_sub (g.pv h1) (ck_ok kx Γ .e ke h5 g B) set_list (fun v => ?_)) (sole_sw h3) sub_sw rfl)
      cases ke <;> first | rfl | cases h2
    · cases h
  | .put2 i kx lx e, Γ, s, h, X, E, g, hp, g0, B => by
    unfold ckS at h
    split at h
    · rename_i x p ke p1 le p2 v pos
      obtain ⟨h, h8⟩ := and3 h
      obtain ⟨h, h7⟩ := and3 h
      obtain ⟨h, h6⟩ := and3 h
      obtain ⟨h, h5⟩ := and3 h
      obtain ⟨h, h4⟩ := and3 h
      obtain ⟨h, h3⟩ := and3 h
      obtain ⟨h1, h2⟩ := and3 h
      refine ms_put2 g.pr.ok (ps_asg (ck_ok e Γ .e v h8 g B) (pg_sub (pe_ix ix_list (g.pv h1) (ck_ok kx Γ .e ke h6 g B) (notSl_ok h2)) (ck_ok lx Γ .e le h7 g B) set_list (fun v => ?_)) (sole_sw h4) sub_sw rfl)
      cases le <;> first | rfl | cases h3
    · cases h
  | .expr e, Γ, s, h, X, E, g, hp, g0, B => by
    unfold ckS at h
    split at h
    · obtain ⟨h1, h2⟩ := and3 h
      exact ms_expr g.pr.ok (ck_ok e Γ .e _ h2 g B) (noComp_sw h1)
    · cases h
  | .ret e, Γ, s, h, X, E, g, hp, g0, B => by
    unfold ckS at h
    split at h
    · exact ms_ret (ck_ok e Γ .e _ h g B)
    · have he : e = .con .non := by
        unfold isNone at h
        split at h
        · rfl
        · cases h
      subst he
      exact ms_retN
    · cases h
  | .ite c a b, Γ, s, h, X, E, g, hp, g0, B => by
    unfold ckS at h
    split at h
    · obtain ⟨h, h3⟩ := and3 h
      obtain ⟨h1, h2⟩ := and3 h
      exact ms_ite g.pr.ok (ck_ok c Γ .t _ h1 g B) (ckSs_ok a Γ _ h2 g hp g0 B) (ckSs_ok b Γ _ h3 g hp g0 B)
    · cases h
  | .for tg it body, Γ, s, h, X, E, g, hp, g0, B => by
    unfold ckS at h
    split at h
    · obtain ⟨h, h3⟩ := and3 h
      obtain ⟨h1, h2⟩ := and3 h
      exact ms_for g.pr.ok hp g.calm (ckI_ok it Γ true tg _ _ h2 g B) (ckG_ok g B tg _ h1) (ckSs_ok body Γ _ h3 g hp g0 B) (ckI_set h2)
    · cases h
  | .while c body, Γ, s, h, X, E, g, hp, g0, B => by
    unfold ckS at h
    split at h
    · obtain ⟨h1, h2⟩ := and3 h
      exact ms_while g.pr.ok hp (ck_ok c Γ .t _ h1 g B) (ckSs_ok body Γ _ h2 g hp g0 B)
    · cases h
  | .raise _ _, Γ, s, h, X, E, g, hp, g0, B => by cases h
  | .tri _ _ _ _ _, Γ, s, h, X, E, g, hp, g0, B => by cases h
  | .dead, Γ, s, h, X, E, g, hp, g0, B => ms_dead
  | .pass, Γ, s, h, X, E, g, hp, g0, B => by
    unfold ckS at h
    split at h
    · exact ms_pass
    · cases h
  | .brk, Γ, s, h, X, E, g, hp, g0, B => by
    unfold ckS at h
    split at h
    · exact ms_brk
    · cases h
  | .cnt, Γ, s, h, X, E, g, hp, g0, B => by
    unfold ckS at h
    split at h
    · exact ms_cnt
    · cases h
theorem ckSs_ok : ∀ (t : List St) (Γ : Ck) (s : List Stmt), ckSs Γ t s = true → ∀ {X : Cx} {E : XK}, GoodX LOK Γ X E T XT G dr k → PassesOwn (model X.prog X.w) X.A X.env X.xe → ∀ (g0 : Gh) (B : Hp), PSs X s (tS X.K T XT E g0 B (exs (callN G dr k) t))
  | [], Γ, s, h, X, E, g, hp, g0, B => by
    cases s with
    | nil => exact mss_nil
    | cons _ _ => unfold ckSs at h; cases h
  | t :: ts, Γ, s, h, X, E, g, hp, g0, B => by
    by_cases hf : ∃ i, t = .frz i
    · obtain ⟨i, rfl⟩ := hf
      have h : ckSs Γ ts s = true := by unfold ckSs at h; exact h
      exact pss_imp (ckSs_ok ts Γ s h g hp g0 B) fun Dn σ H q => frz_imp g.pr.ok q
    · cases s with
      | nil =>
        exfalso
        cases t <;> first | (unfold ckSs at h; cases h; done) | exact hf ⟨_, rfl⟩
      | cons s ss =>
        have h : (ckS Γ t s && ckSs Γ ts ss) = true := by
          cases t <;> first | exact (hf ⟨_, rfl⟩).elim | (unfold ckSs at h; exact h)
        obtain ⟨h1, h2⟩ := and3 h
        exact mss_cons (ckS_ok t Γ s h1 g hp g0 B) (ckSs_ok ts Γ ss h2 g hp g0 B)
end
end
end Mp

set_option Elab.async false
set_option linter.all false
set_option maxRecDepth 100000
set_option maxHeartbeats 8000000
/-! Caches: if key not in x.looked: x.looked[key] = e; return x.looked[key]. -/
namespace Mp
open PySem PySem.Spec PyProof.Rows L2

/-- no table at all: for plain data -/
def T0 : Tab Unit where
  cls := fun _ => none
  flds := fun _ => []
  memo := fun _ => false
  cacheOk := fun _ _ _ => True
  handOk := fun _ _ _ => True
  tb := []
  cloOk := fun _ _ _ _ => False
section
variable {S S' : Type} {K : PySem.W.Frag} {T : Tab S} {T' : Tab S'} {g g' : Gh}
mutual
theorem rep_plain : ∀ (d : D) (v : V), d.pl = true → Rep K T g d v → Rep K T' g d v
  | .non, _, _, .non => .non
  | .bl b, _, _, .bl _ => .bl b
  | .int i, _, _, .int _ => .int i
  | .str x, _, _, .str _ => .str x
  | .tup xs, _, p, .tup h r => .tup h (reps_plain xs _ p r)
  | .lst xs, _, p, .lst h r => .lst h (reps_plain xs _ p r)
  | .dct _, _, p, _ => by cases p
  | .set _, _, p, _ => by cases p
  | .ins _ _, _, p, _ => by cases p
  | .hand, _, p, _ => by cases p
  | .clo _ _, _, p, _ => by cases p
theorem reps_plain : ∀ (ds : List D) (vs : List V), pls ds = true → Reps K T g ds vs → Reps K T' g ds vs
  | [], _, _, .nil => .nil
  | d :: ds, _, p, .cons h r => by
    have p : (d.pl && pls ds) = true := p
    rw [Bool.and_eq_true] at p
    exact .cons (rep_plain d _ p.1 h) (reps_plain ds _ p.2 r)
end
mutual
theorem pl_noclo : ∀ d : D, d.pl = true → noclo d = true
  | .non, _ => rfl
  | .bl _, _ => rfl
  | .int _, _ => rfl
  | .str _, _ => rfl
  | .tup xs, p => pls_nocls xs p
  | .lst xs, p => pls_nocls xs p
  | .dct _, p => by cases p
  | .set _, p => by cases p
  | .ins _ _, p => by cases p
  | .hand, p => by cases p
  | .clo _ _, p => by cases p
theorem pls_nocls : ∀ ds : List D, pls ds = true → nocls ds = true
  | [], _ => rfl
  | d :: ds, p => by
    have p : (d.pl && pls ds) = true := p
    rw [Bool.and_eq_true] at p
    show (noclo d && nocls ds) = true
    rw [pl_noclo d p.1, pls_nocls ds p.2]
    rfl
end
theorem t0_ok : T0.Ok := ⟨fun _ _ => trivial, fun _ _ _ => trivial, fun _ _ _ => trivial, fun _ _ => trivial, fun _ _ => trivial, fun _ h => h⟩
/-- what a cache keeps -/
structure MemoOk (K : PySem.W.Frag) (mv : List (Str × (D → Option D))) (g : Gh) (d : D) (kvs : List (Key × V)) : Prop where
  nd : (kvs.map (·.1)).Nodup
  at_ : ∀ p ∈ kvs, ∃ y r, p.1 = (.inr y : Key) ∧ mvAt mv d y = some r ∧ r.pl = true ∧ Rep K T0 g r p.2
variable {mv : List (Str × (D → Option D))} {d : D} {kvs : List (Key × V)}
theorem MemoOk.nil : MemoOk K mv g d [] := ⟨List.nodup_nil, fun _ h => nomatch h⟩
theorem MemoOk.mono (le : g.Le g') (h : MemoOk K mv g d kvs) : MemoOk K mv g' d kvs := ⟨h.nd, fun p hp => let ⟨y, r, a, b, c, e⟩ := h.at_ p hp; ⟨y, r, a, b, c, e.mono t0_ok le⟩⟩
theorem MemoOk.less (L : List Addr) (hL : ∀ a ∈ L, ∃ o, g.F a = some (ExO a o)) (h : MemoOk K mv g d kvs) : MemoOk K mv (g.less L) d kvs := ⟨h.nd, fun p hp => let ⟨y, r, a, b, c, e⟩ := h.at_ p hp; ⟨y, r, a, b, c, Rep.less hL _ _ e (pl_noclo r c)⟩⟩
theorem len_sub {α : Type} [DecidableEq α] : ∀ (l ks : List α), l.Nodup → (∀ x ∈ l, x ∈ ks) → l.length ≤ ks.length
  | [], _, _, _ => Nat.zero_le _
  | a :: r, ks, nd, h => by
    obtain ⟨n1, n2⟩ := List.nodup_cons.mp nd
    have ha := h a List.mem_cons_self
    have := len_sub r (ks.erase a) n2 fun x hx => (List.mem_erase_of_ne fun z => n1 (by rw [← z]; exact hx)).mpr (h x (List.mem_cons_of_mem _ hx))
    rw [List.length_erase_of_mem ha] at this
    have : 0 < ks.length := List.length_pos_of_mem ha
    rw [List.length_cons]
    omega
theorem mvAt_mem {d r : D} {y : Str} (h : mvAt mv d y = some r) : y ∈ mv.map (·.1) := by
  unfold mvAt at h
  cases e : mv.lookup y with
  | none => rw [e] at h; cases h
  | some f =>
    clear h
    induction mv with
    | nil => cases e
    | cons p l ih =>
      obtain ⟨z, q⟩ := p
      by_cases hz : (y == z) = true
      · rw [eq_of_beq hz]; exact List.mem_cons_self
      · rw [List.lookup_cons, show (y == z) = false by simpa using hz] at e
        exact List.mem_cons_of_mem _ (ih e)
theorem MemoOk.short (h : MemoOk K mv g d kvs) : kvs.length ≤ mv.length := by
  have := len_sub (kvs.map (·.1)) ((mv.map (·.1)).map fun y => (.inr y : Key)) h.nd fun x hx => by
    obtain ⟨p, hp, rfl⟩ := List.mem_map.mp hx
    obtain ⟨y, r, a, b, _⟩ := h.at_ p hp
    rw [a]
    exact List.mem_map_of_mem (mvAt_mem b)
  simpa using this
theorem val_mem {k : Key} {v : V} (h : valV kvs k = some v) : (k, v) ∈ kvs := by
  unfold valV at h
  obtain ⟨p, hp, e⟩ := Option.map_eq_some_iff.mp h
  have h1 := List.find?_some hp
  have h2 := List.mem_of_find?_eq_some hp
  have : p.1 = k := by simpa using h1
  rw [← this, ← e]
  exact h2
theorem MemoOk.put {y : Str} {r : D} {v : V} (h : MemoOk K mv g d kvs) (e : mvAt mv d y = some r) (hp : r.pl = true) (hr : Rep K T0 g r v) : MemoOk K mv g d (putK kvs (.inr y) v) := by
  cases q : valV kvs (.inr y : Key) with
  | none =>
    rw [putK_new v q]
    refine ⟨?_, fun p hm => ?_⟩
    · rw [List.map_append]
      refine List.nodup_append.mpr ⟨h.nd, by simp, fun a ha b hb z => ?_⟩
      obtain ⟨p, hm, rfl⟩ := List.mem_map.mp ha
      have hb : b = (.inr y : Key) := by simpa using hb
      have : (kvs.any fun kv => decide (kv.1 = (.inr y : Key))) = true := List.any_eq_true.mpr ⟨p, hm, decide_eq_true (z.trans hb)⟩
      rw [valV_any, q] at this
      cases this
    · rcases List.mem_append.mp hm with hm | hm
      · exact h.at_ p hm
      · rw [List.mem_singleton.mp hm]
        exact ⟨y, r, rfl, e, hp, hr⟩
  | some u =>
    have ha : (kvs.any fun kv => decide (kv.1 = (.inr y : Key))) = true := by rw [valV_any, q]; rfl
    have e2 : putK kvs (.inr y : Key) v = kvs.map fun p => if p.1 = (.inr y : Key) then (p.1, v) else p := by
      unfold putK
      rw [if_pos ha]
    rw [e2]
    refine ⟨?_, fun p hm => ?_⟩
    · have : (kvs.map fun p => if p.1 = (.inr y : Key) then (p.1, v) else p).map (·.1) = kvs.map (·.1) := by
        rw [List.map_map]
        refine List.map_congr_left fun p _ => ?_
        show (if p.1 = (.inr y : Key) then (p.1, v) else p).1 = p.1
        split <;> rfl
      rw [this]
      exact h.nd
    · obtain ⟨p', hm', rfl⟩ := List.mem_map.mp hm
      by_cases z : p'.1 = (.inr y : Key)
      · rw [if_pos z]
        exact ⟨y, r, z, e, hp, hr⟩
      · rw [if_neg z]
        exact h.at_ p' hm'
end
/-! ### the body -/
def ckLk (Γ : Ck) : Expr → Bool
  | .Attribute (.Name x _) f _ => decide (f = "looked") && ckVar Γ 0 x
  | _ => false
def ckKy (Γ : Ck) (key : Str ⊕ Nat) (e : Expr) : Bool := match key, e with
  | .inl x, .Constant (.str y) _ _ => decide (x = y)
  | .inr i, .Name x _ => ckVar Γ i x
  | _, _ => false
def ckMemo (Γ : Ck) (key : Str ⊕ Nat) (ee : Ex) : List Stmt → Bool
  | [.If (.Compare k1 [.NotIn] [l1] _) [.Assign [.Subscript l2 k2 _] v _] [] _, .Return (some (.Subscript l3 k3 _)) _] =>
    ckKy Γ key k1 && ckLk Γ l1 && ckKy Γ key k2 && ckLk Γ l2 && ckKy Γ key k3 && ckLk Γ l3 && noComp v && ck Γ .e ee v && !behindInMarks .NotIn l1
  | _ => false
def tKy : Str ⊕ Nat → TE
  | .inl x => L2.tC (.str x)
  | .inr i => tVar i
abbrev tLk (K : PySem.W.Frag) : TE := tFld K (tVar 0) "looked"
section
variable {S : Type} {LOK : Nat → LamD → Prop} {Γ : Ck} {X : Cx} {E : XK} {T : Tab S} {XT : ExcT} {G : Nat → Option Fn} {dr : Dr S} {k : Nat} {key : Str ⊕ Nat}
theorem ckLk_ok (g : GoodX LOK Γ X E T XT G dr k) {e : Expr} (h : ckLk Γ e = true) : PE X e (tLk X.K) := by
  unfold ckLk at h
  split at h
  · obtain ⟨h1, h2⟩ := and3 h
    have := of_decide_eq_true h1
    subst this
    exact pe_fld (g.pv h2) rfl
  · cases h
theorem ckKy_ok (g : GoodX LOK Γ X E T XT G dr k) {e : Expr} (h : ckKy Γ key e = true) : PE X e (tKy key) ∧ NoSl e := by
  unfold ckKy at h
  split at h
  · have := of_decide_eq_true h
    subst this
    exact ⟨pe_str, fun _ _ => rfl⟩
  · exact ⟨g.pv h, fun _ _ => rfl⟩
  · cases h
theorem memo_body (g : GoodX LOK Γ X E T XT G dr k) {ee : Ex} {b : List Stmt} (h : ckMemo Γ key ee b = true) (B : Hp) :
    PSs X b (tSeq (tIfS (L2.tB (tDNotIn (tKy key) (tLk X.K))) (sDPut (tLk X.K) (tKy key) (tE X.K T XT E B (ev (callN G dr k) ee))) tNext) (tRet (tDGet (tLk X.K) (tKy key)))) := by
  unfold ckMemo at h
  split at h
  · obtain ⟨h, h9⟩ := and3 h
    obtain ⟨h, h8⟩ := and3 h
    obtain ⟨h, h7⟩ := and3 h
    obtain ⟨h, h6⟩ := and3 h
    obtain ⟨h, h5⟩ := and3 h
    obtain ⟨h, h4⟩ := and3 h
    obtain ⟨h, h3⟩ := and3 h
    obtain ⟨h1, h2⟩ := and3 h
    have hu : X.A.units + 1 < cLine := by have := g.hu; omega
    exact pss_cons (ps_if (L2.pt_cmp (pc_dnotin hu (ckKy_ok g h1).1 (ckLk_ok g h2)) (by simpa using h9)) (pss_one (ps_dput hu (ckLk_ok g h4) (ckKy_ok g h3).1 (ck_ok ee Γ .e _ h8 g B) (noComp_sw h7))) pss_nil) (pss_one (ps_ret (pe_dget hu (ckLk_ok g h6) (ckKy_ok g h5).1 (ckKy_ok g h5).2)))
  · cases h
end
end Mp

set_option Elab.async false
set_option linter.all false
set_option maxRecDepth 100000
set_option maxHeartbeats 16000000
/-! The defs of a program. -/
namespace Mp
open PySem PySem.Spec PyProof.Rows L2 NdefX

section
variable {P : Program} {w : World} {K : PySem.W.Frag} {mg : Str → Option Value} {base : Heap}
/-- what a callee lets out, a def's body lets out -/
theorem pass_cx {N : List Str} {qual : Str} {scope : Scope} {f : Addr} {cdv : Value} {A : Around} {outer : List PySem.Env} {s : Shared} {H : Hp} {E : XK} :
    Passes (L2.CX P w) (cxOf (L2.CX P w) P w K mg base N qual scope f cdv A outer s H E) E :=
  passes_call (X := cxOf (L2.CX P w) P w K mg base N qual scope f cdv A outer s H E) (W := fun cls d _ H' => E cls d H') (takes_of (X := cxOf (L2.CX P w) P w K mg base N qual scope f cdv A outer s H E) (E := E) rfl rfl rfl rfl) fun _ _ _ _ h => h
theorem pass_ncx {N : List Str} {F : NF} {f : Addr} {A : Around} {outer : List PySem.Env} {s : Shared} {H : Hp} {E : XK} :
    Passes (L2.CX P w) (ncx (L2.CX P w) P w K mg base N F f A outer s H E) E :=
  passes_call (X := ncx (L2.CX P w) P w K mg base N F f A outer s H E) (W := fun cls d _ H' => E cls d H') (takes_of (X := ncx (L2.CX P w) P w K mg base N F f A outer s H E) (E := E) rfl rfl rfl rfl) fun _ _ _ _ h => h
theorem pown_cx {N : List Str} {qual : Str} {scope : Scope} {f : Addr} {cdv : Value} {A : Around} {outer : List PySem.Env} {s : Shared} {H : Hp} {E : XK} :
    PassesOwn (model (cxOf (L2.CX P w) P w K mg base N qual scope f cdv A outer s H E).prog (cxOf (L2.CX P w) P w K mg base N qual scope f cdv A outer s H E).w) (cxOf (L2.CX P w) P w K mg base N qual scope f cdv A outer s H E).A (cxOf (L2.CX P w) P w K mg base N qual scope f cdv A outer s H E).env (cxOf (L2.CX P w) P w K mg base N qual scope f cdv A outer s H E).xe := passes_of rfl
end
theorem bind_lam {params : Arguments} {ps : List Str} (h : paramsB params ps = true) {q : Str} {body : Expr} {scope : Scope} (cl : List (Str × Addr)) (pm ctv : Value) (c' : Addr) (us : List Value) (hl : us.length = ps.length) :
    bindArgs (PySem.W.kla_fn "<lambda>" q params body scope cl pm (.ref c') ctv) ⟨us, []⟩ = pure (ps.zip us) := by
  unfold paramsB at h
  split at h
  · rename_i args
    obtain ⟨h, h3⟩ := and3 h
    obtain ⟨h1, h2⟩ := and3 h
    have h1 := of_decide_eq_true h1
    have h2 := of_decide_eq_true h2
    have h3 := of_decide_eq_true h3
    subst h1
    rw [List.length_map] at hl
    match args, us, h2, hl, h3 with
    | [], [], _, _, _ => rfl
    | [a], [u], _, _, _ =>
      unfold bindArgs
      simp [seqItems?, List.lookup]
      rfl
    | [a, b], [u, v], _, _, h3 =>
      have e1 : (b.arg == a.arg) = false := beq_eq_false_iff_ne.mpr fun z => by simp [z] at h3
      unfold bindArgs
      simp [seqItems?, List.lookup, e1]
      rfl
    | [a, b, c], [u, v, w], _, _, h3 =>
      have e1 : (b.arg == a.arg) = false := beq_eq_false_iff_ne.mpr fun z => by simp [z] at h3
      have e2 : (c.arg == a.arg) = false := beq_eq_false_iff_ne.mpr fun z => by simp [z] at h3
      have e3 : (c.arg == b.arg) = false := beq_eq_false_iff_ne.mpr fun z => by simp [z] at h3
      unfold bindArgs
      simp [seqItems?, List.lookup, e1, e2, e3]
      rfl
  · cases h
section
variable {S : Type} {P : Program} {w : World} {K : PySem.W.Frag} {mg : Str → Option Value} {base : Heap} {T : Tab S} {XT : ExcT} {dr : Dr S} {pr : Prg} {k : Nat}
abbrev lokOf (pr : Prg) : Nat → LamD → Prop := fun n L => lamB pr n L = true
/-- the lambdas that have been looked at -/
theorem lams_ok (h : PrOk pr (lokOf pr) P w K mg base T XT pr.G dr k) : LamsOk P w K mg base (lokOf pr) T XT pr.G dr k where
  run := fun m L hL => by
    have hL : lamB pr m L = true := hL
    unfold lamB at hL
    split at hL
    · rename_i np ns e hlo
      obtain ⟨hL, h5⟩ := and3 hL
      obtain ⟨hL, h4⟩ := and3 hL
      obtain ⟨hL, h3⟩ := and3 hL
      obtain ⟨h1, h2⟩ := and3 hL
      have h1 := of_decide_eq_true h1
      have h2 := of_decide_eq_true h2
      have SC := nscope_by h3
      refine ⟨e, ?_, SC, fun cl pm ctv c' us hl => bind_lam h4 cl pm ctv c' us hl, fun cl c' f A outer s H E hr => ?_⟩
      · unfold lamOf at hlo
        split at hlo
        · rename_i np' ns' e' hG
          cases hlo
          rw [hG, h1, h2]
        · cases hlo
      · exact ck_ok e (lamCk pr L) .e L.body h5 (X := ncx (L2.CX P w) P w K mg base L.N ⟨"<lambda>", L.qual, L.params, [], L.scope, cl, c'⟩ f A outer s H E) (E := E) (LOK := lokOf pr)
          ⟨rfl, SC.nd, rfl, SC.kind, rfl, hr, pass_ncx, (fun h => by cases h), (fun x h => by cases h), (fun n L h => by cases h), (fun h => by cases h), (fun q h => by cases h), h⟩ H
    · cases hL
end
end Mp

set_option Elab.async false
set_option linter.all false
set_option maxRecDepth 100000
set_option maxHeartbeats 8000000
/-! A def that keeps a cache keeps to the evaluator. -/
namespace Mp
open PySem PySem.Spec PyProof.Rows L2

theorem lookup_out : ∀ {fs : List Str} {vs : List V} {f : Str} {ex : List (Str × V)}, f ∉ fs → (fs.zip vs ++ ex).lookup f = ex.lookup f
  | [], _, _, _, _ => by simp
  | _ :: _, [], _, _, _ => by simp
  | a :: fs, b :: vs, f, ex, h => by
    rw [List.mem_cons, not_or] at h
    show ((a, b) :: (fs.zip vs ++ ex)).lookup f = _
    rw [List.lookup_cons, show (f == a) = false from beq_eq_false_iff_ne.mpr h.1]
    exact lookup_out h.2
section
variable {S : Type} {P : Program} {w : World} {K : PySem.W.Frag} {mg : Str → Option Value} {base : Heap} {T : Tab S} {XT : ExcT} {G : Nat → Option Fn} {dr : Dr S} {LOK : Nat → LamD → Prop}
/-- the cache is written -/
theorem memo_put {mv : List (Str × (D → Option D))} {g : Gh} {H : Hp} {s : S} {l : Addr} {t d : D} {v : V} {y : Str} {kvs : List (Key × V)} (w : Wd K T g s H) (hT : T.cacheOk = MemoOk K mv) (hC : g.C l = some t) (hl : H l = some (.dK kvs)) (m : MemoOk K mv g t kvs) (e : mvAt mv t y = some d) (hp : d.pl = true) (r : Rep K T g d v) :
    Step g H g (upd H l (.dK (putK kvs (.inr y) v))) ∧ Wd K T g s (upd H l (.dK (putK kvs (.inr y) v))) := by
  have sep := w.sepC l t hC
  refine ⟨⟨.refl g, fun a o ea hc _ _ => ?_, fun a o ea => ?_, fun _ _ z => .inl z, fun _ _ z => .inl z⟩, ⟨fun a o ea => ?_, fun a t' ea => ?_, ?_, w.sepC, w.sepH, ?_⟩⟩
  · rw [upd_ne (fun z => by rw [z, hC] at hc; cases hc)]
    exact ea
  · by_cases z : a = l
    · rw [z]; exact ⟨_, upd_same⟩
    · exact ⟨o, by rw [upd_ne z]; exact ea⟩
  · rw [upd_ne (fun z => by rw [z, sep.1] at ea; cases ea)]
    exact w.sub a o ea
  · by_cases z : a = l
    · subst z
      rw [hC] at ea
      cases ea
      exact ⟨_, upd_same, by rw [hT]; exact m.put e hp (rep_plain d v hp r)⟩
    · obtain ⟨kvs', h1, h2⟩ := w.cache a t' ea
      exact ⟨kvs', by rw [upd_ne z]; exact h1, h2⟩
  · obtain ⟨vs, h1, h2⟩ := w.hand
    exact ⟨vs, by rw [upd_ne (Ne.symm sep.2)]; exact h1, h2⟩
  · exact w.tabs.upd (fun ps z => by rw [hl] at z; cases z) (fun _ _ z => z) (.refl g)
theorem fn_memo {x qual : Str} {st : Stmt} {f : Addr} {fd : FuncData} {N ps : List Str} {k n c : Nat} {mv : List (Str × (D → Option D))} {key : Str ⊕ Nat} {ee : Ex} {pr : Prg} (F : Fun K x qual st f fd) (SC : FnScope N ps (defScope st)) (hG : G n = some (.memo mv ps.length N.length c key ee))
    (hck : ckMemo { N := N, sc := defScope st, own := true, bs := { kind := .function, names := [], isGenerator := false, isCoroutine := false }, lq := none, lo := fun _ _ => false, pr := pr } key ee (defBody st) = true) (hk : PrOk pr LOK P w K mg base T XT G dr k) (hT : T.cacheOk = MemoOk K mv) (hm : T.memo c = true) (hfl : ("looked" : Str) ∉ T.flds c) (hno : ∀ C, T.cls c = some C → NoAttr K C "looked") (hmv : mv.length ≤ 1000) :
    FnOk P w K mg base (L2.CX P w) (k + 2) f fd ps (spFn K T XT (callN G dr (k + 1)) n) := by
  have ok := hk.ok
  have read : ∀ {vs : List V} {H : Hp} {Q : VK} {E : XK}, spFn K T XT (callN G dr (k + 1)) n vs H Q E → ∃ (g : Gh) (s : S) (ds : List D) (t d : D) (y : Str), Wd K T g s H ∧ Reps K T g ds vs ∧ ds.length = ps.length ∧ ds[0]? = some t ∧ isIns c t = true ∧ keyOf ds key = some y ∧ mvAt mv t y = some d ∧ d.pl = true ∧
      (∀ s, ev (callN G dr k) ee (ds.map Slot.fz ++ List.replicate (N.length - ps.length) Slot.un) s = .ok d s) ∧ ∀ g' H', Step g H g' H' → Wd K T g' s H' → ∀ v, Rep K T g' d v → Q v H' := fun {vs H Q E} ⟨g, s, ds, wd, r, p⟩ => by
    rw [callN_memo G dr hG] at p
    have p : Post K T XT E g H (M.need (ds.length == ps.length) (M.bind (M.opt ds[0]?) fun t => M.need (isIns c t) (M.bind (M.opt (keyOf ds key)) fun k' => M.bind (M.opt (mvAt mv t k')) fun d => M.need d.pl (M.det (ev (callN G dr k) ee (ds.map Slot.fz ++ List.replicate (N.length - ps.length) Slot.un)) d))) s) _ := p
    obtain ⟨h1, p⟩ := p.need
    obtain ⟨t, h2, wd1, _, p⟩ := Post.opt wd p.bind
    obtain ⟨h3, p⟩ := p.need
    obtain ⟨y, h4, wd2, _, p⟩ := Post.opt wd p.bind
    obtain ⟨d, h5, wd3, _, p⟩ := Post.opt wd p.bind
    obtain ⟨h6, p⟩ := p.need
    unfold M.det at p
    by_cases hd : ∀ s, ev (callN G dr k) ee (ds.map Slot.fz ++ List.replicate (N.length - ps.length) Slot.un) s = .ok d s
    · rw [if_pos hd] at p
      exact ⟨g, s, ds, t, d, y, wd, r, eq_of_beq h1, h2, h3, h4, h5, h6, hd, p⟩
    · rw [if_neg hd] at p
      exact p.elim
  refine okC F SC (fun vs H Q E h => ?_) fun cdv A outer s H vs Q E hcode hr h => ?_
  · obtain ⟨g, s, ds, t, d, y, wd, r, hl, _⟩ := read h
    rw [← r.length, hl]
  · obtain ⟨g, s1, ds, t, d, y, wd, r, hl, h0, hi, hky, hmvy, hpl, hev, fin⟩ := read h
    have gx : GoodX LOK { N := N, sc := defScope st, own := true, bs := { kind := .function, names := [], isGenerator := false, isCoroutine := false }, lq := none, lo := fun _ _ => false, pr := pr } (cxOf (L2.CX P w) P w K mg base N qual (defScope st) f cdv A outer s H E) E T XT G dr k :=
      ⟨rfl, SC.nd, rfl, SC.kind, rfl, hr, pass_cx, (fun _ _ => rfl), (fun _ _ => rfl), (fun n L h => by cases h), (fun h => by cases h), (fun q h => by cases h), hk⟩
    refine ⟨_, memo_body gx hck H, ?_⟩
    have hpsN : ps.length ≤ N.length := by
      have := congrArg List.length SC.pre
      rw [List.length_take] at this
      omega
    have sl := slots_start (K := K) (T := T) (g := g) (H := H) (N := N) r rfl (by rw [hl]; exact hpsN)
    rw [hl] at sl
    have slot : ∀ {i : Nat} {d' : D}, ds[i]? = some d' → ∃ v, (L2.start N vs)[i]? = some (some v) ∧ Rep K T g d' v := fun {i d'} e => by
      have hi : i < ds.length := (List.getElem?_eq_some_iff.mp e).1
      refine sl.get (i := i) (d := d') ?_
      unfold Env.get
      rw [List.getElem?_append_left (by rw [List.length_map]; exact hi), List.getElem?_map, e]
      rfl
    obtain ⟨v0, hs0, rt⟩ := slot h0
    cases rt with
    | @ins c' C a dx ds' vs' ex e1 e2 e3 e4 e5 =>
      have hc : c' = c := eq_of_beq (show (c' == c) = true from hi)
      subst hc
      obtain ⟨l, hex, hgC⟩ := e5 hm
      have hlk : ((T.flds c').zip vs' ++ ex).lookup ("looked" : Str) = some (.ref l) := by rw [lookup_out hfl]; exact hex
      have key_ : ∀ (H1 : Hp) (Q1 : VK), Q1 (kV (.inr y)) H1 → tKy key (L2.start N vs) H1 Q1 := fun H1 Q1 q => by
        cases key with
        | inl z =>
          cases hky
          exact q
        | inr i =>
          have hky : (match ds[i]? with | some (.str x) => some x | _ => none) = some y := hky
          cases e : ds[i]? with
          | none => rw [e] at hky; cases hky
          | some d' =>
            rw [e] at hky
            cases d' with
            | str z =>
              cases hky
              obtain ⟨v, hv, rv⟩ := slot e
              cases rv
              exact ⟨_, hv, q⟩
            | _ => cases hky
      have lk_ : ∀ (H1 : Hp) (Q1 : VK), H1 a = some (.ins C dx ((T.flds c').zip vs' ++ ex)) → Q1 (.ref l) H1 → tLk K (L2.start N vs) H1 Q1 := fun H1 Q1 ea q =>
        ⟨_, hs0, a, C, dx, _, .ref l, rfl, ea, hk.ic.co.cls _ _ e1, hno C e1, hlk, q⟩
      obtain ⟨kvs, hl0, hm0⟩ := wd.cache l _ hgC
      rw [hT] at hm0
      refine key_ H _ ?_
      refine lk_ H _ (wd.sub _ _ e2) ?_
      refine ⟨l, _, rfl, .k hl0, _, rfl, ?_⟩
      cases q : valV kvs (.inr y : Key) with
      | some v =>
        show tLk K (L2.start N vs) H (fun x1 H1 => tKy key (L2.start N vs) H1 fun y1 H2 => ∃ a v, x1 = .ref a ∧ DGet H2 a y1 (some v) ∧ Q v H2)
        refine lk_ H _ (wd.sub _ _ e2) ?_
        refine key_ H _ ?_
        refine ⟨l, v, rfl, ?_, ?_⟩
        · have := DGet.k (k := (.inr y : Key)) hl0
          rwa [q] at this
        · obtain ⟨y', r', f1, f2, f3, f4⟩ := hm0.at_ _ (val_mem q)
          cases f1
          rw [hmvy] at f2
          cases f2
          exact fin g H (.refl g H) wd v (rep_plain d v hpl f4)
      | none =>
        show sDPut (tLk K) (tKy key) (tE K T XT E H (ev (callN G dr k) ee)) _ _ _
        refine ⟨g, s1, _, _, wd, sl, ?_⟩
        rw [hev s1]
        intro g' H' st' w' v rv
        have ea' : H' a = some (.ins C dx ((T.flds c').zip vs' ++ ex)) := w'.sub _ _ (st'.le.F _ _ e2)
        obtain ⟨kvs', hl1, hm1⟩ := w'.cache l _ (st'.le.C _ _ hgC)
        rw [hT] at hm1
        have hlen : kvs'.length < sizeLine := Nat.lt_of_le_of_lt (Nat.le_trans hm1.short hmv) (by decide)
        have hal : a ≠ l := fun z => by rw [z, hl1] at ea'; cases ea'
        obtain ⟨stp, w2⟩ := memo_put w' hT (st'.le.C _ _ hgC) hl1 hm1 hmvy hpl rv
        refine lk_ H' _ ea' ?_
        refine key_ H' _ ?_
        refine ⟨l, _, rfl, .k hl1 hlen, ?_⟩
        show tLk K (L2.start N vs) (upd H' l (.dK (putK kvs' (.inr y) v))) (fun x1 H1 => tKy key (L2.start N vs) H1 fun y1 H2 => ∃ a v, x1 = .ref a ∧ DGet H2 a y1 (some v) ∧ Q v H2)
        refine lk_ (upd H' l (.dK (putK kvs' (.inr y) v))) _ (by rw [upd_ne hal]; exact ea') ?_
        refine key_ (upd H' l (.dK (putK kvs' (.inr y) v))) _ ?_
        refine ⟨l, v, rfl, ?_, ?_⟩
        · have := DGet.k (k := (.inr y : Key)) (show (upd H' l (.dK (putK kvs' (.inr y) v))) l = some (.dK (putK kvs' (.inr y) v)) from upd_same)
          rw [valV_put, if_pos rfl] at this
          exact this
        · exact fin g' _ (st'.trans stp) w2 v rv
    | _ => cases hi
end
end Mp

set_option Elab.async false
set_option linter.all false
set_option maxRecDepth 100000
set_option maxHeartbeats 16000000
/-! All defs of a program keep to the evaluator. -/
namespace Mp
open PySem PySem.Spec PyProof.Rows L2

/-- the setting of a def's body -/
def fnCk (pr : Prg) (N : List Str) (st : Stmt) (lq : Option Str) : Ck := { N := N, sc := defScope st, own := true, bs := { kind := .function, names := [], isGenerator := false, isCoroutine := false }, lq := lq, lo := lamB pr, pr := pr }
section
variable {S : Type} (pr : Prg) (P : Program) (w : World) (K : PySem.W.Frag) (mg : Str → Option Value) (base : Heap) (T : Tab S) (XT : ExcT) (dr : Dr S)
/-- a def of the text, as the evaluator has it; lambdas made in it bear the name lq -/
structure CodeFn (n : Nat) (f : Addr) (fd : FuncData) (ps : List Str) : Prop where
  ex : ∃ (x qual : Str) (st : Stmt) (N : List Str) (body : List St) (lq : Option Str), Fun K x qual st f fd ∧ FnScope N ps (defScope st) ∧ pr.G n = some (.code ps.length N.length body) ∧ ckSs (fnCk pr N st lq) body (defBody st) = true ∧
    ∀ q, lq = some q → q = qual ++ ".<locals>." ++ "<lambda>" ∧ ∃ c Pt, fd.code = .ref c ∧ LamX.TabB base mg c Pt ∧ (Pt, q) ∈ T.tb ∧ ∀ p ∈ T.tb, p.1 = Pt → p.2 = q
/-- the init function of a class -/
structure InitFn (n : Nat) (C : Addr) (fl : List Str) (lk : Bool) (f : Addr) (fd : FuncData) (ps : List Str) : Prop where
  ex : ∃ (x qual : Str) (st : Stmt) (N : List Str) (np : Nat) (body : List St), Fun K x qual st f fd ∧ FnScope N ps (defScope st) ∧ pr.G n = some (.init np N.length body) ∧ ps.length = np + 1 ∧ fl.length = np ∧
    ∀ k, PrOk pr (lokOf pr) P w K mg base T XT pr.G dr k → ∀ (cdv : Value) (A : Around) (outer : List PySem.Env) (s : Shared) (H : Hp) (E : XK) (g0 : Gh) (B : Hp), Room (k + 1) (A.deeper (envOfC qual (defScope st) s.heap.objs.size f cdv)) →
      PSs (cxOf (L2.CX P w) P w K mg base N qual (defScope st) f cdv A outer s H E) (defBody st) (tCh K T XT E g0 B (exs (callN pr.G dr k) body) (tFin C fl lk))
/-- the own == of a class -/
structure EqFn (n : Nat) (f : Addr) (fd : FuncData) (ps : List Str) : Prop where
  ex : ∃ (x qual : Str) (st : Stmt) (N : List Str) (body : List St), Fun K x qual st f fd ∧ FnScope N ps (defScope st) ∧ pr.G n = some (.eqf ps.length N.length body) ∧ ckSs (fnCk pr N st none) body (defBody st) = true
/-- what a law's program is to have -/
structure ProgIn : Prop where
  ok : T.Ok
  xo : XOk XT
  clo : T.cloOk = CloOk (lokOf pr)
  ic : IsC K T
  flds : ∀ c, pr.flds c = T.flds c
  blt : ∀ x ∈ bltN, mg x = none
  cons : ∀ x d, pr.cons.lookup x = some d → ∃ u v, mg x = some u ∧ RelV v u ∧ ∀ g, Rep K T g d v
  fns : ∀ x n, pr.fns.lookup x = some n → ∃ f fd ps, mg x = some (.ref f) ∧ PySem.W.keepIn K (.ref f) = true ∧ Binds K fd ps [] ∧
    (CodeFn pr K mg base T n f fd ps ∨ ∀ k, PrOk pr (lokOf pr) P w K mg base T XT pr.G dr k → FnOk P w K mg base (L2.CX P w) (k + 2) f fd ps (spFn K T XT (callN pr.G dr (k + 1)) n))
  cls : ∀ x c, pr.cls.lookup x = some c → ∃ C, T.cls c = some C ∧ mg x = some (.ref C)
  make : ∀ x c, pr.cls.lookup x = some c → ∃ C f fd ps lk, T.cls c = some C ∧ mg x = some (.ref C) ∧ Mk K C f ∧ Binds K fd ps [] ∧ ps.length = (T.flds c).length + 1 ∧ (T.memo c = true → lk = true) ∧ ("looked" : Str) ∉ T.flds c ∧
    InitFn pr P w K mg base T XT dr (pr.inits c) C (T.flds c) lk f fd ps
  eqs : ∀ c n, pr.eqs.lookup c = some n → ∃ C f fd ps, T.cls c = some C ∧ EqIn K C f ∧ Binds K fd ps [] ∧ EqFn pr K n f fd ps
end
section
variable {S : Type} {pr : Prg} {P : Program} {w : World} {K : PySem.W.Frag} {mg : Str → Option Value} {base : Heap} {T : Tab S} {XT : ExcT} {dr : Dr S}
theorem code_fn {n k : Nat} {f : Addr} {fd : FuncData} {ps : List Str} (h : CodeFn pr K mg base T n f fd ps) (hk : PrOk pr (lokOf pr) P w K mg base T XT pr.G dr k) : FnOk P w K mg base (L2.CX P w) (k + 2) f fd ps (spFn K T XT (callN pr.G dr (k + 1)) n) := by
  obtain ⟨x, qual, st, N, body, lq, F, SC, hG, hck, hlq⟩ := h.ex
  refine fn_code (j := k + 1) F SC hG rfl rfl fun cdv A outer s H E g0 hcode hr => ?_
  refine ckSs_ok body (fnCk pr N st lq) (defBody st) hck (LOK := lokOf pr) (X := cxOf (L2.CX P w) P w K mg base N qual (defScope st) f cdv A outer s H E) (E := E)
    ⟨rfl, SC.nd, rfl, SC.kind, rfl, hr, pass_cx, (fun _ _ => rfl), (fun _ _ => rfl), (fun n L h => h), (fun h => by cases h), (fun q hq => ?_), hk⟩ pown_cx g0 H
  obtain ⟨e1, c, Pt, e2, e3, e4, e5⟩ := hlq q hq
  exact ⟨rfl, e1, c, Pt, e3, by rw [← hcode]; exact e2, by rw [e1] at e4; exact e4, by rw [e1] at e5; exact e5⟩
theorem init_zero {n k j : Nat} {C : Addr} {fl : List Str} {lk : Bool} {f : Addr} {fd : FuncData} {ps : List Str} {np ns : Nat} {body : List St} (hG : pr.G n = some (.init np ns body)) (hk : k ≤ 1) : FnOk P w K mg base (L2.CX P w) j f fd ps (spInit K T XT (callN pr.G dr k) n C fl lk) := by
  have key : ∀ ds s, callN pr.G dr k n ds s = .bad := fun ds s => by
    match k, hk with
    | 0, _ => rfl
    | 1, _ =>
      unfold callN
      rw [hG]
      rfl
  have no : ∀ {vs H Q E}, ¬ spInit K T XT (callN pr.G dr k) n C fl lk vs H Q E := fun {vs H Q E} ⟨g, s, ds, us, x, dx, B, _, _, _, _, _, _, _, _, p⟩ => by
    rw [key] at p
    exact p
  exact ⟨fun vs H Q E h => (no h).elim, fun A outer s H args us vs Q E _ _ _ _ h => (no h).elim⟩
theorem prok (h : ProgIn pr P w K mg base T XT dr) : ∀ k, PrOk pr (lokOf pr) P w K mg base T XT pr.G dr k := fun k => by
  induction k using Nat.strongRecOn with
  | ind k ih =>
    refine ⟨h.ok, h.xo, h.clo, h.ic, h.flds, h.blt, h.cons, fun x n hx => ?_, h.cls, fun x c hx => ?_, fun c n hx => ?_, fun k' hk' => lams_ok (ih k' (by omega))⟩
    · obtain ⟨f, fd, ps, e1, e2, e3, e4⟩ := h.fns x n hx
      refine ⟨f, fd, ps, e1, e2, e3, ?_⟩
      cases k with
      | zero => exact fn_zero
      | succ k =>
        rcases e4 with e4 | e4
        · exact code_fn e4 (ih k (by omega))
        · exact e4 k (ih k (by omega))
    · obtain ⟨C, f, fd, ps, lk, e1, e2, e3, e4, e5, e6, e7, e8⟩ := h.make x c hx
      refine ⟨C, f, fd, ps, lk, e1, e2, e3, e4, e5, e6, e7, ?_⟩
      obtain ⟨y, qual, st, N, np, body, F, SC, hG, hnp, hfl, hb⟩ := e8.ex
      match k, ih with
      | 0, _ => exact init_zero hG (by decide)
      | 1, _ => exact init_zero hG (by decide)
      | k + 2, ih => exact fn_init (j := k + 1) h.ok F SC hG rfl hnp hfl fun cdv A outer s H E g0 B hr => hb k (ih k (by omega)) cdv A outer s H E g0 B hr
    · obtain ⟨C, f, fd, ps, e1, e2, e3, e4⟩ := h.eqs c n hx
      refine ⟨C, f, fd, ps, e1, e2, e3, ?_⟩
      obtain ⟨x, qual, st, N, body, F, SC, hG, hck⟩ := e4.ex
      match k, ih with
      | 0, _ => exact fn_eqf0 hG (by decide)
      | 1, _ => exact fn_eqf0 hG (by decide)
      | k + 2, ih =>
        refine fn_eqf (j := k + 1) F SC hG rfl rfl fun cdv A outer s H E g0 hcode hr => ?_
        exact ckSs_ok body (fnCk pr N st none) (defBody st) hck (LOK := lokOf pr) (X := cxOf (L2.CX P w) P w K mg base N qual (defScope st) f cdv A outer s H E) (E := E)
          ⟨rfl, SC.nd, rfl, SC.kind, rfl, hr, pass_cx, (fun _ _ => rfl), (fun _ _ => rfl), (fun n L h => h), (fun h => by cases h), (fun q hq => by cases hq), ih k (by omega)⟩ pown_cx g0 H
end
end Mp

set_option Elab.async false
set_option linter.all false
set_option maxRecDepth 100000
set_option maxHeartbeats 4000000
/-! The law's hand: a small language of ints for the def that draws. -/
namespace Mp
open PySem PySem.Spec PyProof.Rows L2

/-- the hand's list: the cells, the place, what is left of a cell, the seed, the count -/
structure HS where
  cells : List Int
  i : Int
  l : Int
  sd : Int
  ct : Int
inductive Zx where
  | con (n : Int) | var (i : Nat) | item (k : Nat) | cell | lenc
  | bin (op : Bop) (a b : Zx) | int (a : Zx) | ite (c : Cop) (x y a b : Zx)
inductive Zs where
  | put (k : Nat) (e : Zx)
  | set (i : Nat) (e : Zx)
  | if2 (c1 : Cop) (a1 b1 : Zx) (c2 : Cop) (a2 b2 : Zx) (t : List Zs)
  | if1 (c : Cop) (a b : Zx) (t : List Zs)
  | ret (e : Zx)
def HS.item (s : HS) : Nat → Option Int
  | 1 => some s.i
  | 2 => some s.l
  | 3 => some s.sd
  | 4 => some s.ct
  | _ => none
def HS.put (s : HS) (v : Int) : Nat → Option HS
  | 1 => some { s with i := v }
  | 2 => some { s with l := v }
  | 3 => some { s with sd := v }
  | 4 => some { s with ct := v }
  | _ => none
def zbin : Bop → Int → Int → Option Int
  | .add, x, y => some (x + y)
  | .sub, x, y => some (x - y)
  | .mul, x, y => if small x || small y then some (x * y) else none
  | .fdiv, x, y => if decide (0 < y) && decide (y < 1073741824) then some (x / y) else none
  | .mod, x, y => if decide (0 < y) then some (x % y) else none
  | .pow, x, y => if decide (0 ≤ y) && decide (y ≤ 64) && small x then some (x ^ y.toNat) else none
def zcmp : Cop → Int → Int → Option Bool
  | .eq, x, y => some (decide (x = y))
  | .lt, x, y => some (decide (x < y))
  | .gt, x, y => some (decide (y < x))
  | .ge, x, y => some (decide (y ≤ x))
  | _, _, _ => none
abbrev ZE := List (Option Int)
def zev (env : ZE) (s : HS) : Zx → Option Int
  | .con n => some n
  | .var i => (env[i]?).join
  | .item k => s.item k
  | .cell => if 0 ≤ s.i then s.cells[s.i.toNat]? else none
  | .lenc => some s.cells.length
  | .bin op a b => (zev env s a).bind fun x => (zev env s b).bind fun y => zbin op x y
  | .int a => zev env s a
  | .ite c x y a b => (zev env s x).bind fun i => (zev env s y).bind fun j => (zcmp c i j).bind fun k => if k = true then zev env s a else zev env s b
inductive ZO where
  | nxt (env : ZE) (s : HS) | ret (i : Int) (s : HS)
mutual
def zrun1 (env : ZE) (s : HS) : Zs → Option ZO
  | .put k e => (zev env s e).bind fun v => (s.put v k).map fun s' => .nxt env s'
  | .set i e => (zev env s e).bind fun v => if i = 0 then none else some (.nxt (env.set i (some v)) s)
  | .if2 c1 a1 b1 c2 a2 b2 t => (zev env s a1).bind fun x => (zev env s b1).bind fun y => (zcmp c1 x y).bind fun k =>
      if k = true then (zev env s a2).bind fun x => (zev env s b2).bind fun y => (zcmp c2 x y).bind fun k => if k = true then zrun env s t else some (.nxt env s) else some (.nxt env s)
  | .if1 c a b t => (zev env s a).bind fun x => (zev env s b).bind fun y => (zcmp c x y).bind fun k => if k = true then zrun env s t else some (.nxt env s)
  | .ret e => (zev env s e).map fun v => .ret v s
def zrun (env : ZE) (s : HS) : List Zs → Option ZO
  | [] => some (.nxt env s)
  | t :: r => (zrun1 env s t).bind fun o => match o with
    | .nxt env' s' => zrun env' s' r
    | o => some o
end
/-! ### the text's trees against these -/
def zck (N : List Str) (sc : Scope) : Zx → Expr → Bool
  | .con n, e => match e with
    | .Constant (.int m) _ _ => decide (n = m)
    | _ => false
  | .var i, e => match e with
    | .Name x _ => decide (N[i]? = some x) && decide (sc.names.lookup x = some .local) && notD x
    | _ => false
  | .item k, e => match e with
    | .Subscript (.Name x _) (.Constant (.int m) _ _) _ => decide (m = k) && decide (N[0]? = some x) && decide (sc.names.lookup x = some .local) && notD x
    | _ => false
  | .cell, e => match e with
    | .Subscript (.Subscript (.Name x _) (.Constant (.int m) _ _) _) (.Subscript (.Name y _) (.Constant (.int k) _ _) _) _ => decide (m = 0) && decide (k = 1) && decide (x = y) && decide (N[0]? = some x) && decide (sc.names.lookup x = some .local) && notD x
    | _ => false
  | .lenc, e => match e with
    | .Call (.Name f _) [.Subscript (.Name x _) (.Constant (.int m) _ _) _] [] _ => decide (f = "len") && decide (sc.names.lookup f = some .globalImplicit) && decide (m = 0) && decide (N[0]? = some x) && decide (sc.names.lookup x = some .local) && notD x
    | _ => false
  | .bin op a b, e => match e with
    | .BinOp l o r _ => op.is o && zck N sc a l && zck N sc b r
    | _ => false
  | .int a, e => match e with
    | .Call (.Name f _) [l] [] _ => decide (f = "int") && decide (sc.names.lookup f = some .globalImplicit) && plainE l && zck N sc a l
    | _ => false
  | .ite c x y a b, e => match e with
    | .IfExp (.Compare l [o] [r] _) t u _ => c.is o && !behindInMarks o r && zck N sc x l && zck N sc y r && zck N sc a t && zck N sc b u
    | _ => false
mutual
def zckS (N : List Str) (sc : Scope) : Zs → Stmt → Bool
  | .put k e, s => match s with
    | .Assign [.Subscript (.Name x _) (.Constant (.int m) _ _) _] v _ => decide (m = k) && decide (k < 5) && decide (N[0]? = some x) && decide (sc.names.lookup x = some .local) && notD x && noComp v && notTup v && zck N sc e v
    | _ => false
  | .set i e, s => match s with
    | .Assign [.Name x _] v _ => decide (N[i]? = some x) && decide (sc.names.lookup x = some .local) && noComp v && zck N sc e v
    | _ => false
  | .if2 c1 a1 b1 c2 a2 b2 t, s => match s with
    | .If (.BoolOp .And [.Compare l1 [o1] [r1] _, .Compare l2 [o2] [r2] _] _) y [] _ => c1.is o1 && c2.is o2 && !behindInMarks o1 r1 && !behindInMarks o2 r2 && zck N sc a1 l1 && zck N sc b1 r1 && zck N sc a2 l2 && zck N sc b2 r2 && zckSs N sc t y
    | _ => false
  | .if1 c a b t, s => match s with
    | .If (.Compare l [o] [r] _) y [] _ => c.is o && !behindInMarks o r && zck N sc a l && zck N sc b r && zckSs N sc t y
    | _ => false
  | .ret e, s => match s with
    | .Return (some v) _ => zck N sc e v
    | _ => false
def zckSs (N : List Str) (sc : Scope) : List Zs → List Stmt → Bool
  | [], [] => true
  | t :: r, s :: ss => zckS N sc t s && zckSs N sc r ss
  | _, _ => false
end
/-! ### soundness -/
structure ZR (ha c : Addr) (s : HS) (env : ZE) (σ : L2.St) (H : Hp) : Prop where
  h0 : σ[0]? = some (some (V.ref ha))
  len : env.length = σ.length
  e0 : env[0]? = some none
  loc : ∀ (i : Nat) (v : Int), env[i]? = some (some v) → σ[i]? = some (some (V.int v))
  hl : H ha = some (HO.lst [V.ref c, V.int s.i, V.int s.l, V.int s.sd, V.int s.ct])
  hc : H c = some (HO.lst (s.cells.map V.int))
def tZ (x : Zx) : TE := fun σ H Q => ∃ ha c s env i, ZR ha c s env σ H ∧ zev env s x = some i ∧ Q (V.int i) H
section
variable {X : Cx}
structure ZX (X : Cx) (N : List Str) (sc : Scope) : Prop where
  N : X.N = N
  nd : X.N.Nodup
  sc : X.env.scope = sc
  calm : X.calm = true
  len : X.mg "len" = none
  int : X.mg "int" = none
variable {N : List Str} {sc : Scope}
theorem ZX.v (z : ZX X N sc) {i : Nat} {x : Str} {pos : Pos} (h1 : N[i]? = some x) (h2 : sc.names.lookup x = some .local) (h3 : notD x = true) : PE X (.Name x pos) (tVar i) :=
  pe_var (by rw [z.N]; exact h1) (.inl (by rw [z.sc]; exact h2)) (notD_ok h3).1 (notD_ok h3).2.1
theorem item_at {s : HS} {c : Addr} {k : Nat} {i : Int} (h : s.item k = some i) : atI [V.ref c, V.int s.i, V.int s.l, V.int s.sd, V.int s.ct] k = some (V.int i) := by
  unfold HS.item at h
  split at h <;> cases h <;> rfl
theorem z_item (z : ZX X N sc) {x : Str} {m : Int} {j : Nat} {p1 p2 p3 : Pos} (h1 : N[0]? = some x) (h2 : sc.names.lookup x = some .local) (h3 : notD x = true) : PE X (.Subscript (.Name x p1) (.Constant (.int m) j p2) p3) (tOp (rIxL X.K) (tVar 0) (L2.tC (V.int m))) :=
  pe_ix ix_list (z.v h1 h2 h3) pe_int (notSl_ok rfl)
theorem op_zbin {op : Bop} : OpR X (binaryOp op.py) fun x y H Q => ∃ i j k, x = V.int i ∧ y = V.int j ∧ zbin op i j = some k ∧ Q (V.int k) H := by
  intro pins s σ H x y v u Q I rx ry ⟨i, j, k, ex, ey, e, q⟩
  cases op with
  | add => cases e; exact op_add pins s σ H x y v u Q I rx ry ⟨i, j, ex, ey, q⟩
  | sub => cases e; exact op_sub pins s σ H x y v u Q I rx ry ⟨i, j, ex, ey, q⟩
  | mul =>
    have e : (if (small i || small j) = true then some (i * j) else none) = some k := e
    split at e
    · rename_i hs
      cases e
      refine op_mul pins s σ H x y v u Q I rx ry ⟨i, j, ex, ey, ?_, q⟩
      unfold small at hs
      simp only [Bool.or_eq_true, Bool.and_eq_true, decide_eq_true_eq] at hs
      exact hs
    · cases e
  | fdiv =>
    have e : (if (decide (0 < j) && decide (j < 1073741824)) = true then some (i / j) else none) = some k := e
    split at e
    · rename_i hs
      cases e
      simp only [Bool.and_eq_true, decide_eq_true_eq] at hs
      exact op_fdiv pins s σ H x y v u Q I rx ry ⟨i, j, ex, ey, hs, q⟩
    · cases e
  | mod =>
    have e : (if decide (0 < j) = true then some (i % j) else none) = some k := e
    split at e
    · rename_i hs
      cases e
      exact op_mod pins s σ H x y v u Q I rx ry ⟨i, j, ex, ey, of_decide_eq_true hs, q⟩
    · cases e
  | pow =>
    have e : (if (decide (0 ≤ j) && decide (j ≤ 64) && small i) = true then some (i ^ j.toNat) else none) = some k := e
    split at e
    · rename_i hs
      cases e
      unfold small at hs
      simp only [Bool.and_eq_true, decide_eq_true_eq] at hs
      obtain ⟨⟨h1, h2⟩, h3, h4⟩ := hs
      exact op_pow pins s σ H x y v u Q I rx ry ⟨i, j, ex, ey, ⟨h1, by omega, by omega⟩, q⟩
    · cases e
theorem op_zcmp {op : Cop} : OpR X (compareOp op.py) fun x y H Q => ∃ i j k, x = V.int i ∧ y = V.int j ∧ zcmp op i j = some k ∧ Q (V.bl k) H := by
  intro pins s σ H x y v u Q I rx ry ⟨i, j, k, ex, ey, e, q⟩
  cases op with
  | eq =>
    cases e
    subst ex ey
    refine op_eq pins s σ H _ _ v u Q I rx ry ⟨?_, ?_⟩
    · first | exact True.intro | rfl | decide | simp
    · have : decide (V.int i = V.int j) = decide (i = j) := by
        by_cases h : i = j
        · rw [decide_eq_true h, decide_eq_true (by rw [h])]
        · rw [decide_eq_false h, decide_eq_false (fun z => h (V.int.inj z))]
      rw [this]
      exact q
  | lt => cases e; exact op_lt pins s σ H x y v u Q I rx ry ⟨i, j, ex, ey, q⟩
  | gt => cases e; exact op_gt pins s σ H x y v u Q I rx ry ⟨i, j, ex, ey, q⟩
  | ge => cases e; exact op_ge pins s σ H x y v u Q I rx ry ⟨i, j, ex, ey, q⟩
  | _ => cases e
theorem zck_ok (z : ZX X N sc) : ∀ (x : Zx) (e : Expr), zck N sc x e = true → PE X e (tZ x)
  | .con n, e, h => by
    unfold zck at h
    split at h
    · have := of_decide_eq_true h
      subst this
      exact pe_imp pe_int fun σ H Q ⟨ha, c, s, env, i, r, e, q⟩ => by cases e; exact q
    · cases h
  | .var i, e, h => by
    unfold zck at h
    split at h
    · obtain ⟨h, h3⟩ := and3 h
      obtain ⟨h1, h2⟩ := and3 h
      refine pe_imp (z.v (of_decide_eq_true h1) (of_decide_eq_true h2) h3) fun σ H Q ⟨ha, c, s, env, v, r, e, q⟩ => ⟨_, r.loc i v ?_, q⟩
      have e : (env[i]?).join = some v := e
      cases e2 : env[i]? with
      | none => rw [e2] at e; cases e
      | some o => rw [e2] at e; rw [← e]; rfl
    · cases h
  | .item k, e, h => by
    unfold zck at h
    split at h
    · obtain ⟨h, h4⟩ := and3 h
      obtain ⟨h, h3⟩ := and3 h
      obtain ⟨h1, h2⟩ := and3 h
      have := of_decide_eq_true h1
      subst this
      exact pe_imp (z_item z (of_decide_eq_true h2) (of_decide_eq_true h3) h4) fun σ H Q ⟨ha, c, s, env, v, r, e, q⟩ => ⟨_, r.h0, ha, _, k, _, rfl, rfl, .inl (.inl r.hl), item_at e, q⟩
    · cases h
  | .cell, e, h => by
    unfold zck at h
    split at h
    · obtain ⟨h, h6⟩ := and3 h
      obtain ⟨h, h5⟩ := and3 h
      obtain ⟨h, h4⟩ := and3 h
      obtain ⟨h, h3⟩ := and3 h
      obtain ⟨h1, h2⟩ := and3 h
      have e1 := of_decide_eq_true h1
      have e2 := of_decide_eq_true h2
      have e3 := of_decide_eq_true h3
      subst e1 e2 e3
      refine pe_imp (pe_ix ix_list (z_item z (of_decide_eq_true h4) (of_decide_eq_true h5) h6) (z_item z (of_decide_eq_true h4) (of_decide_eq_true h5) h6) (notSl_ok rfl)) fun σ H Q ⟨ha, c, s, env, v, r, e, q⟩ => ?_
      refine ⟨_, r.h0, ha, _, 0, _, rfl, rfl, .inl (.inl r.hl), rfl, _, r.h0, ha, _, 1, _, rfl, rfl, .inl (.inl r.hl), rfl, c, _, s.i, _, rfl, rfl, .inl (.inl r.hc), ?_, q⟩
      unfold zev at e
      split at e
      · rename_i h0
        have hlt : s.i.toNat < s.cells.length := (List.getElem?_eq_some_iff.mp e).1
        unfold atI ixN
        rw [List.length_map, if_pos h0, if_pos (by omega)]
        show (s.cells.map V.int)[s.i.toNat]? = _
        rw [List.getElem?_map, e]
        rfl
      · cases e
    · cases h
  | .lenc, e, h => by
    unfold zck at h
    split at h
    · obtain ⟨h, h6⟩ := and3 h
      obtain ⟨h, h5⟩ := and3 h
      obtain ⟨h, h4⟩ := and3 h
      obtain ⟨h, h3⟩ := and3 h
      obtain ⟨h1, h2⟩ := and3 h
      have e1 := of_decide_eq_true h1
      have e3 := of_decide_eq_true h3
      subst e1 e3
      refine pe_imp (pe_callB call_len (show X.env.scope.names.lookup _ = _ by rw [z.sc]; exact of_decide_eq_true h2) z.len boot_len (pa_cons (z_item z (of_decide_eq_true h4) (of_decide_eq_true h5) h6) pa_nil)) fun σ H Q ⟨ha, c, s, env, v, r, e, q⟩ => ?_
      cases e
      refine ⟨_, r.h0, ha, _, 0, _, rfl, rfl, .inl (.inl r.hl), rfl, ?_⟩
      exact ⟨_, _, rfl, .inl ⟨_, .inl (.inl r.hc), rfl⟩, by rw [List.length_map]; exact q⟩
    · cases h
  | .bin op a b, e, h => by
    unfold zck at h
    split at h
    · obtain ⟨h, h3⟩ := and3 h
      obtain ⟨h1, h2⟩ := and3 h
      have := of_decide_eq_true h1
      subst this
      refine pe_imp (pe_op op_zbin (zck_ok z a _ h2) (zck_ok z b _ h3)) fun σ H Q ⟨ha, c, s, env, v, r, e, q⟩ => ?_
      obtain ⟨i, e1, e⟩ := Option.bind_eq_some_iff.mp e
      obtain ⟨j, e2, e⟩ := Option.bind_eq_some_iff.mp e
      exact ⟨ha, c, s, env, i, r, e1, ha, c, s, env, j, r, e2, i, j, v, rfl, rfl, e, q⟩
    · cases h
  | .int a, e, h => by
    unfold zck at h
    split at h
    · obtain ⟨h, h4⟩ := and3 h
      obtain ⟨h, h3⟩ := and3 h
      obtain ⟨h1, h2⟩ := and3 h
      have e1 := of_decide_eq_true h1
      subst e1
      exact pe_imp (pe_callTy call_int1 (show X.env.scope.names.lookup _ = _ by rw [z.sc]; exact of_decide_eq_true h2) z.int rfl (pa_cons (zck_ok z a _ h4) pa_nil (star_cons h3)) (by decide) (by decide) (star_cons h3) rfl) fun σ H Q ⟨ha, c, s, env, v, r, e, q⟩ =>
        ⟨ha, c, s, env, v, r, e, .inl ⟨v, rfl, q⟩⟩
    · cases h
  | .ite c x y a b, e, h => by
    unfold zck at h
    split at h
    · obtain ⟨h, h6⟩ := and3 h
      obtain ⟨h, h5⟩ := and3 h
      obtain ⟨h, h4⟩ := and3 h
      obtain ⟨h, h3⟩ := and3 h
      obtain ⟨h1, h2⟩ := and3 h
      have := of_decide_eq_true h1
      subst this
      refine pe_imp (pe_ifExp (pt_cmpR op_zcmp (zck_ok z x _ h3) (zck_ok z y _ h4) (by simpa using h2)) (zck_ok z a _ h5) (zck_ok z b _ h6)) fun σ H Q ⟨ha, cc, s, env, v, r, e, q⟩ => ?_
      obtain ⟨i, e1, e⟩ := Option.bind_eq_some_iff.mp e
      obtain ⟨j, e2, e⟩ := Option.bind_eq_some_iff.mp e
      obtain ⟨k, e3, e⟩ := Option.bind_eq_some_iff.mp e
      refine ⟨ha, cc, s, env, i, r, e1, ha, cc, s, env, j, r, e2, i, j, k, rfl, rfl, e3, k, rfl, ?_⟩
      cases k with
      | true => exact ⟨ha, cc, s, env, v, r, e, q⟩
      | false => exact ⟨ha, cc, s, env, v, r, e, q⟩
    · cases h
def hList (c : Addr) (s : HS) : List V := [V.ref c, V.int s.i, V.int s.l, V.int s.sd, V.int s.ct]
def updL (H : Hp) (ha c : Addr) (s : HS) : Hp := upd H ha (.lst (hList c s))
theorem updL_self {H : Hp} {ha c : Addr} {s : HS} (h : H ha = some (.lst (hList c s))) : updL H ha c s = H := by
  funext a
  unfold updL
  by_cases e : a = ha
  · subst e
    rw [upd_same, h]
  · rw [upd_ne e]
theorem updL_two {H : Hp} {ha c : Addr} {s s' : HS} : updL (updL H ha c s) ha c s' = updL H ha c s' := by
  unfold updL
  rw [upd_upd]
def zEnd (ha c : Addr) (H : Hp) (Dn : Ends) : ZO → Prop
  | .nxt env' s' => ∀ σ', ZR ha c s' env' σ' (updL H ha c s') → Dn.nx σ' (updL H ha c s')
  | .ret i s' => Dn.rt (V.int i) (updL H ha c s')
def zT (f : ZE → HS → Option ZO) : TS := fun Dn σ H => ∃ ha c s env o, ZR ha c s env σ H ∧ f env s = some o ∧ zEnd ha c H Dn o
theorem ZR.same {ha c : Addr} {s : HS} {env : ZE} {σ : L2.St} {H : Hp} (r : ZR ha c s env σ H) : updL H ha c s = H := updL_self r.hl
theorem ZR.put {ha c : Addr} {s s' : HS} {env : ZE} {σ : L2.St} {H : Hp} (r : ZR ha c s env σ H) (e : s'.cells = s.cells) : ZR ha c s' env σ (updL H ha c s') where
  h0 := r.h0
  len := r.len
  e0 := r.e0
  loc := r.loc
  hl := upd_same
  hc := by
    unfold updL
    rw [upd_ne (fun z => by
      have h1 := r.hc
      rw [z, r.hl] at h1
      have h2 := HO.lst.inj (Option.some.inj h1)
      cases hcs : s.cells with
      | nil => rw [hcs] at h2; cases h2
      | cons a b => rw [hcs] at h2; cases h2), e]
    exact r.hc
theorem set_item {s s' : HS} {c : Addr} {k : Nat} {v : Int} (h : s.put v k = some s') : s'.cells = s.cells ∧ ∃ j, ixN (hList c s).length k = some j ∧ (hList c s).set j (V.int v) = hList c s' := by
  unfold HS.put at h
  split at h <;> cases h <;> exact ⟨rfl, _, rfl, rfl⟩
mutual
theorem zckS_ok (z : ZX X N sc) : ∀ (t : Zs) (st : Stmt), zckS N sc t st = true → PS X st (zT fun env s => zrun1 env s t)
  | .put k e, st, h => by
    unfold zckS at h
    split at h
    · rename_i x p1 m j p2 p3 v pos
      obtain ⟨h, h8⟩ := and3 h
      obtain ⟨h, h7⟩ := and3 h
      obtain ⟨h, h6⟩ := and3 h
      obtain ⟨h, h5⟩ := and3 h
      obtain ⟨h, h4⟩ := and3 h
      obtain ⟨h, h3⟩ := and3 h
      obtain ⟨h1, h2⟩ := and3 h
      have := of_decide_eq_true h1
      subst this
      refine ps_imp (ps_asg (zck_ok z e _ h8) (pg_sub (z.v (of_decide_eq_true h3) (of_decide_eq_true h4) h5) pe_int set_list) ?_ ?_) fun Dn σ H ⟨ha, c, s, env, o, r, e1, q⟩ => ?_
      · cases v <;> first | rfl | (cases h6; done)
      · cases v <;> first | rfl | (cases h7; done)
      · obtain ⟨v', e2, e3⟩ := Option.bind_eq_some_iff.mp e1
        obtain ⟨s', e4, e5⟩ := Option.map_eq_some_iff.mp e3
        subst e5
        obtain ⟨e6, j', e7, e8⟩ := set_item (c := c) e4
        refine ⟨ha, c, s, env, v', r, e2, _, r.h0, ha, _, k, j', rfl, rfl, r.hl, e7, ?_⟩
        have e8' : ([V.ref c, V.int s.i, V.int s.l, V.int s.sd, V.int s.ct] : List V).set j' (V.int v') = hList c s' := e8
        rw [e8']
        exact q σ (r.put e6)
    · cases h
  | .set i e, st, h => by
    unfold zckS at h
    split at h
    · rename_i x p1 v pos
      obtain ⟨h, h4⟩ := and3 h
      obtain ⟨h, h3⟩ := and3 h
      obtain ⟨h1, h2⟩ := and3 h
      have hN : X.N[i]? = some x := by rw [z.N]; exact of_decide_eq_true h1
      have hl : X.env.scope.names.lookup x = some .local := by rw [z.sc]; exact of_decide_eq_true h2
      refine ps_imp (ps_set z.nd hN (.inl hl) (zck_ok z e _ h4) ?_ (.inr hl)) fun Dn σ H ⟨ha, c, s, env, o, r, e1, q⟩ => ?_
      · cases v <;> first | rfl | (cases h3; done)
      · obtain ⟨v', e2, e3⟩ := Option.bind_eq_some_iff.mp e1
        split at e3
        · cases e3
        · rename_i hi
          cases e3
          refine ⟨ha, c, s, env, v', r, e2, ?_⟩
          have := q (σ.set i (some (V.int v'))) (by
            rw [r.same]
            refine ⟨by rw [List.getElem?_set_ne hi]; exact r.h0, by rw [List.length_set, List.length_set]; exact r.len, by rw [List.getElem?_set_ne hi]; exact r.e0, fun j u hj => ?_, r.hl, r.hc⟩
            by_cases hij : i = j
            · subst hij
              have hlt : i < env.length := by
                have := (List.getElem?_eq_some_iff.mp hj).1
                rwa [List.length_set] at this
              rw [List.getElem?_set_self hlt] at hj
              rw [List.getElem?_set_self (by rw [← r.len]; exact hlt)]
              cases hj
              rfl
            · rw [List.getElem?_set_ne hij] at hj ⊢
              exact r.loc j u hj)
          rw [r.same] at this
          exact this
    · cases h
  | .if2 c1 a1 b1 c2 a2 b2 t, st, h => by
    unfold zckS at h
    split at h
    · obtain ⟨h, h9⟩ := and3 h
      obtain ⟨h, h8⟩ := and3 h
      obtain ⟨h, h7⟩ := and3 h
      obtain ⟨h, h6⟩ := and3 h
      obtain ⟨h, h5⟩ := and3 h
      obtain ⟨h, h4⟩ := and3 h
      obtain ⟨h, h3⟩ := and3 h
      obtain ⟨h1, h2⟩ := and3 h
      have g1 := of_decide_eq_true h1
      have g2 := of_decide_eq_true h2
      subst g1 g2
      refine ps_imp (ps_if (pw_and (pt_cmpR op_zcmp (zck_ok z a1 _ h5) (zck_ok z b1 _ h6) (by simpa using h3)) (pw_and1 (pt_cmpR op_zcmp (zck_ok z a2 _ h7) (zck_ok z b2 _ h8) (by simpa using h4)))).pt (zckSs_ok z t _ h9) pss_nil) fun Dn σ H ⟨ha, c, s, env, o, r, e1, q⟩ => ?_
      obtain ⟨x, e2, e1⟩ := Option.bind_eq_some_iff.mp e1
      obtain ⟨y, e3, e1⟩ := Option.bind_eq_some_iff.mp e1
      obtain ⟨k, e4, e1⟩ := Option.bind_eq_some_iff.mp e1
      refine ⟨ha, c, s, env, x, r, e2, ha, c, s, env, y, r, e3, x, y, k, rfl, rfl, e4, k, rfl, ?_⟩
      cases k with
      | false =>
        cases e1
        have q' := q σ (by rw [r.same]; exact r)
        rw [r.same] at q'
        exact q'
      | true =>
        obtain ⟨x2, e5, e1⟩ := Option.bind_eq_some_iff.mp e1
        obtain ⟨y2, e6, e1⟩ := Option.bind_eq_some_iff.mp e1
        obtain ⟨k2, e7, e1⟩ := Option.bind_eq_some_iff.mp e1
        refine ⟨ha, c, s, env, x2, r, e5, ha, c, s, env, y2, r, e6, x2, y2, k2, rfl, rfl, e7, k2, rfl, ?_⟩
        cases k2 with
        | false =>
          cases e1
          have q' := q σ (by rw [r.same]; exact r)
          rw [r.same] at q'
          exact q'
        | true => exact ⟨ha, c, s, env, o, r, e1, q⟩
    · cases h
  | .if1 c1 a b t, st, h => by
    unfold zckS at h
    split at h
    · obtain ⟨h, h5⟩ := and3 h
      obtain ⟨h, h4⟩ := and3 h
      obtain ⟨h, h3⟩ := and3 h
      obtain ⟨h1, h2⟩ := and3 h
      have g1 := of_decide_eq_true h1
      subst g1
      refine ps_imp (ps_if (pt_cmpR op_zcmp (zck_ok z a _ h3) (zck_ok z b _ h4) (by simpa using h2)) (zckSs_ok z t _ h5) pss_nil) fun Dn σ H ⟨ha, c, s, env, o, r, e1, q⟩ => ?_
      obtain ⟨x, e2, e1⟩ := Option.bind_eq_some_iff.mp e1
      obtain ⟨y, e3, e1⟩ := Option.bind_eq_some_iff.mp e1
      obtain ⟨k, e4, e1⟩ := Option.bind_eq_some_iff.mp e1
      refine ⟨ha, c, s, env, x, r, e2, ha, c, s, env, y, r, e3, x, y, k, rfl, rfl, e4, k, rfl, ?_⟩
      cases k with
      | false =>
        cases e1
        have q' := q σ (by rw [r.same]; exact r)
        rw [r.same] at q'
        exact q'
      | true => exact ⟨ha, c, s, env, o, r, e1, q⟩
    · cases h
  | .ret e, st, h => by
    unfold zckS at h
    split at h
    · refine ps_imp (ps_ret (zck_ok z e _ h)) fun Dn σ H ⟨ha, c, s, env, o, r, e1, q⟩ => ?_
      obtain ⟨v, e2, e3⟩ := Option.map_eq_some_iff.mp e1
      subst e3
      refine ⟨ha, c, s, env, v, r, e2, ?_⟩
      have q' : Dn.rt (V.int v) (updL H ha c s) := q
      rw [r.same] at q'
      exact q'
    · cases h
theorem zckSs_ok (z : ZX X N sc) : ∀ (t : List Zs) (st : List Stmt), zckSs N sc t st = true → PSs X st (zT fun env s => zrun env s t)
  | [], [], _ => pss_imp pss_nil fun Dn σ H ⟨ha, c, s, env, o, r, e1, q⟩ => by
    cases e1
    have q' := q σ (by rw [r.same]; exact r)
    rw [r.same] at q'
    exact q'
  | t :: ts, st :: ss, h => by
    have h : (zckS N sc t st && zckSs N sc ts ss) = true := h
    obtain ⟨h1, h2⟩ := and3 h
    refine pss_imp (pss_cons (zckS_ok z t st h1) (zckSs_ok z ts ss h2)) fun Dn σ H ⟨ha, c, s, env, o, r, e1, q⟩ => ?_
    obtain ⟨o1, e2, e1⟩ := Option.bind_eq_some_iff.mp e1
    refine ⟨ha, c, s, env, o1, r, e2, ?_⟩
    cases o1 with
    | nxt env' s' =>
      intro σ' r'
      refine ⟨ha, c, s', env', o, r', e1, ?_⟩
      cases o with
      | nxt env2 s2 =>
        intro σ2 r2
        rw [updL_two] at r2 ⊢
        exact q σ2 r2
      | ret i s2 =>
        show Dn.rt _ _
        rw [updL_two]
        exact q
    | ret i s' =>
      cases e1
      exact q
  | [], _ :: _, h => by cases h
  | _ :: _, [], h => by cases h
end
end
end Mp

set_option Elab.async false
set_option linter.all false
set_option maxRecDepth 100000
set_option maxHeartbeats 16000000
/-! A law's setting: its defs, its classes, its hand. -/
namespace Mp
open PySem PySem.Spec PyProof.Rows L2

/-- plain parameters of these names, five at most -/
def params5 (p : Arguments) (ps : List Str) : Bool := match p with
  | ⟨[], args, none, [], [], none, []⟩ => decide (args.map (·.arg) = ps) && decide (args.length ≤ 5) && decide ps.Nodup
  | _ => false
theorem bind_fn {x q : Str} {params : Arguments} {ps : List Str} (h : params5 params ps = true) {body : List Stmt} {scope : Scope} (kV doc pm : Value) (an : Option Addr) (cdv ct : Value) (us : List Value) (hl : us.length = ps.length) :
    bindArgs (PySem.W.fnOf x q params body scope .none kV doc pm an cdv ct) ⟨us, []⟩ = pure (ps.zip us) := by
  unfold params5 at h
  split at h
  · rename_i args
    obtain ⟨h, h3⟩ := and3 h
    obtain ⟨h1, h2⟩ := and3 h
    have h1 := of_decide_eq_true h1
    have h2 := of_decide_eq_true h2
    have h3 := of_decide_eq_true h3
    subst h1
    rw [List.length_map] at hl
    match args, us, h2, hl, h3 with
    | [], [], _, _, _ => rfl
    | [a], [u], _, _, h3 =>
      unfold bindArgs
      simp [seqItems?, List.lookup]
      rfl
    | [a, b], [u, v], _, _, h3 =>
      have e10 : (b.arg == a.arg) = false := beq_eq_false_iff_ne.mpr fun z => by simp [z] at h3
      unfold bindArgs
      simp [seqItems?, List.lookup, e10]
      rfl
    | [a, b, c], [u, v, w], _, _, h3 =>
      have e10 : (b.arg == a.arg) = false := beq_eq_false_iff_ne.mpr fun z => by simp [z] at h3
      have e20 : (c.arg == a.arg) = false := beq_eq_false_iff_ne.mpr fun z => by simp [z] at h3
      have e21 : (c.arg == b.arg) = false := beq_eq_false_iff_ne.mpr fun z => by simp [z] at h3
      unfold bindArgs
      simp [seqItems?, List.lookup, e10, e20, e21]
      rfl
    | [a, b, c, d], [u, v, w, y], _, _, h3 =>
      have e10 : (b.arg == a.arg) = false := beq_eq_false_iff_ne.mpr fun z => by simp [z] at h3
      have e20 : (c.arg == a.arg) = false := beq_eq_false_iff_ne.mpr fun z => by simp [z] at h3
      have e21 : (c.arg == b.arg) = false := beq_eq_false_iff_ne.mpr fun z => by simp [z] at h3
      have e30 : (d.arg == a.arg) = false := beq_eq_false_iff_ne.mpr fun z => by simp [z] at h3
      have e31 : (d.arg == b.arg) = false := beq_eq_false_iff_ne.mpr fun z => by simp [z] at h3
      have e32 : (d.arg == c.arg) = false := beq_eq_false_iff_ne.mpr fun z => by simp [z] at h3
      unfold bindArgs
      simp [seqItems?, List.lookup, e10, e20, e21, e30, e31, e32]
      rfl
    | [a, b, c, d, e], [u, v, w, y, z], _, _, h3 =>
      have e10 : (b.arg == a.arg) = false := beq_eq_false_iff_ne.mpr fun z => by simp [z] at h3
      have e20 : (c.arg == a.arg) = false := beq_eq_false_iff_ne.mpr fun z => by simp [z] at h3
      have e21 : (c.arg == b.arg) = false := beq_eq_false_iff_ne.mpr fun z => by simp [z] at h3
      have e30 : (d.arg == a.arg) = false := beq_eq_false_iff_ne.mpr fun z => by simp [z] at h3
      have e31 : (d.arg == b.arg) = false := beq_eq_false_iff_ne.mpr fun z => by simp [z] at h3
      have e32 : (d.arg == c.arg) = false := beq_eq_false_iff_ne.mpr fun z => by simp [z] at h3
      have e40 : (e.arg == a.arg) = false := beq_eq_false_iff_ne.mpr fun z => by simp [z] at h3
      have e41 : (e.arg == b.arg) = false := beq_eq_false_iff_ne.mpr fun z => by simp [z] at h3
      have e42 : (e.arg == c.arg) = false := beq_eq_false_iff_ne.mpr fun z => by simp [z] at h3
      have e43 : (e.arg == d.arg) = false := beq_eq_false_iff_ne.mpr fun z => by simp [z] at h3
      unfold bindArgs
      simp [seqItems?, List.lookup, e10, e20, e21, e30, e31, e32, e40, e41, e42, e43]
      rfl
  · cases h
/-! ### an __init__ -/
def ckTail (Γ : Ck) (f1 f2 : Str) (lk : Bool) : List Stmt → Bool
  | [.Assign [.Tuple [.Attribute (.Name s1 _) g1 _, .Attribute (.Name s2 _) g2 _] _ _] (.Tuple [.Name a _, .Name b _] _ _) _] => !lk && ckVar Γ 0 s1 && decide (s1 = s2) && ckVar Γ 1 a && ckVar Γ 2 b && decide (g1 = f1) && decide (g2 = f2)
  | [.Assign [.Tuple [.Attribute (.Name s1 _) g1 _, .Attribute (.Name s2 _) g2 _] _ _] (.Tuple [.Name a _, .Name b _] _ _) _, .Assign [.Attribute (.Name s3 _) l _] (.Dict [] [] _) _] =>
    lk && ckVar Γ 0 s1 && decide (s1 = s2) && ckVar Γ 1 a && ckVar Γ 2 b && decide (g1 = f1) && decide (g2 = f2) && ckVar Γ 0 s3 && decide (l = "looked")
  | _ => false
def ckInit (Γ : Ck) (f1 f2 : Str) (lk : Bool) : List Mp.St → List Stmt → Bool
  | [], ss => ckTail Γ f1 f2 lk ss
  | .ite c [.dead] [] :: r, .If t _ [] _ :: ss => ck Γ .t c t && ckInit Γ f1 f2 lk r ss
  | _, _ => false
section
variable {S : Type} {LOK : Nat → LamD → Prop} {Γ : Ck} {X : Cx} {E : XK} {T : Tab S} {XT : ExcT} {G : Nat → Option Fn} {dr : Dr S} {k : Nat} {g0 : Gh} {B : Hp} {C : Addr} {f1 f2 : Str}
theorem sw_attr {env : PySem.Env} {s1 s2 g1 g2 a b : Str} {k1 k2 : Nat} {p1 p2 p3 p4 p5 q1 q2 q3 : Pos} : swappedStores [.Tuple [.Attribute (.Name s1 p1) g1 p2, .Attribute (.Name s2 p3) g2 p4] k1 p5] (.Tuple [.Name a q1, .Name b q2] k2 q3) env = pure none := by
  simp [swappedStores]
theorem ckTail_ok (g : GoodX LOK Γ X E T XT G dr k) (hK : Cls X.K C) (n1 : NoAttr X.K C f1) (n2 : NoAttr X.K C f2) (nl : NoAttr X.K C "looked") (hne : f1 ≠ f2) (l1 : f1 ≠ "looked") (l2 : f2 ≠ "looked") {lk : Bool} {ss : List Stmt} (h : ckTail Γ f1 f2 lk ss = true) : PSs X ss (tFin C [f1, f2] lk) := by
  unfold ckTail at h
  split at h
  · obtain ⟨h, h7⟩ := and3 h
    obtain ⟨h, h6⟩ := and3 h
    obtain ⟨h, h5⟩ := and3 h
    obtain ⟨h, h4⟩ := and3 h
    obtain ⟨h, h3⟩ := and3 h
    obtain ⟨h1, h2⟩ := and3 h
    have e6 := of_decide_eq_true h6
    have e7 := of_decide_eq_true h7
    have e3 := of_decide_eq_true h3
    subst e3 e6 e7
    cases lk with
    | true => cases h1
    | false => exact tail_fin (tail_two g.calm hK n1 n2 hne (g.pv h2) (g.pv h2) (g.pv h4) (g.pv h5) rfl sw_attr)
  · obtain ⟨h, h9⟩ := and3 h
    obtain ⟨h, h8⟩ := and3 h
    obtain ⟨h, h7⟩ := and3 h
    obtain ⟨h, h6⟩ := and3 h
    obtain ⟨h, h5⟩ := and3 h
    obtain ⟨h, h4⟩ := and3 h
    obtain ⟨h, h3⟩ := and3 h
    obtain ⟨h1, h2⟩ := and3 h
    have e6 := of_decide_eq_true h6
    have e7 := of_decide_eq_true h7
    have e9 := of_decide_eq_true h9
    have e3 := of_decide_eq_true h3
    subst e3 e6 e7 e9
    subst h1
    exact tail_finL hK nl l1 l2 (tail_two g.calm hK n1 n2 hne (g.pv h2) (g.pv h2) (g.pv h4) (g.pv h5) rfl sw_attr) (g.pv h8) rfl
  · cases h
theorem ckInit_ok (g : GoodX LOK Γ X E T XT G dr k) (hK : Cls X.K C) (n1 : NoAttr X.K C f1) (n2 : NoAttr X.K C f2) (nl : NoAttr X.K C "looked") (hne : f1 ≠ f2) (l1 : f1 ≠ "looked") (l2 : f2 ≠ "looked") {lk : Bool} :
    ∀ (body : List Mp.St) (ss : List Stmt), ckInit Γ f1 f2 lk body ss = true → PSs X ss (tCh X.K T XT E g0 B (exs (callN G dr k) body) (tFin C [f1, f2] lk))
  | [], ss, h => mc_nil (ckTail_ok g hK n1 n2 nl hne l1 l2 (by unfold ckInit at h; exact h))
  | t :: r, ss, h => by
    unfold ckInit at h
    split at h
    · rename_i h0; cases h0
    · rename_i h0
      cases h0
      obtain ⟨h1, h2⟩ := and3 h
      exact mc_cons g.pr.ok (ck_ok _ Γ .t _ h1 g B) (ma := exs (callN G dr k) [.dead]) (pss_imp pss_never fun Dn σ H ⟨g, s, env, fp, w, sl, st, p⟩ => p.elim) (fun env s f s' z => nomatch z) (ckInit_ok g hK n1 n2 nl hne l1 l2 _ _ h2)
    · cases h
end
/-! ### the hand -/
abbrev HZ : Type := { s : HS // 0 ≤ s.i }
/-- a draw -/
def drw (ns : Nat) (body : List Zs) : Dr HZ := fun s k => match zrun (none :: some k :: List.replicate (ns - 2) none) s.val body with
  | some (.ret i s') => if h : 0 ≤ s'.i ∧ 0 ≤ i ∧ i < k then (i, ⟨s', h.1⟩) else (0, s)
  | _ => (0, s)
theorem drw_ok (ns : Nat) (body : List Zs) : (drw ns body).Ok where
  lo := fun s k hk => by
    unfold drw
    split
    · split
      · rename_i h; exact h.2.1
      · exact Int.le_refl 0
    · exact Int.le_refl 0
  hi := fun s k hk => by
    unfold drw
    split
    · split
      · rename_i h; exact h.2.2
      · exact hk
    · exact hk
/-- a draw comes to its end -/
def ZOk (ns : Nat) (body : List Zs) : Prop := ∀ (s : HS) (k : Int), 0 ≤ s.i → 0 < k → k < 1073741824 → ∃ i s', zrun (none :: some k :: List.replicate (ns - 2) none) s body = some (.ret i s') ∧ 0 ≤ s'.i ∧ 0 ≤ i ∧ i < k
def ZO.st : ZO → HS
  | .nxt _ s => s
  | .ret _ s => s
theorem put_cells {s s' : HS} {v : Int} {k : Nat} (h : s.put v k = some s') : s'.cells = s.cells := (set_item (c := 0) h).1
mutual
theorem zrun1_cells : ∀ (t : Zs) (env : ZE) (s : HS) (o : ZO), zrun1 env s t = some o → o.st.cells = s.cells
  | .put k e, env, s, o, h => by
    obtain ⟨v, _, h⟩ := Option.bind_eq_some_iff.mp h
    obtain ⟨s', h1, rfl⟩ := Option.map_eq_some_iff.mp h
    exact put_cells h1
  | .set i e, env, s, o, h => by
    obtain ⟨v, _, h⟩ := Option.bind_eq_some_iff.mp h
    split at h
    · cases h
    · cases h; rfl
  | .if2 c1 a1 b1 c2 a2 b2 t, env, s, o, h => by
    obtain ⟨x, _, h⟩ := Option.bind_eq_some_iff.mp h
    obtain ⟨y, _, h⟩ := Option.bind_eq_some_iff.mp h
    obtain ⟨k, _, h⟩ := Option.bind_eq_some_iff.mp h
    cases k with
    | false => cases h; rfl
    | true =>
      obtain ⟨x, _, h⟩ := Option.bind_eq_some_iff.mp h
      obtain ⟨y, _, h⟩ := Option.bind_eq_some_iff.mp h
      obtain ⟨k, _, h⟩ := Option.bind_eq_some_iff.mp h
      cases k with
      | false => cases h; rfl
      | true => exact zrun_cells t env s o h
  | .if1 c a b t, env, s, o, h => by
    obtain ⟨x, _, h⟩ := Option.bind_eq_some_iff.mp h
    obtain ⟨y, _, h⟩ := Option.bind_eq_some_iff.mp h
    obtain ⟨k, _, h⟩ := Option.bind_eq_some_iff.mp h
    cases k with
    | false => cases h; rfl
    | true => exact zrun_cells t env s o h
  | .ret e, env, s, o, h => by
    obtain ⟨v, _, rfl⟩ := Option.map_eq_some_iff.mp h
    rfl
theorem zrun_cells : ∀ (t : List Zs) (env : ZE) (s : HS) (o : ZO), zrun env s t = some o → o.st.cells = s.cells
  | [], env, s, o, h => by cases h; rfl
  | t :: r, env, s, o, h => by
    obtain ⟨o1, h1, h⟩ := Option.bind_eq_some_iff.mp h
    have e1 := zrun1_cells t env s o1 h1
    cases o1 with
    | nxt env' s' => exact (zrun_cells r env' s' o h).trans e1
    | ret i s' => cases h; exact e1
end
/-! ### the tables -/
/-- mc: the class with caches; mv: what they keep -/
def lawTab (K : PySem.W.Frag) (pr : Prg) (cl : List (Str × List Str)) (tb : List (Addr × Str)) (mc : Option Nat) (mv : List (Str × (D → Option D))) : Tab HZ where
  cls := fun c => (cl[c]?).map fun p => He.ga K p.1
  flds := fun c => ((cl[c]?).map (·.2)).getD []
  memo := fun c => decide (mc = some c)
  cacheOk := MemoOk K mv
  handOk := fun g s vs => ∃ c, vs = hList c s.val ∧ g.F c = some (.lst (s.val.cells.map V.int))
  tb := tb
  cloOk := CloOk (lokOf pr)
theorem lawTab_ok {K : PySem.W.Frag} {pr : Prg} {cl : List (Str × List Str)} {tb : List (Addr × Str)} {mc : Option Nat} {mv : List (Str × (D → Option D))} : (lawTab K pr cl tb mc mv).Ok where
  cache0 := fun _ _ => .nil
  cacheL := fun L hL h => h.less L hL
  handL := fun {g s vs} L hL ⟨c, e1, e2⟩ => ⟨c, e1, by
    show hless g.F L c = _
    rw [hless_out fun z => by obtain ⟨o, e⟩ := hL _ z; rw [e2] at e; cases e]
    exact e2⟩
  cache := fun le h => h.mono le
  hand := fun le ⟨c, e1, e2⟩ => ⟨c, e1, le.F _ _ e2⟩
  clo := fun le h => CloOk.mono le h
abbrev noX : ExcT := fun _ _ _ _ _ _ => False
theorem noX_ok : XOk noX := ⟨fun _ _ h => h, fun _ _ _ _ h => h⟩
section
variable {P : Program} {w : World} {K : PySem.W.Frag} {mg : Str → Option Value} {base : Heap} {pr : Prg} {cl : List (Str × List Str)} {tb : List (Addr × Str)} {mc : Option Nat} {mv : List (Str × (D → Option D))} {E : XK}
theorem upd_hand {g : Gh} {s s' : HZ} {H : Hp} {c : Addr} (w : Wd K (lawTab K pr cl tb mc mv) g s H) (e : s'.val.cells = s.val.cells) (hc : g.F c = some (.lst (s.val.cells.map V.int))) : Step g H g (updL H g.ha c s'.val) ∧ Wd K (lawTab K pr cl tb mc mv) g s' (updL H g.ha c s'.val) := by
  obtain ⟨vs, hv, _⟩ := w.hand
  refine ⟨⟨.refl g, fun a o ea _ hh _ => by unfold updL; rw [upd_ne hh]; exact ea, fun a o ea => ?_, fun l t h => .inl h, fun a o h => .inl h⟩, ⟨fun a o ea => ?_, fun l t h => ?_, ⟨_, upd_same, c, rfl, by rw [e]; exact hc⟩, w.sepC, w.sepH, ?_⟩⟩
  · by_cases z : a = g.ha
    · rw [z]; exact ⟨_, upd_same⟩
    · exact ⟨o, by unfold updL; rw [upd_ne z]; exact ea⟩
  · unfold updL
    rw [upd_ne (fun z => by rw [z, w.sepH] at ea; cases ea)]
    exact w.sub a o ea
  · obtain ⟨kvs, a, b⟩ := w.cache l t h
    exact ⟨kvs, by unfold updL; rw [upd_ne (w.sepC l t h).2]; exact a, b⟩
  · exact w.tabs.upd (fun ps z => by rw [hv] at z; cases z) (fun q _ n => n) (.refl g)
theorem draw_args {S : Type} {dr : Dr S} {cal : Nat → List D → M S D} (ds : List D) : (∃ m, ds = [D.hand, D.int m]) ∨ ∀ s, runFn dr cal .draw ds s = .bad := by
  cases ds with
  | nil => exact .inr fun _ => rfl
  | cons d r =>
    cases d <;> try exact .inr fun _ => rfl
    cases r with
    | nil => exact .inr fun _ => rfl
    | cons e r =>
      cases e <;> try exact .inr fun _ => rfl
      cases r with
      | nil => exact .inl ⟨_, rfl⟩
      | cons _ _ => exact .inr fun _ => rfl
/-- the def that draws -/
theorem draw_fn {x qual a b : Str} {st : Stmt} {N : List Str} {body : List Zs} {f : Addr} {fd : FuncData} {n : Nat} (F : Fun K x qual st f fd) (SC : FnScope N [a, b] (defScope st)) (hck : zckSs N (defScope st) body (defBody st) = true) (zo : ZOk N.length body) (hG : pr.G n = some .draw) (hl : mg "len" = none) (hi : mg "int" = none) (k j : Nat) :
    FnOk P w K mg base (L2.CX P w) (j + 1) f fd [a, b] (spFn K (lawTab K pr cl tb mc mv) noX (callN pr.G (drw N.length body) k) n) := by
  have key : ∀ {vs : List V} {H : Hp} {Q : VK} {E : XK}, spFn K (lawTab K pr cl tb mc mv) noX (callN pr.G (drw N.length body) k) n vs H Q E → ∃ (g : Gh) (s : HZ) (m : Int), Wd K (lawTab K pr cl tb mc mv) g s H ∧ vs = [V.ref g.ha, V.int m] ∧ 0 < m ∧ m < 1073741824 ∧
      Post K (lawTab K pr cl tb mc mv) noX E g H (.ok (D.int (drw N.length body s m).1) (drw N.length body s m).2) fun g' _ H' d => ∀ v, Rep K (lawTab K pr cl tb mc mv) g' d v → Q v H' := fun {vs H Q E} ⟨g, s, ds, wd, r, p⟩ => by
    cases k with
    | zero => exact p.elim
    | succ k =>
      rw [callN_draw pr.G (drw N.length body) hG] at p
      rcases draw_args (dr := drw N.length body) (cal := callN pr.G (drw N.length body) k) ds with ⟨m, rfl⟩ | hb
      · have p : Post K (lawTab K pr cl tb mc mv) noX E g H (if (decide (0 < m) && decide (m < 1073741824)) = true then R.ok (D.int (drw N.length body s m).1) (drw N.length body s m).2 else .bad) _ := p
        by_cases hm : (decide (0 < m) && decide (m < 1073741824)) = true
        · rw [if_pos hm] at p
          rw [Bool.and_eq_true, decide_eq_true_eq, decide_eq_true_eq] at hm
          cases r with
          | cons r1 r2 =>
            cases r2 with
            | cons r3 r4 =>
              cases r4
              cases r1
              cases r3
              exact ⟨g, s, m, wd, rfl, hm.1, hm.2, p⟩
        · rw [if_neg hm] at p
          exact p.elim
      · rw [hb s] at p
        exact p.elim
  refine F.okX SC (fun vs H Q E h => ?_) fun cdv A outer s H vs Q E hr h => ?_
  · obtain ⟨g, s, m, _, rfl, _⟩ := key h
    rfl
  · obtain ⟨g, hz, m, wd, rfl, m0, m1, p⟩ := key h
    have nd := SC.nd
    have pre := SC.pre
    have hN2 : 2 ≤ N.length := by
      have := congrArg List.length pre
      rw [List.length_take] at this
      have e2 : ([a, b] : List Str).length = 2 := rfl
      omega
    have hX : ZX (cxOf (L2.CX P w) P w K mg base N qual (defScope st) f cdv A outer s H E) N (defScope st) := ⟨rfl, nd, rfl, rfl, hl, hi⟩
    refine ⟨_, zckSs_ok hX body (defBody st) hck, ?_⟩
    obtain ⟨i, s', e1, h0, h1, h2⟩ := zo hz.val m hz.property m0 m1
    obtain ⟨vs, hv, c, e2, e3⟩ := wd.hand
    subst e2
    refine ⟨g.ha, c, hz.val, none :: some m :: List.replicate (N.length - 2) none, .ret i s', ⟨rfl, ?_, rfl, fun j v hj => ?_, hv, wd.sub _ _ e3⟩, e1, ?_⟩
    · show (none :: some m :: List.replicate (N.length - 2) none).length = (L2.start N [V.ref g.ha, V.int m]).length
      unfold L2.start
      rw [List.length_cons, List.length_cons, List.length_replicate, List.length_append, List.length_map, List.length_replicate]
      have e3 : ([V.ref g.ha, V.int m] : List V).length = 2 := rfl
      omega
    · match j, hj with
      | 0, hj => cases hj
      | 1, hj => cases hj; rfl
      | j + 2, hj =>
        have hj : (List.replicate (N.length - 2) (none : Option Int))[j]? = some (some v) := hj
        rw [List.getElem?_replicate] at hj
        split at hj
        · cases hj
        · cases hj
    · have ed : drw N.length body hz m = (i, ⟨s', h0⟩) := by
        unfold drw
        rw [e1]
        exact dif_pos ⟨h0, h1, h2⟩
      rw [ed] at p
      have hc : s'.cells = hz.val.cells := zrun_cells body _ _ _ e1
      obtain ⟨st2, w2⟩ := upd_hand (s' := ⟨s', h0⟩) wd hc e3
      exact p g _ st2 w2 _ (.int i)
end
end Mp

set_option Elab.async false
set_option linter.all false
set_option maxRecDepth 100000
set_option maxHeartbeats 4000000
/-! A law's program: from the head's facts to the evaluator's setting. -/
namespace Mp
open PySem PySem.Spec PyProof.Rows L2

/-- a def of the text -/
structure DefI where
  x : Str
  n : Nat
  st : Stmt
  N : List Str
  ps : List Str
  body : List Mp.St
  lam : Bool
/-- a class with two fields -/
structure ClsI where
  x : Str
  f1 : Str
  f2 : Str
  n : Nat
  q : Str
  st : Stmt
  N : List Str
  ps : List Str
  body : List Mp.St
  lk : Bool
/-- the own == of a class: the class's number and name, its text -/
structure EqI where
  c : Nat
  x : Str
  q : Str
  n : Nat
  st : Stmt
  N : List Str
  ps : List Str
  body : List Mp.St
/-- a def that keeps a cache -/
structure MemI where
  x : Str
  n : Nat
  st : Stmt
  N : List Str
  ps : List Str
  key : Str ⊕ Nat
  e : Ex
structure LawI where
  defs : List DefI
  cls : List ClsI
  cons : List (Str × Int)
  /-- the def that draws: its text, number, names, body -/
  dst : Stmt
  dn : Nat
  dN : List Str
  dp : Str × Str
  db : List Zs
  G : Nat → Option Fn
  lamN : Nat → List Str
  eqs : List EqI := []
  memos : List MemI := []
  /-- the class with caches -/
  mc : Option Nat := none
  mv : List (Str × (D → Option D)) := []
def lamQ (x : Str) : Str := x ++ ".<locals>." ++ "<lambda>"
def DefI.lq (d : DefI) : Option Str := if d.lam then some (lamQ d.x) else none
def LawI.pr (L : LawI) : Prg where
  fns := L.defs.map (fun d => (d.x, d.n)) ++ (L.memos.map (fun d => (d.x, d.n)) ++ [(("_law_draw" : Str), L.dn)])
  cls := L.cls.zipIdx.map fun p => (p.1.x, p.2)
  cons := L.cons.map fun p => (p.1, .int p.2)
  flds := fun c => ((L.cls[c]?).map fun d => [d.f1, d.f2]).getD []
  inits := fun c => ((L.cls[c]?).map (·.n)).getD 0
  G := L.G
  lamN := L.lamN
  eqs := L.eqs.map fun d => (d.c, d.n)
def LawI.clsT (L : LawI) : List (Str × List Str) := L.cls.map fun d => (d.x, [d.f1, d.f2])
/-- the defs that make lambdas -/
def LawI.tf (L : LawI) : List He.Defn := (L.defs.filter (·.lam)).map fun d => (d.x, none)
def LawI.tb (L : LawI) (K : PySem.W.Frag) : List (Addr × Str) := (L.defs.filter (·.lam)).map fun d => ((He.cT K (d.x, none)).2, lamQ d.x)
abbrev LawI.T (L : LawI) (K : PySem.W.Frag) : Tab HZ := lawTab K L.pr L.clsT (L.tb K) L.mc L.mv
abbrev LawI.dr (L : LawI) : Dr HZ := drw L.dN.length L.db
def defD (x q : Str) (m : Option Str) (st : Stmt) (nm : Str) : He.DefD := ⟨(x, m), nm, q, defArgs st, defBody st, defScope st, [], []⟩
/-- what the head is to tell -/
def LawI.fn (L : LawI) (more : List He.DefD) : List He.DefD := L.defs.map (fun d => defD d.x d.x none d.st d.x) ++ L.cls.map (fun d => defD d.x d.q (some "__init__") d.st "__init__") ++ defD "_law_draw" "_law_draw" none L.dst "_law_draw" :: (L.eqs.map (fun d => defD d.x d.q (some "__eq__") d.st "__eq__") ++ (L.memos.map (fun d => defD d.x d.x none d.st d.x) ++ more))
def LawI.fa (L : LawI) (more : List He.Fa) : List He.Fa := L.defs.map (fun d => He.Fa.glo d.x) ++ He.Fa.glo "_law_draw" :: (bltN.map He.Fa.free ++ L.cons.map (fun p => He.Fa.int p.1 p.2) ++ (L.cls.flatMap fun d => [He.Fa.glo d.x, .cls d.x, .noat d.x d.f1, .noat d.x d.f2, .noat d.x "looked", .mkr d.x]) ++ (L.eqs.map (fun d => He.Fa.meth d.x "__eq__") ++ (L.memos.map (fun d => He.Fa.glo d.x) ++ more)))
def tyN : List String := ["int", "bool", "str", "tuple", "list", "dict"]
def isCB (K : PySem.W.Frag) (cs : List Str) : Bool :=
  He.eqO (PySem.W.specialIn K (.builtin "object.__class__") "__get__") (some (some (.builtin "getset_descriptor.__get__"))) && decide (PySem.W.takesIn K (.builtin "object.__class__") = some true) &&
  (cs.all fun x => He.eqO (PySem.W.findIn K (.ref (He.ga K x)) "__class__") (some (some (.builtin "object.__class__"))) && decide (PySem.W.mroIn K (He.ga K x) (.type "object") = some true) &&
    (["int", "bool", "str", "tuple", "list", "dict"].all fun n => decide (PySem.W.kitOne K (.ref (He.ga K x)) (.type n) = some false)) && (["NoneType", "int", "bool", "str", "tuple", "list", "dict"].all fun n => decide (PySem.W.kitOne K (.type n) (.ref (He.ga K x)) = some false))) &&
  (cs.zipIdx.all fun p => cs.zipIdx.all fun q => decide (PySem.W.kitOne K (.ref (He.ga K p.1)) (.ref (He.ga K q.1)) = some (p.2 == q.2)))
def neB (K : PySem.W.Frag) (x : Str) : Bool := He.eqO (PySem.W.findIn K (.ref (He.ga K x)) "__ne__") (some (some (.builtin "object.__ne__")))
def LawI.exB (L : LawI) (K : PySem.W.Frag) : Bool := isCB K (L.cls.map (·.x)) && (L.eqs.all fun d => neB K d.x) && decide ((L.tf.map fun p => (He.cT K p).2).Nodup)
/-! ### what the text is to keep -/
def fsB (N ps : List Str) (sc : Scope) : Bool :=
  decide (sc.kind = .function) && !sc.isCoroutine && !sc.isGenerator && decide N.Nodup && decide (N.take ps.length = ps) && ps.all (fun x => decide (sc.names.lookup x = some .local) || decide (sc.names.lookup x = some .cell)) && sc.names.all fun y => !decide (y.2 = .free)
theorem fsB_ok {N ps : List Str} {sc : Scope} (h : fsB N ps sc = true) : FnScope N ps sc := by
  unfold fsB at h
  simp only [Bool.and_eq_true, Bool.not_eq_true', decide_eq_true_eq, List.all_eq_true, Bool.or_eq_true, decide_eq_false_iff_not] at h
  obtain ⟨⟨⟨⟨⟨⟨h1, h2⟩, h3⟩, h4⟩, h5⟩, h6⟩, h7⟩ := h
  exact ⟨h1, h2, h3, h4, h5, h6, h7⟩
def DefI.okB (L : LawI) (d : DefI) : Bool := fsB d.N d.ps (defScope d.st) && params5 (defArgs d.st) d.ps && ckSs (fnCk L.pr d.N d.st d.lq) d.body (defBody d.st)
def ClsI.okB (L : LawI) (d : ClsI) : Bool := fsB d.N d.ps (defScope d.st) && params5 (defArgs d.st) d.ps && decide (d.ps.length = 3) && !(d.f1 == d.f2) && !(d.f1 == "looked") && !(d.f2 == "looked") && ckInit (fnCk L.pr d.N d.st none) d.f1 d.f2 d.lk d.body (defBody d.st)
def EqI.okB (L : LawI) (d : EqI) : Bool := fsB d.N d.ps (defScope d.st) && params5 (defArgs d.st) d.ps && ckSs (fnCk L.pr d.N d.st none) d.body (defBody d.st) && decide ((L.cls[d.c]?).map (·.x) = some d.x)
def memCk (pr : Prg) (N : List Str) (st : Stmt) : Ck := { N := N, sc := defScope st, own := true, bs := { kind := .function, names := [], isGenerator := false, isCoroutine := false }, lq := none, lo := fun _ _ => false, pr := pr }
def MemI.okB (L : LawI) (d : MemI) : Bool := fsB d.N d.ps (defScope d.st) && params5 (defArgs d.st) d.ps && ckMemo (memCk L.pr d.N d.st) d.key d.e (defBody d.st)
/-- the class with caches is one that makes them -/
def LawI.mcB (L : LawI) : Bool := match L.mc with
  | none => L.memos.isEmpty
  | some c => (L.cls[c]?).any (·.lk)
/-- .. the evaluator's numbers -/
structure LawI.Ok (L : LawI) : Prop where
  d : L.defs.all (DefI.okB L) = true
  c : L.cls.all (ClsI.okB L) = true
  dG : ∀ d ∈ L.defs, L.G d.n = some (.code d.ps.length d.N.length d.body)
  e : L.eqs.all (EqI.okB L) = true
  m : L.memos.all (MemI.okB L) = true
  mG : ∀ d ∈ L.memos, ∀ c, L.mc = some c → L.G d.n = some (.memo L.mv d.ps.length d.N.length c d.key d.e)
  mc : L.mcB = true
  mv : L.mv.length ≤ 1000
  eG : ∀ d ∈ L.eqs, L.G d.n = some (.eqf d.ps.length d.N.length d.body)
  cG : ∀ d ∈ L.cls, L.G d.n = some (.init 2 d.N.length d.body)
  dr : fsB L.dN [L.dp.1, L.dp.2] (defScope L.dst) = true
  drp : params5 (defArgs L.dst) [L.dp.1, L.dp.2] = true
  drb : zckSs L.dN (defScope L.dst) L.db (defBody L.dst) = true
  drG : L.G L.dn = some .draw
  zo : ZOk L.dN.length L.db
theorem FunD.fn {K : PySem.W.Frag} {x qual : Str} {st : Stmt} {f : Addr} {fd : FuncData} (F : FunD K x qual (defArgs st) (defBody st) (defScope st) [] [] f fd) : L2.Fun K x qual st f fd := by
  obtain ⟨oc, od, dV, kV, doc, pm, an, cdv, ct, osl, e, lk, hcd, hD, _⟩ := F.ex
  rcases hD with ⟨_, rfl⟩ | ⟨e2, _⟩
  · exact ⟨⟨oc, od, kV, doc, pm, an, cdv, ct, osl, e, lk, hcd⟩, F.kp⟩
  · exact absurd rfl e2
theorem FunD.code {K : PySem.W.Frag} {x qual : Str} {p : Str × Option Str} {st : Stmt} {fd : FuncData} (F : FunD K x qual (defArgs st) (defBody st) (defScope st) [] [] (He.fAd K p) fd) : fd.code = .ref (He.codeOf K p) := by
  obtain ⟨oc, od, dV, kV, doc, pm, an, cdv, ct, osl, e, lk, hcd, hD, _⟩ := F.ex
  obtain ⟨c, hc⟩ := He.codeIn_ref hcd
  subst e hc
  have e2 : (PySem.W.fnOf x qual (defArgs st) (defBody st) (defScope st) dV kV doc pm an (.ref c) ct).code = .ref c := rfl
  rw [He.codeOf_eq lk e2, e2]
theorem lookup_map {α : Type} {f : α → Str × Nat} {x : Str} {n : Nat} : ∀ {l : List α}, (l.map f).lookup x = some n → ∃ a ∈ l, f a = (x, n)
  | [], h => by cases h
  | a :: l, h => by
    rw [List.map_cons] at h
    cases hf : f a with
    | mk y m =>
      rw [hf] at h
      by_cases e : (x == y) = true
      · rw [List.lookup_cons, e] at h
        cases h
        exact ⟨a, List.mem_cons_self, by rw [hf, eq_of_beq e]⟩
      · rw [List.lookup_cons, show (x == y) = false by simpa using e] at h
        obtain ⟨b, hb, e2⟩ := lookup_map h
        exact ⟨b, List.mem_cons_of_mem _ hb, e2⟩
theorem lookup_mem {α : Type} {x : Str} {n : α} : ∀ {l : List (Str × α)}, l.lookup x = some n → (x, n) ∈ l
  | [], h => by cases h
  | (y, m) :: l, h => by
    by_cases e : (x == y) = true
    · rw [List.lookup_cons, e] at h
      cases h
      rw [eq_of_beq e]
      exact List.mem_cons_self
    · rw [List.lookup_cons, show (x == y) = false by simpa using e] at h
      exact List.mem_cons_of_mem _ (lookup_mem h)
section
variable {L : LawI} {K : PySem.W.Frag} {P : Program} {w : World} {h : Heap} {mg : Str → Option Value} {base : Heap} {fm : List He.Fa} {dm : List He.DefD} {ts : List He.Tab}
theorem isCB_ok (cs : List ClsI) (pr : Prg) (tb : List (Addr × Str)) {mc : Option Nat} {mv : List (Str × (D → Option D))} (hb : isCB K (cs.map (·.x)) = true) (hc : ∀ d ∈ cs, (He.Fa.cls d.x).ok K = true ∧ (He.Fa.noat d.x d.f1).ok K = true ∧ (He.Fa.noat d.x d.f2).ok K = true) (hn : ∀ d ∈ cs, d.f1 ≠ d.f2) :
    IsC K (lawTab K pr (cs.map fun d => (d.x, [d.f1, d.f2])) tb mc mv) := by
  unfold isCB at hb
  simp only [Bool.and_eq_true, List.all_eq_true, decide_eq_true_eq] at hb
  obtain ⟨⟨⟨h1, h2⟩, h3⟩, h4⟩ := hb
  have at_ : ∀ {c : Nat} {C : Addr}, (lawTab K pr (cs.map fun d => (d.x, [d.f1, d.f2])) tb mc mv).cls c = some C → ∃ d, cs[c]? = some d ∧ d ∈ cs ∧ C = He.ga K d.x ∧ (lawTab K pr (cs.map fun d => (d.x, [d.f1, d.f2])) tb mc mv).flds c = [d.f1, d.f2] := fun {c C} e => by
    have e : ((cs.map fun d => (d.x, [d.f1, d.f2]))[c]?).map (fun p => He.ga K p.1) = some C := e
    rw [List.getElem?_map] at e
    cases q : cs[c]? with
    | none => rw [q] at e; cases e
    | some d =>
      rw [q] at e
      cases e
      refine ⟨d, rfl, List.mem_of_getElem? q, rfl, ?_⟩
      show (((cs.map fun d => (d.x, [d.f1, d.f2]))[c]?).map (·.2)).getD [] = _
      rw [List.getElem?_map, q]
      rfl
  have mem : ∀ {d : ClsI}, d ∈ cs → d.x ∈ cs.map (·.x) := fun hd => List.mem_map_of_mem hd
  refine ⟨⟨fun c C e => ?_, fun c C f e hf => ?_, fun c => ?_⟩, fun c C e => ?_, He.eqO_ok h1, h2, fun c C e => ?_, fun c C n e hn' => ?_, fun c C n e hn' => ?_, fun c c' C C' e e' => ?_⟩
  · obtain ⟨d, _, hd, rfl, _⟩ := at_ e
    exact He.cls_ok (hc d hd).1
  · obtain ⟨d, _, hd, rfl, ef⟩ := at_ e
    rw [ef] at hf
    rcases List.mem_cons.mp hf with rfl | hf
    · exact He.noat_ok (hc d hd).2.1
    · rw [List.mem_singleton.mp hf]
      exact He.noat_ok (hc d hd).2.2
  · show ((((cs.map fun d => (d.x, [d.f1, d.f2]))[c]?).map (·.2)).getD []).Nodup
    rw [List.getElem?_map]
    cases q : cs[c]? with
    | none => exact List.nodup_nil
    | some d =>
      have := hn d (List.mem_of_getElem? q)
      show [d.f1, d.f2].Nodup
      simpa using this
  · obtain ⟨d, _, hd, rfl, _⟩ := at_ e
    exact He.eqO_ok (h3 _ (mem hd)).1.1.1
  · obtain ⟨d, _, hd, rfl, _⟩ := at_ e
    exact (h3 _ (mem hd)).1.1.2
  · obtain ⟨d, _, hd, rfl, _⟩ := at_ e
    exact (h3 _ (mem hd)).1.2 n hn'
  · obtain ⟨d, _, hd, rfl, _⟩ := at_ e
    exact (h3 _ (mem hd)).2 n hn'
  · obtain ⟨d, q, hd, rfl, _⟩ := at_ e
    obtain ⟨d', q', hd', rfl, _⟩ := at_ e'
    have z : ∀ {d : ClsI} {c : Nat}, cs[c]? = some d → (d.x, c) ∈ (cs.map (·.x)).zipIdx := fun {d c} q => by
      rw [List.mem_zipIdx_iff_getElem?, List.getElem?_map, q]
      rfl
    exact h4 _ (z q) _ (z q')
theorem law_in (ok : L.Ok) (X : K.In h) (Gn : h.Ns mainGlobals mg) (c : He.SaysX (L.fa fm) (L.fn dm) ts L.tf L.exB w h K) (hT : ∀ p ∈ L.tf, LamX.TabB base mg (He.cT K p).1 (He.cT K p).2) : ProgIn L.pr P w K mg base (L.T K) noX L.dr := by
  have D := c.t.d
  have hex := c.more
  unfold LawI.exB at hex
  obtain ⟨hex1, hex2⟩ := and3 hex
  obtain ⟨hex1, hex3⟩ := and3 hex1
  have hnd := of_decide_eq_true hex2
  have fact : ∀ {f : He.Fa}, f ∈ L.fa fm → f.ok K = true := fun hf => He.SaysD.facts D hf
  have f_def : ∀ d ∈ L.defs, He.Fa.glo d.x ∈ L.fa fm := fun d hd => List.mem_append_left _ (List.mem_map_of_mem hd)
  have f_draw : He.Fa.glo "_law_draw" ∈ L.fa fm := List.mem_append_right _ List.mem_cons_self
  have f_free : ∀ x ∈ bltN, He.Fa.free x ∈ L.fa fm := fun x hx => List.mem_append_right _ (List.mem_cons_of_mem _ (List.mem_append_left _ (List.mem_append_left _ (List.mem_append_left _ (List.mem_map_of_mem hx)))))
  have f_con : ∀ p ∈ L.cons, He.Fa.int p.1 p.2 ∈ L.fa fm := fun p hp => List.mem_append_right _ (List.mem_cons_of_mem _ (List.mem_append_left _ (List.mem_append_left _ (List.mem_append_right _ (List.mem_map_of_mem (f := fun p : Str × Int => He.Fa.int p.1 p.2) hp)))))
  have f_cls : ∀ d ∈ L.cls, ∀ f ∈ [He.Fa.glo d.x, .cls d.x, .noat d.x d.f1, .noat d.x d.f2, .noat d.x "looked", .mkr d.x], f ∈ L.fa fm := fun d hd f hf => List.mem_append_right _ (List.mem_cons_of_mem _ (List.mem_append_left _ (List.mem_append_right _ (List.mem_flatMap.mpr ⟨d, hd, hf⟩))))
  have d_def : ∀ d ∈ L.defs, defD d.x d.x none d.st d.x ∈ L.fn dm := fun d hd => List.mem_append_left _ (List.mem_append_left _ (List.mem_map_of_mem (f := fun d : DefI => defD d.x d.x none d.st d.x) hd))
  have d_cls : ∀ d ∈ L.cls, defD d.x d.q (some "__init__") d.st "__init__" ∈ L.fn dm := fun d hd => List.mem_append_left _ (List.mem_append_right _ (List.mem_map_of_mem (f := fun d : ClsI => defD d.x d.q (some "__init__") d.st "__init__") hd))
  have d_draw : defD "_law_draw" "_law_draw" none L.dst "_law_draw" ∈ L.fn dm := List.mem_append_right _ List.mem_cons_self
  have f_eq : ∀ d ∈ L.eqs, He.Fa.meth d.x "__eq__" ∈ L.fa fm := fun d hd => List.mem_append_right _ (List.mem_cons_of_mem _ (List.mem_append_right _ (List.mem_append_left _ (List.mem_map_of_mem (f := fun d : EqI => He.Fa.meth d.x "__eq__") hd))))
  have d_eq : ∀ d ∈ L.eqs, defD d.x d.q (some "__eq__") d.st "__eq__" ∈ L.fn dm := fun d hd => List.mem_append_right _ (List.mem_cons_of_mem _ (List.mem_append_left _ (List.mem_map_of_mem (f := fun d : EqI => defD d.x d.q (some "__eq__") d.st "__eq__") hd)))
  have f_mem : ∀ d ∈ L.memos, He.Fa.glo d.x ∈ L.fa fm := fun d hd => List.mem_append_right _ (List.mem_cons_of_mem _ (List.mem_append_right _ (List.mem_append_right _ (List.mem_append_left _ (List.mem_map_of_mem (f := fun d : MemI => He.Fa.glo d.x) hd)))))
  have d_mem : ∀ d ∈ L.memos, defD d.x d.x none d.st d.x ∈ L.fn dm := fun d hd => List.mem_append_right _ (List.mem_cons_of_mem _ (List.mem_append_right _ (List.mem_append_left _ (List.mem_map_of_mem (f := fun d : MemI => defD d.x d.x none d.st d.x) hd))))
  have okd := List.all_eq_true.mp ok.d
  have okc := List.all_eq_true.mp ok.c
  have cOk : ∀ d ∈ L.cls, FnScope d.N d.ps (defScope d.st) ∧ params5 (defArgs d.st) d.ps = true ∧ d.ps.length = 3 ∧ d.f1 ≠ d.f2 ∧ d.f1 ≠ "looked" ∧ d.f2 ≠ "looked" ∧ ckInit (fnCk L.pr d.N d.st none) d.f1 d.f2 d.lk d.body (defBody d.st) = true := fun d hd => by
    have q := okc d hd
    unfold ClsI.okB at q
    obtain ⟨q, q7⟩ := and3 q
    obtain ⟨q, q6⟩ := and3 q
    obtain ⟨q, q5⟩ := and3 q
    obtain ⟨q, q4⟩ := and3 q
    obtain ⟨q, q3⟩ := and3 q
    obtain ⟨q1, q2⟩ := and3 q
    exact ⟨fsB_ok q1, q2, of_decide_eq_true q3, by simpa using q4, by simpa using q5, by simpa using q6, q7⟩
  refine ⟨lawTab_ok, noX_ok, rfl, ?_, fun c => ?_, fun x hx => He.free_ok X Gn (fact (f_free x hx)), fun x d hx => ?_, fun x n hx => ?_, fun x n hx => ?_, fun x n hx => ?_, fun c n hx => ?_⟩
  · exact isCB_ok L.cls L.pr (L.tb K) hex1 (fun d hd => ⟨fact (f_cls d hd _ (by simp)), fact (f_cls d hd _ (by simp)), fact (f_cls d hd _ (by simp))⟩) fun d hd => (cOk d hd).2.2.2.1
  · show ((L.cls[c]?).map fun d => [d.f1, d.f2]).getD [] = ((((L.cls.map fun d => (d.x, [d.f1, d.f2])))[c]?).map (·.2)).getD []
    rw [List.getElem?_map, Option.map_map]
    rfl
  · have m := lookup_mem hx
    obtain ⟨p, hp, e⟩ := List.mem_map.mp m
    cases e
    obtain ⟨t, e⟩ := He.int_ok X Gn (fact (f_con p hp))
    exact ⟨_, .int p.2, e, ⟨t, rfl⟩, fun g => .int _⟩
  · have m := lookup_mem hx
    rcases List.mem_append.mp m with m | m
    · obtain ⟨d, hd, e⟩ := List.mem_map.mp m
      cases e
      obtain ⟨fd, F⟩ := He.SaysD.defs D (d_def d hd)
      have F : FunD K d.x d.x (defArgs d.st) (defBody d.st) (defScope d.st) [] [] (He.fAd K (d.x, none)) fd := F
      have q := okd d hd
      unfold DefI.okB at q
      obtain ⟨q, q3⟩ := and3 q
      obtain ⟨q1, q2⟩ := and3 q
      refine ⟨He.ga K d.x, fd, d.ps, He.glo_ok X Gn (fact (f_def d hd)), F.kp, FunD.bindsN F fun kV doc pm an cdv ct us hl => bind_fn q2 kV doc pm an cdv ct us hl, .inl ⟨d.x, d.x, d.st, d.N, d.body, d.lq, FunD.fn F, fsB_ok q1, ok.dG d hd, q3, fun qq hq => ?_⟩⟩
      unfold DefI.lq at hq
      split at hq
      · rename_i hl
        cases hq
        have mf : d ∈ L.defs.filter (·.lam) := List.mem_filter.mpr ⟨hd, hl⟩
        have mt : (d.x, none) ∈ L.tf := List.mem_map_of_mem (f := fun d : DefI => ((d.x, none) : He.Defn)) mf
        refine ⟨rfl, (He.cT K (d.x, none)).1, (He.cT K (d.x, none)).2, FunD.code F, hT _ mt, List.mem_map_of_mem (f := fun d : DefI => ((He.cT K (d.x, none)).2, lamQ d.x)) mf, fun p hp e => ?_⟩
        obtain ⟨d', hd', e'⟩ := List.mem_map.mp hp
        cases e'
        have e : (He.cT K (d'.x, none)).2 = (He.cT K (d.x, none)).2 := e
        have mt' : (d'.x, none) ∈ L.tf := List.mem_map_of_mem (f := fun d : DefI => ((d.x, none) : He.Defn)) hd'
        have inj : ∀ {l : List He.Defn} {a b : He.Defn}, (l.map fun p => (He.cT K p).2).Nodup → a ∈ l → b ∈ l → (He.cT K a).2 = (He.cT K b).2 → a = b := fun {l a b} nd ha hb e => by
          induction l with
          | nil => cases ha
          | cons y r ih =>
            rw [List.map_cons] at nd
            obtain ⟨n1, n2⟩ := List.nodup_cons.mp nd
            rcases List.mem_cons.mp ha with e1 | ha2
            · rcases List.mem_cons.mp hb with e2 | hb2
              · rw [e1, e2]
              · exact (n1 (by rw [← e1, e]; exact List.mem_map_of_mem (f := fun p => (He.cT K p).2) hb2)).elim
            · rcases List.mem_cons.mp hb with e2 | hb2
              · exact (n1 (by rw [← e2, ← e]; exact List.mem_map_of_mem (f := fun p => (He.cT K p).2) ha2)).elim
              · exact ih n2 ha2 hb2
        have := inj hnd mt' mt e
        have e3 : d'.x = d.x := congrArg Prod.fst this
        show lamQ d'.x = lamQ d.x
        rw [e3]
      · cases hq
    · rcases List.mem_append.mp m with m | m
      · obtain ⟨d, hd, e⟩ := List.mem_map.mp m
        cases e
        obtain ⟨fd, F⟩ := He.SaysD.defs D (d_mem d hd)
        have F : FunD K d.x d.x (defArgs d.st) (defBody d.st) (defScope d.st) [] [] (He.fAd K (d.x, none)) fd := F
        have q := List.all_eq_true.mp ok.m d hd
        unfold MemI.okB at q
        obtain ⟨q, q3⟩ := and3 q
        obtain ⟨q1, q2⟩ := and3 q
        refine ⟨He.ga K d.x, fd, d.ps, He.glo_ok X Gn (fact (f_mem d hd)), F.kp, FunD.bindsN F fun kV doc pm an cdv ct us hl => bind_fn q2 kV doc pm an cdv ct us hl, .inr fun k hk => ?_⟩
        have hmc := ok.mc
        unfold LawI.mcB at hmc
        split at hmc
        · have : L.memos = [] := by simpa using hmc
          rw [this] at hd
          cases hd
        · rename_i c hc
          obtain ⟨cd, hcd⟩ : ∃ cd, L.cls[c]? = some cd := by
            cases e : L.cls[c]? with
            | none => rw [e] at hmc; cases hmc
            | some cd => exact ⟨cd, rfl⟩
          have hcm := List.mem_of_getElem? hcd
          have eF : (L.T K).flds c = [cd.f1, cd.f2] := by
            show (((L.cls.map fun d => (d.x, [d.f1, d.f2]))[c]?).map (·.2)).getD [] = _
            rw [List.getElem?_map, hcd]
            rfl
          have eC : (L.T K).cls c = some (He.ga K cd.x) := by
            show ((L.cls.map fun d => (d.x, [d.f1, d.f2]))[c]?).map (fun p => He.ga K p.1) = _
            rw [List.getElem?_map, hcd]
            rfl
          obtain ⟨_, _, _, _, z5, z6, _⟩ := cOk _ hcm
          exact fn_memo (FunD.fn F) (fsB_ok q1) (ok.mG d hd c hc) q3 hk rfl (decide_eq_true hc) (by rw [eF]; simp [Ne.symm z5, Ne.symm z6]) (fun C hC => by rw [eC] at hC; cases hC; exact He.noat_ok (fact (f_cls _ hcm _ (by simp)))) ok.mv
      cases List.mem_singleton.mp m
      obtain ⟨fd, F⟩ := He.SaysD.defs D d_draw
      have F : FunD K "_law_draw" "_law_draw" (defArgs L.dst) (defBody L.dst) (defScope L.dst) [] [] (He.fAd K ("_law_draw", none)) fd := F
      refine ⟨He.ga K "_law_draw", fd, [L.dp.1, L.dp.2], He.glo_ok X Gn (fact f_draw), F.kp, FunD.bindsN F fun kV doc pm an cdv ct us hl => bind_fn ok.drp kV doc pm an cdv ct us hl, .inr fun k _ => ?_⟩
      exact draw_fn (FunD.fn F) (fsB_ok ok.dr) ok.drb ok.zo ok.drG (He.free_ok X Gn (fact (f_free _ (by decide)))) (He.free_ok X Gn (fact (f_free _ (by decide)))) (k + 1) (k + 1)
  · have m := lookup_mem hx
    obtain ⟨p, hp, e⟩ := List.mem_map.mp m
    cases e
    have e2 : L.cls[p.2]? = some p.1 := List.mem_zipIdx_iff_getElem?.mp hp
    have hd := List.mem_of_getElem? e2
    refine ⟨He.ga K p.1.x, ?_, He.glo_ok X Gn (fact (f_cls _ hd _ (by simp)))⟩
    show ((L.cls.map fun d => (d.x, [d.f1, d.f2]))[p.2]?).map (fun p => He.ga K p.1) = _
    rw [List.getElem?_map, e2]
    rfl
  · have m := lookup_mem hx
    obtain ⟨p, hp, e⟩ := List.mem_map.mp m
    cases e
    have e2 : L.cls[p.2]? = some p.1 := List.mem_zipIdx_iff_getElem?.mp hp
    have hd := List.mem_of_getElem? e2
    have eC : (L.T K).cls p.2 = some (He.ga K p.1.x) := by
      show ((L.cls.map fun d => (d.x, [d.f1, d.f2]))[p.2]?).map (fun p => He.ga K p.1) = _
      rw [List.getElem?_map, e2]
      rfl
    have eF : (L.T K).flds p.2 = [p.1.f1, p.1.f2] := by
      show (((L.cls.map fun d => (d.x, [d.f1, d.f2]))[p.2]?).map (·.2)).getD [] = _
      rw [List.getElem?_map, e2]
      rfl
    have eI : L.pr.inits p.2 = p.1.n := by
      show ((L.cls[p.2]?).map (·.n)).getD 0 = _
      rw [e2]
      rfl
    obtain ⟨fd, F⟩ := He.SaysD.defs D (d_cls _ hd)
    have F : FunD K "__init__" p.1.q (defArgs p.1.st) (defBody p.1.st) (defScope p.1.st) [] [] (He.ma K (He.ga K p.1.x) "__init__") fd := F
    obtain ⟨q1, q2, q3, q4, q5, q6, q7⟩ := cOk _ hd
    refine ⟨_, _, fd, p.1.ps, p.1.lk, eC, He.glo_ok X Gn (fact (f_cls _ hd _ (by simp))), He.mkr_ok (fact (f_cls _ hd _ (by simp))), FunD.bindsN F fun kV doc pm an cdv ct us hl => bind_fn q2 kV doc pm an cdv ct us hl, by rw [eF, q3]; rfl, (fun z => ?_), by rw [eF]; simp [Ne.symm q5, Ne.symm q6], ?_⟩
    · have z : L.mc = some p.2 := of_decide_eq_true z
      have hmc := ok.mc
      unfold LawI.mcB at hmc
      rw [z] at hmc
      simp only [e2, Option.any_some] at hmc
      exact hmc
    rw [eF, eI]
    refine ⟨"__init__", p.1.q, p.1.st, p.1.N, 2, p.1.body, FunD.fn F, q1, ok.cG _ hd, q3, rfl, fun k hk cdv A outer s H E g0 B hr => ?_⟩
    exact ckInit_ok (LOK := lokOf L.pr) (Γ := fnCk L.pr p.1.N p.1.st none) (X := cxOf (L2.CX P w) P w K mg base p.1.N p.1.q (defScope p.1.st) (He.ma K (He.ga K p.1.x) "__init__") cdv A outer s H E)
      ⟨rfl, q1.nd, rfl, q1.kind, rfl, hr, pass_cx, (fun _ _ => rfl), (fun _ _ => rfl), (fun n L h => h), (fun h => by cases h), (fun q h => by cases h), hk⟩
      (He.cls_ok (fact (f_cls _ hd _ (by simp)))) (He.noat_ok (fact (f_cls _ hd _ (by simp)))) (He.noat_ok (fact (f_cls _ hd _ (by simp)))) (He.noat_ok (fact (f_cls _ hd _ (by simp)))) q4 q5 q6 p.1.body (defBody p.1.st) q7
  · have hm : ∀ {l : List (Nat × Nat)} {c n : Nat}, l.lookup c = some n → (c, n) ∈ l := fun {l c n} h => by
      induction l with
      | nil => cases h
      | cons p r ih =>
        obtain ⟨y, m⟩ := p
        by_cases e : (c == y) = true
        · rw [List.lookup_cons, e] at h
          cases h
          rw [eq_of_beq e]
          exact List.mem_cons_self
        · rw [List.lookup_cons, show (c == y) = false by simpa using e] at h
          exact List.mem_cons_of_mem _ (ih h)
    obtain ⟨d, hd, e⟩ := List.mem_map.mp (hm hx)
    cases e
    have q := List.all_eq_true.mp ok.e d hd
    unfold EqI.okB at q
    obtain ⟨q, q4⟩ := and3 q
    obtain ⟨q, q3⟩ := and3 q
    obtain ⟨q1, q2⟩ := and3 q
    obtain ⟨cd, hcd, hx2⟩ := Option.map_eq_some_iff.mp (of_decide_eq_true q4)
    have hcm := List.mem_of_getElem? hcd
    have eC : (L.T K).cls d.c = some (He.ga K d.x) := by
      show ((L.cls.map fun d => (d.x, [d.f1, d.f2]))[d.c]?).map (fun p => He.ga K p.1) = _
      rw [List.getElem?_map, hcd, ← hx2]
      rfl
    have M := fact (f_eq d hd)
    obtain ⟨m1, m2⟩ := He.ba M
    obtain ⟨m2, m3⟩ := He.ba m2
    obtain ⟨fd, F⟩ := He.SaysD.defs D (d_eq _ hd)
    have F : FunD K "__eq__" d.q (defArgs d.st) (defBody d.st) (defScope d.st) [] [] (He.ma K (He.ga K d.x) "__eq__") fd := F
    have hob : PySem.W.mroIn K (He.ga K d.x) (.type "object") = some true := by
      have ic := isCB_ok (K := K) (mc := L.mc) (mv := L.mv) L.cls L.pr (L.tb K) hex1 (fun d hd => ⟨fact (f_cls d hd _ (by simp)), fact (f_cls d hd _ (by simp)), fact (f_cls d hd _ (by simp))⟩) fun d hd => (cOk d hd).2.2.2.1
      exact ic.hm _ _ eC
    exact ⟨_, _, fd, d.ps, eC, ⟨He.eqO_ok m1, m2, He.eqO_ok (List.all_eq_true.mp hex3 d hd), hob⟩, FunD.bindsN F fun kV doc pm an cdv ct us hl => bind_fn q2 kV doc pm an cdv ct us hl,
      ⟨"__eq__", d.q, d.st, d.N, d.body, FunD.fn F, fsB_ok q1, ok.eG d hd, q3⟩⟩
end
end Mp

set_option Elab.async false
set_option linter.all false
set_option maxRecDepth 100000
set_option maxHeartbeats 4000000
/-! The def that makes the hand; the law's end. -/
namespace Mp
open PySem PySem.Spec PyProof.Rows L2

def absI (i : Int) : Int := if i < 0 then -i else i
/-- a number made of the number of cells -/
def seedB (N : List Str) (sc : Scope) : Expr → Bool
  | .BinOp (.Constant (.int _) _ _) .Add (.Call (.Name f _) [.Name c _] [] _) _ => decide (f = "len") && decide (sc.names.lookup f = some .globalImplicit) && decide (N[1]? = some c) && decide (sc.names.lookup c = some .local) && notD c
  | .BinOp (.Constant (.int _) _ _) .Add (.BinOp (.Constant (.int m) _ _) .Mult (.Call (.Name f _) [.Name c _] [] _) _) _ => small m && decide (f = "len") && decide (sc.names.lookup f = some .globalImplicit) && decide (N[1]? = some c) && decide (sc.names.lookup c = some .local) && notD c
  | _ => false
def zeroB : Expr → Bool
  | .Constant (.int m) _ _ => decide (m = 0)
  | _ => false
def cellsB (N : List Str) (sc : Scope) : Stmt → Bool
  | .Assign [.Name c p1] (.ListComp (.Call (.Name f1 _) [.Call (.Name f2 _) [.Name x1 _] [] _] [] _) [⟨.Name x2 _, .Subscript (.Name s _) (.Slice none (some (.Constant (.int m) _ _)) none _) _, [], 0⟩] scope p2) _ =>
    decide (N[0]? = some s) && decide (N[1]? = some c) && decide (N[2]? = some x1) && decide (x1 = x2) && decide (f1 = "abs") && decide (f2 = "int") && decide (m = 63) && decide (sc.names.lookup s = some .local) && decide (sc.names.lookup c = some .local) && notD s && notD x1 &&
    blkC N sc scope [(x1, 2)] && decide ((relS scope sc).names.lookup x1 = some .local) && decide ((relS scope sc).names.lookup f1 = some .globalImplicit) && decide ((relS scope sc).names.lookup f2 = some .globalImplicit) && (p1.line == p2.line) && !(scope.names.any fun (n, k) => n == c && (k == .local || k == .cell)) && decide (scope.kind = .function)
  | _ => false
def handB (N : List Str) (sc : Scope) : List Stmt → Bool
  | [a, .Return (some (.List [.Name c _, z1, z2, e, z3] _)) _] => cellsB N sc a && decide (N[1]? = some c) && decide (sc.names.lookup c = some .local) && notD c && zeroB z1 && zeroB z2 && zeroB z3 && seedB N sc e
  | _ => false
theorem take_abs {l : List Int} {i : Nat} (hi : i < l.length) : ((l.map absI).take i).map V.int ++ [V.int (absI l[i])] = ((l.map absI).take (i + 1)).map V.int := by
  rw [List.take_add_one, List.getElem?_map, List.getElem?_eq_getElem hi, List.map_append]
  rfl
section
variable {X : Cx} {N : List Str} {sc : Scope}
structure ZH (X : Cx) (N : List Str) (sc : Scope) : Prop where
  kind : sc.kind = .function
  N : X.N = N
  nd : X.N.Nodup
  sc : X.env.scope = sc
  calm : X.calm = true
  len : X.mg "len" = none
  int : X.mg "int" = none
  abs : X.mg "abs" = none
theorem ZH.v (z : ZH X N sc) {i : Nat} {x : Str} {pos : Pos} (h1 : N[i]? = some x) (h2 : sc.names.lookup x = some .local) (h3 : notD x = true) : PE X (.Name x pos) (tVar i) :=
  pe_var (by rw [z.N]; exact h1) (.inl (by rw [z.sc]; exact h2)) (notD_ok h3).1 (notD_ok h3).2.1
theorem seed_ok (z : ZH X N sc) {e : Expr} (h : seedB N sc e = true) : PE X e fun σ H Q => ∃ c xs, σ[1]? = some (some (V.ref c)) ∧ H c = some (.lst xs) ∧ ∀ i, Q (V.int i) H := by
  unfold seedB at h
  split at h
  · obtain ⟨h, h5⟩ := and3 h
    obtain ⟨h, h4⟩ := and3 h
    obtain ⟨h, h3⟩ := and3 h
    obtain ⟨h1, h2⟩ := and3 h
    have e1 := of_decide_eq_true h1
    subst e1
    refine pe_imp (pe_op op_add pe_int (pe_callB call_len (show X.env.scope.names.lookup _ = _ by rw [z.sc]; exact of_decide_eq_true h2) z.len boot_len (pa_cons (z.v (of_decide_eq_true h3) (of_decide_eq_true h4) h5) pa_nil))) fun σ H Q ⟨c, xs, e1, e2, q⟩ => ?_
    exact ⟨_, e1, _, _, rfl, .inl ⟨xs, .inl (.inl e2), rfl⟩, _, _, rfl, rfl, q _⟩
  · obtain ⟨h, h5⟩ := and3 h
    obtain ⟨h, h4⟩ := and3 h
    obtain ⟨h, h3⟩ := and3 h
    obtain ⟨h, h2⟩ := and3 h
    obtain ⟨h0, h1⟩ := and3 h
    have e1 := of_decide_eq_true h1
    subst e1
    refine pe_imp (pe_op op_add pe_int (pe_op op_mul pe_int (pe_callB call_len (show X.env.scope.names.lookup _ = _ by rw [z.sc]; exact of_decide_eq_true h2) z.len boot_len (pa_cons (z.v (of_decide_eq_true h3) (of_decide_eq_true h4) h5) pa_nil)))) fun σ H Q ⟨c, xs, e1, e2, q⟩ => ?_
    refine ⟨_, e1, _, _, rfl, .inl ⟨xs, .inl (.inl e2), rfl⟩, _, _, rfl, rfl, .inl ?_, _, _, rfl, rfl, q _⟩
    unfold small at h0
    rw [Bool.and_eq_true, decide_eq_true_eq, decide_eq_true_eq] at h0
    exact h0
  · cases h
theorem zero_ok {e : Expr} (h : zeroB e = true) : PE X e (L2.tC (V.int 0)) := by
  unfold zeroB at h
  split at h
  · have e1 := of_decide_eq_true h
    subst e1
    exact pe_int
  · cases h
/-- the cells: a new list of the numbers' sizes -/
theorem cells_ok (z : ZH X N sc) {st : Stmt} (h : cellsB N sc st = true) : PS X st fun Dn σ H => ∃ (a : Addr) (ns : List Int), σ[0]? = some (some (V.ref a)) ∧ SqL X.K H a (ns.map V.int) ∧ 2 < σ.length ∧
    ∀ q c H', H q = none → H c = none → q ≠ c → H' = upd (upd H q (.lst (cutV (ns.map V.int) none (some 63)))) c (.lst (((ns.take 63).map absI).map V.int)) → Dn.nx (σ.set 1 (some (V.ref c))) H' := by
  unfold cellsB at h
  split at h
  · rename_i c p1 f1 p3 f2 p4 x1 p5 p6 p7 x2 p8 s p9 m j p10 p11 p12 scope p2 pos
    simp only [Bool.and_eq_true] at h
    obtain ⟨⟨⟨⟨⟨⟨⟨⟨⟨⟨⟨⟨⟨⟨⟨⟨⟨h1, h2⟩, h3⟩, h4⟩, h5⟩, h6⟩, h7⟩, h8⟩, h9⟩, h10⟩, h11⟩, h12⟩, h13⟩, h14⟩, h15⟩, h16⟩, h17⟩, h18⟩ := h
    have e1 := of_decide_eq_true h4
    have e2 := of_decide_eq_true h5
    have e3 := of_decide_eq_true h6
    have e4 := of_decide_eq_true h7
    subst e1 e2 e3 e4
    have okb : BlkOk X.N X.env.scope scope [(x1, 2)] := by
      rw [z.N, z.sc]
      exact blkOk_by h12
    have hNx : X.N[2]? = some x1 := by rw [z.N]; exact of_decide_eq_true h3
    have hNc : X.N[1]? = some c := by rw [z.N]; exact of_decide_eq_true h2
    have hlc : X.env.scope.names.lookup c = some .local := by rw [z.sc]; exact of_decide_eq_true h9
    have hlx : (relS scope X.env.scope).names.lookup x1 = some .local := by rw [z.sc]; exact of_decide_eq_true h13
    have hla : (relS scope X.env.scope).names.lookup ("abs" : Str) = some .globalImplicit := by rw [z.sc]; exact of_decide_eq_true h14
    have hli : (relS scope X.env.scope).names.lookup ("int" : Str) = some .globalImplicit := by rw [z.sc]; exact of_decide_eq_true h15
    have hd := notD_ok h11
    refine ps_imp (ps_setLc z.calm z.nd hNc hlc (sw_true (by rw [z.sc]; exact z.kind) hlc h16 (by simpa using h17)) (pi_list (pe_slice sl_list (z.v (of_decide_eq_true h1) (of_decide_eq_true h8) h10) po_none (po_some pe_int))) okb
      (fun s H C cl fp => pg_name (X := X.blk s H scope (compEnvC scope cl C X.env) fp) z.nd hNx (.inl hlx) (.inr hlx)) (fun s H C cl fp => pts_nil)
      (fun s H C cl fp => pe_callB (X := X.blk s H scope (compEnvC scope cl C X.env) fp) call_abs hla z.abs rfl (pa_cons (pe_callTy (X := X.blk s H scope (compEnvC scope cl C X.env) fp) call_int1 hli z.int rfl (pa_cons (pe_var (X := X.blk s H scope (compEnvC scope cl C X.env) fp) hNx (.inl hlx) hd.1 hd.2.1) pa_nil)) pa_nil))) fun Dn σ H ⟨a, ns, e1, e2, e3, q⟩ => ?_
    refine ⟨_, e1, 63, rfl, a, _, rfl, e2, fun p hp => ⟨p, rfl, ⟨_, .inl (.inl upd_same)⟩, fun D hD => ?_⟩⟩
    have hD2 : H D = none := by
      by_cases hh : D = p
      · rw [hh, upd_same] at hD; cases hD
      · rw [upd_ne hh] at hD; exact hD
    have hpD : p ≠ D := fun e => by rw [← e, upd_same] at hD; cases hD
    have hcut : cutV (ns.map V.int) none (some 63) = (ns.take 63).map V.int := by
      unfold cutV
      have s1 : HT.sIx (ns.map V.int).length 0 none = 0 := rfl
      have s2 : HT.sIx (ns.map V.int).length (ns.map V.int).length (some 63) = min 63 (ns.map V.int).length := by
        first
          | rfl
          | (unfold HT.sIx; simp)
          | (unfold HT.sIx; simp; omega)
      rw [s1, s2, List.drop_zero, Nat.sub_zero, ← List.map_take, List.length_map]
      congr 1
      rw [Nat.min_comm]
      by_cases hh : ns.length ≤ 63
      · rw [Nat.min_eq_left hh, List.take_length, List.take_of_length_le hh]
      · rw [Nat.min_eq_right (by omega)]
    refine lc_list (K := X.K) (a := p) (xs := (ns.take 63).map V.int) (fun i H' => H' = upd (upd H p (.lst (cutV (ns.map V.int) none (some 63)))) D (.lst ((((ns.take 63).map absI).take i).map V.int))) (by rw [List.take_zero]; rfl) (fun i H' _ e => ?_) (fun i x H' hx e => ?_) (fun H' e => ?_)
    · subst e
      refine .inl (.inl ?_)
      rw [upd_ne hpD, upd_same, hcut]
    · subst e
      have hi : i < (ns.take 63).length := by
        have := (List.getElem?_eq_some_iff.mp hx).1
        rwa [List.length_map] at this
      rw [List.getElem?_map, List.getElem?_eq_getElem hi] at hx
      cases hx
      have hlen : i ≤ 63 := by
        have := List.length_take_le 63 ns
        omega
      refine ⟨?_, ?_⟩
      · show wipe (List.set (wipe σ [2]) 2 (some (V.int (List.take 63 ns)[i]))) [2] = wipe σ [2]
        rw [wipe_set List.mem_cons_self, wipe_wipe _ _ _ fun _ z => z]
      · simp only [tYes, if_true]
        have hσ : 2 < (wipe σ [2]).length := by
          rw [wipe_length]
          exact e3
        refine ⟨_, List.getElem?_set_self hσ, .inl ⟨_, rfl, ?_⟩⟩
        refine ⟨_, rfl, _, upd_same, ?_, ?_⟩
        · rw [List.length_map, List.length_take]
          have : sizeLine = 16777216 := sizeLine_eq
          omega
        · rw [upd_upd]
          congr 2
          exact take_abs hi
    · subst e
      refine q p D _ hp hD2 hpD ?_
      rw [List.length_map, List.take_of_length_le (by rw [List.length_map]; exact Nat.le_refl _)]
  · cases h
/-- what the def that makes the hand gives -/
def HandQ (H : Hp) (Q : Hp → Addr → Prop) : Prop := ∀ (H' : Hp) (c p : Addr) (s : HS), s.i = 0 → (∀ b o, H b = some o → H' b = some o) → H' c = some (.lst (s.cells.map V.int)) → H' p = some (.lst (hList c s)) → c ≠ p → H c = none → H p = none → Q H' p
theorem hand_ok (z : ZH X N sc) {ss : List Stmt} (h : handB N sc ss = true) : PSs X ss fun Dn σ H => ∃ (a : Addr) (ns : List Int), σ[0]? = some (some (V.ref a)) ∧ SqL X.K H a (ns.map V.int) ∧ 2 < σ.length ∧ HandQ H fun H' p => Dn.rt (V.ref p) H' := by
  unfold handB at h
  split at h
  · obtain ⟨h, h8⟩ := and3 h
    obtain ⟨h, h7⟩ := and3 h
    obtain ⟨h, h6⟩ := and3 h
    obtain ⟨h, h5⟩ := and3 h
    obtain ⟨h, h4⟩ := and3 h
    obtain ⟨h, h3⟩ := and3 h
    obtain ⟨h1, h2⟩ := and3 h
    have st : ∀ {e : Expr} {es : List Expr}, plainE e = true → starEach (e :: es) X.env = (false, eval e X.env) :: starEach es X.env := fun hp => star_cons hp
    have pz : ∀ {e : Expr}, zeroB e = true → plainE e = true := fun {e} hz => by cases e <;> first | rfl | cases hz
    have ps : ∀ {e : Expr}, seedB N sc e = true → plainE e = true := fun {e} hz => by cases e <;> first | rfl | cases hz
    refine pss_imp (pss_cons (cells_ok z h1) (pss_one (ps_ret (pe_lst (pa_cons (z.v (of_decide_eq_true h2) (of_decide_eq_true h3) h4) (pa_cons (zero_ok h5) (pa_cons (zero_ok h6) (pa_cons (seed_ok z h8) (pa_cons (zero_ok h7) pa_nil (st (pz h7))) (st (ps h8))) (st (pz h6))) (st (pz h5)))))))) fun Dn σ H ⟨a, ns, e1, e2, e3, q⟩ => ?_
    refine ⟨a, ns, e1, e2, e3, fun l c H' hl hc hlc eH => ?_⟩
    have hσ : (σ.set 1 (some (V.ref c)))[1]? = some (some (V.ref c)) := List.getElem?_set_self (by omega)
    have atC : H' c = some (.lst (((ns.take 63).map absI).map V.int)) := by rw [eH, upd_same]
    refine ⟨_, hσ, c, _, hσ, atC, fun i => ⟨(show 5 ≤ sizeLine by decide), fun p hp => ?_⟩⟩
    have hpc : c ≠ p := ne_of_none atC hp
    have keep : ∀ b o, H b = some o → H' b = some o := fun b o e => by
      rw [eH, upd_ne (ne_of_none e hc), upd_ne (ne_of_none e hl)]
      exact e
    refine q _ c p ⟨(ns.take 63).map absI, 0, 0, i, 0⟩ rfl (fun b o e => ?_) ?_ upd_same hpc hc ?_
    · rw [upd_ne (ne_of_none (keep b o e) hp)]
      exact keep b o e
    · rw [upd_ne hpc]
      exact atC
    · cases e : H p with
      | none => rfl
      | some o => rw [keep p o e] at hp; cases hp
  · cases h
end
def spHand (K : PySem.W.Frag) : Sp := fun vs H Q _ => ∃ (a : Addr) (ns : List Int), vs = [V.ref a] ∧ SqL K H a (ns.map V.int) ∧ HandQ H fun H' p => Q (V.ref p) H'
section
variable {P : Program} {w : World} {K : PySem.W.Frag} {mg : Str → Option Value} {base : Heap} {pr : Prg} {cl : List (Str × List Str)} {tb : List (Addr × Str)}
theorem hand_fn {x qual a : Str} {st : Stmt} {N : List Str} {f : Addr} {fd : FuncData} (F : L2.Fun K x qual st f fd) (SC : FnScope N [a] (defScope st)) (hN : N.length = 3) (hck : handB N (defScope st) (defBody st) = true) (hl : mg "len" = none) (hi : mg "int" = none) (ha : mg "abs" = none) (j : Nat) :
    FnOk P w K mg base (L2.CX P w) (j + 1) f fd [a] (spHand K) := by
  refine F.okX SC (fun vs H Q E h => ?_) fun cdv A outer s H vs Q E hr h => ?_
  · obtain ⟨a, ns, rfl, _⟩ := h
    rfl
  · obtain ⟨a, ns, rfl, h1, h2⟩ := h
    have z : ZH (cxOf (L2.CX P w) P w K mg base N qual (defScope st) f cdv A outer s H E) N (defScope st) := ⟨SC.kind, rfl, SC.nd, rfl, rfl, hl, hi, ha⟩
    refine ⟨_, hand_ok z hck, a, ns, rfl, h1, ?_, h2⟩
    show 2 < (L2.start N [V.ref a]).length
    unfold L2.start
    rw [List.length_append, List.length_map, List.length_replicate, hN]
    exact Nat.lt_succ_self 2
/-- the law's first row, then the rest -/
def lawB (Γ : Ck) (b : List Mp.St) : List Stmt → Bool
  | .Assign [.Name h _] (.Call (.Name f _) [.Name s _] [] _) _ :: ss => decide (Γ.N[1]? = some h) && locB Γ h && decide (f = "_law_hand") && glB Γ f && ckVar Γ 0 s && ckSs Γ b ss
  | _ => false
def lawEnv (n : Nat) : Env := Slot.un :: Slot.fz .hand :: List.replicate (n - 2) Slot.un
/-- what is to be proved in plain Lean -/
def LawT (L : LawI) (N : List Str) (b : List Mp.St) (k : Nat) : Prop := ∀ s : HZ, ∃ s' : HZ, exs (callN L.G L.dr k) b (lawEnv N.length) s = .ok (.ret (.bl true)) s'
def spLaw (K : PySem.W.Frag) (tb : List (Addr × Str)) : Sp := fun vs H Q _ => ∃ (a : Addr) (ns : List Int), vs = [V.ref a] ∧ SqL K H a (ns.map V.int) ∧ (∀ p ∈ tb, H p.1 = some (.tbl #[])) ∧ ∀ H', Q (.bl true) H'
/-- the law's own def: no repr is under way -/
def lawCk (pr : Prg) (N : List Str) (st : Stmt) : Ck := { N := N, sc := defScope st, own := true, bs := { kind := .function, names := [], isGenerator := false, isCoroutine := false }, lq := none, lo := lamB pr, pr := pr, gd := true }
theorem law_body {L : LawI} {qual : Str} {st : Stmt} {N : List Str} {b : List Mp.St} {f fh a : Addr} {fdh : FuncData} {k : Nat} {ah : Str} {ns : List Int} {cdv : Value} {A : Around} {outer : List PySem.Env} {s : Shared} {H : Hp} {Q : VK} {E : XK} {p : Str} (SC : FnScope N [p] (defScope st)) (hN : 2 ≤ N.length) (hck : lawB (lawCk L.pr N st) b (defBody st) = true)
    (hk : PrOk L.pr (lokOf L.pr) P w K mg base (L.T K) noX L.pr.G L.dr k) (Fh : FnOk P w K mg base (L2.CX P w) (k + 1) fh fdh [ah] (spHand K)) (gh : mg "_law_hand" = some (.ref fh)) (kh : PySem.W.keepIn K (.ref fh) = true) (bh : Binds K fdh [ah] []) (law : LawT L N b k) (hr : Room (k + 1) (A.deeper (envOfC qual (defScope st) s.heap.objs.size f cdv))) (hgd : A.guards = some [])
    (h1 : SqL K H a (ns.map V.int)) (h2 : ∀ p ∈ L.tb K, H p.1 = some (.tbl #[])) (h3 : ∀ H', Q (.bl true) H') :
    ∃ t, PSs (cxOf (L2.CX P w) P w K mg base N qual (defScope st) f cdv A outer s H E) (defBody st) t ∧ t { nx := fun _ H' => Q .non H', rt := Q } (L2.start N [V.ref a]) H := by
    have g : GoodX (lokOf L.pr) (lawCk L.pr N st) (cxOf (L2.CX P w) P w K mg base N qual (defScope st) f cdv A outer s H E) E (L.T K) noX L.pr.G L.dr k :=
      ⟨rfl, SC.nd, rfl, SC.kind, rfl, hr, pass_cx, (fun _ _ => rfl), (fun _ _ => rfl), (fun n L h => h), (fun _ => hgd), (fun q h => by cases h), hk⟩
    unfold lawB at hck
    split at hck
    · rename_i hh p1 ff p2 sn p3 p4 p5 ss hbd
      obtain ⟨c, c6⟩ := and3 hck
      obtain ⟨c, c5⟩ := and3 c
      obtain ⟨c, c4⟩ := and3 c
      obtain ⟨c, c3⟩ := and3 c
      obtain ⟨c1, c2⟩ := and3 c
      have e1 := of_decide_eq_true c3
      subst e1
      have hN1 : N[1]? = some hh := of_decide_eq_true c1
      have hloc : Loc (defScope st) hh := by
        unfold locB at c2
        split at c2
        · rename_i e; exact .inl e
        · rename_i e; exact .inr e
        · cases c2
      rw [hbd]
      refine ⟨_, pss_cons (ps_set (X := cxOf (L2.CX P w) P w K mg base N qual (defScope st) f cdv A outer s H E) (i := 1) SC.nd hN1 hloc (pe_call Fh hr (g.gl c4) gh kh bh .nil g.pass (pa_cons (g.pv c5) pa_nil)) rfl (.inl rfl))
        (⟨fun pins s σ H D I ⟨g0, B, q⟩ => (ckSs_ok b (lawCk L.pr N st) ss c6 g pown_cx g0 B).run pins s σ H D I q⟩ : PSs _ ss fun Dn σ H => ∃ (g0 : Gh) (B : Hp), tS K (L.T K) noX E g0 B (exs (callN L.pr.G L.dr k) b) Dn σ H), ?_⟩
      refine ⟨_, rfl, a, ns, rfl, h1, fun H' c p sh hi hkeep hc hp hcp ncH npH => ?_⟩
      let g0 : Gh := ⟨fun y => if y = c then some (.lst (sh.cells.map V.int)) else none, fun _ => none, p⟩
      have w0 : Wd K (L.T K) g0 ⟨sh, by rw [hi]; exact Int.le_refl 0⟩ H' := by
        refine ⟨fun y o e => ?_, fun l t e => (by cases e), ⟨_, hp, c, rfl, if_pos rfl⟩, fun l t e => (by cases e), if_neg (Ne.symm hcp), fun pt hpt => ?_⟩
        · have e : (if y = c then some (HO.lst (sh.cells.map V.int)) else none) = some o := e
          split at e
          · rename_i hy
            rw [hy, hc]; exact e
          · cases e
        · have e := h2 pt hpt
          refine ⟨#[], hkeep _ _ e, if_neg (fun y => by rw [y, ncH] at e; cases e), ?_, ?_⟩
          · first | exact trivial | (intro _ h; cases h) | simp [TriplesOk]
          · intro pos cv hcv
            simp [codeAmong] at hcv
      obtain ⟨s', hrun⟩ := law ⟨sh, by rw [hi]; exact Int.le_refl 0⟩
      refine ⟨g0, H', g0, _, lawEnv N.length, fun _ => [], w0, ?_, .refl g0 H', ?_⟩
      · refine ⟨?_, fun i sl e => ?_, fun _ => List.nodup_nil, fun _ _ _ q hq => by simp at hq, fun _ => .nil⟩
        · show (lawEnv N.length).length = ((L2.start N [V.ref a]).set 1 (some (V.ref p))).length
          unfold lawEnv L2.start
          rw [List.length_set, List.length_cons, List.length_cons, List.length_replicate, List.length_append, List.length_map, List.length_replicate]
          have e3 : ([V.ref a] : List V).length = 1 := rfl
          omega
        · have hlen : (L2.start N [V.ref a]).length = N.length := by
            unfold L2.start
            rw [List.length_append, List.length_map, List.length_replicate]
            have e3 : ([V.ref a] : List V).length = 1 := rfl
            omega
          have hi2 : i < N.length := by
            have := (List.getElem?_eq_some_iff.mp e).1
            unfold lawEnv at this
            rw [List.length_cons, List.length_cons, List.length_replicate] at this
            omega
          by_cases i1 : i = 1
          · subst i1
            cases e
            exact ⟨_, List.getElem?_set_self (by rw [hlen]; omega), .fz (.hand (g := g0))⟩
          · have hsl : sl = .un := by
              match i, i1, e with
              | 0, _, e => cases e; rfl
              | 1, h, _ => exact absurd rfl h
              | i + 2, _, e =>
                have e : (List.replicate (N.length - 2) Slot.un)[i]? = some sl := e
                rw [List.getElem?_replicate] at e
                split at e
                · cases e; rfl
                · cases e
            subst hsl
            exact ⟨_, List.getElem?_eq_getElem (by rw [List.length_set, hlen]; exact hi2), .un⟩
      · have hrun : exs (callN L.pr.G L.dr k) b (lawEnv N.length) ⟨sh, by rw [hi]; exact Int.le_refl 0⟩ = .ok (.ret (.bl true)) s' := hrun
        rw [hrun]
        intro g' H2 v _ _ _ r
        cases r
        exact h3 H2
    · cases hck
end
end Mp

set_option Elab.async false
set_option linter.all false
set_option maxRecDepth 100000
set_option maxHeartbeats 4000000
/-! A law's end, where it is known that no repr is under way. -/
namespace Mp
open PySem PySem.Spec PyProof.Rows L2

section
variable {P : Program} {w : World} {K : PySem.W.Frag} {mg mb : Str → Option Value} {fa a : Addr} {cs : List (Addr × Addr)} {S1 : Shared} {vs : List Value} {ns : List Int}
/-- what is tracked when a law begins: the code tables, and the script's list where the frame does not have it -/
def lawHp (K : PySem.W.Frag) (cs : List (Addr × Addr)) (a : Addr) (vs : List Value) (ns : List Int) : Hp := fun b =>
  if b ∈ cs.map (·.2) then some (.tbl #[]) else if b = a ∧ K.lookup a = none then some (.frz { cls := .type "list", data := .seq vs.toArray } (.lst (ns.map V.int))) else none
theorem lawHp_kind {b : Addr} {u : HO} (h : lawHp K cs a vs ns b = some u) : (b ∈ cs.map (·.2) ∧ u = .tbl #[]) ∨ (b ∉ cs.map (·.2) ∧ b = a ∧ K.lookup a = none ∧ u = .frz { cls := .type "list", data := .seq vs.toArray } (.lst (ns.map V.int))) := by
  unfold lawHp at h
  by_cases h1 : b ∈ cs.map (·.2)
  · rw [if_pos h1] at h
    exact .inl ⟨h1, (Option.some.inj h).symm⟩
  · rw [if_neg h1] at h
    by_cases h2 : b = a ∧ K.lookup a = none
    · rw [if_pos h2] at h
      exact .inr ⟨h1, h2.1, h2.2, (Option.some.inj h).symm⟩
    · rw [if_neg h2] at h
      cases h
/-- what the head tells of the state in which the law is called -/
structure Begin (P : Program) (w : World) (K : PySem.W.Frag) (mg mb : Str → Option Value) (a : Addr) (cs : List (Addr × Addr)) (S1 : Shared) (vs : List Value) (ns : List Int) : Prop where
  kin : K.In S1.heap
  gl : S1.heap.Ns mainGlobals mg
  bn : S1.heap.Ns builtinsNs mb
  bb : ∀ x : Str, x ≠ "__name__" → mb x = bootBuiltins x
  lim : S1.heap.NoLimit
  gens : S1.gens = #[]
  tab : ∀ p ∈ cs, S1.heap.get? p.2 = some { cls := .none, data := .fields #[] }
  out : ∀ p ∈ cs, K.lookup p.2 = none
  hd : ∀ p ∈ cs, PySem.W.CodeHd S1.heap p.1 p.2
  bm : ∃ (bm : Addr) (ob : Obj), mg "__builtins__" = some (.ref bm) ∧ bm ≠ builtinsNs ∧ S1.heap.get? bm = some ob ∧ ob.cls = .type "module" ∧ ob.dict = some builtinsNs ∧ ob.data = .plain
  scr : S1.heap.get? a = some { cls := .type "list", data := .seq vs.toArray }
  nums : IntsAre vs ns
  len : ns.length ≤ sizeLine
variable (B : Begin P w K mg mb a cs S1 vs ns)
include B
theorem Begin.tab_at {b : Addr} (h : b ∈ cs.map (·.2)) : S1.heap.get? b = some { cls := .none, data := .fields #[] } := by
  obtain ⟨p, hp, rfl⟩ := List.mem_map.mp h
  exact B.tab p hp
theorem Begin.a_out : a ∉ cs.map (·.2) := fun h => by
  have e := B.tab_at h
  rw [B.scr] at e
  cases e
/-- neither a list nor a bare record: not tracked -/
theorem Begin.clear {b : Addr} {o : Obj} (e : S1.heap.get? b = some o) (h1 : ∀ xs n, o.data ≠ .seq xs n) (h2 : o.data ≠ .fields #[]) : lawHp K cs a vs ns b = none := by
  cases q : lawHp K cs a vs ns b with
  | none => rfl
  | some u =>
    rcases lawHp_kind q with ⟨hb, _⟩ | ⟨_, rfl, _⟩
    · rw [B.tab_at hb] at e
      cases e
      exact absurd rfl h2
    · rw [B.scr] at e
      cases e
      exact absurd rfl (h1 _ _)
theorem Begin.base_at {b : Addr} {o : Obj} (e : S1.heap.get? b = some o) (h1 : ∀ xs n, o.data ≠ .seq xs n) (h2 : o.data ≠ .fields #[]) : (hidT S1.heap (lawHp K cs a vs ns)).get? b = some o := hidT_get e (B.clear e h1 h2)
theorem Begin.ns_at {b : Addr} {m : Str → Option Value} (h : S1.heap.Ns b m) : (hidT S1.heap (lawHp K cs a vs ns)).Ns b m := by
  obtain ⟨o, es, ep, e, hd, r⟩ := h
  exact ⟨o, es, ep, B.base_at e (fun xs n z => by rw [hd] at z; cases z) (fun z => by rw [hd] at z; cases z), hd, r⟩
theorem Begin.kin_at : K.In (hidT S1.heap (lawHp K cs a vs ns)) := fun b o e => by
  refine hidT_get (B.kin b o e) ?_
  cases q : lawHp K cs a vs ns b with
  | none => rfl
  | some u =>
    rcases lawHp_kind q with ⟨hb, _⟩ | ⟨_, rfl, hk, _⟩
    · obtain ⟨p, hp, rfl⟩ := List.mem_map.mp hb
      rw [B.out p hp] at e
      cases e
    · rw [hk] at e
      cases e
theorem Begin.hok : HOk P w (lawHp K cs a vs ns) S1.heap := fun b u e => by
  rcases lawHp_kind e with ⟨hb, rfl⟩ | ⟨_, rfl, _, rfl⟩
  · exact B.tab_at hb
  · exact ⟨B.scr, by rw [List.length_map]; exact B.len, vs, _, vals_ints B.nums, B.scr⟩
theorem Begin.sq : SqL K (lawHp K cs a vs ns) a (ns.map V.int) := by
  cases hk : K.lookup a with
  | none =>
    refine .inl (.inr ⟨{ cls := .type "list", data := .seq vs.toArray }, ?_⟩)
    unfold lawHp
    rw [if_neg B.a_out, if_pos ⟨rfl, hk⟩]
  | some o =>
    have e := B.kin a o hk
    rw [B.scr] at e
    cases e
    exact .inr ⟨_, vs.toArray, _, hk, rfl, rfl, rfl, by rw [List.size_toArray, B.nums.length]; exact B.len, by simpa using vals_ints B.nums⟩
theorem Begin.tabB (p : Addr × Addr) (hp : p ∈ cs) : LamX.TabB (hidT S1.heap (lawHp K cs a vs ns)) mg p.1 p.2 := by
  have ht := B.tab p hp
  obtain ⟨go, ges, gep, ge, gd, _⟩ := B.gl
  refine ⟨?_, ?_, fun z => ?_⟩
  · obtain ⟨o, us, file, tf, flags, tg, inF, text, tt, e1, r1, r2, r3, rest⟩ := B.hd p hp
    refine ⟨o, us, file, tf, flags, tg, inF, text, tt, B.base_at e1 (fun xs n z => by rw [r2] at z; cases z) (fun z => ?_), r1, r2, r3, rest⟩
    rw [r2] at z
    cases z
    simp at r3
  · obtain ⟨bm, ob, b1, b2, b3, b4, b5, b6⟩ := B.bm
    refine ⟨bm, ob, b1, b2, fun z => ?_, fun z => ?_, B.base_at b3 (fun xs n z => by rw [b6] at z; cases z) (fun z => by rw [b6] at z; cases z), b4, b5, b6⟩
    · rw [z, ge] at b3
      cases b3
      rw [gd] at b6
      cases b6
    · rw [z, ht] at b3
      cases b3
      cases b6
  · rw [z, ht] at ge
    cases ge
    cases gd
theorem Begin.env0 : Env0 P w K mg (hidT S1.heap (lawHp K cs a vs ns)) callerA [] S1 (lawHp K cs a vs ns) where
  frames := rfl
  mod := ⟨B.kin_at, B.ns_at B.gl, ⟨mb, B.ns_at B.bn, B.bb⟩, let ⟨mc, h1, h2⟩ := B.lim; ⟨mc, B.ns_at h1, h2⟩⟩
  bs := fun b o e => of_hidT e
  bsz := Nat.le_of_eq (hidT_size _ _)
  funs := trivial
  frf := fun b hb => nomatch hb
  hok := B.hok
  bare := .of_eq B.gens
/-- what the call leaves -/
theorem Begin.done {H' : Hp} {h' : Heap} (un : Un [] [] (lawHp K cs a vs ns) H' S1.heap h') (hok' : HOk P w H' h') : OldK S1.heap h' := by
  have grown : ∀ b, b ∈ cs.map (·.2) → ∃ more : Array Value, h'.get? b = some { cls := .none, data := .fields more } := fun b hb => by
    have e : lawHp K cs a vs ns b = some (.tbl #[]) := by
      unfold lawHp
      rw [if_pos hb]
    obtain ⟨more, z⟩ := un.tbls b #[] e
    exact ⟨_, hok' b _ z⟩
  have same : ∀ b o, b ∉ cs.map (·.2) → S1.heap.get? b = some o → h'.get? b = some o := fun b o nb e => by
    cases q : lawHp K cs a vs ns b with
    | none => exact un.keep b o e q (fun z => nomatch z) (fun z => nomatch z)
    | some u =>
      rcases lawHp_kind q with ⟨hb, _⟩ | ⟨_, rfl, _, rfl⟩
      · exact absurd hb nb
      · obtain ⟨e2, _⟩ := hok' _ _ (un.frzs _ _ _ q)
        rw [B.scr] at e
        cases e
        exact e2
  refine ⟨fun b o e => ?_, fun b o e => ?_⟩
  · by_cases hb : b ∈ cs.map (·.2)
    · obtain ⟨more, hm⟩ := grown b hb
      have e2 := B.tab_at hb
      rw [e2] at e
      cases e
      obtain ⟨p, hp, rfl⟩ := List.mem_map.mp hb
      exact .inr (.inl ⟨((B.hd p hp).tab e2).isCodeTable, rfl, #[], more, rfl, by rw [Array.empty_append]; exact hm⟩)
    · exact .inl (same b o hb e)
  · by_cases hb : b ∈ cs.map (·.2)
    · obtain ⟨more, hm⟩ := grown b hb
      exact ⟨_, hm⟩
    · exact ⟨o, same b o hb e⟩
end
section
variable {P : Program} {w : World} {K : PySem.W.Frag} {mg : Str → Option Value} {base : Heap}
/-- a def's call from one place A alone -/
theorem run_at {x qual p : Str} {st : Stmt} {f : Addr} {fd : FuncData} {N : List Str} {k : Nat} {A : Around} {s : Shared} {H : Hp} {u : Value} {v : V} {Q : VK} {E : XK} (F : L2.Fun K x qual st f fd) (SC : FnScope N [p] (defScope st)) (hr : Room (k + 1) A) (e0 : Env0 P w K mg base A [] s H) (hb : BindsTo s fd ⟨[u], []⟩ [(p, u)]) (ru : RelV v u)
    (body : ∀ cdv, ∃ t, PSs (cxOf (L2.CX P w) P w K mg base N qual (defScope st) f cdv A [] s H E) (defBody st) t ∧ t { nx := fun _ H' => Q .non H', rt := Q } (L2.start N [v]) H) : codeAny (model P w) A (.call (.ref f) ⟨[u], []⟩) (CR (L2.CX P w) [] P w H s Q E) s := by
  obtain ⟨oc, od, kV, doc, pm, an, cdv, ct, osl, rfl, lk, hcd⟩ := F.ex
  obtain ⟨t, ht, hq⟩ := body cdv
  have old : ∀ b o, base.get? b = some o → s.heap.get? b = some o := fun b o e => (e0.bs b o e).1
  have KX := e0.mod.kin.keeps old
  have par : ∀ y ∈ [(p, u)], (defScope st).names.lookup y.1 = some .local ∨ ((defScope st).names.lookup y.1 = some .cell ∧ ((cellsFrom (s.heap.objs.size + 1) (defScope st).names []).lookup y.1).isSome = true) := fun y hy => by
    rw [List.mem_singleton.mp hy]
    rcases SC.par p List.mem_cons_self with q | q
    · exact .inl q
    · exact .inr ⟨q, PySem.W.cellsFrom_some _ _ _ (.inl q)⟩
  refine codeAny_call_function hr.depth (KX _ _ lk) rfl SC.co SC.gen rfl (PySem.W.codeRec_of KX hcd) (hb _ _ _ _ (wpAny_newFunctionEnv_cells SC.kind par fun env he s1 z => ?_))
  subst he
  refine ⟨(e0.mod.nolimit.keeps old).keeps z.toInCall.keep, codeAny_func ?_⟩
  have I := inv_start (CX := L2.CX P w) (E := E) SC hr.hd e0 (show ([v] : List V).length = 1 from rfl) (.cons ru .nil) z
  refine wpAny_mono (ht.run [] s1 _ H _ I hq) (fun fl s' hs => ?_) fun _ _ y => y
  match fl, hs with
  | .ret _, ⟨v', σ', H', J, rv, q⟩ => exact ⟨v', H', J.os, J.bare, J.base, J.hok, rv, q⟩
  | .next, ⟨σ', H', J, q⟩ => exact ⟨V.non, H', J.os, J.bare, J.base, J.hok, rfl, q⟩
  | .brk, ⟨_, _, _, q⟩ => exact q.elim
  | .cont, ⟨_, _, _, q⟩ => exact q.elim
end
end Mp

set_option Elab.async false
set_option linter.all false
set_option maxRecDepth 100000
set_option maxHeartbeats 4000000
/-! A law's end. -/
namespace Mp
open PySem PySem.Spec PyProof.Rows L2

/-- a law: its program, the def that makes the hand, the law's def, its evaluator's body -/
structure LawJ where
  L : LawI
  hst : Stmt
  hN : List Str
  hp : Str
  st : Stmt
  N : List Str
  p : Str
  b : List Mp.St
def LawJ.fa (J : LawJ) : List He.Fa := J.L.fa [.glo "_law_hand", .glo "law"]
def LawJ.fn (J : LawJ) : List He.DefD := J.L.fn [defD "_law_hand" "_law_hand" none J.hst "_law_hand", defD "law" "law" none J.st "law"]
structure LawJ.Ok (J : LawJ) : Prop where
  L : J.L.Ok
  h1 : fsB J.hN [J.hp] (defScope J.hst) = true
  h2 : params5 (defArgs J.hst) [J.hp] = true
  h3 : J.hN.length = 3
  h4 : handB J.hN (defScope J.hst) (defBody J.hst) = true
  l1 : fsB J.N [J.p] (defScope J.st) = true
  l2 : params5 (defArgs J.st) [J.p] = true
  l3 : 2 ≤ J.N.length
  l4 : lawB (lawCk J.L.pr J.N J.st) J.b (defBody J.st) = true
theorem law_walk {l : PySem.W.OpenLaw} {J : LawJ} {n k : Nat} {q : Program} {loose : List Str} {XP : (Str → Option Value) → Heap → Prop} {d : DefRec} (hl : l.most = some 63) (hdf : d.params.defaults = []) (hd : d.name = ("law" : Str)) (hr : Room (k + 2) callerA) (ok : J.Ok) (law : LawT J.L J.N J.b k) :
    PySem.W.WalkO q loose XP (He.hookX n J.fa J.fn [] J.L.tf J.L.exB).says l.row.toRowW d [] (fun f vs => PySem.call f vs) := by
  refine Att.attach_callB hl hdf fun w s₀ s₁ mg mb fa o pm cd doc a vs ns G Y ho hdd hcd hmg hobj hints hlen hbits hg => ?_
  obtain ⟨K, KX, c⟩ := Y
  have fm : ∀ f ∈ [He.Fa.glo "_law_hand", .glo "law"], f ∈ J.fa := fun f hf => List.mem_append_right _ (List.mem_cons_of_mem _ (List.mem_append_right _ (List.mem_append_right _ (List.mem_append_right _ hf))))
  have dm : ∀ f ∈ [defD "_law_hand" "_law_hand" none J.hst "_law_hand", defD "law" "law" none J.st "law"], f ∈ J.fn := fun f hf => List.mem_append_right _ (List.mem_cons_of_mem _ (List.mem_append_right _ (List.mem_append_right _ hf)))
  have D := c.t.d
  have fact : ∀ {f : He.Fa}, f ∈ J.fa → f.ok K = true := fun hf => He.SaysD.facts D hf
  obtain ⟨fdh, Fh⟩ := He.SaysD.defs D (dm (defD "_law_hand" "_law_hand" none J.hst "_law_hand") (by simp))
  obtain ⟨fd, F⟩ := He.SaysD.defs D (dm (defD "law" "law" none J.st "law") (by simp))
  have Fh : FunD K "_law_hand" "_law_hand" (defArgs J.hst) (defBody J.hst) (defScope J.hst) [] [] (He.fAd K ("_law_hand", none)) fdh := Fh
  have F : FunD K "law" "law" (defArgs J.st) (defBody J.st) (defScope J.st) [] [] (He.fAd K ("law", none)) fd := F
  have g1 := He.glo_ok KX G.T.g (fact (fm (.glo "_law_hand") (by simp)))
  have g2 := He.glo_ok KX G.T.g (fact (fm (.glo "law") (by simp)))
  rw [hd] at hmg
  have e : He.ga K "law" = fa := by
    rw [g2] at hmg
    exact Value.ref.inj (Option.some.inj hmg)
  subst e
  have B : Begin l.prog w K mg mb a (J.L.tf.map (He.cT K)) s₁ vs ns := {
    kin := KX
    gl := G.T.g
    bn := G.T.b
    bb := G.T.builtins
    lim := G.T.nolimit
    gens := hg
    tab := fun p hp => by obtain ⟨y, hy, rfl⟩ := List.mem_map.mp hp; exact c.empty y hy
    out := fun p hp => by obtain ⟨y, hy, rfl⟩ := List.mem_map.mp hp; exact c.out y hy
    hd := fun p hp => by obtain ⟨y, hy, rfl⟩ := List.mem_map.mp hp; exact PySem.W.codeHd_of_K KX (c.hd y hy)
    bm := G.T.bmain
    scr := hobj
    nums := hints
    len := Nat.le_trans hlen (by decide) }
  have PI := law_in (P := l.prog) (w := w) (base := hidT s₁.heap (lawHp K (J.L.tf.map (He.cT K)) a vs ns)) ok.L KX G.T.g c fun p hp => B.tabB _ (List.mem_map_of_mem (f := He.cT K) hp)
  have free : ∀ x ∈ bltN, mg x = none := PI.blt
  have hT : ∀ p ∈ J.L.tb K, lawHp K (J.L.tf.map (He.cT K)) a vs ns p.1 = some (.tbl #[]) := fun p hp => by
    obtain ⟨y, hy, rfl⟩ := List.mem_map.mp hp
    unfold lawHp
    exact if_pos (List.mem_map_of_mem (f := fun p : Addr × Addr => p.2) (List.mem_map_of_mem (f := He.cT K) (List.mem_map_of_mem (f := fun d : DefI => ((d.x, none) : He.Defn)) hy)))
  refine codeAny_mono (run_at (Q := fun v _ => v = .bl true) (E := fun _ _ _ => False) (FunD.fn F) (fsB_ok ok.l1) hr B.env0 (FunD.bindsA F (fun kV doc pm an cdv ct us hl => bind_fn ok.l2 kV doc pm an cdv ct us hl) s₁ [.ref a] rfl) (show RelV (V.ref a) (.ref a) from rfl) fun cdv =>
    law_body (Q := fun v _ => v = .bl true) (E := fun _ _ _ => False) (qual := "law") (f := He.ga K "law") (cdv := cdv) (outer := []) (s := s₁) (fsB_ok ok.l1) ok.l3 ok.l4 (prok PI k) (hand_fn (FunD.fn Fh) (fsB_ok ok.h1) ok.h3 ok.h4 (free _ (by decide)) (free _ (by decide)) (free _ (by decide)) k) g1 Fh.kp
      (FunD.bindsN Fh fun kV doc pm an cdv ct us hl => bind_fn ok.h2 kV doc pm an cdv ct us hl) law (hr.deeper _) rfl B.sq hT fun _ => rfl) fun r s' h => ?_
  match r, h with
  | .error e, h =>
    obtain ⟨_, _, _, _, _, _, _, _, _, _, _, _, z⟩ := h
    exact z.elim
  | .ok (.ret u), ⟨v, H', os, bare, un, hok', r', q⟩ =>
    have q : v = .bl true := q
    subst q
    obtain rfl : u = Value.bool true := r'
    exact ⟨rfl, B.done un hok', os, bare⟩
  | .ok .next, h => exact False.elim h
  | .ok .brk, h => exact False.elim h
  | .ok .cont, h => exact False.elim h
end Mp

set_option Elab.async false
set_option linter.all false
set_option maxRecDepth 100000
set_option maxHeartbeats 4000000
/-! The draw comes to its end. -/
namespace Mp
/-- a cell taken: its statements -/
structure DrC where
  m1 : Int
  a1 : Int
  c1 : Int
  m2 : Int
  q1 : Int
  q2 : Int
  q3 : Int
  d2 : Int
  e2 : Int
  q4 : Int
  d3 : Int
  e3 : Int
  q5 : Int
/-- the draw of the laws k00 to k14, k19, k60 to k69 -/
def dbA (c : DrC) : List Zs := [
  .if2 .eq (.item 2) (.con 0) .lt (.item 1) (.lenc) [.set 2 (.cell), .put 1 (.bin .add (.item 1) (.con 1)), .put 3 (.bin .mod (.int (.bin .add (.bin .add (.bin .mul (.item 3) (.con c.m1)) (.bin .mul (.var 2) (.con c.a1))) (.con c.c1))) (.con c.m2)), .put 2 (.ite .ge (.var 2) (.bin .pow (.con 10) (.con 18)) (.var 2) (.con 0))],
  .if1 .gt (.item 2) (.con 0) [.set 3 (.bin .mod (.int (.item 2)) (.var 1)), .put 2 (.bin .fdiv (.item 2) (.var 1)), .ret (.var 3)],
  .put 4 (.bin .add (.item 4) (.con 1)),
  .set 4 (.bin .mod (.int (.bin .mul (.int (.bin .add (.item 3) (.bin .mul (.con c.q1) (.item 4)))) (.con c.q2))) (.con c.q3)),
  .set 4 (.bin .mod (.int (.bin .mul (.var 4) (.bin .add (.bin .fdiv (.var 4) (.con c.d2)) (.con c.e2)))) (.con c.q4)),
  .set 4 (.bin .mod (.int (.bin .mul (.var 4) (.bin .add (.bin .fdiv (.var 4) (.con c.d3)) (.con c.e3)))) (.con c.q5)),
  .ret (.bin .mod (.int (.bin .fdiv (.var 4) (.con 16))) (.var 1))]
def DrC.ok (c : DrC) : Bool := small c.m1 && small c.a1 && decide (0 < c.m2) && small c.q1 && small c.q2 && decide (0 < c.q3) && decide (c.q3 < 4294967296) && decide (0 < c.d2) && decide (c.d2 < 1073741824) && decide (0 < c.q4) && decide (c.q4 < 4294967296) && decide (0 < c.d3) && decide (c.d3 < 1073741824) && decide (0 < c.q5)
theorem small_mod {a b : Int} (h0 : 0 < b) (h1 : b < 4294967296) : small (a % b) = true := by
  have h2 := Int.emod_nonneg a (show b ≠ 0 by omega)
  have h3 := Int.emod_lt_of_pos a h0
  unfold small
  rw [decide_eq_true (by omega), decide_eq_true (by omega)]
  rfl
/-- behind the taking of a cell -/
theorem draw_end {c : DrC} (hc : c.ok = true) {o2 : Option Int} {s : HS} {k : Int} (h0 : 0 ≤ s.i) (hk : 0 < k) (h1 : k < 1073741824) : ∃ i s', zrun [none, some k, o2, none, none] s ((dbA c).drop 1) = some (.ret i s') ∧ 0 ≤ s'.i ∧ 0 ≤ i ∧ i < k := by
  unfold DrC.ok at hc
  simp only [Bool.and_eq_true, decide_eq_true_eq] at hc
  obtain ⟨⟨⟨⟨⟨⟨⟨⟨⟨⟨⟨⟨⟨c1, c2⟩, c3⟩, c4⟩, c5⟩, c6⟩, c7⟩, c8⟩, c9⟩, c10⟩, c11⟩, c12⟩, c13⟩, c14⟩ := hc
  by_cases hl : 0 < s.l
  · refine ⟨s.l % k, { s with l := s.l / k }, ?_, h0, Int.emod_nonneg _ (by omega), Int.emod_lt_of_pos _ hk⟩
    simp [dbA, zrun, zrun1, zev, HS.item, HS.put, zcmp, zbin, hl, hk, h1]
  · refine ⟨(((((((s.sd + c.q1 * (s.ct + 1)) * c.q2) % c.q3) * (((s.sd + c.q1 * (s.ct + 1)) * c.q2) % c.q3 / c.d2 + c.e2)) % c.q4) * ((((((s.sd + c.q1 * (s.ct + 1)) * c.q2) % c.q3) * (((s.sd + c.q1 * (s.ct + 1)) * c.q2) % c.q3 / c.d2 + c.e2)) % c.q4) / c.d3 + c.e3)) % c.q5) / 16 % k, { s with ct := s.ct + 1 }, ?_, h0, Int.emod_nonneg _ (by omega), Int.emod_lt_of_pos _ hk⟩
    simp [dbA, zrun, zrun1, zev, HS.item, HS.put, zcmp, zbin, hl, hk, h1, c4, c5, c6, c8, c9, c10, c12, c13, c14, small_mod c6 c7, small_mod c10 c11]
theorem drawA_ok {c : DrC} (hc : c.ok = true) : ZOk 5 (dbA c) := fun s k h0 hk h1 => by
  have hc' := hc
  unfold DrC.ok at hc'
  simp only [Bool.and_eq_true, decide_eq_true_eq] at hc'
  obtain ⟨⟨⟨⟨⟨⟨⟨⟨⟨⟨⟨⟨⟨c1, c2⟩, c3⟩, c4⟩, c5⟩, c6⟩, c7⟩, c8⟩, c9⟩, c10⟩, c11⟩, c12⟩, c13⟩, c14⟩ := hc'
  have first : ∃ (o2 : Option Int) (s1 : HS), zrun1 [none, some k, none, none, none] s (.if2 .eq (.item 2) (.con 0) .lt (.item 1) (.lenc) [.set 2 (.cell), .put 1 (.bin .add (.item 1) (.con 1)), .put 3 (.bin .mod (.int (.bin .add (.bin .add (.bin .mul (.item 3) (.con c.m1)) (.bin .mul (.var 2) (.con c.a1))) (.con c.c1))) (.con c.m2)), .put 2 (.ite .ge (.var 2) (.bin .pow (.con 10) (.con 18)) (.var 2) (.con 0))]) = some (.nxt [none, some k, o2, none, none] s1) ∧ 0 ≤ s1.i := by
    by_cases hl : s.l = 0
    · by_cases hi : s.i < s.cells.length
      · have hlt : s.i.toNat < s.cells.length := by omega
        have hg : s.cells[s.i.toNat]? = some s.cells[s.i.toNat] := List.getElem?_eq_getElem hlt
        refine ⟨some s.cells[s.i.toNat], { s with i := s.i + 1, sd := (s.sd * c.m1 + s.cells[s.i.toNat] * c.a1 + c.c1) % c.m2, l := if 1000000000000000000 ≤ s.cells[s.i.toNat] then s.cells[s.i.toNat] else 0 }, ?_, ?_⟩
        · by_cases hb : 1000000000000000000 ≤ s.cells[s.i.toNat]
          · simp [zrun, zrun1, zev, HS.item, HS.put, zcmp, zbin, hl, hi, h0, hg, c1, c2, c3, hb, show small 10 = true from rfl]
          · simp [zrun, zrun1, zev, HS.item, HS.put, zcmp, zbin, hl, hi, h0, hg, c1, c2, c3, hb, show small 10 = true from rfl]
        · show 0 ≤ s.i + 1
          omega
      · exact ⟨none, s, by simp [zrun1, zev, HS.item, zcmp, hl, hi], h0⟩
    · exact ⟨none, s, by simp [zrun1, zev, HS.item, zcmp, hl], h0⟩
  obtain ⟨o2, s1, e1, i1⟩ := first
  obtain ⟨i, s', e2, r⟩ := draw_end hc (o2 := o2) (s := s1) i1 hk h1
  refine ⟨i, s', ?_, r⟩
  show zrun [none, some k, none, none, none] s (dbA c) = _
  unfold dbA
  show (zrun1 [none, some k, none, none, none] s _).bind _ = _
  rw [e1]
  exact e2
end Mp

set_option Elab.async false
set_option linter.all false
set_option maxRecDepth 100000
set_option maxHeartbeats 4000000
/-! Plain tools: what the evaluator says of code that changes nothing. -/
namespace Mp
open PySem (Str PyData)

section
variable {S : Type}
theorem bindP {α β : Type} (a : α) (f : α → M S β) : M.bind (M.pure a) f = f a := rfl
theorem optS {α : Type} (a : α) : (M.opt (some a) : M S α) = M.pure a := rfl
theorem needT {α : Type} {c : Bool} {m : M S α} (h : c = true) : M.need c m = m := by
  unfold M.need
  rw [if_pos h]
variable {call : Nat → List D → M S D} {env : Env}
/-- an expression that has a value and changes nothing -/
def Ev (call : Nat → List D → M S D) (e : Ex) (env : Env) (d : D) : Prop := ev call e env = M.pure d
def Evs (call : Nat → List D → M S D) (e : List Ex) (env : Env) (d : List D) : Prop := evs call e env = M.pure d
def Evi (call : Nat → List D → M S D) (e : It) (env : Env) (d : List D) : Prop := evi call e env = M.pure d
theorem Ev.bind {α : Type} {e : Ex} {d : D} (h : Ev call e env d) (f : D → M S α) : M.bind (ev call e env) f = f d := by
  rw [show ev call e env = M.pure d from h, bindP]
theorem Evs.bind {α : Type} {e : List Ex} {d : List D} (h : Evs call e env d) (f : List D → M S α) : M.bind (evs call e env) f = f d := by
  rw [show evs call e env = M.pure d from h, bindP]
theorem Evi.bind {α : Type} {e : It} {d : List D} (h : Evi call e env d) (f : List D → M S α) : M.bind (evi call e env) f = f d := by
  rw [show evi call e env = M.pure d from h, bindP]
theorem ev_var {i : Nat} {d : D} (h : env.get i = some d) : Ev call (.var i) env d := by
  show M.opt (env.get i) = _
  rw [h]; rfl
theorem ev_bor {i : Nat} {d : D} (h : env.bor i = some d) : Ev call (.bor i) env d := by
  show M.opt (env.bor i) = _
  rw [h]; rfl
theorem ev_con {d : D} : Ev call (.con d) env d := rfl
theorem evs_nil : Evs call [] env [] := rfl
theorem evs_cons {e : Ex} {es : List Ex} {d : D} {ds : List D} (h : Ev call e env d) (k : Evs call es env ds) : Evs call (e :: es) env (d :: ds) := by
  show M.bind (ev call e env) (fun x => M.bind (evs call es env) fun xs => M.pure (x :: xs)) = _
  rw [h.bind, k.bind]
theorem ev_tup {es : List Ex} {ds : List D} (h : Evs call es env ds) : Ev call (.tup es) env (.tup ds) := by
  show M.bind (evs call es env) (fun ds => M.pure (D.tup ds)) = _
  rw [h.bind]
theorem ev_list {es : List Ex} {ds : List D} (h : Evs call es env ds) : Ev call (.list es) env (.lst ds) := by
  show M.bind (evs call es env) (fun ds => M.pure (D.lst ds)) = _
  rw [h.bind]
theorem ev_bin {op : Bop} {a b : Ex} {x y d : D} (ha : Ev call a env x) (hb : Ev call b env y) (h : D.bin op x y = some d) : Ev call (.bin op a b) env d := by
  show M.bind (ev call a env) (fun x => M.bind (ev call b env) fun y => M.opt (D.bin op x y)) = _
  rw [ha.bind, hb.bind, h]; rfl
theorem ev_cmp {op : Cop} {a b : Ex} {x y : D} {k : Bool} (ha : Ev call a env x) (hb : Ev call b env y) (h : D.cmp op x y = some k) : Ev call (.cmp op a b) env (.bl k) := by
  show M.bind (ev call a env) (fun x => M.bind (ev call b env) fun y => M.opt ((D.cmp op x y).map D.bl)) = _
  rw [ha.bind, hb.bind, h]; rfl
theorem ev_chain {o1 o2 : Cop} {a b c : Ex} {x y z : D} {j k : Bool} (ha : Ev call a env x) (hb : Ev call b env y) (hc : Ev call c env z) (h : D.cmp o1 x y = some j) (h2 : D.cmp o2 y z = some k) : Ev call (.chain o1 o2 a b c) env (.bl (j && k)) := by
  show M.bind (ev call a env) (fun x => M.bind (ev call b env) fun y => M.bind (M.opt (D.cmp o1 x y)) fun k => if k = true then M.bind (ev call c env) fun z => M.opt ((D.cmp o2 y z).map D.bl) else M.pure (D.bl false)) = _
  rw [ha.bind, hb.bind, h, optS, bindP]
  cases j with
  | true => rw [if_pos rfl, hc.bind, h2]; rfl
  | false => rfl
theorem ev_and {a b : Ex} {j k : Bool} (ha : Ev call a env (.bl j)) (hb : j = true → Ev call b env (.bl k)) : Ev call (.and a b) env (.bl (j && k)) := by
  show M.bind (ev call a env) (fun x => M.bind (M.opt (asBl x)) fun k => if k = true then ev call b env else M.pure (D.bl false)) = _
  rw [ha.bind]
  cases j with
  | true => exact hb rfl
  | false => rfl
theorem ev_or {a b : Ex} {j k : Bool} (ha : Ev call a env (.bl j)) (hb : j = false → Ev call b env (.bl k)) : Ev call (.or a b) env (.bl (j || k)) := by
  show M.bind (ev call a env) (fun x => M.bind (M.opt (asBl x)) fun k => if k = true then M.pure (D.bl true) else ev call b env) = _
  rw [ha.bind]
  cases j with
  | false => exact hb rfl
  | true => rfl
theorem ev_not {a : Ex} {j : Bool} (ha : Ev call a env (.bl j)) : Ev call (.not a) env (.bl (!j)) := by
  show M.bind (ev call a env) (fun x => M.bind (M.opt (asBl x)) fun k => M.pure (D.bl (!k))) = _
  rw [ha.bind]; rfl
theorem ev_idx {a i : Ex} {x y d : D} (ha : Ev call a env x) (hb : Ev call i env y) (h : D.idx x y = some d) : Ev call (.idx a i) env d := by
  show M.bind (ev call a env) (fun x => M.bind (ev call i env) fun y => M.opt (D.idx x y)) = _
  rw [ha.bind, hb.bind, h]; rfl
theorem ev_fld {c n : Nat} {a : Ex} {x d : D} (ha : Ev call a env x) (h : fldD c n x = some d) : Ev call (.fld c a n) env d := by
  show M.bind (ev call a env) (fun x => M.opt (fldD c n x)) = _
  rw [ha.bind, h]; rfl
theorem ev_isi {a : Ex} {t : Ty} {x : D} {k : Bool} (ha : Ev call a env x) (h : isTy x t = some k) : Ev call (.isi a t) env (.bl k) := by
  show M.bind (ev call a env) (fun x => M.opt ((isTy x t).map D.bl)) = _
  rw [ha.bind, h]; rfl
theorem ev_bi {b : Bi} {es : List Ex} {ds : List D} {d : D} (ha : Evs call es env ds) (h : D.bi b ds = some d) : Ev call (.bi b es) env d := by
  show M.bind (evs call es env) (fun ds => M.opt (D.bi b ds)) = _
  rw [ha.bind, h]; rfl
theorem ev_meth {b : Bi} {o : Ex} {es : List Ex} {x d : D} {ds : List D} (ho : Ev call o env x) (hr : isRcv b x = true) (ha : Evs call es env ds) (h : D.bi b (x :: ds) = some d) : Ev call (.meth b o es) env d := by
  show M.bind (ev call o env) (fun x => M.need (isRcv b x) (M.bind (evs call es env) fun xs => M.opt (D.bi b (x :: xs)))) = _
  rw [ho.bind, needT hr, ha.bind, h]; rfl
theorem ev_slice {a : Ex} {lo hi : Option Ex} {x d : D} {l h : Option Int} (ha : Ev call a env x) (hl : evo call lo env = M.pure l) (hh : evo call hi env = M.pure h) (hd : cutD x l h = some d) : Ev call (.slice a lo hi) env d := by
  show M.bind (ev call a env) (fun x => M.bind (evo call lo env) fun l => M.bind (evo call hi env) fun h => M.opt (cutD x l h)) = _
  rw [ha.bind, hl, bindP, hh, bindP, hd]; rfl
theorem evo_none : evo call none env = M.pure none := rfl
theorem evo_some {e : Ex} {i : Int} (h : Ev call e env (.int i)) : evo call (some e) env = M.pure (some i) := by
  show M.bind (ev call e env) (fun x => M.bind (M.opt (asInt x)) fun i => M.pure (some i)) = _
  rw [h.bind]; rfl
theorem ev_call {f : Nat} {es : List Ex} {ds : List D} {d : D} (ha : Evs call es env ds) (h : call f ds = M.pure d) : Ev call (.call f es) env d := by
  show M.bind (evs call es env) (fun ds => call f ds) = _
  rw [ha.bind, h]
theorem ev_callv {i f : Nat} {es : List Ex} {ds cs : List D} {d : D} (hi : env.get i = some (.clo f cs)) (ha : Evs call es env ds) (hn : nocls (ds ++ cs) = true) (h : call f (ds ++ cs) = M.pure d) : Ev call (.callv i es) env d := by
  show M.bind (M.opt ((env.get i).bind asClo)) (fun c => M.bind (evs call es env) fun ds => M.need (nocls (ds ++ c.2)) (call c.1 (ds ++ c.2))) = _
  rw [hi]
  show M.bind (evs call es env) (fun ds => M.need (nocls (ds ++ cs)) (call f (ds ++ cs))) = _
  rw [ha.bind, needT hn, h]
theorem ev_callc {f n : Nat} {es : List Ex} {cs : List Nat} {ds vs : List D} {d : D} (ha : Evs call es env ds) (hg : gets env cs = some vs) (hn : nocls vs = true) (h : call f (ds ++ [.clo n vs]) = M.pure d) (hd : noclo d = true) : Ev call (.callc f es n cs) env d := by
  show M.bind (evs call es env) (fun ds => M.bind (M.opt (gets env cs)) fun vs => M.need (nocls vs) (M.nc (call f (ds ++ [.clo n vs])))) = _
  rw [ha.bind, hg, optS, bindP, needT hn, h]
  funext s
  show (if noclo d = true then R.ok d s else .bad) = _
  rw [if_pos hd]; rfl
theorem ev_mk {c f : Nat} {es : List Ex} {ds : List D} {x : D} (ha : Evs call es env ds) (h : call f ds = M.pure x) : Ev call (.mk c f es) env (.ins c ds) := by
  show M.bind (evs call es env) (fun ds => M.bind (call f ds) fun _ => M.pure (D.ins c ds)) = _
  rw [ha.bind, h, bindP]
theorem ev_lset {e : Ex} {x : D} {ns : List Int} (h : Ev call e env x) (hs : setInts x = some ns) : Ev call (.lset e) env (.int (dedI ns).length) := by
  show M.bind (ev call e env) (fun x => M.bind (M.opt (setInts x)) fun ns => M.pure (D.int (dedI ns).length)) = _
  rw [h.bind, hs]; rfl
theorem ev_eset {a b : Ex} {x y : D} {ns ms : List Int} (h : Ev call a env x) (hs : setInts x = some ns) (h2 : Ev call b env y) (hs2 : setInts y = some ms) : Ev call (.eset false a b) env (.bl (sameI ns ms)) := by
  show M.bind (ev call a env) (fun x => M.bind (M.opt (setInts x)) fun ns => M.bind (ev call b env) fun y => M.bind (M.opt (setInts y)) fun ms => M.pure (D.bl (Bool.xor false (sameI ns ms)))) = _
  rw [h.bind, hs, optS, bindP, h2.bind, hs2, optS, bindP, Bool.false_xor]
/-! ### numbers in a row -/
def natD (a : Nat) : D := .int (a : Int)
def natsD (l : List Nat) : List D := l.map natD
theorem rngD_zero (m : Nat) : rngD 0 m = natsD (List.range m) := by
  unfold rngD natsD
  have : ((m : Int) - 0).toNat = m := by omega
  rw [this]
  refine List.map_congr_left fun k _ => ?_
  unfold natD
  rw [Int.zero_add]
theorem evi_rng {a b : Ex} {i j : Int} (ha : Ev call a env (.int i)) (hb : Ev call b env (.int j)) (h : (inRng i && inRng j) = true) : Evi call (.rng a b) env (rngD i j) := by
  show M.bind (ev call a env) (fun x => M.bind (ev call b env) fun y => M.bind (M.opt (asInt x)) fun i => M.bind (M.opt (asInt y)) fun j => M.need (inRng i && inRng j) (M.pure (rngD i j))) = _
  rw [ha.bind, hb.bind]
  show M.need (inRng i && inRng j) (M.pure (rngD i j)) = _
  rw [needT h]
theorem inRng_nat {m : Nat} (h : m ≤ LIM) : (inRng 0 && inRng (m : Int)) = true := by
  unfold inRng
  have := lim_def
  simp only [Bool.and_eq_true, decide_eq_true_eq]
  omega
theorem evi_nat {b : Ex} {m : Nat} (hb : Ev call b env (.int m)) (h : m ≤ LIM) : Evi call (.rng (.con (.int 0)) b) env (natsD (List.range m)) := by
  rw [← rngD_zero]
  exact evi_rng ev_con hb (inRng_nat h)
theorem ev_lrng {t : Bool} {b : Ex} {m : Nat} (hb : Ev call b env (.int m)) (h : m ≤ LIM) : Ev call (.lrng t (.con (.int 0)) b) env (if t then .tup (natsD (List.range m)) else .lst (natsD (List.range m))) := by
  show M.bind (M.pure (D.int 0)) (fun x => M.bind (ev call b env) fun y => M.bind (M.opt (asInt x)) fun i => M.bind (M.opt (asInt y)) fun j => M.need (inRng i && inRng j && decide ((j - i).toNat ≤ LIM)) (M.pure (if t then D.tup (rngD i j) else .lst (rngD i j)))) = _
  rw [bindP, hb.bind]
  have e : (inRng 0 && inRng (m : Int) && decide (((m : Int) - 0).toNat ≤ LIM)) = true := by
    rw [inRng_nat h, Bool.true_and]
    exact decide_eq_true (by omega)
  rw [← rngD_zero]
  rw [show asInt (D.int 0) = some 0 from rfl, optS, bindP, show asInt (D.int (m : Int)) = some (m : Int) from rfl, optS, bindP, needT e]
theorem evi_ex {e : Ex} {x : D} {xs : List D} (h : Ev call e env x) (hx : items? x = some xs) : Evi call (.ex e) env xs := by
  show M.bind (ev call e env) (fun x => M.opt (items? x)) = _
  rw [h.bind, hx]; rfl
theorem evi_enum {e : Ex} {x : D} {xs : List D} (h : Ev call e env x) (hx : items? x = some xs) : Evi call (.enum e) env (enumD 0 xs) := by
  show M.bind (ev call e env) (fun x => M.bind (M.opt (items? x)) fun xs => M.pure (enumD 0 xs)) = _
  rw [h.bind, hx]; rfl
theorem evi_zip {a b : Ex} {x y : D} {p : List D × List D} (h : Ev call a env x) (h2 : Ev call b env y) (hx : zips? x y = some p) : Evi call (.zip a b) env (zipD p.1 p.2) := by
  show M.bind (ev call a env) (fun x => M.bind (ev call b env) fun y => M.bind (M.opt (zips? x y)) fun p => M.pure (zipD p.1 p.2)) = _
  rw [h.bind, h2.bind, hx]; rfl
/-! ### comprehensions -/
theorem turns_pure {f : D → M S (Option D)} {h : D → Option D} : ∀ {xs : List D}, (∀ x ∈ xs, f x = M.pure (h x)) → turns f xs = M.pure (xs.filterMap h)
  | [], _ => rfl
  | x :: r, hf => by
    show M.bind (f x) (fun y => M.bind (turns f r) fun ys => M.pure (y.toList ++ ys)) = _
    rw [hf x List.mem_cons_self, bindP, turns_pure fun y hy => hf y (List.mem_cons_of_mem _ hy), bindP]
    congr 1
    rw [List.filterMap_cons]
    cases h x <;> rfl
theorem lc_gen {elt : Ex} {tg : Tg} {it : It} {cond : Option Ex} {xs : List D} {h : D → Option D} (hi : Evi call it env xs) (hl : xs.length ≤ LIM)
    (hb : ∀ x ∈ xs, (M.bind (M.opt (tg.store x (wipeE env tg.places))) fun env' => M.bind (evc call cond env') fun k => if k = true then M.bind (ev call elt env') fun y => M.pure (some y) else M.pure none) = M.pure (h x)) : Ev call (.lc elt tg it cond) env (.lst (xs.filterMap h)) := by
  show M.bind (evi call it env) (fun xs => M.bind (turns (fun x => M.calm (M.bind (M.opt (tg.store x (wipeE env tg.places))) fun env' => M.bind (evc call cond env') fun k => if k = true then M.bind (ev call elt env') fun y => M.pure (some y) else M.pure none)) xs) fun ys => M.need (decide (ys.length ≤ LIM)) (M.pure (D.lst ys))) = _
  rw [hi.bind, turns_pure (h := h) fun x hx => by rw [hb x hx]; rfl, bindP, needT]
  exact decide_eq_true (Nat.le_trans (List.length_filterMap_le _ _) hl)
/-- .. no condition -/
theorem lc_map {α : Type} {elt : Ex} {tg : Tg} {it : It} {l : List α} {inj : α → D} {g : α → D} {en : α → Env} (hi : Evi call it env (l.map inj)) (hl : l.length ≤ LIM)
    (hs : ∀ a ∈ l, tg.store (inj a) (wipeE env tg.places) = some (en a)) (he : ∀ a ∈ l, Ev call elt (en a) (g a)) : Ev call (.lc elt tg it none) env (.lst (l.map g)) := by
  have key : ∀ x ∈ l.map inj, ∃ y : D, (M.bind (M.opt (tg.store x (wipeE env tg.places))) fun env' => M.bind (evc call none env') fun k => if k = true then M.bind (ev call elt env') fun y => M.pure (some y) else M.pure none) = M.pure (some y) := fun x hx => by
    obtain ⟨a, ha, rfl⟩ := List.mem_map.mp hx
    exact ⟨g a, by
      rw [hs a ha, optS, bindP]
      show (if true = true then M.bind (ev call elt (en a)) fun y => M.pure (some y) else M.pure none) = _
      rw [if_pos rfl, (he a ha).bind]⟩
  show M.bind (evi call it env) (fun xs => M.bind (turns (fun x => M.calm (M.bind (M.opt (tg.store x (wipeE env tg.places))) fun env' => M.bind (evc call none env') fun k => if k = true then M.bind (ev call elt env') fun y => M.pure (some y) else M.pure none)) xs) fun ys => M.need (decide (ys.length ≤ LIM)) (M.pure (D.lst ys))) = _
  rw [hi.bind]
  have ht : ∀ l' : List α, (∀ a ∈ l', a ∈ l) → turns (fun x => M.calm (M.bind (M.opt (tg.store x (wipeE env tg.places))) fun env' => M.bind (evc call none env') fun k => if k = true then M.bind (ev call elt env') fun y => M.pure (some y) else M.pure none)) (l'.map inj) = (M.pure (l'.map g) : M S (List D)) := fun l' => by
    induction l' with
    | nil => intro _; rfl
    | cons a r ih =>
      intro hm
      have ha := hm a List.mem_cons_self
      show M.bind (M.calm (M.bind (M.opt (tg.store (inj a) (wipeE env tg.places))) fun env' => M.bind (evc call none env') fun k => if k = true then M.bind (ev call elt env') fun y => M.pure (some y) else M.pure none)) (fun y => M.bind (turns _ (r.map inj)) fun ys => M.pure (y.toList ++ ys)) = _
      rw [hs a ha, optS, bindP]
      have e1 : (M.bind (evc call none (en a)) fun k => if k = true then M.bind (ev call elt (en a)) fun y => M.pure (some y) else M.pure none) = (M.pure (some (g a)) : M S (Option D)) := by
        show (if true = true then M.bind (ev call elt (en a)) fun y => M.pure (some y) else M.pure none) = _
        rw [if_pos rfl, (he a ha).bind]
      rw [e1]
      show M.bind (turns _ (r.map inj)) (fun ys => M.pure ((some (g a)).toList ++ ys)) = _
      rw [ih fun b hb => hm b (List.mem_cons_of_mem _ hb)]
      rfl
  rw [ht l fun _ h => h, bindP, needT (decide_eq_true (by rw [List.length_map]; exact hl))]
/-- .. with a condition -/
theorem lc_fil {α : Type} {elt c : Ex} {tg : Tg} {it : It} {l : List α} {inj : α → D} {g : α → D} {p : α → Bool} {en : α → Env} (hi : Evi call it env (l.map inj)) (hl : l.length ≤ LIM)
    (hs : ∀ a ∈ l, tg.store (inj a) (wipeE env tg.places) = some (en a)) (hc : ∀ a ∈ l, Ev call c (en a) (.bl (p a))) (he : ∀ a ∈ l, p a = true → Ev call elt (en a) (g a)) : Ev call (.lc elt tg it (some c)) env (.lst ((l.filter p).map g)) := by
  show M.bind (evi call it env) (fun xs => M.bind (turns (fun x => M.calm (M.bind (M.opt (tg.store x (wipeE env tg.places))) fun env' => M.bind (evc call (some c) env') fun k => if k = true then M.bind (ev call elt env') fun y => M.pure (some y) else M.pure none)) xs) fun ys => M.need (decide (ys.length ≤ LIM)) (M.pure (D.lst ys))) = _
  rw [hi.bind]
  have ht : ∀ l' : List α, (∀ a ∈ l', a ∈ l) → turns (fun x => M.calm (M.bind (M.opt (tg.store x (wipeE env tg.places))) fun env' => M.bind (evc call (some c) env') fun k => if k = true then M.bind (ev call elt env') fun y => M.pure (some y) else M.pure none)) (l'.map inj) = (M.pure ((l'.filter p).map g) : M S (List D)) := fun l' => by
    induction l' with
    | nil => intro _; rfl
    | cons a r ih =>
      intro hm
      have ha := hm a List.mem_cons_self
      show M.bind (M.calm (M.bind (M.opt (tg.store (inj a) (wipeE env tg.places))) fun env' => M.bind (evc call (some c) env') fun k => if k = true then M.bind (ev call elt env') fun y => M.pure (some y) else M.pure none)) (fun y => M.bind (turns _ (r.map inj)) fun ys => M.pure (y.toList ++ ys)) = _
      rw [hs a ha, optS, bindP]
      have e0 : evc call (some c) (en a) = (M.pure (p a) : M S Bool) := by
        show M.bind (ev call c (en a)) (fun x => M.opt (asBl x)) = _
        rw [(hc a ha).bind]; rfl
      rw [e0, bindP, ih fun b hb => hm b (List.mem_cons_of_mem _ hb), List.filter_cons]
      cases hp : p a with
      | true =>
        rw [if_pos rfl, (he a ha hp).bind]
        rfl
      | false => rfl
  rw [ht l fun _ h => h, bindP, needT (decide_eq_true (by rw [List.length_map]; exact Nat.le_trans (List.length_filter_le _ _) hl))]
end
end Mp

set_option Elab.async false
set_option linter.all false
set_option maxRecDepth 100000
set_option maxHeartbeats 4000000
/-! Plain tools: statements, functions, what draws. -/
namespace Mp
open PySem (Str PyData)

section
variable {S : Type} {call : Nat → List D → M S D} {env : Env}
def Run (call : Nat → List D → M S D) (b : List St) (env : Env) (f : Fl) : Prop := exs call b env = M.pure f
theorem run_nil : Run call [] env (.nxt env) := rfl
theorem run_ret {e : Ex} {r : List St} {d : D} (h : Ev call e env d) : Run call (.ret e :: r) env (.ret d) := by
  show M.bind (M.bind (ev call e env) fun d => M.pure (Fl.ret d)) (fun f => match f with | .nxt e => exs call r e | f => M.pure f) = _
  rw [h.bind, bindP]
theorem run_set {i : Nat} {e : Ex} {r : List St} {d : D} {f : Fl} (h : Ev call e env d) (k : Run call r (env.set i (.fz d)) f) : Run call (.set i e :: r) env f := by
  show M.bind (M.bind (ev call e env) fun d => M.pure (Fl.nxt (env.set i (.fz d)))) (fun f => match f with | .nxt e => exs call r e | f => M.pure f) = _
  rw [h.bind, bindP]
  exact k
theorem run_expr {e : Ex} {r : List St} {d : D} {f : Fl} (h : Ev call e env d) (k : Run call r env f) : Run call (.expr e :: r) env f := by
  show M.bind (M.bind (ev call e env) fun _ => M.pure (Fl.nxt env)) (fun f => match f with | .nxt e => exs call r e | f => M.pure f) = _
  rw [h.bind, bindP]
  exact k
/-- an if whose test fails -/
theorem run_no {c : Ex} {a r : List St} {f : Fl} (h : Ev call c env (.bl false)) (k : Run call r env f) : Run call (.ite c a [] :: r) env f := by
  show M.bind (M.bind (ev call c env) fun x => M.bind (M.opt (asBl x)) fun k => if k = true then exs call a env else exs call [] env) (fun f => match f with | .nxt e => exs call r e | f => M.pure f) = _
  rw [h.bind]
  exact k
/-- .. that returns -/
theorem run_yes {c : Ex} {a b r : List St} {d : D} (h : Ev call c env (.bl true)) (k : Run call a env (.ret d)) : Run call (.ite c a b :: r) env (.ret d) := by
  show M.bind (M.bind (ev call c env) fun x => M.bind (M.opt (asBl x)) fun k => if k = true then exs call a env else exs call b env) (fun f => match f with | .nxt e => exs call r e | f => M.pure f) = _
  rw [h.bind]
  show M.bind (if true = true then exs call a env else exs call b env) _ = _
  rw [if_pos rfl, show exs call a env = M.pure (.ret d) from k, bindP]
variable {G : Nat → Option Fn} {dr : Dr S}
theorem call_ret {n f np ns : Nat} {body : List St} {args : List D} {d : D} (h : G f = some (.code np ns body)) (hl : args.length = np) (k : Run (callN G dr n) body (args.map Slot.fz ++ List.replicate (ns - np) Slot.un) (.ret d)) : callN G dr (n + 1) f args = M.pure d := by
  rw [callN_code G dr h]
  show M.need (args.length == np) (M.bind (exs (callN G dr n) body (args.map Slot.fz ++ List.replicate (ns - np) Slot.un)) fun f => match f with
      | .ret d => M.pure d
      | .nxt _ => M.pure D.non
      | _ => M.bad) = _
  rw [needT (by simpa using hl), show exs (callN G dr n) body (args.map Slot.fz ++ List.replicate (ns - np) Slot.un) = M.pure (.ret d) from k, bindP]
theorem call_nxt {n f np ns : Nat} {body : List St} {args : List D} {e : Env} (h : G f = some (.code np ns body)) (hl : args.length = np) (k : Run (callN G dr n) body (args.map Slot.fz ++ List.replicate (ns - np) Slot.un) (.nxt e)) : callN G dr (n + 1) f args = M.pure .non := by
  rw [callN_code G dr h]
  show M.need (args.length == np) (M.bind (exs (callN G dr n) body (args.map Slot.fz ++ List.replicate (ns - np) Slot.un)) fun f => match f with
      | .ret d => M.pure d
      | .nxt _ => M.pure D.non
      | _ => M.bad) = _
  rw [needT (by simpa using hl), show exs (callN G dr n) body (args.map Slot.fz ++ List.replicate (ns - np) Slot.un) = M.pure (.nxt e) from k, bindP]
theorem call_init {n f np ns : Nat} {body : List St} {args : List D} {e : Env} (h : G f = some (.init np ns body)) (hl : args.length = np) (k : Run (callN G dr n) body (Slot.un :: (args.map Slot.fz ++ List.replicate (ns - 1 - np) Slot.un)) (.nxt e)) : callN G dr (n + 2) f args = M.pure .non := by
  rw [callN_init G dr h]
  show M.need (args.length == np) (M.bind (exs (callN G dr n) body (Slot.un :: (args.map Slot.fz ++ List.replicate (ns - 1 - np) Slot.un))) fun f => match f with
      | .nxt _ => M.pure D.non
      | _ => M.bad) = _
  rw [needT (by simpa using hl), show exs (callN G dr n) body (Slot.un :: (args.map Slot.fz ++ List.replicate (ns - 1 - np) Slot.un)) = M.pure (.nxt e) from k, bindP]
/-! ### what draws -/
/-- from every state it comes to an end, with an answer that P holds of -/
def Wp {α : Type} (m : M S α) (P : α → Prop) : Prop := ∀ s, ∃ a s', m s = .ok a s' ∧ P a
theorem wp_pure {α : Type} {a : α} {P : α → Prop} (h : P a) : Wp (M.pure a : M S α) P := fun s => ⟨a, s, rfl, h⟩
theorem wp_bind {α β : Type} {m : M S α} {f : α → M S β} {P : α → Prop} {Q : β → Prop} (h : Wp m P) (k : ∀ a, P a → Wp (f a) Q) : Wp (M.bind m f) Q := fun s => by
  obtain ⟨a, s1, e1, p⟩ := h s
  obtain ⟨b, s2, e2, q⟩ := k a p s1
  refine ⟨b, s2, ?_, q⟩
  show (m s).bind (fun a s' => f a s') = _
  rw [e1]
  exact e2
theorem wp_mono {α : Type} {m : M S α} {P Q : α → Prop} (h : Wp m P) (k : ∀ a, P a → Q a) : Wp m Q := fun s => let ⟨a, s', e, p⟩ := h s; ⟨a, s', e, k a p⟩
theorem wp_eq {α : Type} {m : M S α} {a : α} {P : α → Prop} (h : m = M.pure a) (p : P a) : Wp m P := by
  rw [h]
  exact wp_pure p
theorem Ev.wp {e : Ex} {d : D} {P : D → Prop} (h : Ev call e env d) (p : P d) : Wp (ev call e env) P := wp_eq h p
theorem wp_opt {α : Type} {o : Option α} {P : α → Prop} {a : α} (h : o = some a) (p : P a) : Wp (M.opt o : M S α) P := by
  rw [h]
  exact wp_pure p
theorem wp_need {α : Type} {c : Bool} {m : M S α} {P : α → Prop} (h : c = true) (p : Wp m P) : Wp (M.need c m) P := by
  rw [needT h]
  exact p
theorem wp_calm {α : Type} {m : M S α} {P : α → Prop} (h : Wp m P) : Wp (M.calm m) P := fun s => by
  obtain ⟨a, s', e, p⟩ := h s
  refine ⟨a, s', ?_, p⟩
  unfold M.calm
  rw [e]
/-- a draw -/
theorem wp_draw (ok : dr.Ok) {n f : Nat} {k : Int} (h : G f = some .draw) (h0 : 0 < k) (h1 : k < 1073741824) : Wp (callN G dr (n + 1) f [.hand, .int k]) fun d => ∃ i : Nat, d = .int i ∧ (i : Int) < k := fun s => by
  rw [callN_draw G dr h]
  refine ⟨_, _, (show (if (decide (0 < k) && decide (k < 1073741824)) = true then R.ok (D.int (dr s k).1) (dr s k).2 else .bad) = _ from if_pos (by rw [decide_eq_true h0, decide_eq_true h1]; rfl)), ((dr s k).1).toNat, ?_, ?_⟩
  · rw [Int.toNat_of_nonneg (ok.lo s k h0)]
  · rw [Int.toNat_of_nonneg (ok.lo s k h0)]
    exact ok.hi s k h0
theorem wp_call {n f np ns : Nat} {body : List St} {args : List D} {P : D → Prop} (h : G f = some (.code np ns body)) (hl : args.length = np) (k : Wp (exs (callN G dr n) body (args.map Slot.fz ++ List.replicate (ns - np) Slot.un)) fun f => match f with | .ret d => P d | _ => False) : Wp (callN G dr (n + 1) f args) P := by
  rw [callN_code G dr h]
  show Wp (M.need (args.length == np) (M.bind (exs (callN G dr n) body (args.map Slot.fz ++ List.replicate (ns - np) Slot.un)) fun f => match f with
      | .ret d => M.pure d
      | .nxt _ => M.pure D.non
      | _ => M.bad)) P
  refine wp_need (by simpa using hl) (wp_bind k fun f hf => ?_)
  cases f with
  | ret d => exact wp_pure hf
  | _ => exact hf.elim
/-- a statement ahead of others -/
theorem wq_set {i : Nat} {e : Ex} {r : List St} {P : D → Prop} {Q : Fl → Prop} (h : Wp (ev call e env) P) (k : ∀ d, P d → Wp (exs call r (env.set i (.fz d))) Q) : Wp (exs call (.set i e :: r) env) Q := by
  show Wp (M.bind (M.bind (ev call e env) fun d => M.pure (Fl.nxt (env.set i (.fz d)))) (fun f => match f with | .nxt e => exs call r e | f => M.pure f)) Q
  refine wp_bind (P := fun f => ∃ d, P d ∧ f = .nxt (env.set i (.fz d))) (wp_bind h fun d hd => wp_pure ⟨d, hd, rfl⟩) fun f ⟨d, hd, e⟩ => ?_
  subst e
  exact k d hd
theorem wq_mat {i : Nat} {e : Ex} {r : List St} {P : D → Prop} {Q : Fl → Prop} (h : Wp (ev call e env) P) (k : ∀ d, P d → Wp (exs call r (env.set i (.mx d))) Q) : Wp (exs call (.mat i e :: r) env) Q := by
  show Wp (M.bind (M.bind (ev call e env) fun d => M.pure (Fl.nxt (env.set i (.mx d)))) (fun f => match f with | .nxt e => exs call r e | f => M.pure f)) Q
  refine wp_bind (P := fun f => ∃ d, P d ∧ f = .nxt (env.set i (.mx d))) (wp_bind h fun d hd => wp_pure ⟨d, hd, rfl⟩) fun f ⟨d, hd, e⟩ => ?_
  subst e
  exact k d hd
theorem wq_tset {is : List (Nat × Nat)} {es : List Ex} {r : List St} {P : List D → Prop} {Q : Fl → Prop} (h : Wp (evs call es env) P) (k : ∀ ds, P ds → ∃ env', sets is ds env = some env' ∧ Wp (exs call r env') Q) : Wp (exs call (.tset is es :: r) env) Q := by
  show Wp (M.bind (M.bind (evs call es env) fun ds => M.bind (M.opt (sets is ds env)) fun e => M.pure (Fl.nxt e)) (fun f => match f with | .nxt e => exs call r e | f => M.pure f)) Q
  refine wp_bind (P := fun f => ∃ ds, P ds ∧ ∃ env', sets is ds env = some env' ∧ f = .nxt env') (wp_bind h fun ds hd => ?_) fun f ⟨ds, hd, env', e1, e⟩ => ?_
  · obtain ⟨env', e1, _⟩ := k ds hd
    rw [e1]
    exact wp_pure ⟨ds, hd, env', e1, rfl⟩
  · subst e
    obtain ⟨env2, e2, q⟩ := k ds hd
    rw [e1] at e2
    cases e2
    exact q
theorem wq_ret {e : Ex} {r : List St} {P : D → Prop} {Q : Fl → Prop} (h : Wp (ev call e env) P) (k : ∀ d, P d → Q (.ret d)) : Wp (exs call (.ret e :: r) env) Q := by
  show Wp (M.bind (M.bind (ev call e env) fun d => M.pure (Fl.ret d)) (fun f => match f with | .nxt e => exs call r e | f => M.pure f)) Q
  refine wp_bind (P := fun f => ∃ d, P d ∧ f = .ret d) (wp_bind h fun d hd => wp_pure ⟨d, hd, rfl⟩) fun f ⟨d, hd, e⟩ => ?_
  subst e
  exact wp_pure (k d hd)
theorem wq_expr {e : Ex} {r : List St} {P : D → Prop} {Q : Fl → Prop} (h : Wp (ev call e env) P) (k : Wp (exs call r env) Q) : Wp (exs call (.expr e :: r) env) Q := by
  show Wp (M.bind (M.bind (ev call e env) fun _ => M.pure (Fl.nxt env)) (fun f => match f with | .nxt e => exs call r e | f => M.pure f)) Q
  refine wp_bind (P := fun f => f = .nxt env) (wp_bind h fun d hd => wp_pure rfl) fun f e => ?_
  subst e
  exact k
/-- a law's test that is not met -/
theorem wq_no {c : Ex} {a r : List St} {Q : Fl → Prop} (h : Ev call c env (.bl false)) (k : Wp (exs call r env) Q) : Wp (exs call (.ite c a [] :: r) env) Q := by
  show Wp (M.bind (M.bind (ev call c env) fun x => M.bind (M.opt (asBl x)) fun k => if k = true then exs call a env else exs call [] env) (fun f => match f with | .nxt e => exs call r e | f => M.pure f)) Q
  rw [h.bind]
  exact k
/-- an if, its branches come to environments -/
theorem wq_ite {c : Ex} {a b r : List St} {P : Env → Prop} {Q : Fl → Prop} (h : Wp (ev call c env) fun d => ∃ k, d = .bl k) (ha : Wp (exs call a env) fun f => ∃ e, f = .nxt e ∧ P e) (hb : Wp (exs call b env) fun f => ∃ e, f = .nxt e ∧ P e) (k : ∀ e, P e → Wp (exs call r e) Q) : Wp (exs call (.ite c a b :: r) env) Q := by
  show Wp (M.bind (M.bind (ev call c env) fun x => M.bind (M.opt (asBl x)) fun k => if k = true then exs call a env else exs call b env) (fun f => match f with | .nxt e => exs call r e | f => M.pure f)) Q
  refine wp_bind (P := fun f => ∃ e, f = .nxt e ∧ P e) (wp_bind h fun d ⟨j, e⟩ => ?_) fun f ⟨e, e1, p⟩ => ?_
  · subst e
    cases j with
    | true => exact ha
    | false => exact hb
  · subst e1
    exact k e p
theorem wq_frz {i : Nat} {r : List St} {Q : Fl → Prop} {d : D} (h : env[i]? = some (.mx d)) (k : Wp (exs call r (env.set i (.fz d))) Q) : Wp (exs call (.frz i :: r) env) Q := by
  show Wp (M.bind (frzE i env) (fun f => match f with | .nxt e => exs call r e | f => M.pure f)) Q
  unfold frzE
  rw [h]
  exact k
theorem wq_for {tg : Tg} {it : It} {body r : List St} {xs : List D} {I : Env → Prop} {Q : Fl → Prop} (hi : Evi call it env xs) (h0 : I env) (hb : ∀ x ∈ xs, ∀ e, I e → ∃ e1, tg.store x e = some e1 ∧ Wp (exs call body e1) fun f => ∃ e2, f = .nxt e2 ∧ I e2) (k : ∀ e, I e → Wp (exs call r e) Q) : Wp (exs call (.for tg it body :: r) env) Q := by
  show Wp (M.bind (M.bind (evi call it env) fun xs => forL tg (exs call body) xs env) (fun f => match f with | .nxt e => exs call r e | f => M.pure f)) Q
  rw [hi.bind]
  have loop : ∀ (ys : List D) (e : Env), (∀ x ∈ ys, x ∈ xs) → I e → Wp (forL tg (exs call body) ys e) fun f => ∃ e2, f = .nxt e2 ∧ I e2 := fun ys => by
    induction ys with
    | nil => intro e _ he; exact wp_pure ⟨e, rfl, he⟩
    | cons x r ih =>
      intro e hm he
      obtain ⟨e1, h1, h2⟩ := hb x (hm x List.mem_cons_self) e he
      show Wp (M.bind (M.opt (tg.store x e)) fun env1 => M.bind (exs call body env1) fun f => match f with
        | .nxt e => forL tg (exs call body) r e
        | .cnt e => forL tg (exs call body) r e
        | .brk e => M.pure (.nxt e)
        | .ret d => M.pure (.ret d)) _
      rw [h1, optS, bindP]
      refine wp_bind h2 fun f ⟨e2, e3, he2⟩ => ?_
      subst e3
      exact ih e2 (fun y hy => hm y (List.mem_cons_of_mem _ hy)) he2
  refine wp_bind (loop xs env (fun _ h => h) h0) fun f ⟨e2, e3, he2⟩ => ?_
  subst e3
  exact k e2 he2
/-- expressions that draw -/
theorem we_call {f : Nat} {es : List Ex} {P : List D → Prop} {Q : D → Prop} (ha : Wp (evs call es env) P) (h : ∀ ds, P ds → Wp (call f ds) Q) : Wp (ev call (.call f es) env) Q := wp_bind ha h
theorem we_cons {e : Ex} {es : List Ex} {P : D → Prop} {Q : List D → Prop} (h : Wp (ev call e env) P) (k : Wp (evs call es env) Q) : Wp (evs call (e :: es) env) fun ds => ∃ d r, ds = d :: r ∧ P d ∧ Q r :=
  wp_bind h fun d hd => wp_bind k fun r hr => wp_pure ⟨d, r, rfl, hd, hr⟩
theorem we_nil : Wp (evs call [] env) fun ds => ds = [] := wp_pure rfl
/-- a list made by draws -/
theorem we_lc {elt : Ex} {tg : Tg} {it : It} {xs : List D} {P : D → Prop} (hi : Evi call it env xs) (hl : xs.length ≤ LIM) (hb : ∀ x ∈ xs, ∃ e1, tg.store x (wipeE env tg.places) = some e1 ∧ Wp (ev call elt e1) P) :
    Wp (ev call (.lc elt tg it none) env) fun d => ∃ ds, d = .lst ds ∧ ds.length = xs.length ∧ ∀ y ∈ ds, P y := by
  show Wp (M.bind (evi call it env) (fun xs => M.bind (turns (fun x => M.calm (M.bind (M.opt (tg.store x (wipeE env tg.places))) fun env' => M.bind (evc call none env') fun k => if k = true then M.bind (ev call elt env') fun y => M.pure (some y) else M.pure none)) xs) fun ys => M.need (decide (ys.length ≤ LIM)) (M.pure (D.lst ys)))) _
  rw [hi.bind]
  have loop : ∀ ys : List D, (∀ x ∈ ys, x ∈ xs) → Wp (turns (fun x => M.calm (M.bind (M.opt (tg.store x (wipeE env tg.places))) fun env' => M.bind (evc call none env') fun k => if k = true then M.bind (ev call elt env') fun y => M.pure (some y) else M.pure none)) ys) fun ds => ds.length = ys.length ∧ ∀ y ∈ ds, P y := fun ys => by
    induction ys with
    | nil => intro _; exact wp_pure ⟨rfl, fun y hy => nomatch hy⟩
    | cons x r ih =>
      intro hm
      obtain ⟨e1, h1, h2⟩ := hb x (hm x List.mem_cons_self)
      refine wp_bind (P := fun o => ∃ y, o = some y ∧ P y) (wp_calm ?_) fun o ⟨y, ho, hy⟩ => ?_
      · rw [h1, optS, bindP]
        show Wp (if true = true then M.bind (ev call elt e1) fun y => M.pure (some y) else M.pure none) _
        rw [if_pos rfl]
        exact wp_bind h2 fun y hy => wp_pure ⟨y, rfl, hy⟩
      · subst ho
        refine wp_bind (ih fun y hy => hm y (List.mem_cons_of_mem _ hy)) fun ds ⟨hl, hp⟩ => wp_pure ⟨?_, fun z hz => ?_⟩
        · show (y :: ds).length = _
          rw [List.length_cons, List.length_cons, hl]
        · rcases List.mem_cons.mp (show z ∈ y :: ds from hz) with rfl | hz
          · exact hy
          · exact hp z hz
  refine wp_bind (loop xs fun _ h => h) fun ds ⟨h1, h2⟩ => wp_need (decide_eq_true (by rw [h1]; exact hl)) (wp_pure ⟨ds, rfl, h1, h2⟩)
/-- .. by its places -/
theorem we_lci {elt : Ex} {tg : Tg} {it : It} {xs : List D} {P : Nat → D → Prop} (hi : Evi call it env xs) (hl : xs.length ≤ LIM) (hb : ∀ i x, xs[i]? = some x → ∃ e1, tg.store x (wipeE env tg.places) = some e1 ∧ Wp (ev call elt e1) (P i)) :
    Wp (ev call (.lc elt tg it none) env) fun d => ∃ ds, d = .lst ds ∧ ds.length = xs.length ∧ ∀ i y, ds[i]? = some y → P i y := by
  show Wp (M.bind (evi call it env) (fun xs => M.bind (turns (fun x => M.calm (M.bind (M.opt (tg.store x (wipeE env tg.places))) fun env' => M.bind (evc call none env') fun k => if k = true then M.bind (ev call elt env') fun y => M.pure (some y) else M.pure none)) xs) fun ys => M.need (decide (ys.length ≤ LIM)) (M.pure (D.lst ys)))) _
  rw [hi.bind]
  have loop : ∀ (ys : List D) (j : Nat), (∀ i x, ys[i]? = some x → xs[j + i]? = some x) → Wp (turns (fun x => M.calm (M.bind (M.opt (tg.store x (wipeE env tg.places))) fun env' => M.bind (evc call none env') fun k => if k = true then M.bind (ev call elt env') fun y => M.pure (some y) else M.pure none)) ys) fun ds => ds.length = ys.length ∧ ∀ i y, ds[i]? = some y → P (j + i) y := fun ys => by
    induction ys with
    | nil => intro j _; exact wp_pure ⟨rfl, fun i y hy => nomatch hy⟩
    | cons x r ih =>
      intro j hm
      obtain ⟨e1, h1, h2⟩ := hb j x (hm 0 x rfl)
      refine wp_bind (P := fun o => ∃ y, o = some y ∧ P j y) (wp_calm ?_) fun o ⟨y, ho, hy⟩ => ?_
      · rw [h1, optS, bindP]
        show Wp (if true = true then M.bind (ev call elt e1) fun y => M.pure (some y) else M.pure none) _
        rw [if_pos rfl]
        exact wp_bind h2 fun y hy => wp_pure ⟨y, rfl, hy⟩
      · subst ho
        refine wp_bind (ih (j + 1) fun i y hy => by rw [Nat.add_assoc, Nat.add_comm 1]; exact hm (i + 1) y hy) fun ds ⟨hl, hp⟩ => wp_pure ⟨?_, fun i z hz => ?_⟩
        · show (y :: ds).length = _
          rw [List.length_cons, List.length_cons, hl]
        · have hz : (y :: ds)[i]? = some z := hz
          cases i with
          | zero => cases hz; exact hy
          | succ i =>
            have := hp i z (by simpa using hz)
            rw [Nat.add_assoc, Nat.add_comm 1] at this
            exact this
  refine wp_bind (loop xs 0 fun i x h => by rw [Nat.zero_add]; exact h) fun ds ⟨h1, h2⟩ => wp_need (decide_eq_true (by rw [h1]; exact hl)) (wp_pure ⟨ds, rfl, h1, fun i y hy => by have := h2 i y hy; rwa [Nat.zero_add] at this⟩)
end
end Mp

set_option Elab.async false
set_option linter.all false
set_option maxRecDepth 100000
set_option maxHeartbeats 4000000
/-! Plain tools: equality of simple data. -/
namespace Mp
open PySem (Str PyData)

mutual
/-- numbers, texts, None, tuples and lists of these, n deep at most -/
def sok : Nat → D → Bool
  | _, .non => true
  | _, .int _ => true
  | _, .str _ => true
  | n, .tup xs => soks n xs
  | n, .lst xs => soks n xs
  | _, _ => false
def soks : Nat → List D → Bool
  | 0, _ => false
  | _ + 1, [] => true
  | n + 1, x :: r => sok n x && soks (n + 1) r
end
mutual
theorem sok_dp : ∀ (n : Nat) (d : D), sok n d = true → d.pl = true ∧ d.py.depth ≤ n
  | _, .non, _ => ⟨rfl, by simp [D.py, PyData.depth]⟩
  | _, .int _, _ => ⟨rfl, by simp [D.py, PyData.depth]⟩
  | _, .str _, _ => ⟨rfl, by simp [D.py, PyData.depth]⟩
  | n, .tup xs, h => by
    have h : soks n xs = true := h
    cases n with
    | zero => cases xs <;> cases h
    | succ n =>
      obtain ⟨h1, h2⟩ := soks_dp n xs h
      exact ⟨h1, by simp only [D.py, PyData.depth]; omega⟩
  | n, .lst xs, h => by
    have h : soks n xs = true := h
    cases n with
    | zero => cases xs <;> cases h
    | succ n =>
      obtain ⟨h1, h2⟩ := soks_dp n xs h
      exact ⟨h1, by simp only [D.py, PyData.depth]; omega⟩
  | _, .bl _, h => by cases h
  | _, .dct _, h => by cases h
  | _, .set _, h => by cases h
  | _, .ins _ _, h => by cases h
  | _, .hand, h => by cases h
  | _, .clo _ _, h => by cases h
theorem soks_dp : ∀ (n : Nat) (xs : List D), soks (n + 1) xs = true → pls xs = true ∧ PyData.depthAll (pys xs) ≤ n
  | n, [], _ => ⟨rfl, by simp [pys, PyData.depthAll]⟩
  | n, x :: r, h => by
    have h : (sok n x && soks (n + 1) r) = true := h
    rw [Bool.and_eq_true] at h
    obtain ⟨a1, a2⟩ := sok_dp n x h.1
    obtain ⟨b1, b2⟩ := soks_dp n r h.2
    refine ⟨by show (x.pl && pls r) = true; rw [a1, b1]; rfl, ?_⟩
    simp only [pys, PyData.depthAll]
    omega
end
theorem sok_ok {n : Nat} {d : D} (h : sok n d = true) (hn : n ≤ 48) : d.ok = true := by
  obtain ⟨a, b⟩ := sok_dp n d h
  unfold D.ok
  rw [a, decide_eq_true (by omega)]
  rfl
mutual
theorem eqv_sok : ∀ (a b : D) (n m : Nat), sok n a = true → sok m b = true → (PyData.eqv a.py b.py = true ↔ a = b)
  | .non, b, n, m, _, hb => by cases b <;> first | (cases hb; done) | simp [D.py, PyData.eqv]
  | .int i, b, n, m, _, hb => by cases b <;> first | (cases hb; done) | simp [D.py, PyData.eqv]
  | .str x, b, n, m, _, hb => by cases b <;> first | (cases hb; done) | simp [D.py, PyData.eqv]
  | .tup xs, b, n, m, ha, hb => by
    cases b <;> first | (cases hb; done) | skip
    all_goals try (simp [D.py, PyData.eqv]; done)
    rename_i ys
    show PyData.eqvAll (pys xs) (pys ys) = true ↔ _
    rw [eqvs_sok xs ys n m ha hb]
    simp
  | .lst xs, b, n, m, ha, hb => by
    cases b <;> first | (cases hb; done) | skip
    all_goals try (simp [D.py, PyData.eqv]; done)
    rename_i ys
    show PyData.eqvAll (pys xs) (pys ys) = true ↔ _
    rw [eqvs_sok xs ys n m ha hb]
    simp
  | .bl _, _, _, _, h, _ => by cases h
  | .dct _, _, _, _, h, _ => by cases h
  | .set _, _, _, _, h, _ => by cases h
  | .ins _ _, _, _, _, h, _ => by cases h
  | .hand, _, _, _, h, _ => by cases h
  | .clo _ _, _, _, _, h, _ => by cases h
theorem eqvs_sok : ∀ (a b : List D) (n m : Nat), soks n a = true → soks m b = true → (PyData.eqvAll (pys a) (pys b) = true ↔ a = b)
  | [], [], _, _, _, _ => by simp [pys, PyData.eqvAll]
  | [], _ :: _, _, _, _, _ => by simp [pys, PyData.eqvAll]
  | _ :: _, [], _, _, _, _ => by simp [pys, PyData.eqvAll]
  | x :: xs, y :: ys, n, m, ha, hb => by
    cases n with
    | zero => cases ha
    | succ n =>
      cases m with
      | zero => cases hb
      | succ m =>
        have ha : (sok n x && soks (n + 1) xs) = true := ha
        have hb : (sok m y && soks (m + 1) ys) = true := hb
        rw [Bool.and_eq_true] at ha hb
        show (PyData.eqv x.py y.py && PyData.eqvAll (pys xs) (pys ys)) = true ↔ _
        rw [Bool.and_eq_true, eqv_sok x y n m ha.1 hb.1, eqvs_sok xs ys (n + 1) (m + 1) ha.2 hb.2]
        simp
end
theorem eq_sok {a b : D} {n m : Nat} (ha : sok n a = true) (hb : sok m b = true) (hn : n ≤ 48) (hm : m ≤ 48) : D.eq? a b = some (PyData.eqv a.py b.py) := by
  unfold D.eq?
  rw [sok_ok ha hn, sok_ok hb hm]
  rfl
theorem eq_dec {a b : D} {n m : Nat} {p : Bool} (ha : sok n a = true) (hb : sok m b = true) (hn : n ≤ 48) (hm : m ≤ 48) (h : a = b ↔ p = true) : D.cmp .eq a b = some p := by
  show D.eq? a b = _
  rw [eq_sok ha hb hn hm]
  congr 1
  rw [Bool.eq_iff_iff, ← h]
  exact eqv_sok a b n m ha hb
theorem eq_yes {a : D} {n : Nat} (ha : sok n a = true) (hn : n ≤ 48) : D.cmp .eq a a = some true := eq_dec ha ha hn hn ⟨fun _ => rfl, fun _ => rfl⟩
theorem ne_no {a b : D} {n : Nat} (ha : sok n a = true) (hn : n ≤ 48) (e : a = b) : D.cmp .ne a b = some false := by
  subst e
  show (D.eq? a a).map (!·) = _
  rw [show D.eq? a a = some true from eq_yes ha hn]
  rfl
theorem ne_dec {a b : D} {n m : Nat} {p : Bool} (ha : sok n a = true) (hb : sok m b = true) (hn : n ≤ 48) (hm : m ≤ 48) (h : a = b ↔ p = true) : D.cmp .ne a b = some (!p) := by
  show (D.eq? a b).map (!·) = _
  have := eq_dec ha hb hn hm h
  have this : D.eq? a b = some p := this
  rw [this]
  rfl
/-! ### numbers -/
theorem soks_map {α : Type} {n : Nat} {f : α → D} : ∀ {l : List α}, (∀ a ∈ l, sok n (f a) = true) → soks (n + 1) (l.map f) = true
  | [], _ => rfl
  | a :: r, h => by
    show (sok n (f a) && soks (n + 1) (r.map f)) = true
    rw [h a List.mem_cons_self, soks_map fun b hb => h b (List.mem_cons_of_mem _ hb)]
    rfl
theorem sok_nats (l : List Nat) : sok 1 (.tup (natsD l)) = true := soks_map fun _ _ => rfl
theorem sok_natl (l : List Nat) : sok 1 (.lst (natsD l)) = true := soks_map fun _ _ => rfl
theorem natD_inj {a b : Nat} : natD a = natD b ↔ a = b := by
  unfold natD
  rw [D.int.injEq]
  omega
theorem natsD_inj {l m : List Nat} : natsD l = natsD m ↔ l = m := by
  unfold natsD
  constructor
  · exact fun h => (List.map_inj_right fun _ _ e => natD_inj.mp e).mp h
  · exact fun h => by rw [h]
theorem ints_nats : ∀ l : List Nat, ints? (natsD l) = some (l.map fun a : Nat => (a : Int))
  | [] => rfl
  | a :: r => by
    show (ints? (natsD r)).map ((a : Int) :: ·) = _
    rw [ints_nats r]
    rfl
theorem int_cmp {a b : Nat} : D.cmp .eq (natD a) (natD b) = some (decide (a = b)) := by
  refine eq_dec (n := 0) (m := 0) rfl rfl (by decide) (by decide) ?_
  rw [natD_inj, decide_eq_true_eq]
theorem at_map {α : Type} {f : α → D} {l : List α} {a : Nat} {x : α} (h : l[a]? = some x) : at? (l.map f) (a : Int) = some (f x) := by
  have hl := (List.getElem?_eq_some_iff.mp h).1
  unfold at? L2.atI L2.ixN
  rw [List.length_map, if_pos (Int.natCast_nonneg a), if_pos (by omega)]
  show (l.map f)[((a : Int)).toNat]? = _
  rw [Int.toNat_natCast, List.getElem?_map, h]
  rfl
theorem idx_tup {α : Type} {f : α → D} {l : List α} {a : Nat} {x : α} (h : l[a]? = some x) : D.idx (.tup (l.map f)) (natD a) = some (f x) := at_map h
theorem idx_lst {α : Type} {f : α → D} {l : List α} {a : Nat} {x : α} (h : l[a]? = some x) : D.idx (.lst (l.map f)) (natD a) = some (f x) := at_map h
theorem enum_map {α : Type} {f : α → D} : ∀ (l : List α) (k : Nat), enumD k (l.map f) = (l.zipIdx k).map fun p => D.tup [natD p.2, f p.1]
  | [], _ => rfl
  | a :: r, k => by
    show D.tup [.int k, f a] :: enumD (k + 1) (r.map f) = _
    rw [enum_map r (k + 1)]
    rfl
theorem le_nat {a b : Nat} : D.cmp .le (natD a) (natD b) = some (decide (a ≤ b)) := by
  show some _ = _
  congr 1
  exact decide_eq_decide.mpr (by omega)
theorem lt_nat {a b : Nat} : D.cmp .lt (natD a) (natD b) = some (decide (a < b)) := by
  show some _ = _
  congr 1
  exact decide_eq_decide.mpr (by omega)
theorem gt_nat {a b : Nat} : D.cmp .gt (natD a) (natD b) = some (decide (b < a)) := by
  show some _ = _
  congr 1
  exact decide_eq_decide.mpr (by omega)
theorem bls_map {α : Type} {p : α → Bool} : ∀ l : List α, bls? (l.map fun a => D.bl (p a)) = some (l.map p)
  | [] => rfl
  | a :: r => by
    show (bls? (r.map fun a => D.bl (p a))).map (p a :: ·) = _
    rw [bls_map r]
    rfl
theorem all_map {α : Type} {p : α → Bool} (l : List α) : D.bi .all [.lst (l.map fun a => D.bl (p a))] = some (.bl (l.all p)) := by
  show (bls? (l.map fun a => D.bl (p a))).map (fun bs => D.bl (bs.all id)) = _
  rw [bls_map]
  show some (D.bl _) = _
  rw [List.all_map]
  rfl
end Mp

set_option Elab.async false
set_option linter.all false
set_option maxRecDepth 100000
set_option maxHeartbeats 4000000
/-! Plain tools: tables of one operation. -/
namespace Mp
open PySem (Str PyData)

def rowD (m : Nat) (g : Nat → Nat) : D := .tup ((List.range m).map fun b => natD (g b))
def rowsD (m : Nat) (f : Nat → Nat → Nat) : D := .tup ((List.range m).map fun a => rowD m (f a))
def tabD (m : Nat) (f : Nat → Nat → Nat) : D := .ins 0 [natD m, rowsD m f]
def lotD (l : List Nat) : D := .tup (natsD l)
theorem range_get {a m : Nat} (h : a < m) : (List.range m)[a]? = some a := by
  rw [List.getElem?_eq_getElem (by rw [List.length_range]; exact h), List.getElem_range]
theorem row_lot (m : Nat) (g : Nat → Nat) : rowD m g = lotD ((List.range m).map g) := by
  unfold rowD lotD natsD
  rw [List.map_map]
  rfl
theorem sok_lot (l : List Nat) : sok 1 (lotD l) = true := sok_nats l
theorem sok_row (m : Nat) (g : Nat → Nat) : sok 1 (rowD m g) = true := by
  rw [row_lot]
  exact sok_lot _
theorem sok_rows (m : Nat) (f : Nat → Nat → Nat) : sok 2 (rowsD m f) = true := soks_map fun a _ => sok_row m (f a)
theorem lot_inj {l k : List Nat} : lotD l = lotD k ↔ l = k := by
  unfold lotD
  rw [D.tup.injEq, natsD_inj]
theorem row_inj {m : Nat} {g h : Nat → Nat} : rowD m g = rowD m h ↔ ∀ b, b < m → g b = h b := by
  rw [row_lot, row_lot, lot_inj, List.map_inj_left]
  exact ⟨fun z b hb => z b (List.mem_range.mpr hb), fun z b hb => z b (List.mem_range.mp hb)⟩
theorem row_congr {m : Nat} {g h : Nat → Nat} (e : ∀ b, b < m → g b = h b) : rowD m g = rowD m h := row_inj.mpr e
theorem rows_congr {m : Nat} {f h : Nat → Nat → Nat} (e : ∀ a b, a < m → b < m → f a b = h a b) : rowsD m f = rowsD m h := by
  unfold rowsD
  congr 1
  exact List.map_congr_left fun a ha => row_congr fun b hb => e a b (List.mem_range.mp ha) hb
theorem idx_row {m b : Nat} {g : Nat → Nat} (h : b < m) : D.idx (rowD m g) (natD b) = some (natD (g b)) := idx_tup (range_get h)
theorem idx_rows {m a : Nat} {f : Nat → Nat → Nat} (h : a < m) : D.idx (rowsD m f) (natD a) = some (rowD m (f a)) := idx_tup (range_get h)
theorem idx_lot {l : List Nat} {i x : Nat} (h : l[i]? = some x) : D.idx (lotD l) (natD i) = some (natD x) := idx_tup h
theorem mem_tup {l : List D} {x : D} {n m : Nat} (hx : sok n x = true) (hl : soks m l = true) (hn : n ≤ 48) (hm : m ≤ 48) : D.in? x (.tup l) = some (l.any fun y => PyData.eqv y.py x.py) := by
  unfold D.in?
  have e1 := sok_ok hx hn
  have e2 : (D.tup l).ok = true := sok_ok (n := m) hl hm
  show (if (x.ok && (D.tup l).ok) = true then _ else none) = _
  rw [e1, e2]
  rfl
theorem mem_lot {l : List Nat} {x : Nat} : D.cmp .isin (natD x) (lotD l) = some (l.contains x) := by
  show D.in? (natD x) (.tup (natsD l)) = _
  rw [mem_tup (n := 0) (m := 1) rfl (sok_nats l) (by decide) (by decide)]
  congr 1
  unfold natsD
  rw [List.any_map, Bool.eq_iff_iff, List.any_eq_true, List.contains_iff_mem]
  constructor
  · intro ⟨y, hy, e⟩
    have := (eqv_sok (natD y) (natD x) 0 0 rfl rfl).mp e
    rw [natD_inj] at this
    rw [← this]
    exact hy
  · exact fun h => ⟨x, h, (eqv_sok (natD x) (natD x) 0 0 rfl rfl).mpr rfl⟩
theorem nc_nats : ∀ l : List Nat, nocls (natsD l) = true
  | [] => rfl
  | a :: r => by
    show (noclo (natD a) && nocls (natsD r)) = true
    rw [nc_nats r]
    rfl
theorem nc_map {α : Type} {f : α → D} (h : ∀ a, noclo (f a) = true) : ∀ l : List α, nocls (l.map f) = true
  | [] => rfl
  | a :: r => by
    show (noclo (f a) && nocls (r.map f)) = true
    rw [h a, nc_map h r]
    rfl
theorem nc_row (m : Nat) (g : Nat → Nat) : noclo (rowD m g) = true := nc_map (fun _ => rfl) _
theorem nc_rows (m : Nat) (f : Nat → Nat → Nat) : noclo (rowsD m f) = true := nc_map (fun a => nc_row m (f a)) _
theorem nc_tab (m : Nat) (f : Nat → Nat → Nat) : noclo (tabD m f) = true := by
  show (noclo (natD m) && (noclo (rowsD m f) && true)) = true
  rw [nc_rows]
  rfl
theorem nc_lot (l : List Nat) : noclo (lotD l) = true := nc_nats l
theorem enum_range (g : Nat → D) (m : Nat) : enumD 0 ((List.range m).map g) = (List.range m).map fun a => D.tup [natD a, g a] := by
  rw [enum_map]
  refine List.ext_getElem? fun i => ?_
  rw [List.getElem?_map, List.getElem?_map, List.getElem?_zipIdx]
  by_cases h : i < m
  · rw [range_get h]
    show some _ = some _
    congr 3
    simp
  · rw [List.getElem?_eq_none (by rw [List.length_range]; omega)]
    rfl
theorem setInts_row {m : Nat} {g : Nat → Nat} (h : m ≤ 1000) : setInts (rowD m g) = some ((List.range m).map fun b => (g b : Int)) := by
  rw [row_lot]
  unfold setInts lotD
  show (if (natsD ((List.range m).map g)).length ≤ 1000 then ints? (natsD ((List.range m).map g)) else none) = _
  rw [if_pos (by unfold natsD; rw [List.length_map, List.length_map, List.length_range]; exact h), ints_nats, List.map_map]
  rfl
theorem setInts_lot {l : List Nat} (h : l.length ≤ 1000) : setInts (lotD l) = some (l.map fun b : Nat => (b : Int)) := by
  unfold setInts lotD
  show (if (natsD l).length ≤ 1000 then ints? (natsD l) else none) = _
  rw [if_pos (by unfold natsD; rw [List.length_map]; exact h), ints_nats]
theorem setInts_lst {l : List Nat} (h : l.length ≤ 1000) : setInts (.lst (natsD l)) = some (l.map fun b : Nat => (b : Int)) := by
  unfold setInts
  show (if (natsD l).length ≤ 1000 then ints? (natsD l) else none) = _
  rw [if_pos (by unfold natsD; rw [List.length_map]; exact h), ints_nats]
theorem same_one {m a : Nat} {g : Nat → Nat} (h0 : 0 < m) : sameI ((List.range m).map fun b => (g b : Int)) [(a : Int)] = decide (∀ b, b < m → g b = a) := by
  unfold sameI
  rw [Bool.eq_iff_iff, Bool.and_eq_true, List.all_eq_true, List.all_eq_true, decide_eq_true_eq]
  constructor
  · intro ⟨z, _⟩ b hb
    have := z _ (List.mem_map_of_mem (f := fun b => (g b : Int)) (List.mem_range.mpr hb))
    simp at this
    omega
  · intro z
    refine ⟨fun x hx => ?_, fun x hx => ?_⟩
    · obtain ⟨b, hb, rfl⟩ := List.mem_map.mp hx
      simp [z b (List.mem_range.mp hb)]
    · rw [List.mem_singleton] at hx
      subst hx
      rw [List.contains_iff_mem]
      exact List.mem_map.mpr ⟨0, List.mem_range.mpr h0, by rw [z 0 h0]⟩
theorem ded_len_nodup {l : List Nat} (h : l.Nodup) : (dedI (l.map fun b : Nat => (b : Int))).length = l.length := by
  induction l with
  | nil => rfl
  | cons x r ih =>
    obtain ⟨h1, h2⟩ := List.nodup_cons.mp h
    rw [List.map_cons]
    unfold dedI
    rw [if_neg (fun z => h1 (by
      rw [List.contains_iff_mem] at z
      obtain ⟨y, hy, e⟩ := List.mem_map.mp z
      have : y = x := by omega
      rw [← this]; exact hy)), List.length_cons, List.length_cons, ih h2]
theorem len_tup (l : List D) : D.bi .len [.tup l] = some (natD l.length) := rfl
theorem len_lst (l : List D) : D.bi .len [.lst l] = some (natD l.length) := rfl
theorem tuple_lst (l : List D) : D.bi .tuple [.lst l] = some (.tup l) := rfl
end Mp

set_option Elab.async false
set_option linter.all false
set_option maxRecDepth 100000
set_option maxHeartbeats 4000000
/-! Plain tools: dicts, sorted, index, lists of one's own. -/
namespace Mp
open PySem (Str PyData)

/-! ### dicts of numbers -/
theorem key_nat {d : D} {a b : Nat} (h1 : keyEq d (natD a) = true) (h2 : keyEq d (natD b) = true) : a = b := by
  cases d with
  | int i =>
    have h1 : decide (i = (a : Int)) = true := h1
    have h2 : decide (i = (b : Int)) = true := h2
    rw [decide_eq_true_eq] at h1 h2
    omega
  | _ => cases h1
theorem key_self (a b : Nat) : keyEq (natD a) (natD b) = decide (a = b) := by
  show decide ((a : Int) = (b : Int)) = _
  exact decide_eq_decide.mpr (by omega)
theorem look_cons {k : D} {p : D × D} {r : List (D × D)} : look k (p :: r) = if keyEq p.1 k = true then some p.2 else look k r := rfl
theorem look_map {x y : Nat} {v : D} : ∀ kvs : List (D × D), look (natD x) (kvs.map fun p => if keyEq p.1 (natD y) = true then (p.1, v) else p) = if x = y then (look (natD x) kvs).map (fun _ => v) else look (natD x) kvs
  | [] => by simp [look]
  | p :: r => by
    have ih := look_map (x := x) (y := y) (v := v) r
    rw [List.map_cons]
    by_cases h : keyEq p.1 (natD y) = true
    · rw [if_pos h, look_cons, look_cons]
      by_cases e : keyEq p.1 (natD x) = true
      · have : x = y := key_nat e h
        rw [if_pos (show keyEq (p.1, v).1 (natD x) = true from e), if_pos e, if_pos this]
        rfl
      · rw [if_neg (show ¬ keyEq (p.1, v).1 (natD x) = true from e), if_neg e, ih]
    · rw [if_neg h, look_cons, look_cons]
      by_cases e : keyEq p.1 (natD x) = true
      · rw [if_pos e, if_pos e]
        have : ¬ x = y := fun z => h (by rw [← z]; exact e)
        rw [if_neg this]
      · rw [if_neg e, if_neg e, ih]
theorem look_snoc {x y : Nat} {v : D} : ∀ kvs : List (D × D), look (natD x) (kvs ++ [(natD y, v)]) = match look (natD x) kvs with | some u => some u | none => if y = x then some v else none
  | [] => by
    show (if keyEq (natD y) (natD x) = true then some v else look (natD x) []) = _
    rw [key_self]
    simp [look]
  | p :: r => by
    have ih := look_snoc (x := x) (y := y) (v := v) r
    rw [List.cons_append, look_cons, look_cons]
    by_cases e : keyEq p.1 (natD x) = true
    · rw [if_pos e, if_pos e]
    · rw [if_neg e, if_neg e, ih]
theorem look_any {x : Nat} : ∀ kvs : List (D × D), (kvs.any fun p => keyEq p.1 (natD x)) = (look (natD x) kvs).isSome
  | [] => rfl
  | p :: r => by
    rw [List.any_cons, look_any r, look_cons]
    by_cases e : keyEq p.1 (natD x) = true
    · rw [if_pos e, e]; rfl
    · rw [if_neg e, show keyEq p.1 (natD x) = false by simpa using e, Bool.false_or]
theorem look_put {x y : Nat} {v : D} (kvs : List (D × D)) : look (natD x) (put (natD y) v kvs) = if y = x then some v else look (natD x) kvs := by
  unfold put
  rw [look_any]
  cases e : look (natD y) kvs with
  | none =>
    rw [if_neg (by simp), look_snoc]
    by_cases h : y = x
    · rw [h] at e
      rw [h, e]
    · simp only [if_neg h]
      cases look (natD x) kvs <;> rfl
  | some u =>
    rw [if_pos (by simp), look_map]
    by_cases h : y = x
    · rw [if_pos h.symm, if_pos h, ← h, e]
      rfl
    · rw [if_neg (Ne.symm h), if_neg h]
/-- name to place -/
def backD (l : List (Nat × Nat)) (acc : List (D × D)) : List (D × D) := (l.map fun p => (natD p.1, natD p.2)).foldl (fun acc p => put p.1 p.2 acc) acc
theorem look_back {x i : Nat} : ∀ (l : List (Nat × Nat)) (acc : List (D × D)), (l.map (·.1)).Nodup → ((x, i) ∈ l ∨ (x ∉ l.map (·.1) ∧ look (natD x) acc = some (natD i))) → look (natD x) (backD l acc) = some (natD i)
  | [], acc, _, h => by
    rcases h with h | h
    · cases h
    · exact h.2
  | p :: r, acc, nd, h => by
    show look (natD x) (backD r (put (natD p.1) (natD p.2) acc)) = _
    rw [List.map_cons] at nd
    obtain ⟨n1, n2⟩ := List.nodup_cons.mp nd
    refine look_back r _ n2 ?_
    rcases h with h | h
    · rcases List.mem_cons.mp h with e | h
      · refine .inr ⟨by rw [← e] at n1; exact n1, ?_⟩
        rw [look_put, if_pos (by rw [← e]), ← e]
      · exact .inl h
    · rw [List.map_cons, List.mem_cons, not_or] at h
      refine .inr ⟨h.1.2, ?_⟩
      rw [look_put, if_neg (Ne.symm h.1.1)]
      exact h.2
theorem pairs_map : ∀ l : List (Nat × Nat), pairs? (l.map fun p => D.tup [natD p.1, natD p.2]) = some (l.map fun p => (natD p.1, natD p.2))
  | [] => rfl
  | p :: r => by
    show (pairs? (r.map fun p => D.tup [natD p.1, natD p.2])).map ((natD p.1, natD p.2) :: ·) = _
    rw [pairs_map r]
    rfl
theorem bi_dict (l : List (Nat × Nat)) : D.bi .dict [.lst (l.map fun p => D.tup [natD p.1, natD p.2])] = some (.dct (backD l [])) := by
  show (pairs? (l.map fun p => D.tup [natD p.1, natD p.2])).map (fun ps => D.dct (ps.foldl (fun acc p => put p.1 p.2 acc) [])) = _
  rw [pairs_map]
  rfl
theorem ncp_put {k v : D} (hk : noclo k = true) (hv : noclo v = true) : ∀ {kvs : List (D × D)}, noclp kvs = true → noclp (kvs ++ [(k, v)]) = true ∧ noclp (kvs.map fun p => if keyEq p.1 k = true then (p.1, v) else p) = true
  | [], _ => by
    refine ⟨?_, rfl⟩
    show (noclo k && noclo v && true) = true
    rw [hk, hv]; rfl
  | (a, b) :: r, h => by
    have h : (noclo a && noclo b && noclp r) = true := h
    rw [Bool.and_eq_true, Bool.and_eq_true] at h
    obtain ⟨i1, i2⟩ := ncp_put hk hv h.2
    refine ⟨?_, ?_⟩
    · show (noclo a && noclo b && noclp (r ++ [(k, v)])) = true
      rw [h.1.1, h.1.2, i1]; rfl
    · rw [List.map_cons]
      split
      · show (noclo a && noclo v && noclp (r.map _)) = true
        rw [h.1.1, hv, i2]; rfl
      · show (noclo a && noclo b && noclp (r.map _)) = true
        rw [h.1.1, h.1.2, i2]; rfl
theorem ncp_back : ∀ (l : List (Nat × Nat)) (acc : List (D × D)), noclp acc = true → noclp (backD l acc) = true
  | [], _, h => h
  | p :: r, acc, h => by
    refine ncp_back r _ ?_
    show noclp (put (natD p.1) (natD p.2) acc) = true
    unfold put
    split
    · exact (ncp_put (k := natD p.1) rfl (v := natD p.2) rfl h).2
    · exact (ncp_put (k := natD p.1) rfl (v := natD p.2) rfl h).1
/-! ### sorted -/
theorem sort_nats {l : List Nat} (h : l.length ≤ LIM) : D.bi .sorted [.lst (natsD l)] = some (.lst (natsD (l.mergeSort fun a b => decide (a ≤ b)))) := by
  have e0 : sortable (natsD l) = true := by
    unfold sortable natsD
    rw [List.all_map, List.all_map, List.all_map, List.all_map]
    have a1 : (l.all (D.ok ∘ natD)) = true := List.all_eq_true.mpr fun x _ => sok_ok (n := 0) (d := natD x) rfl (by decide)
    have a2 : (l.all ((fun x => (l.map natD).all fun y => PySem.W.alike x.py y.py) ∘ natD)) = true := List.all_eq_true.mpr fun x _ => by
      show ((l.map natD).all fun y => PySem.W.alike (natD x).py y.py) = true
      rw [List.all_map]
      exact List.all_eq_true.mpr fun y _ => rfl
    have a3 : (l.all (notNT ∘ natD)) = true := List.all_eq_true.mpr fun x _ => rfl
    rw [a1, a2, a3, Bool.or_true]
    rfl
  show (if (sortable (natsD l) && decide ((natsD l).length ≤ LIM)) = true then some (D.lst ((natsD l).mergeSort dle)) else none) = _
  rw [e0, decide_eq_true (by unfold natsD; rw [List.length_map]; exact h), if_pos (show (true && true) = true from rfl)]
  congr 2
  unfold natsD
  rw [List.map_mergeSort (s := dle) (r := fun a b => decide (a ≤ b)) fun a _ b _ => ?_]
  show decide (a ≤ b) = !PySem.W.dataLt (.int b) (.int a)
  rw [PySem.W.dataLt_int, ← decide_not]
  exact decide_eq_decide.mpr (by omega)
theorem sorted_eq {l k : List Nat} (hp : l.Perm k) (hs : k.Pairwise (· ≤ ·)) : l.mergeSort (fun a b => decide (a ≤ b)) = k := by
  refine List.Perm.eq_of_pairwise (le := fun a b => decide (a ≤ b) = true) ?_ ?_ ?_ ((List.mergeSort_perm _ _).trans hp)
  · intro a b _ _ h1 h2
    rw [decide_eq_true_eq] at h1 h2
    omega
  · exact List.pairwise_mergeSort (le := fun a b => decide (a ≤ b)) (fun a b c h1 h2 => by rw [decide_eq_true_eq] at *; omega) (fun a b => by rw [Bool.or_eq_true, decide_eq_true_eq, decide_eq_true_eq]; omega) l
  · exact hs.imp fun h => by rw [decide_eq_true_eq]; exact h
/-! ### index -/
theorem index_tup {l : List Nat} {x i : Nat} (h : l[i]? = some x) (hf : ∀ j, j < i → l[j]? ≠ some x) : D.bi .index [lotD l, natD x] = some (natD i) := by
  show (if ((natD x).ok && (D.tup (natsD l)).ok) = true then (PySem.SeqAt.dataPlace (pys (natsD l)) (natD x).py).map fun (n : Nat) => D.int n else none) = _
  rw [sok_ok (n := 0) (d := natD x) rfl (by decide), sok_ok (sok_nats l) (by decide), if_pos (show (true && true) = true from rfl)]
  have e : PySem.SeqAt.dataPlace (pys (natsD l)) (natD x).py = some i := by
    unfold PySem.SeqAt.dataPlace
    have hp : pys (natsD l) = l.map fun a => (natD a).py := by
      unfold natsD
      induction l generalizing i with
      | nil => rfl
      | cons a r ih =>
        show (natD a).py :: pys (r.map natD) = _
        rw [List.map_cons]
        congr 1
        clear h hf ih
        induction r with
        | nil => rfl
        | cons b t ih2 =>
          show (natD b).py :: pys (t.map natD) = _
          rw [List.map_cons, ih2]
    rw [hp, List.findIdx?_map]
    have hc : ((fun y => PyData.eqv y (natD x).py) ∘ fun a : Nat => (natD a).py) = fun a => decide (a = x) := by
      funext a
      show PyData.eqv (natD a).py (natD x).py = _
      rw [Bool.eq_iff_iff, eqv_sok (natD a) (natD x) 0 0 rfl rfl, natD_inj, decide_eq_true_eq]
    rw [hc]
    have hi := (List.getElem?_eq_some_iff.mp h).1
    rw [List.findIdx?_eq_some_iff_getElem]
    refine ⟨hi, ?_, fun j hj => ?_⟩
    · rw [decide_eq_true_eq]
      exact (List.getElem?_eq_some_iff.mp h).2
    · simp only [decide_eq_true_eq]
      intro e
      exact hf j hj (by rw [List.getElem?_eq_getElem (by omega), e])
  rw [e]
  rfl
/-! ### lists of one's own -/
section
variable {S : Type} {call : Nat → List D → M S D} {env : Env}
theorem wq_while {c : Ex} {body r : List St} {I : Nat → Env → Prop} {Q : Fl → Prop} {m : Nat} (hm : m < WL) (h0 : I m env) (hc : ∀ k e, I k e → Ev call c e (.bl (decide (0 < k)))) (hb : ∀ k e, I (k + 1) e → Wp (exs call body e) fun f => ∃ e2, f = .nxt e2 ∧ I k e2) (k : ∀ e, I 0 e → Wp (exs call r e) Q) : Wp (exs call (.while c body :: r) env) Q := by
  show Wp (M.bind (whileL (fun e => M.bind (ev call c e) fun x => M.opt (asBl x)) (exs call body) WL env) (fun f => match f with | .nxt e => exs call r e | f => M.pure f)) Q
  have loop : ∀ (m n : Nat) (e : Env), m < n → I m e → Wp (whileL (fun e => M.bind (ev call c e) fun x => M.opt (asBl x)) (exs call body) n e) fun f => ∃ e2, f = .nxt e2 ∧ I 0 e2 := fun m => by
    induction m with
    | zero =>
      intro n e hn he
      cases n with
      | zero => omega
      | succ n =>
        show Wp (M.bind (M.bind (ev call c e) fun x => M.opt (asBl x)) fun k => if k = true then M.bind (exs call body e) (fun f => match f with
          | .nxt e => whileL (fun e => M.bind (ev call c e) fun x => M.opt (asBl x)) (exs call body) n e
          | .cnt e => whileL (fun e => M.bind (ev call c e) fun x => M.opt (asBl x)) (exs call body) n e
          | .brk e => M.pure (.nxt e)
          | .ret d => M.pure (.ret d)) else M.pure (.nxt e)) _
        rw [(hc 0 e he).bind]
        exact wp_pure ⟨e, rfl, he⟩
    | succ m ih =>
      intro n e hn he
      cases n with
      | zero => omega
      | succ n =>
        show Wp (M.bind (M.bind (ev call c e) fun x => M.opt (asBl x)) fun k => if k = true then M.bind (exs call body e) (fun f => match f with
          | .nxt e => whileL (fun e => M.bind (ev call c e) fun x => M.opt (asBl x)) (exs call body) n e
          | .cnt e => whileL (fun e => M.bind (ev call c e) fun x => M.opt (asBl x)) (exs call body) n e
          | .brk e => M.pure (.nxt e)
          | .ret d => M.pure (.ret d)) else M.pure (.nxt e)) _
        rw [(hc (m + 1) e he).bind, decide_eq_true (show 0 < m + 1 by omega)]
        show Wp (M.bind (exs call body e) _) _
        refine wp_bind (hb m e he) fun f ⟨e2, e3, he2⟩ => ?_
        subst e3
        exact ih n e2 (by omega) he2
  refine wp_bind (loop m WL env hm h0) fun f ⟨e2, e3, he2⟩ => ?_
  subst e3
  exact k e2 he2
/-- xs.append(ys.pop(e)) -/
theorem wq_appPop {i j : Nat} {e : Ex} {r : List St} {P : D → Prop} {Q : Fl → Prop} {xs ys : List D} (hij : i ≠ j) (hi : env.own i = some (.lst xs)) (hj : env.own j = some (.lst ys)) (hl : xs.length < LIM) (he : Wp (ev call e env) P)
    (k : ∀ d, P d → ∃ (n : Int) (p : D × List D), d = .int n ∧ popAt ys (some n) = some p ∧ Wp (exs call r ((env.set j (.ow (.lst p.2))).set i (.ow (.lst (xs ++ [p.1]))))) Q) : Wp (exs call (.appPop i j (some e) :: r) env) Q := by
  show Wp (M.bind (M.bind (M.opt (lstAt env i)) fun ys => M.bind (popM (evo call (some e) env) j env) fun p => M.need (decide (i ≠ j) && decide (ys.length < LIM)) (M.pure (Fl.nxt (p.2.set i (.ow (.lst (ys ++ [p.1]))))))) (fun f => match f with | .nxt e => exs call r e | f => M.pure f)) Q
  have e1 : lstAt env i = some xs := by
    unfold lstAt
    rw [hi]
  have e2 : lstAt env j = some ys := by
    unfold lstAt
    rw [hj]
  rw [e1, optS, bindP]
  refine wp_bind (P := fun f => ∃ (d : D) (n : Int) (p : D × List D), P d ∧ d = .int n ∧ popAt ys (some n) = some p ∧ f = .nxt ((env.set j (.ow (.lst p.2))).set i (.ow (.lst (xs ++ [p.1]))))) (wp_bind (P := fun q => ∃ (d : D) (n : Int) (p : D × List D), P d ∧ d = .int n ∧ popAt ys (some n) = some p ∧ q = (p.1, env.set j (.ow (.lst p.2)))) ?_ fun q ⟨d, n, p, h1, h2, h3, h4⟩ => ?_) fun f ⟨d, n, p, h1, h2, h3, h4⟩ => ?_
  · show Wp (M.bind (M.opt (lstAt env j)) fun xs => M.bind (M.bind (ev call e env) fun x => M.bind (M.opt (asInt x)) fun i => M.pure (some i)) fun k => M.bind (M.opt (popAt xs k)) fun p => M.pure (p.1, env.set j (.ow (.lst p.2)))) _
    rw [e2, optS, bindP]
    refine wp_bind (P := fun o => ∃ (d : D) (n : Int), P d ∧ d = .int n ∧ o = some n) (wp_bind he fun d hd => ?_) fun o ⟨d, n, h1, h2, h3⟩ => ?_
    · obtain ⟨n, p, h2, _⟩ := k d hd
      subst h2
      exact wp_pure ⟨_, n, hd, rfl, rfl⟩
    · obtain ⟨n', p, h4, h5, _⟩ := k d h1
      subst h2
      cases h4
      subst h3
      rw [h5, optS, bindP]
      exact wp_pure ⟨_, n, p, h1, rfl, h5, rfl⟩
  · subst h4
    exact wp_need (by rw [decide_eq_true hij, decide_eq_true hl]; rfl) (wp_pure ⟨d, n, p, h1, h2, h3, rfl⟩)
  · subst h4
    obtain ⟨n', p', h5, h6, h7⟩ := k d h1
    rw [h2] at h5
    cases h5
    rw [h3] at h6
    cases h6
    exact h7
theorem erase_map : ∀ (l : List Nat) (i : Nat), (l.map natD).eraseIdx i = (l.eraseIdx i).map natD
  | [], _ => rfl
  | _ :: _, 0 => rfl
  | a :: r, i + 1 => by
    show natD a :: (r.map natD).eraseIdx i = natD a :: (r.eraseIdx i).map natD
    rw [erase_map r i]
theorem pop_map {l : List Nat} {i x : Nat} (h : l[i]? = some x) : popAt (natsD l) (some (i : Int)) = some (natD x, natsD (l.eraseIdx i)) := by
  have hl := (List.getElem?_eq_some_iff.mp h).1
  show (L2.ixN (natsD l).length i).bind (fun k => ((natsD l)[k]?).map fun y => (y, (natsD l).eraseIdx k)) = _
  unfold L2.ixN natsD
  rw [List.length_map, if_pos (Int.natCast_nonneg i), if_pos (by omega)]
  show ((l.map natD)[((i : Int)).toNat]?).map (fun y => (y, (l.map natD).eraseIdx ((i : Int)).toNat)) = _
  rw [Int.toNat_natCast, List.getElem?_map, h]
  show some (natD x, (l.map natD).eraseIdx i) = _
  rw [erase_map]
end
end Mp

set_option Elab.async false
set_option linter.all false
set_option maxRecDepth 100000
set_option maxHeartbeats 4000000
/-! Plain tools: further rules for what draws. -/
namespace Mp
open PySem (Str PyData)
section
variable {S : Type} {call : Nat → List D → M S D} {env : Env}
theorem we_idx {a i : Ex} {x : D} {P Q : D → Prop} (ha : Ev call a env x) (hb : Wp (ev call i env) P) (k : ∀ y, P y → ∃ d, D.idx x y = some d ∧ Q d) : Wp (ev call (.idx a i) env) Q := by
  show Wp (M.bind (ev call a env) (fun x => M.bind (ev call i env) fun y => M.opt (D.idx x y))) Q
  rw [ha.bind]
  refine wp_bind hb fun y hy => ?_
  obtain ⟨d, e, q⟩ := k y hy
  exact wp_opt e q
theorem we_and {a b : Ex} (ha : Wp (ev call a env) fun d => ∃ k, d = .bl k) (hb : Wp (ev call b env) fun d => ∃ k, d = .bl k) : Wp (ev call (.and a b) env) fun d => ∃ k, d = .bl k := by
  show Wp (M.bind (ev call a env) (fun x => M.bind (M.opt (asBl x)) fun k => if k = true then ev call b env else M.pure (D.bl false))) _
  refine wp_bind ha fun d ⟨k, e⟩ => ?_
  subst e
  cases k with
  | true => exact hb
  | false => exact wp_pure ⟨false, rfl⟩
theorem we_cmp {op : Cop} {a b : Ex} {x : D} {P : D → Prop} (hb : Ev call b env x) (ha : Wp (ev call a env) P) (k : ∀ y, P y → ∃ k, D.cmp op y x = some k) : Wp (ev call (.cmp op a b) env) fun d => ∃ k, d = .bl k := by
  show Wp (M.bind (ev call a env) (fun x => M.bind (ev call b env) fun y => M.opt ((D.cmp op x y).map D.bl))) _
  refine wp_bind ha fun y hy => ?_
  rw [hb.bind]
  obtain ⟨j, e⟩ := k y hy
  rw [e]
  exact wp_pure ⟨j, rfl⟩
theorem we_evs2 {a b : Ex} {P Q : D → Prop} (ha : Wp (ev call a env) P) (hb : Wp (ev call b env) Q) : Wp (evs call [a, b] env) fun ds => ∃ x y, ds = [x, y] ∧ P x ∧ Q y :=
  wp_mono (we_cons ha (we_cons hb we_nil)) fun ds ⟨x, r, e, hx, y, r2, e2, hy, e3⟩ => ⟨x, y, by rw [e, e2, e3], hx, hy⟩
theorem we_evs3 {a b c : Ex} {P Q R : D → Prop} (ha : Wp (ev call a env) P) (hb : Wp (ev call b env) Q) (hc : Wp (ev call c env) R) : Wp (evs call [a, b, c] env) fun ds => ∃ x y z, ds = [x, y, z] ∧ P x ∧ Q y ∧ R z :=
  wp_mono (we_cons ha (we_cons hb (we_cons hc we_nil))) fun ds ⟨x, r, e, hx, y, r2, e2, hy, z, r3, e3, hz, e4⟩ => ⟨x, y, z, by rw [e, e2, e3, e4], hx, hy, hz⟩
theorem Evs.wp {es : List Ex} {ds : List D} {P : List D → Prop} (h : Evs call es env ds) (p : P ds) : Wp (evs call es env) P := wp_eq h p
/-- m[k][l] = v of a list of lists -/
theorem wq_put2 {i : Nat} {k l e : Ex} {r : List St} {Q : Fl → Prop} {Pv Pk Pl : D → Prop} {rows : List D} (hi : env.mat i = some (.lst rows)) (he : Wp (ev call e env) Pv) (hk : Wp (ev call k env) Pk) (hl : Wp (ev call l env) Pl)
    (q : ∀ v kv lv, Pv v → Pk kv → Pl lv → ∃ p r2, rowAt rows kv = some p ∧ D.putAt (.lst p.2) lv v = some r2 ∧ Wp (exs call r (env.set i (.mx (.lst (rows.set p.1 r2))))) Q) : (∃ v, Pv v) → (∃ v, Pl v) → Wp (exs call (.put2 i k l e :: r) env) Q := fun _ hpl => by
  show Wp (M.bind (M.bind (ev call e env) fun v => M.bind (M.opt (matAt env i)) fun rows => M.bind (ev call k env) fun kv => M.bind (M.opt (rowAt rows kv)) fun p => M.bind (ev call l env) fun lv => M.bind (M.opt (D.putAt (.lst p.2) lv v)) fun r =>
      M.pure (Fl.nxt (env.set i (.mx (.lst (rows.set p.1 r)))))) (fun f => match f with | .nxt e => exs call r e | f => M.pure f)) Q
  have em : matAt env i = some rows := by
    unfold matAt
    rw [hi]
  refine wp_bind (P := fun f => ∃ e2, f = .nxt e2 ∧ Wp (exs call r e2) Q) (wp_bind he fun v hv => ?_) fun f ⟨e2, e3, w⟩ => ?_
  · rw [em, optS, bindP]
    refine wp_bind hk fun kv hkv => ?_
    obtain ⟨lv0, hlv0⟩ := hpl
    obtain ⟨p, r2, e4, _, _⟩ := q v kv lv0 hv hkv hlv0
    rw [e4, optS, bindP]
    refine wp_bind hl fun lv hlv => ?_
    obtain ⟨p', r3, e5, e6, w⟩ := q v kv lv hv hkv hlv
    rw [e4] at e5
    cases e5
    rw [e6, optS, bindP]
    exact wp_pure ⟨_, rfl, w⟩
  · subst e3
    exact w
end
end Mp

set_option Elab.async false
set_option linter.all false
set_option maxRecDepth 100000
set_option maxHeartbeats 4000000
/-! Plain tools: sorted in general, lots, == of instances. -/
namespace Mp
open PySem (Str PyData)
/-! ### sorted -/
theorem dle_def (a b : D) : dle a b = !PyProof.Rows.lexLt PyProof.Rows.itemOrd (PySem.W.keyToks b.py) (PySem.W.keyToks a.py) := rfl
theorem dle_trans (a b c : D) (h1 : dle a b = true) (h2 : dle b c = true) : dle a c = true := by
  rw [dle_def, Bool.not_eq_true'] at *
  cases h : PyProof.Rows.lexLt PyProof.Rows.itemOrd (PySem.W.keyToks c.py) (PySem.W.keyToks a.py) with
  | false => rfl
  | true =>
    rcases (PyProof.Rows.listOrd PyProof.Rows.itemOrd).negTrans _ (PySem.W.keyToks b.py) _ h with z | z
    · rw [show PyProof.Rows.lexLt PyProof.Rows.itemOrd _ _ = true from z] at h2; cases h2
    · rw [show PyProof.Rows.lexLt PyProof.Rows.itemOrd _ _ = true from z] at h1; cases h1
theorem dle_total (a b : D) : (dle a b || dle b a) = true := by
  rw [dle_def, dle_def]
  cases h1 : PyProof.Rows.lexLt PyProof.Rows.itemOrd (PySem.W.keyToks b.py) (PySem.W.keyToks a.py) with
  | false => rfl
  | true =>
    cases h2 : PyProof.Rows.lexLt PyProof.Rows.itemOrd (PySem.W.keyToks a.py) (PySem.W.keyToks b.py) with
    | false => rfl
    | true =>
      have := (PyProof.Rows.listOrd PyProof.Rows.itemOrd).trans _ _ _ h1 h2
      rw [(PyProof.Rows.listOrd PyProof.Rows.itemOrd).irrefl] at this
      cases this
theorem sort_pw (xs : List D) : (xs.mergeSort dle).Pairwise fun a b => dle a b = true := List.pairwise_mergeSort dle_trans dle_total xs
/-- () stands first -/
theorem sort_empty {xs : List D} (h : D.tup [] ∈ xs) (ht : ∀ x ∈ xs, isTup x = true) (hnd : xs.Nodup) : ∃ r, xs.mergeSort dle = D.tup [] :: r ∧ (D.tup [] :: r).Perm xs ∧ ∀ x ∈ r, x ∈ xs ∧ x ≠ D.tup [] := by
  have hp := List.mergeSort_perm xs dle
  have pw := sort_pw xs
  cases e : xs.mergeSort dle with
  | nil =>
    rw [e] at hp
    have := hp.mem_iff.mpr h
    cases this
  | cons y r =>
    rw [e] at hp pw
    have hy : y = D.tup [] := by
      rcases List.mem_cons.mp (hp.mem_iff.mpr h) with z | z
      · exact z.symm
      · have h1 := (List.pairwise_cons.mp pw).1 _ z
        have h2 := ht y (hp.mem_iff.mp List.mem_cons_self)
        cases y with
        | tup l =>
          cases l with
          | nil => rfl
          | cons x l =>
            have : PySem.W.dataLt (.tuple []) (.tuple (x.py :: pys l)) = true := by
              unfold PySem.W.dataLt
              simp [PySem.W.keyToks, PySem.W.keyToksAll, PyProof.Rows.lexLt, PyProof.Rows.itemLt]
            have h1 : (!PySem.W.dataLt (.tuple []) (.tuple (x.py :: pys l))) = true := h1
            rw [this] at h1
            cases h1
        | _ => cases h2
    subst hy
    have nd : (D.tup [] :: r).Nodup := hp.nodup_iff.mpr hnd
    refine ⟨r, rfl, hp, fun x hx => ⟨hp.mem_iff.mp (List.mem_cons_of_mem _ hx), fun z => ?_⟩⟩
    subst z
    exact (List.nodup_cons.mp nd).1 hx
/-! ### == of instances -/
section
variable {S : Type} {G : Nat → Option Fn} {dr : Dr S} {n : Nat} {call : Nat → List D → M S D} {env : Env}
theorem call_eqf {f np ns : Nat} {body : List St} {args : List D} {d : D} (hG : G f = some (.eqf np ns body)) (hl : (args.length == np) = true) (h : exs (callN G dr n) body (args.map Slot.fz ++ List.replicate (ns - np) Slot.un) = M.pure (.ret d)) : callN G dr (n + 2) f args = M.pure d := by
  rw [callN_eqf G dr hG]
  show M.need (args.length == np) (M.bind (exs (callN G dr n) body (args.map Slot.fz ++ List.replicate (ns - np) Slot.un)) _) = _
  rw [needT hl, h]
  rfl
theorem ev_ecmp {ne : Bool} {c f : Nat} {a b : Ex} {x y : D} {k : Bool} (ha : Ev call a env x) (hb : Ev call b env y) (hi : (isIns c x && isIns c y) = true) (h : call f [x, y] = M.pure (.bl k)) : Ev call (.ecmp ne c f a b) env (.bl (Bool.xor ne k)) := by
  show M.bind (ev call a env) (fun x => M.bind (ev call b env) fun y => M.need (isIns c x && isIns c y) (M.bind (call f [x, y]) fun r => M.bind (M.opt (asBl r)) fun k => M.pure (D.bl (Bool.xor ne k)))) = _
  rw [ha.bind, hb.bind, needT hi, h]
  rfl
end
/-! ### more rules -/
theorem all_true {α : Type} (l : List α) : D.bi .all [.lst (l.map fun _ => D.bl true)] = some (.bl true) := by
  have := all_map (p := fun _ : α => true) l
  rw [List.all_eq_true.mpr fun _ _ => rfl] at this
  exact this
theorem cut1 {α : Type} (l : List α) : cut l (some 1) none = l.drop 1 := by
  unfold cut
  have e : HT.sIx l.length 0 (some 1) = min 1 l.length := HT.sIx_nat _ _ 1
  rw [e, HT.sIx_none]
  cases l with
  | nil => rfl
  | cons a r =>
    rw [show min 1 (a :: r).length = 1 by rw [List.length_cons]; omega, List.take_of_length_le]
    rw [List.length_drop]
    omega
theorem cutTo {α : Type} (l : List α) (k : Nat) : cut l none (some (k : Int)) = l.take k := by
  unfold cut
  rw [HT.sIx_none, HT.sIx_nat, List.drop_zero, Nat.sub_zero, List.take_eq_take_iff]
  omega
theorem idx_first {l : List Nat} {x : Nat} (h : x ∈ l) : D.bi .index [lotD l, natD x] = some (natD (l.idxOf x)) := by
  have hl := List.idxOf_lt_length_of_mem h
  refine index_tup ?_ fun j hj e => ?_
  · rw [List.getElem?_eq_getElem hl]
    congr 1
    exact List.getElem_idxOf hl
  · have hj2 : j < l.findIdx (· == x) := hj
    have := List.not_of_lt_findIdx hj2
    rw [List.getElem?_eq_getElem (by omega)] at e
    have e := Option.some.inj e
    simp [e] at this
theorem zip_nats : ∀ l k : List Nat, zipD (natsD l) (natsD k) = (l.zip k).map fun p => D.tup [natD p.1, natD p.2]
  | [], _ => rfl
  | _ :: _, [] => rfl
  | a :: l, b :: k => by
    show D.tup [natD a, natD b] :: zipD (natsD l) (natsD k) = _
    rw [zip_nats l k]
    rfl
theorem small_of {a : Nat} (h : a < 1000000) : small (a : Int) = true := by
  unfold small
  rw [decide_eq_true (by omega), decide_eq_true (by omega)]
  rfl
theorem add_nat {a b : Nat} : D.bin .add (natD a) (natD b) = some (natD (a + b)) := rfl
theorem mul_nat {a b : Nat} (h : b < 1000000) : D.bin .mul (natD a) (natD b) = some (natD (a * b)) := by
  show (if (small (a : Int) || small (b : Int)) = true then some (D.int ((a : Int) * (b : Int))) else none) = _
  rw [small_of h, Bool.or_true, if_pos rfl]
  rfl
theorem div_nat {a b : Nat} (h0 : 0 < b) (h : b < 1000000) : D.bin .fdiv (natD a) (natD b) = some (natD (a / b)) := by
  show (if (decide (0 < (b : Int)) && decide ((b : Int) < 1073741824)) = true then some (D.int ((a : Int) / (b : Int))) else none) = _
  rw [decide_eq_true (by omega), decide_eq_true (by omega)]
  rfl
theorem mod_nat {a b : Nat} (h0 : 0 < b) : D.bin .mod (natD a) (natD b) = some (natD (a % b)) := by
  show (if decide (0 < (b : Int)) = true then some (D.int ((a : Int) % (b : Int))) else none) = _
  rw [decide_eq_true (by omega)]
  rfl
section
variable {S : Type} {call : Nat → List D → M S D} {env : Env}
theorem ev_ite {c a b : Ex} {k : Bool} {d : D} (hc : Ev call c env (.bl k)) (ha : k = true → Ev call a env d) (hb : k = false → Ev call b env d) : Ev call (.ite c a b) env d := by
  show M.bind (ev call c env) (fun x => M.bind (M.opt (asBl x)) fun k => if k = true then ev call a env else ev call b env) = _
  rw [hc.bind]
  cases k with
  | true => exact ha rfl
  | false => exact hb rfl
theorem we_bin {op : Bop} {a b : Ex} {x : D} {P Q : D → Prop} (ha : Ev call a env x) (hb : Wp (ev call b env) P) (k : ∀ y, P y → ∃ d, D.bin op x y = some d ∧ Q d) : Wp (ev call (.bin op a b) env) Q := by
  show Wp (M.bind (ev call a env) (fun x => M.bind (ev call b env) fun y => M.opt (D.bin op x y))) Q
  rw [ha.bind]
  refine wp_bind hb fun y hy => ?_
  obtain ⟨d, e, q⟩ := k y hy
  exact wp_opt e q
/-- a for by its places -/
theorem wq_fori {tg : Tg} {it : It} {body r : List St} {xs : List D} {I : Nat → Env → Prop} {Q : Fl → Prop} (hi : Evi call it env xs) (h0 : I 0 env) (hb : ∀ i x, xs[i]? = some x → ∀ e, I i e → ∃ e1, tg.store x e = some e1 ∧ Wp (exs call body e1) fun f => ∃ e2, f = .nxt e2 ∧ I (i + 1) e2) (k : ∀ e, I xs.length e → Wp (exs call r e) Q) : Wp (exs call (.for tg it body :: r) env) Q := by
  show Wp (M.bind (M.bind (evi call it env) fun xs => forL tg (exs call body) xs env) (fun f => match f with | .nxt e => exs call r e | f => M.pure f)) Q
  rw [hi.bind]
  have loop : ∀ (ys : List D) (j : Nat) (e : Env), (∀ i x, ys[i]? = some x → xs[j + i]? = some x) → I j e → Wp (forL tg (exs call body) ys e) fun f => ∃ e2, f = .nxt e2 ∧ I (j + ys.length) e2 := fun ys => by
    induction ys with
    | nil => intro j e _ he; exact wp_pure ⟨e, rfl, he⟩
    | cons x r ih =>
      intro j e hm he
      obtain ⟨e1, h1, h2⟩ := hb j x (hm 0 x rfl) e he
      show Wp (M.bind (M.opt (tg.store x e)) fun env1 => M.bind (exs call body env1) fun f => match f with
        | .nxt e => forL tg (exs call body) r e
        | .cnt e => forL tg (exs call body) r e
        | .brk e => M.pure (.nxt e)
        | .ret d => M.pure (.ret d)) _
      rw [h1, optS, bindP]
      refine wp_bind h2 fun f ⟨e2, e3, he2⟩ => ?_
      subst e3
      refine wp_mono (ih (j + 1) e2 (fun i y hy => by rw [Nat.add_assoc, Nat.add_comm 1]; exact hm (i + 1) y hy) he2) fun f ⟨e4, h5, h6⟩ => ⟨e4, h5, ?_⟩
      rw [List.length_cons, show j + (r.length + 1) = j + 1 + r.length by omega]
      exact h6
  refine wp_bind (loop xs 0 env (fun i x h => by rw [Nat.zero_add]; exact h) h0) fun f ⟨e2, e3, he2⟩ => ?_
  subst e3
  rw [Nat.zero_add] at he2
  exact k e2 he2
/-- a for that leaves all but some places as they were -/
theorem wq_for1 (i : Nat) {tg : Tg} {it : It} {body r : List St} {xs : List D} {Q : Fl → Prop} {a0 : Slot} (hi : Evi call it env xs) (h0 : env = env.set i a0)
    (hb : ∀ x ∈ xs, ∀ a, ∃ e1, tg.store x (env.set i a) = some e1 ∧ Wp (exs call body e1) fun f => ∃ a, f = .nxt (env.set i a)) (k : ∀ a, Wp (exs call r (env.set i a)) Q) : Wp (exs call (.for tg it body :: r) env) Q :=
  wq_for (I := fun e => ∃ a, e = env.set i a) hi ⟨a0, h0⟩ (fun x hx e ⟨a, he⟩ => by
    subst he
    obtain ⟨e1, h1, h2⟩ := hb x hx a
    exact ⟨e1, h1, wp_mono h2 fun f ⟨a, h⟩ => ⟨_, h, a, rfl⟩⟩) fun e ⟨a, he⟩ => by subst he; exact k a
theorem wq_for2 (i j : Nat) {tg : Tg} {it : It} {body r : List St} {xs : List D} {Q : Fl → Prop} {a0 b0 : Slot} (hi : Evi call it env xs) (h0 : env = (env.set i a0).set j b0)
    (hb : ∀ x ∈ xs, ∀ a b, ∃ e1, tg.store x ((env.set i a).set j b) = some e1 ∧ Wp (exs call body e1) fun f => ∃ a b, f = .nxt ((env.set i a).set j b)) (k : ∀ a b, Wp (exs call r ((env.set i a).set j b)) Q) : Wp (exs call (.for tg it body :: r) env) Q :=
  wq_for (I := fun e => ∃ a b, e = (env.set i a).set j b) hi ⟨a0, b0, h0⟩ (fun x hx e ⟨a, b, he⟩ => by
    subst he
    obtain ⟨e1, h1, h2⟩ := hb x hx a b
    exact ⟨e1, h1, wp_mono h2 fun f ⟨a, b, h⟩ => ⟨_, h, a, b, rfl⟩⟩) fun e ⟨a, b, he⟩ => by subst he; exact k a b
/-- a for that makes a list in the slot d, and leaves all but three places else -/
theorem wq_for3l (i j l d : Nat) (g : Nat → List D) {tg : Tg} {it : It} {body r : List St} {xs : List D} {Q : Fl → Prop} {a0 b0 c0 : Slot} (hi : Evi call it env xs) (h0 : env = (((env.set i a0).set j b0).set l c0).set d (.ow (.lst (g 0))))
    (hb : ∀ t x, xs[t]? = some x → ∀ a b c, ∃ e1, tg.store x ((((env.set i a).set j b).set l c).set d (.ow (.lst (g t)))) = some e1 ∧ Wp (exs call body e1) fun f => ∃ a b c, f = .nxt ((((env.set i a).set j b).set l c).set d (.ow (.lst (g (t + 1))))))
    (k : ∀ a b c, Wp (exs call r ((((env.set i a).set j b).set l c).set d (.ow (.lst (g xs.length))))) Q) : Wp (exs call (.for tg it body :: r) env) Q :=
  wq_fori (I := fun t e => ∃ a b c, e = (((env.set i a).set j b).set l c).set d (.ow (.lst (g t)))) hi ⟨a0, b0, c0, h0⟩ (fun t x hx e ⟨a, b, c, he⟩ => by
    subst he
    obtain ⟨e1, h1, h2⟩ := hb t x hx a b c
    exact ⟨e1, h1, wp_mono h2 fun f ⟨a, b, c, h⟩ => ⟨_, h, a, b, c, rfl⟩⟩) fun e ⟨a, b, c, he⟩ => by subst he; exact k a b c
theorem wq_app {i : Nat} {e : Ex} {r : List St} {P : D → Prop} {Q : Fl → Prop} {xs : List D} (hi : env.own i = some (.lst xs)) (hl : xs.length < LIM) (he : Wp (ev call e env) P) (k : ∀ d, P d → Wp (exs call r (env.set i (.ow (.lst (xs ++ [d]))))) Q) : Wp (exs call (.app i e :: r) env) Q := by
  show Wp (M.bind (M.bind (M.opt (lstAt env i)) fun xs => M.bind (ev call e env) fun d => M.need (decide (xs.length < LIM)) (M.pure (Fl.nxt (env.set i (.ow (.lst (xs ++ [d]))))))) (fun f => match f with | .nxt e => exs call r e | f => M.pure f)) Q
  have e1 : lstAt env i = some xs := by
    unfold lstAt
    rw [hi]
  rw [e1, optS, bindP]
  refine wp_bind (P := fun f => ∃ d, P d ∧ f = .nxt (env.set i (.ow (.lst (xs ++ [d]))))) (wp_bind he fun d hd => wp_need (decide_eq_true hl) (wp_pure ⟨d, hd, rfl⟩)) fun f ⟨d, hd, e2⟩ => ?_
  subst e2
  exact k d hd
/-- a for without draws, an item at a time -/
theorem forL_cons {tg : Tg} {body : List St} {x : D} {r : List D} {e e1 e2 : Env} {f : Fl} (h : tg.store x e = some e1) (hb : Run call body e1 (.nxt e2)) (k : forL tg (exs call body) r e2 = M.pure f) : forL tg (exs call body) (x :: r) e = M.pure f := by
  show M.bind (M.opt (tg.store x e)) (fun env1 => M.bind (exs call body env1) fun f => match f with
    | .nxt e => forL tg (exs call body) r e
    | .cnt e => forL tg (exs call body) r e
    | .brk e => M.pure (.nxt e)
    | .ret d => M.pure (.ret d)) = _
  rw [h, optS, bindP, show exs call body e1 = M.pure (.nxt e2) from hb, bindP]
  exact k
theorem run_forP {tg : Tg} {it : It} {body r : List St} {xs : List D} {e2 : Env} {f : Fl} (hi : Evi call it env xs) (h : forL tg (exs call body) xs env = M.pure (.nxt e2)) (k : Run call r e2 f) : Run call (.for tg it body :: r) env f := by
  show M.bind (M.bind (evi call it env) fun xs => forL tg (exs call body) xs env) (fun f => match f with | .nxt e => exs call r e | f => M.pure f) = _
  rw [hi.bind, h, bindP]
  exact k
end
theorem as_lots {P : List Nat → Prop} : ∀ {ds : List D}, (∀ x ∈ ds, ∃ l, P l ∧ x = lotD l) → ∃ ls : List (List Nat), ds = ls.map lotD ∧ ∀ l ∈ ls, P l
  | [], _ => ⟨[], rfl, fun _ h => nomatch h⟩
  | x :: r, h => by
    obtain ⟨l, p, e⟩ := h x List.mem_cons_self
    obtain ⟨ls, e2, q⟩ := as_lots fun y hy => h y (List.mem_cons_of_mem _ hy)
    refine ⟨l :: ls, by rw [e, e2]; rfl, fun k hk => ?_⟩
    rcases List.mem_cons.mp hk with rfl | hk
    · exact p
    · exact q k hk
/-- sorted lots, () among them -/
theorem alike_lots (l k : List Nat) : PySem.W.alike (lotD l).py (lotD k).py = true := by
  show PySem.W.alike (.tuple (pys (natsD l))) (.tuple (pys (natsD k))) = true
  rw [PySem.W.alike]
  induction l generalizing k with
  | nil => cases k <;> rfl
  | cons a l ih =>
    cases k with
    | nil => rfl
    | cons b k =>
      show PySem.W.alikeAll (.int a :: pys (natsD l)) (.int b :: pys (natsD k)) = true
      rw [PySem.W.alikeAll, ih k]
      rfl
theorem sort_lots {ls : List (List Nat)} (h0 : ls.head? = some []) (nd : ls.Nodup) (hl : ls.length ≤ LIM) : ∃ r : List (List Nat), D.bi .sorted [.lst (ls.map lotD)] = some (.lst (lotD [] :: r.map lotD)) ∧ (∀ l ∈ r, l ∈ ls ∧ l ≠ []) ∧ r.length ≤ ls.length := by
  have hs : sortable (ls.map lotD) = true := by
    unfold sortable
    have a1 : (ls.map lotD).all D.ok = true := List.all_eq_true.mpr fun x hx => by
      obtain ⟨l, _, rfl⟩ := List.mem_map.mp hx
      exact sok_ok (sok_lot l) (by decide)
    have a2 : ((ls.map lotD).all fun x => (ls.map lotD).all fun y => PySem.W.alike x.py y.py) = true := List.all_eq_true.mpr fun x hx => List.all_eq_true.mpr fun y hy => by
      obtain ⟨l, _, rfl⟩ := List.mem_map.mp hx
      obtain ⟨k, _, rfl⟩ := List.mem_map.mp hy
      exact alike_lots l k
    have a3 : (ls.map lotD).all isTup = true := List.all_eq_true.mpr fun x hx => by
      obtain ⟨l, _, rfl⟩ := List.mem_map.mp hx
      rfl
    have a4 : headE (ls.map lotD) = true := by
      cases ls with
      | nil => cases h0
      | cons l r =>
        have : l = [] := by simpa using h0
        subst this
        rfl
    rw [a1, a2, a3, a4]
    simp
  have hm : lotD [] ∈ ls.map lotD := by
    cases ls with
    | nil => cases h0
    | cons l r =>
      have : l = [] := by simpa using h0
      subst this
      exact List.mem_cons_self
  have nd2 : (ls.map lotD).Nodup := by
    rw [List.Nodup, List.pairwise_map]
    exact nd.imp fun h e => h (lot_inj.mp e)
  obtain ⟨r, e, hpm, hr⟩ := sort_empty (xs := ls.map lotD) hm (fun x hx => by
    obtain ⟨l, _, rfl⟩ := List.mem_map.mp hx
    rfl) nd2
  obtain ⟨r2, e2, h2⟩ := as_lots (P := fun l => l ∈ ls ∧ l ≠ []) (ds := r) fun x hx => by
    obtain ⟨h1, h2⟩ := hr x hx
    obtain ⟨l, hl, rfl⟩ := List.mem_map.mp h1
    exact ⟨l, ⟨hl, fun z => h2 (by rw [z]; rfl)⟩, rfl⟩
  refine ⟨r2, ?_, h2, ?_⟩
  case refine_2 =>
    have := hpm.length_eq
    rw [e2, List.length_cons, List.length_map, List.length_map] at this
    omega
  show (if (sortable (ls.map lotD) && decide ((ls.map lotD).length ≤ LIM)) = true then some (D.lst ((ls.map lotD).mergeSort dle)) else none) = _
  rw [hs, decide_eq_true (by rw [List.length_map]; exact hl), e, e2]
  rfl
end Mp

set_option Elab.async false
set_option linter.all false
set_option maxRecDepth 100000
set_option maxHeartbeats 4000000
/-! Plain tools: caches, repr, loops that end early. -/
namespace Mp
open PySem (Str PyData)
section
variable {S : Type} {G : Nat → Option Fn} {dr : Dr S} {n : Nat} {call : Nat → List D → M S D} {env : Env}
theorem call_memo {f np ns c : Nat} {mv : List (Str × (D → Option D))} {key : Str ⊕ Nat} {e : Ex} {args : List D} {t d : D} {y : Str} (hG : G f = some (.memo mv np ns c key e)) (hl : (args.length == np) = true) (h0 : args[0]? = some t) (hi : isIns c t = true) (hk : keyOf args key = some y) (hm : mvAt mv t y = some d) (hp : d.pl = true)
    (he : Ev (callN G dr n) e (args.map Slot.fz ++ List.replicate (ns - np) Slot.un) d) : callN G dr (n + 1) f args = M.pure d := by
  rw [callN_memo G dr hG]
  show M.need (args.length == np) (M.bind (M.opt args[0]?) fun t => M.need (isIns c t) (M.bind (M.opt (keyOf args key)) fun k => M.bind (M.opt (mvAt mv t k)) fun d => M.need d.pl (M.det (ev (callN G dr n) e (args.map Slot.fz ++ List.replicate (ns - np) Slot.un)) d))) = _
  rw [needT hl, h0, optS, bindP, needT hi, hk, optS, bindP, hm, optS, bindP, needT hp]
  funext s
  unfold M.det
  rw [if_pos fun s => by rw [show ev (callN G dr n) e (args.map Slot.fz ++ List.replicate (ns - np) Slot.un) = M.pure d from he]; rfl]
  rfl
theorem ev_rpr {e : Ex} {x : D} (h : Ev call e env x) (hx : rprOk x = true) : Ev call (.rpr e) env (.str x.py.shown) := by
  show M.bind (ev call e env) (fun x => M.opt (biRpr [x])) = _
  rw [h.bind]
  show M.opt (if rprOk x = true then some (D.str x.py.shown) else none) = _
  rw [if_pos hx]
  rfl
theorem ev_rev {e : Ex} {xs : List D} (h : Ev call e env (.tup xs)) : Ev call (.rev e) env (.tup xs.reverse) := by
  show M.bind (ev call e env) (fun x => M.opt (revD x)) = _
  rw [h.bind]
  rfl
theorem ev_isn {e : Ex} {x : D} (h : Ev call e env x) : Ev call (.isn e) env (.bl (isNon x)) := by
  show M.bind (ev call e env) (fun x => M.pure (D.bl (isNon x))) = _
  rw [h.bind]
theorem ev_notn {e : Ex} {x : D} (h : Ev call e env x) : Ev call (.notn e) env (.bl (!isNon x)) := by
  show M.bind (ev call e env) (fun x => M.pure (D.bl (!isNon x))) = _
  rw [h.bind]
theorem run_tset {is : List (Nat × Nat)} {es : List Ex} {r : List St} {ds : List D} {env' : Env} {f : Fl} (h : Evs call es env ds) (hs : sets is ds env = some env') (k : Run call r env' f) : Run call (.tset is es :: r) env f := by
  show M.bind (M.bind (evs call es env) fun ds => M.bind (M.opt (sets is ds env)) fun e => M.pure (Fl.nxt e)) (fun f => match f with | .nxt e => exs call r e | f => M.pure f) = _
  rw [h.bind, hs]
  exact k
/-- a loop that ends at the first item for which r has an answer -/
theorem forL_find {α : Type} {tg : Tg} {body : List St} {inj : α → D} {r : α → Option D} {I : Env → Prop} : ∀ (l : List α) (e : Env), I e → (∀ a ∈ l, ∀ e, I e → ∃ e1, tg.store (inj a) e = some e1 ∧ match r a with
      | some d => exs call body e1 = M.pure (.ret d)
      | none => ∃ e2, exs call body e1 = M.pure (.nxt e2) ∧ I e2) → match l.findSome? r with
      | some d => forL tg (exs call body) (l.map inj) e = M.pure (.ret d)
      | none => ∃ e2, forL tg (exs call body) (l.map inj) e = M.pure (.nxt e2) ∧ I e2
  | [], e, he, _ => ⟨e, rfl, he⟩
  | a :: l, e, he, h => by
    obtain ⟨e1, h1, h2⟩ := h a List.mem_cons_self e he
    have step : forL tg (exs call body) ((a :: l).map inj) e = M.bind (exs call body e1) fun f => match f with
        | .nxt e => forL tg (exs call body) (l.map inj) e
        | .cnt e => forL tg (exs call body) (l.map inj) e
        | .brk e => M.pure (.nxt e)
        | .ret d => M.pure (.ret d) := by
      show M.bind (M.opt (tg.store (inj a) e)) (fun env1 => M.bind (exs call body env1) fun f => match f with
        | .nxt e => forL tg (exs call body) (l.map inj) e
        | .cnt e => forL tg (exs call body) (l.map inj) e
        | .brk e => M.pure (.nxt e)
        | .ret d => M.pure (.ret d)) = _
      rw [h1, optS, bindP]
    rw [List.findSome?_cons]
    cases hr : r a with
    | some d =>
      rw [hr] at h2
      show forL tg (exs call body) ((a :: l).map inj) e = M.pure (.ret d)
      rw [step, show exs call body e1 = M.pure (.ret d) from h2, bindP]
    | none =>
      rw [hr] at h2
      obtain ⟨e2, h3, he2⟩ := h2
      have ih := forL_find l e2 he2 fun b hb => h b (List.mem_cons_of_mem _ hb)
      show match l.findSome? r with
        | some d => forL tg (exs call body) ((a :: l).map inj) e = M.pure (.ret d)
        | none => ∃ e2, forL tg (exs call body) ((a :: l).map inj) e = M.pure (.nxt e2) ∧ I e2
      rw [step, h3, bindP]
      exact ih
/-- .. as a statement, others behind it -/
theorem run_find {α : Type} {tg : Tg} {it : It} {body rest : List St} {l : List α} {inj : α → D} {r : α → Option D} {I : Env → Prop} {f : Fl} (hi : Evi call it env (l.map inj)) (h0 : I env) (h : ∀ a ∈ l, ∀ e, I e → ∃ e1, tg.store (inj a) e = some e1 ∧ match r a with
      | some d => exs call body e1 = M.pure (.ret d)
      | none => ∃ e2, exs call body e1 = M.pure (.nxt e2) ∧ I e2) (k : match l.findSome? r with
      | some d => f = .ret d
      | none => ∀ e2, I e2 → Run call rest e2 f) : Run call (.for tg it body :: rest) env f := by
  have key := forL_find (call := call) (tg := tg) (body := body) (inj := inj) (r := r) (I := I) l env h0 h
  show M.bind (M.bind (evi call it env) fun xs => forL tg (exs call body) xs env) (fun f => match f with | .nxt e => exs call rest e | f => M.pure f) = _
  rw [hi.bind]
  cases hr : l.findSome? r with
  | some d =>
    rw [hr] at key k
    have k : f = .ret d := k
    subst k
    rw [show forL tg (exs call body) (l.map inj) env = M.pure (.ret d) from key, bindP]
  | none =>
    rw [hr] at key k
    obtain ⟨e2, h1, h2⟩ := key
    rw [h1, bindP]
    exact k e2 h2
theorem evi_from {a b : Ex} {i m : Nat} (ha : Ev call a env (natD i)) (hb : Ev call b env (natD m)) (h : m ≤ LIM) (hi : i ≤ LIM) : Evi call (.rng a b) env ((List.range' i (m - i)).map natD) := by
  have e : (List.range' i (m - i)).map natD = rngD i m := by
    unfold rngD
    rw [List.range'_eq_map_range, List.map_map, show ((m : Int) - (i : Int)).toNat = m - i by omega]
    refine List.map_congr_left fun k _ => ?_
    show natD (i + k) = D.int ((i : Int) + k)
    unfold natD
    congr 1
  rw [e]
  refine evi_rng ha hb ?_
  unfold inRng
  have := lim_def
  simp only [Bool.and_eq_true, decide_eq_true_eq]
  omega
end
/-! ### what repr may show -/
structure Lf (n k : Nat) (d : D) : Prop where
  pl : d.pl = true
  dp : d.py.depth ≤ n
  sh : d.py.showable = true
  lv : d.py.leavesShort 13 = true
  bk : d.py.bulk ≤ k
theorem Lf.ok {n k : Nat} {d : D} (h : Lf n k d) (hn : n ≤ 48) (hk : k ≤ 1000000) : rprOk d = true := by
  unfold rprOk D.ok
  rw [h.pl, h.sh, h.lv, decide_eq_true (Nat.le_trans h.dp hn), decide_eq_true (Nat.le_trans h.bk hk)]
  rfl
theorem lfs {n k : Nat} : ∀ ds : List D, (∀ x ∈ ds, Lf n k x) → pls ds = true ∧ PyData.depthAll (pys ds) ≤ n ∧ PyData.showableAll (pys ds) = true ∧ PyData.leavesShortAll 13 (pys ds) = true ∧ PyData.bulkAll (pys ds) ≤ ds.length * (k + 1)
  | [], _ => ⟨rfl, by simp [pys, PyData.depthAll], by simp [pys, PyData.showableAll], by simp [pys, PyData.leavesShortAll], by simp [pys, PyData.bulkAll]⟩
  | d :: ds, h => by
    obtain ⟨a, b, c, e, f⟩ := lfs ds fun x hx => h x (List.mem_cons_of_mem _ hx)
    have z := h d List.mem_cons_self
    refine ⟨?_, ?_, ?_, ?_, ?_⟩
    · show (d.pl && pls ds) = true
      rw [z.pl, a]; rfl
    · simp only [pys, PyData.depthAll]
      have := z.dp
      omega
    · simp only [pys, PyData.showableAll, z.sh, c, Bool.and_self]
    · simp only [pys, PyData.leavesShortAll, z.lv, e, Bool.and_self]
    · simp only [pys, PyData.bulkAll, List.length_cons, Nat.add_mul]
      have := z.bk
      omega
theorem Lf.tup {n k : Nat} {ds : List D} (h : ∀ x ∈ ds, Lf n k x) : Lf (n + 1) (ds.length * (k + 1)) (.tup ds) := by
  obtain ⟨a, b, c, e, f⟩ := lfs ds h
  exact ⟨a, by simp only [D.py, PyData.depth]; omega, by simpa [D.py, PyData.showable] using c, by simpa [D.py, PyData.leavesShort] using e, by simpa [D.py, PyData.bulk] using f⟩
theorem Lf.bl (n k : Nat) (b : Bool) : Lf n k (.bl b) := ⟨rfl, by simp [D.py, PyData.depth], by simp [D.py, PyData.showable], by simp [D.py, PyData.leavesShort], by simp [D.py, PyData.bulk]⟩
theorem Lf.mono {n k n' k' : Nat} {d : D} (h : Lf n k d) (hn : n ≤ n') (hk : k ≤ k') : Lf n' k' d := ⟨h.pl, Nat.le_trans h.dp hn, h.sh, h.lv, Nat.le_trans h.bk hk⟩
theorem Lf.nat {a : Nat} (n k : Nat) (h : a < 100) : Lf n k (natD a) := by
  refine ⟨rfl, by simp [natD, D.py, PyData.depth], ?_, ?_, by simp [natD, D.py, PyData.bulk]⟩
  · have : ∀ a, a < 100 → (natD a).py.showable = true := by decide +kernel
    exact this a h
  · have : ∀ a, a < 100 → (natD a).py.leavesShort 13 = true := by decide +kernel
    exact this a h
theorem Lf.lot {n k : Nat} {l : List Nat} (h : ∀ a ∈ l, a < 100) : Lf (n + 1) (l.length * (k + 1)) (lotD l) := by
  have := Lf.tup (n := n) (k := k) (ds := natsD l) fun x hx => by
    obtain ⟨a, ha, rfl⟩ := List.mem_map.mp hx
    exact Lf.nat n k (h a ha)
  unfold natsD at this
  rw [List.length_map] at this
  exact this
end Mp

set_option Elab.async false
set_option linter.all false
set_option maxRecDepth 100000
set_option maxHeartbeats 4000000
/-! Plain tools: three loops that look for the first three things. -/
namespace Mp
open PySem (Str PyData)
theorem fs_map {α β γ : Type} (g : β → γ) (r : α → Option β) : ∀ l : List α, (l.findSome? r).map g = l.findSome? fun a => (r a).map g
  | [] => rfl
  | a :: l => by
    rw [List.findSome?_cons, List.findSome?_cons]
    cases r a with
    | some b => rfl
    | none => exact fs_map g r l
theorem fs_congr {α β : Type} {r r' : α → Option β} : ∀ {l : List α}, (∀ a ∈ l, r a = r' a) → l.findSome? r = l.findSome? r'
  | [], _ => rfl
  | a :: l, h => by
    rw [List.findSome?_cons, List.findSome?_cons, h a List.mem_cons_self, fs_congr fun b hb => h b (List.mem_cons_of_mem _ hb)]
theorem cat_tup {xs ys : List D} (h : xs.length + ys.length ≤ LIM) : D.bin .add (.tup xs) (.tup ys) = some (.tup (xs ++ ys)) := by
  show (if xs.length + ys.length ≤ LIM then some (D.tup (xs ++ ys)) else none) = _
  rw [if_pos h]
/-- the first three things -/
def trip {α : Type} (m : Nat) (r : Nat → Nat → Nat → Option α) : Option α := (List.range m).findSome? fun a => (List.range m).findSome? fun b => (List.range' (b + 1) (m - (b + 1))).findSome? fun c => r a b c
theorem from_mem {b m c : Nat} : c ∈ List.range' (b + 1) (m - (b + 1)) ↔ b < c ∧ c < m := by
  rw [List.mem_range'_1]
  omega
theorem trip_none {α : Type} {m : Nat} {r : Nat → Nat → Nat → Option α} : trip m r = none ↔ ∀ a b c, a < m → b < c → c < m → r a b c = none := by
  unfold trip
  rw [List.findSome?_eq_none_iff]
  constructor
  · intro h a b c ha hb hc
    have h1 := List.findSome?_eq_none_iff.mp (h a (List.mem_range.mpr ha)) b (List.mem_range.mpr (by omega))
    exact List.findSome?_eq_none_iff.mp h1 c (from_mem.mpr ⟨hb, hc⟩)
  · intro h a ha
    rw [List.findSome?_eq_none_iff]
    intro b hb
    rw [List.findSome?_eq_none_iff]
    intro c hc
    obtain ⟨h1, h2⟩ := from_mem.mp hc
    exact h a b c (List.mem_range.mp ha) h1 h2
theorem trip_some {α : Type} {m : Nat} {r : Nat → Nat → Nat → Option α} {x : α} (h : trip m r = some x) : ∃ a b c, a < m ∧ b < m ∧ c < m ∧ r a b c = some x := by
  obtain ⟨a, ha, h1⟩ := List.exists_of_findSome?_eq_some h
  obtain ⟨b, hb, h2⟩ := List.exists_of_findSome?_eq_some h1
  obtain ⟨c, hc, h3⟩ := List.exists_of_findSome?_eq_some h2
  exact ⟨a, b, c, List.mem_range.mp ha, List.mem_range.mp hb, (from_mem.mp hc).2, h3⟩
theorem trip_map {α β : Type} (g : α → β) (m : Nat) (r : Nat → Nat → Nat → Option α) : (trip m r).map g = trip m fun a b c => (r a b c).map g := by
  unfold trip
  rw [fs_map]
  refine fs_congr fun a _ => ?_
  rw [fs_map]
  refine fs_congr fun b _ => ?_
  rw [fs_map]
section
variable {S : Type} {call : Nat → List D → M S D}
/-- one loop alone -/
theorem exs_find {α : Type} {tg : Tg} {it : It} {body : List St} {l : List α} {inj : α → D} {r : α → Option D} {I : Env → Prop} {env : Env} (hi : Evi call it env (l.map inj)) (h0 : I env) (h : ∀ a ∈ l, ∀ e, I e → ∃ e1, tg.store (inj a) e = some e1 ∧ match r a with
      | some d => exs call body e1 = M.pure (.ret d)
      | none => ∃ e2, exs call body e1 = M.pure (.nxt e2) ∧ I e2) : match l.findSome? r with
      | some d => exs call [.for tg it body] env = M.pure (.ret d)
      | none => ∃ e2, exs call [.for tg it body] env = M.pure (.nxt e2) ∧ I e2 := by
  have key := forL_find (call := call) (tg := tg) (body := body) (inj := inj) (r := r) (I := I) l env h0 h
  have step : exs call [.for tg it body] env = M.bind (forL tg (exs call body) (l.map inj) env) fun f => match f with | .nxt e => exs call [] e | f => M.pure f := by
    show M.bind (M.bind (evi call it env) fun xs => forL tg (exs call body) xs env) (fun f => match f with | .nxt e => exs call [] e | f => M.pure f) = _
    rw [hi.bind]
  cases hr : l.findSome? r with
  | some d =>
    rw [hr] at key
    show exs call [.for tg it body] env = M.pure (.ret d)
    rw [step, show forL tg (exs call body) (l.map inj) env = M.pure (.ret d) from key, bindP]
  | none =>
    rw [hr] at key
    obtain ⟨e2, h1, h2⟩ := key
    exact ⟨e2, by rw [step, h1, bindP]; rfl, h2⟩
/-- for a in range(m): for b in range(m): for c in range(b + 1, m): .. -/
theorem exs_trip {ia ib ic m : Nat} {mE : Ex} {bd : List St} {E : Slot → Slot → Slot → Env} {r : Nat → Nat → Nat → Option D} (hm : m ≤ LIM) (sa : ∀ x y z d, (Tg.one ia).store d (E x y z) = some (E (.fz d) y z)) (sb : ∀ x y z d, (Tg.one ib).store d (E x y z) = some (E x (.fz d) z)) (sc : ∀ x y z d, (Tg.one ic).store d (E x y z) = some (E x y (.fz d)))
    (hE : ∀ x y z, Ev call mE (E x y z) (natD m)) (hb : ∀ x b z, (E x (.fz (natD b)) z).get ib = some (natD b))
    (body : ∀ a b c, a < m → b < c → c < m → exs call bd (E (.fz (natD a)) (.fz (natD b)) (.fz (natD c))) = match r a b c with | some d => M.pure (.ret d) | none => M.pure (.nxt (E (.fz (natD a)) (.fz (natD b)) (.fz (natD c))))) (x y z : Slot) :
    match trip m r with
      | some d => exs call [.for (.one ia) (.rng (.con (.int 0)) mE) [.for (.one ib) (.rng (.con (.int 0)) mE) [.for (.one ic) (.rng (.bin .add (.var ib) (.con (.int 1))) mE) bd]]] (E x y z) = M.pure (.ret d)
      | none => ∃ e2, exs call [.for (.one ia) (.rng (.con (.int 0)) mE) [.for (.one ib) (.rng (.con (.int 0)) mE) [.for (.one ic) (.rng (.bin .add (.var ib) (.con (.int 1))) mE) bd]]] (E x y z) = M.pure (.nxt e2) ∧ ∃ x' y' z', e2 = E x' y' z' := by
  refine exs_find (l := List.range m) (inj := natD) (I := fun e => ∃ x y z, e = E x y z) (evi_nat (hE x y z) hm) ⟨x, y, z, rfl⟩ fun a ha e ⟨x1, y1, z1, he⟩ => ?_
  subst he
  have ha := List.mem_range.mp ha
  refine ⟨_, sa _ _ _ _, ?_⟩
  have k1 := exs_find (call := call) (tg := .one ib) (it := .rng (.con (.int 0)) mE) (body := [.for (.one ic) (.rng (.bin .add (.var ib) (.con (.int 1))) mE) bd]) (l := List.range m) (inj := natD) (r := fun b => (List.range' (b + 1) (m - (b + 1))).findSome? fun c => r a b c) (I := fun e => ∃ y z, e = E (.fz (natD a)) y z) (env := E (.fz (natD a)) y1 z1) (evi_nat (hE _ _ _) hm) ⟨y1, z1, rfl⟩ fun b hb2 e ⟨y2, z2, he⟩ => by
    subst he
    have hb2 := List.mem_range.mp hb2
    refine ⟨_, sb _ _ _ _, ?_⟩
    have k2 := exs_find (call := call) (tg := .one ic) (it := .rng (.bin .add (.var ib) (.con (.int 1))) mE) (body := bd) (l := List.range' (b + 1) (m - (b + 1))) (inj := natD) (r := fun c => r a b c) (I := fun e => ∃ z, e = E (.fz (natD a)) (.fz (natD b)) z) (env := E (.fz (natD a)) (.fz (natD b)) z2)
      (evi_from (ev_bin (ev_var (hb _ _ _)) (ev_con (d := natD 1)) add_nat) (hE _ _ _) hm (by omega)) ⟨z2, rfl⟩ fun c hc e ⟨z3, he⟩ => by
        subst he
        obtain ⟨h1, h2⟩ := from_mem.mp hc
        refine ⟨_, sc _ _ _ _, ?_⟩
        have q := body a b c ha h1 h2
        cases hr : r a b c with
        | some d => rw [hr] at q; exact q
        | none => rw [hr] at q; exact ⟨_, q, _, rfl⟩
    cases hf : (List.range' (b + 1) (m - (b + 1))).findSome? fun c => r a b c with
    | some d => rw [hf] at k2; exact k2
    | none =>
      rw [hf] at k2
      obtain ⟨e2, h1, z', h2⟩ := k2
      exact ⟨e2, h1, _, z', h2⟩
  cases hf : (List.range m).findSome? fun b => (List.range' (b + 1) (m - (b + 1))).findSome? fun c => r a b c with
  | some d => rw [hf] at k1; exact k1
  | none =>
    rw [hf] at k1
    obtain ⟨e2, h1, y', z', h2⟩ := k1
    exact ⟨e2, h1, _, y', z', h2⟩
/-- a statement that ends the run, others behind it -/
theorem seq_ret {t : St} {r : List St} {env : Env} {d : D} (h : exs call [t] env = M.pure (.ret d)) : Run call (t :: r) env (.ret d) := by
  have e : exs call [t] env = M.bind (ex call t env) fun f => match f with | .nxt e => exs call [] e | f => M.pure f := rfl
  show M.bind (ex call t env) (fun f => match f with | .nxt e => exs call r e | f => M.pure f) = _
  funext s
  have h := congrFun h s
  rw [e] at h
  unfold M.bind at h ⊢
  cases q : ex call t env s with
  | ok f s' =>
    rw [q] at h
    cases f with
    | nxt e => cases h
    | brk e => cases h
    | cnt e => cases h
    | ret d' => exact h
  | exc => rw [q] at h; cases h
  | bad => rw [q] at h; cases h
theorem seq_nxt {t : St} {r : List St} {env e2 : Env} {f : Fl} (h : exs call [t] env = M.pure (.nxt e2)) (k : Run call r e2 f) : Run call (t :: r) env f := by
  have e : exs call [t] env = M.bind (ex call t env) fun f => match f with | .nxt e => exs call [] e | f => M.pure f := rfl
  show M.bind (ex call t env) (fun f => match f with | .nxt e => exs call r e | f => M.pure f) = _
  funext s
  have h := congrFun h s
  have k := congrFun (show exs call r e2 = M.pure f from k) s
  rw [e] at h
  unfold M.bind at h ⊢
  cases q : ex call t env s with
  | ok f' s' =>
    rw [q] at h
    cases f' with
    | nxt e =>
      cases h
      exact k
    | brk e => cases h
    | cnt e => cases h
    | ret d' => cases h
  | exc => rw [q] at h; cases h
  | bad => rw [q] at h; cases h
end
end Mp

set_option Elab.async false
set_option linter.all false
set_option maxRecDepth 100000
set_option maxHeartbeats 4000000
/-! What the cache of a table keeps: whether it is a square. -/
namespace K07
open Mp
/-- the number at a place of a table, 0 elsewhere -/
def cellD (t : D) (a b : Nat) : Nat := match t with
  | .ins _ [_, .tup rows] => (match rows[a]? with
    | some (.tup row) => (match row[b]? with
      | some (.int i) => i.toNat
      | _ => 0)
    | _ => 0)
  | _ => 0
def sizeD : D → Nat
  | .ins _ (.int m :: _) => m.toNat
  | _ => 0
/-- products by a thing are unlike on both sides -/
def sqB (m : Nat) (f : Nat → Nat → Nat) : Bool := (List.range m).all fun a => (List.range m).all fun b => (List.range m).all fun c => decide (b < c → f a b ≠ f a c ∧ f b a ≠ f c a)
def mv : List (PySem.Str × (D → Option D)) := [("square", fun t => some (.bl (sqB (sizeD t) (cellD t))))]
end K07

set_option Elab.async false
set_option linter.all false
set_option maxRecDepth 100000
set_option maxHeartbeats 8000000
/-! The program of a law, as the evaluator has it. -/
namespace K07
open PySem Mp
def N_is_integer : List Str := ["thing"]
def b_is_integer : List St := [
  .ret (.and (.isi (.var 0) .int) (.not (.isi (.var 0) .bool)))]
def N_is_within : List Str := ["thing", "low", "high"]
def b_is_within : List St := [
  .ret (.and (.call 253 [.var 0]) (.chain .le .le (.var 1) (.var 0) (.var 2)))]
def N_is_tuple : List Str := ["thing", "least", "most"]
def b_is_tuple : List St := [
  .ret (.and (.isi (.var 0) .tuple) (.chain .le .le (.var 1) (.bi .len [.var 0]) (.var 2)))]
def N_is_size : List Str := ["thing"]
def b_is_size : List St := [
  .ret (.call 317 [.var 0, .con (.int 1), .con (.int 8)])]
def N_check_size : List Str := ["size"]
def b_check_size : List St := [
  .ite (.not (.call 293 [.var 0])) [.dead] []]
def N_is_row_of : List Str := ["size", "thing", "one"]
def b_is_row_of : List St := [
  .ret (.and (.call 313 [.var 1, .var 0, .var 0]) (.bi .all [.lc (.call 317 [.var 2, .con (.int 0), .bin .sub (.var 0) (.con (.int 1))]) (.one 2) (.ex (.var 1)) none]))]
def N_are_rows : List Str := ["size", "thing", "row"]
def b_are_rows : List St := [
  .ret (.and (.call 313 [.var 1, .var 0, .var 0]) (.bi .all [.lc (.call 288 [.var 0, .var 2]) (.one 2) (.ex (.var 1)) none]))]
def N_made_by : List Str := ["size", "rule", "a", "b"]
def b_made_by : List St := [
  .ret (.mk 0 3000 [.var 0, .bi .tuple [.lc (.bi .tuple [.lc (.callv 1 [.var 2, .var 3]) (.one 3) (.rng (.con (.int 0)) (.var 0)) none]) (.one 2) (.rng (.con (.int 0)) (.var 0)) none]])]
def N_is_thing : List Str := ["table", "thing"]
def b_is_thing : List St := [
  .ret (.call 317 [.var 1, .con (.int 0), .bin .sub (.fld 0 (.var 0) 0) (.con (.int 1))])]
def N_check_thing : List Str := ["table", "a"]
def b_check_thing : List St := [
  .ite (.not (.call 309 [.var 0, .var 1])) [.dead] []]
def N_check_two : List Str := ["table", "a", "b"]
def b_check_two : List St := [
  .expr (.call 125 [.var 0, .var 1]),
  .expr (.call 125 [.var 0, .var 2])]
def N_sums_of : List Str := ["size"]
def b_sums_of : List St := [
  .expr (.call 120 [.var 0]),
  .ret (.callc 402 [.var 0] 15790 [0])]
def N_least_of : List Str := ["size"]
def b_least_of : List St := [
  .expr (.call 120 [.var 0]),
  .ret (.callc 402 [.var 0] 13490 [])]
def N_left_clash : List Str := ["table", "a", "b", "c"]
def b_left_clash : List St := [
  .for (.one 1) (.rng (.con (.int 0)) (.fld 0 (.var 0) 0)) [.for (.one 2) (.rng (.con (.int 0)) (.fld 0 (.var 0) 0)) [.for (.one 3) (.rng (.bin .add (.var 2) (.con (.int 1))) (.fld 0 (.var 0) 0)) [.ite (.cmp .eq (.idx (.idx (.fld 0 (.var 0) 1) (.var 1)) (.var 2)) (.idx (.idx (.fld 0 (.var 0) 1) (.var 1)) (.var 3))) [.ret (.tup [.var 1, .var 2, .var 3])] []]]],
  .ret (.con .non)]
def N_right_clash : List Str := ["table", "a", "b", "c"]
def b_right_clash : List St := [
  .for (.one 1) (.rng (.con (.int 0)) (.fld 0 (.var 0) 0)) [.for (.one 2) (.rng (.con (.int 0)) (.fld 0 (.var 0) 0)) [.for (.one 3) (.rng (.bin .add (.var 2) (.con (.int 1))) (.fld 0 (.var 0) 0)) [.ite (.cmp .eq (.idx (.idx (.fld 0 (.var 0) 1) (.var 2)) (.var 1)) (.idx (.idx (.fld 0 (.var 0) 1) (.var 3)) (.var 1))) [.ret (.tup [.var 1, .var 2, .var 3])] []]]],
  .ret (.con .non)]
def N_cancels : List Str := ["table", "left", "right"]
def b_cancels : List St := [
  .tset [(1, 0), (2, 0)] [.call 368 [.var 0], .call 512 [.var 0]],
  .ite (.notn (.var 1)) [.ret (.bin .add (.tup [.con (.str "left")]) (.var 1))] [],
  .ret (.ite (.isn (.var 2)) (.tup [.con (.str "both")]) (.bin .add (.tup [.con (.str "right")]) (.var 2)))]
def N_divided_left : List Str := ["table", "a", "b", "x"]
def b_divided_left : List St := [
  .ret (.lc (.var 3) (.one 3) (.rng (.con (.int 0)) (.fld 0 (.var 0) 0)) (some (.cmp .eq (.idx (.idx (.fld 0 (.var 0) 1) (.var 1)) (.var 3)) (.var 2))))]
def N_divided_right : List Str := ["table", "a", "b", "x"]
def b_divided_right : List St := [
  .ret (.lc (.var 3) (.one 3) (.rng (.con (.int 0)) (.fld 0 (.var 0) 0)) (some (.cmp .eq (.idx (.idx (.fld 0 (.var 0) 1) (.var 3)) (.var 1)) (.var 2))))]
def N_divides : List Str := ["table", "a", "b"]
def b_divides : List St := [
  .expr (.call 129 [.var 0, .var 1, .var 2]),
  .ret (.tup [.bi .tuple [.call 151 [.var 0, .var 1, .var 2]], .bi .tuple [.call 152 [.var 0, .var 1, .var 2]]])]
def N_is_square_of : List Str := ["table"]
def e_is_square_of : Ex := .cmp .eq (.call 76 [.var 0]) (.tup [.con (.str "both")])
def N_is_square : List Str := ["table"]
def b_is_square : List St := [
  .ret (.call 300 [.var 0])]
def N_turned_of : List Str := ["table"]
def b_turned_of : List St := [
  .ret (.callc 402 [.fld 0 (.var 0) 0] 16210 [0])]
def N_turned : List Str := ["table"]
def b_turned : List St := [
  .ret (.call 621 [.var 0])]
def N_check_room : List Str := ["size"]
def b_check_room : List St := [
  .ite (.cmp .gt (.var 0) (.con (.int 8))) [.dead] []]
def N_beside_of : List Str := ["mine", "its", "many", "size"]
def b_beside_of : List St := [
  .set 2 (.fld 0 (.var 1) 0),
  .set 3 (.bin .mul (.fld 0 (.var 0) 0) (.var 2)),
  .ret (.callc 402 [.var 3] 10630 [1, 2, 0])]
def N_beside : List Str := ["mine", "its"]
def b_beside : List St := [
  .expr (.call 115 [.bin .mul (.fld 0 (.var 0) 0) (.fld 0 (.var 1) 0)]),
  .ret (.call 63 [.var 0, .var 1])]
def N__law_some : List Str := ["hand", "things"]
def b__law_some : List St := [
  .ret (.idx (.var 1) (.call 2056 [.var 0, .bi .len [.var 1]]))]
def N__law_order : List Str := ["hand", "many", "left", "found"]
def b__law_order : List St := [
  .tset [(2, 1), (3, 1)] [.lrng false (.con (.int 0)) (.var 1), .list []],
  .while (.cmp .gt (.bi .len [.bor 2]) (.con (.int 0))) [.appPop 3 2 (some (.call 2056 [.var 0, .bi .len [.bor 2]]))],
  .ret (.bi .tuple [.bor 3])]
def N__law_rows : List Str := ["hand", "size", "kind", "p", "q", "r", "found", "a", "b", "row"]
def b__law_rows : List St := [
  .tset [(2, 0), (3, 0), (4, 0)] [.call 2056 [.var 0, .con (.int 6)], .call 2180 [.var 0, .var 1], .call 2180 [.var 0, .var 1]],
  .set 5 (.call 2180 [.var 0, .var 1]),
  .mat 6 (.lc (.lc (.call 2056 [.var 0, .var 1]) (.one 8) (.rng (.con (.int 0)) (.var 1)) none) (.one 7) (.rng (.con (.int 0)) (.var 1)) none),
  .ite (.cmp .isin (.var 2) (.tup [.con (.int 1), .con (.int 2)])) [.mat 6 (.lc (.lc (.idx (.var 5) (.bin .mod (.bi .int [.bin .add (.idx (.var 3) (.var 7)) (.idx (.var 4) (.var 8))]) (.var 1))) (.one 8) (.rng (.con (.int 0)) (.var 1)) none) (.one 7) (.rng (.con (.int 0)) (.var 1)) none)] [],
  .ite (.cmp .eq (.var 2) (.con (.int 3))) [.mat 6 (.lc (.lc (.meth .index (.var 3) [.bi .min [.idx (.var 3) (.var 7), .idx (.var 3) (.var 8)]]) (.one 8) (.rng (.con (.int 0)) (.var 1)) none) (.one 7) (.rng (.con (.int 0)) (.var 1)) none)] [],
  .ite (.cmp .eq (.var 2) (.con (.int 4))) [.mat 6 (.lc (.lc (.var 7) (.one 8) (.rng (.con (.int 0)) (.var 1)) none) (.one 7) (.rng (.con (.int 0)) (.var 1)) none)] [],
  .ite (.and (.cmp .gt (.var 2) (.con (.int 1))) (.cmp .eq (.call 2056 [.var 0, .con (.int 3)]) (.con (.int 0)))) [.put2 6 (.call 2056 [.var 0, .var 1]) (.call 2056 [.var 0, .var 1]) (.call 2056 [.var 0, .var 1])] [],
  .frz 6,
  .ret (.bi .tuple [.lc (.bi .tuple [.var 9]) (.one 9) (.ex (.var 6)) none])]
def N__law_size : List Str := ["hand"]
def b__law_size : List St := [
  .ret (.call 2231 [.var 0, .list [.con (.int 1), .con (.int 2), .con (.int 2), .con (.int 3), .con (.int 3), .con (.int 3), .con (.int 4)]])]
def N__law_bar : List Str := ["size", "rows", "word", "a", "b", "c"]
def b__law_bar : List St := [
  .for (.one 2) (.ex (.tup [.con (.str "left"), .con (.str "right")])) [.for (.one 3) (.rng (.con (.int 0)) (.var 0)) [.for (.one 4) (.rng (.con (.int 0)) (.var 0)) [.for (.one 5) (.rng (.bin .add (.var 4) (.con (.int 1))) (.var 0)) [.ite (.and (.cmp .eq (.var 2) (.con (.str "left"))) (.cmp .eq (.idx (.idx (.var 1) (.var 3)) (.var 4)) (.idx (.idx (.var 1) (.var 3)) (.var 5)))) [.ret (.tup [.var 2, .var 3, .var 4, .var 5])] [], .ite (.and (.cmp .eq (.var 2) (.con (.str "right"))) (.cmp .eq (.idx (.idx (.var 1) (.var 4)) (.var 3)) (.idx (.idx (.var 1) (.var 5)) (.var 3)))) [.ret (.tup [.var 2, .var 3, .var 4, .var 5])] []]]]],
  .ret (.tup [.con (.str "both")])]
def N_law : List Str := ["script", "hand", "turn", "due", "back", "a", "size", "wide", "rows", "far", "table_now", "other", "b", "told", "x"]
def b_law : List St := [
  .ite (.cmp .ne (.call 76 [.call 579 [.con (.int 3)]]) (.tup [.con (.str "both")])) [.ret (.con (.bl false))] [],
  .ite (.cmp .ne (.call 76 [.call 349 [.con (.int 2)]]) (.tup [.con (.str "left"), .con (.int 0), .con (.int 0), .con (.int 1)])) [.ret (.con (.bl false))] [],
  .ite (.cmp .ne (.call 153 [.call 579 [.con (.int 3)], .con (.int 1), .con (.int 0)]) (.tup [.tup [.con (.int 2)], .tup [.con (.int 2)]])) [.ret (.con (.bl false))] [],
  .for (.one 2) (.rng (.con (.int 0)) (.con (.int 5))) [.tset [(6, 0), (7, 0)] [.call 2229 [.var 1], .bin .add (.con (.int 1)) (.call 2056 [.var 1, .con (.int 2)])], .tset [(8, 0), (9, 0)] [.call 2216 [.var 1, .var 6], .call 2216 [.var 1, .var 7]], .tset [(10, 0), (11, 0)] [.mk 0 3000 [.var 6, .var 8], .mk 0 3000 [.var 7, .var 9]], .set 3 (.call 2027 [.var 6, .var 8]), .ite (.cmp .ne (.rpr (.call 76 [.var 10])) (.rpr (.var 3))) [.ret (.con (.bl false))] [], .ite (.cmp .ne (.rpr (.call 297 [.var 10])) (.rpr (.cmp .eq (.var 3) (.tup [.con (.str "both")])))) [.ret (.con (.bl false))] [], .set 4 (.bi .tuple [.lc (.bi .tuple [.lc (.idx (.idx (.var 8) (.var 12)) (.var 5)) (.one 12) (.rng (.con (.int 0)) (.var 6)) none]) (.one 5) (.rng (.con (.int 0)) (.var 6)) none]), .ite (.cmp .ne (.call 76 [.call 619 [.var 10]]) (.call 2027 [.var 6, .var 4])) [.ret (.con (.bl false))] [], .ite (.cmp .ne (.call 297 [.call 619 [.var 10]]) (.call 297 [.var 10])) [.ret (.con (.bl false))] [], .for (.one 5) (.rng (.con (.int 0)) (.var 6)) [.for (.one 12) (.rng (.con (.int 0)) (.var 6)) [.set 13 (.tup [.bi .tuple [.lc (.var 14) (.one 14) (.rng (.con (.int 0)) (.var 6)) (some (.cmp .eq (.idx (.idx (.var 8) (.var 5)) (.var 14)) (.var 12)))], .bi .tuple [.lc (.var 14) (.one 14) (.rng (.con (.int 0)) (.var 6)) (some (.cmp .eq (.idx (.idx (.var 8) (.var 14)) (.var 5)) (.var 12)))]]), .ite (.cmp .ne (.rpr (.call 153 [.var 10, .var 5, .var 12])) (.rpr (.var 13))) [.ret (.con (.bl false))] [], .ite (.cmp .ne (.call 153 [.call 619 [.var 10], .var 5, .var 12]) (.rev (.var 13))) [.ret (.con (.bl false))] [], .ite (.and (.cmp .eq (.var 3) (.tup [.con (.str "both")])) (.or (.cmp .ne (.bi .len [.idx (.var 13) (.con (.int 0))]) (.con (.int 1))) (.cmp .ne (.bi .len [.idx (.var 13) (.con (.int 1))]) (.con (.int 1))))) [.ret (.con (.bl false))] []]], .ite (.cmp .ne (.call 297 [.call 62 [.var 10, .var 11]]) (.and (.call 297 [.var 10]) (.call 297 [.var 11]))) [.ret (.con (.bl false))] []],
  .ret (.con (.bl true))]
def N_Table : List Str := ["self", "size", "rows"]
def b_Table : List St := [.ite (.not (.call 293 [.var 1])) [.dead] [], .ite (.not (.call 42 [.var 1, .var 2])) [.dead] []]
def N_Table_eq : List Str := ["self", "other"]
def b_Table_eq : List St := [.ret (.and (.isi (.var 1) (.cls 0)) (.cmp .eq (.tup [.fld 0 (.var 0) 0, .fld 0 (.var 0) 1]) (.tup [.fld 0 (.var 1) 0, .fld 0 (.var 1) 1])))]
def lN_15790 : List Str := ["a", "b", "size"]
def l_15790 : Ex := .bin .mod (.bin .add (.var 0) (.var 1)) (.var 2)
def lN_13490 : List Str := ["a", "b"]
def l_13490 : Ex := .bi .min [.var 0, .var 1]
def lN_16210 : List Str := ["a", "b", "table"]
def l_16210 : Ex := .idx (.idx (.fld 0 (.var 2) 1) (.var 1)) (.var 0)
def lN_10630 : List Str := ["a", "b", "its", "many", "mine"]
def l_10630 : Ex := .bin .add (.bin .mul (.idx (.idx (.fld 0 (.var 4) 1) (.bin .fdiv (.var 0) (.var 3))) (.bin .fdiv (.var 1) (.var 3))) (.var 3)) (.idx (.idx (.fld 0 (.var 2) 1) (.bin .mod (.var 0) (.var 3))) (.bin .mod (.var 1) (.var 3)))
def G : Nat → Option Fn
  | 42 => some (.code 2 3 b_are_rows)
  | 62 => some (.code 2 2 b_beside)
  | 63 => some (.code 2 4 b_beside_of)
  | 76 => some (.code 1 3 b_cancels)
  | 115 => some (.code 1 1 b_check_room)
  | 120 => some (.code 1 1 b_check_size)
  | 125 => some (.code 2 2 b_check_thing)
  | 129 => some (.code 3 3 b_check_two)
  | 151 => some (.code 3 4 b_divided_left)
  | 152 => some (.code 3 4 b_divided_right)
  | 153 => some (.code 3 3 b_divides)
  | 253 => some (.code 1 1 b_is_integer)
  | 288 => some (.code 2 3 b_is_row_of)
  | 293 => some (.code 1 1 b_is_size)
  | 297 => some (.code 1 1 b_is_square)
  | 300 => some (.memo mv 1 1 0 (.inl "square") e_is_square_of)
  | 309 => some (.code 2 2 b_is_thing)
  | 313 => some (.code 3 3 b_is_tuple)
  | 317 => some (.code 3 3 b_is_within)
  | 349 => some (.code 1 1 b_least_of)
  | 368 => some (.code 1 4 b_left_clash)
  | 402 => some (.code 2 4 b_made_by)
  | 512 => some (.code 1 4 b_right_clash)
  | 579 => some (.code 1 1 b_sums_of)
  | 619 => some (.code 1 1 b_turned)
  | 621 => some (.code 1 1 b_turned_of)
  | 2027 => some (.code 2 6 b__law_bar)
  | 2056 => some (.draw)
  | 2088 => some (.hand)
  | 2180 => some (.code 2 4 b__law_order)
  | 2216 => some (.code 2 10 b__law_rows)
  | 2229 => some (.code 1 1 b__law_size)
  | 2231 => some (.code 2 2 b__law_some)
  | 2272 => some (.code 1 15 b_law)
  | 3000 => some (.init 2 3 b_Table)
  | 3100 => some (.eqf 2 2 b_Table_eq)
  | 10630 => some (.code 5 5 [.ret l_10630])
  | 13490 => some (.code 2 2 [.ret l_13490])
  | 15790 => some (.code 3 3 [.ret l_15790])
  | 16210 => some (.code 3 3 [.ret l_16210])
  | _ => none
def lamN : Nat → List Str
  | 15790 => lN_15790
  | 13490 => lN_13490
  | 16210 => lN_16210
  | 10630 => lN_10630
  | _ => []
abbrev prog : Program := PySem.Challenge.pw_onetables_k07_whole_cancelling_and_divid
def top (i : Nat) : Stmt := prog.main.body.getD i (.Pass ⟨0, 0, 0, 0⟩)
def inC (i j : Nat) : Stmt := match top i with
  | .ClassDef (body := b) .. => b.getD j (.Pass ⟨0, 0, 0, 0⟩)
  | s => s
def defs : List DefI := [
  ⟨"is_integer", 253, top 7, N_is_integer, ["thing"], b_is_integer, false⟩,
  ⟨"is_within", 317, top 8, N_is_within, ["thing", "low", "high"], b_is_within, false⟩,
  ⟨"is_tuple", 313, top 9, N_is_tuple, ["thing", "least", "most"], b_is_tuple, false⟩,
  ⟨"is_size", 293, top 12, N_is_size, ["thing"], b_is_size, false⟩,
  ⟨"check_size", 120, top 13, N_check_size, ["size"], b_check_size, false⟩,
  ⟨"is_row_of", 288, top 14, N_is_row_of, ["size", "thing"], b_is_row_of, false⟩,
  ⟨"are_rows", 42, top 15, N_are_rows, ["size", "thing"], b_are_rows, false⟩,
  ⟨"made_by", 402, top 17, N_made_by, ["size", "rule"], b_made_by, false⟩,
  ⟨"is_thing", 309, top 18, N_is_thing, ["table", "thing"], b_is_thing, false⟩,
  ⟨"check_thing", 125, top 19, N_check_thing, ["table", "a"], b_check_thing, false⟩,
  ⟨"check_two", 129, top 20, N_check_two, ["table", "a", "b"], b_check_two, false⟩,
  ⟨"sums_of", 579, top 21, N_sums_of, ["size"], b_sums_of, true⟩,
  ⟨"least_of", 349, top 22, N_least_of, ["size"], b_least_of, true⟩,
  ⟨"left_clash", 368, top 24, N_left_clash, ["table"], b_left_clash, false⟩,
  ⟨"right_clash", 512, top 25, N_right_clash, ["table"], b_right_clash, false⟩,
  ⟨"cancels", 76, top 26, N_cancels, ["table"], b_cancels, false⟩,
  ⟨"divided_left", 151, top 27, N_divided_left, ["table", "a", "b"], b_divided_left, false⟩,
  ⟨"divided_right", 152, top 28, N_divided_right, ["table", "a", "b"], b_divided_right, false⟩,
  ⟨"divides", 153, top 29, N_divides, ["table", "a", "b"], b_divides, false⟩,
  ⟨"is_square", 297, top 31, N_is_square, ["table"], b_is_square, false⟩,
  ⟨"turned_of", 621, top 33, N_turned_of, ["table"], b_turned_of, true⟩,
  ⟨"turned", 619, top 34, N_turned, ["table"], b_turned, false⟩,
  ⟨"check_room", 115, top 35, N_check_room, ["size"], b_check_room, false⟩,
  ⟨"beside_of", 63, top 36, N_beside_of, ["mine", "its"], b_beside_of, true⟩,
  ⟨"beside", 62, top 37, N_beside, ["mine", "its"], b_beside, false⟩,
  ⟨"_law_some", 2231, top 41, N__law_some, ["hand", "things"], b__law_some, false⟩,
  ⟨"_law_order", 2180, top 42, N__law_order, ["hand", "many"], b__law_order, false⟩,
  ⟨"_law_rows", 2216, top 43, N__law_rows, ["hand", "size"], b__law_rows, false⟩,
  ⟨"_law_size", 2229, top 44, N__law_size, ["hand"], b__law_size, false⟩,
  ⟨"_law_bar", 2027, top 45, N__law_bar, ["size", "rows"], b__law_bar, false⟩]
def cls : List ClsI := [
  ⟨"Table", "size", "rows", 3000, "Table.__init__", inC 16 0, N_Table, ["self", "size", "rows"], b_Table, true⟩]
def db : List Zs := [
  .if2 .eq (.item 2) (.con 0) .lt (.item 1) (.lenc) [.set 2 (.cell), .put 1 (.bin .add (.item 1) (.con 1)), .put 3 (.bin .mod (.int (.bin .add (.bin .add (.bin .mul (.item 3) (.con 48271)) (.bin .mul (.var 2) (.con 5))) (.con 29))) (.con 2147483587)), .put 2 (.ite .ge (.var 2) (.bin .pow (.con 10) (.con 18)) (.var 2) (.con 0))],
  .if1 .gt (.item 2) (.con 0) [.set 3 (.bin .mod (.int (.item 2)) (.var 1)), .put 2 (.bin .fdiv (.item 2) (.var 1)), .ret (.var 3)],
  .put 4 (.bin .add (.item 4) (.con 1)),
  .set 4 (.bin .mod (.int (.bin .mul (.int (.bin .add (.item 3) (.bin .mul (.con 7877) (.item 4)))) (.con 69621))) (.con 2147483647)),
  .set 4 (.bin .mod (.int (.bin .mul (.var 4) (.bin .add (.bin .fdiv (.var 4) (.con 1103)) (.con 40692)))) (.con 2147483399)),
  .set 4 (.bin .mod (.int (.bin .mul (.var 4) (.bin .add (.bin .fdiv (.var 4) (.con 2311)) (.con 48271)))) (.con 2147483629)),
  .ret (.bin .mod (.int (.bin .fdiv (.var 4) (.con 16))) (.var 1))]
def eqs : List EqI := [⟨0, "Table", "Table.__eq__", 3100, inC 16 1, N_Table_eq, ["self", "other"], b_Table_eq⟩]
def memos : List MemI := [⟨"is_square_of", 300, top 30, N_is_square_of, ["table"], (.inl "square"), e_is_square_of⟩]
def L : LawI where
  defs := defs
  cls := cls
  cons := [("MOST_THINGS", 8)]
  dst := top 40
  dn := 2056
  dN := ["hand", "many", "cell", "digit", "number"]
  dp := ("hand", "many")
  db := db
  G := G
  lamN := lamN
  eqs := eqs
  memos := memos
  mc := some 0
  mv := mv
def J : LawJ where
  L := L
  hst := top 39
  hN := ["script", "cells", "cell"]
  hp := "script"
  st := top 46
  N := N_law
  p := "script"
  b := b_law
end K07


set_option Elab.async false
set_option linter.all false
set_option maxRecDepth 100000
set_option maxHeartbeats 8000000
namespace K07
open PySem Mp
theorem c_d : L.defs.all (DefI.okB L) = true := by kernel_rfl
theorem c_c : L.cls.all (ClsI.okB L) = true := by kernel_rfl
theorem c_e : L.eqs.all (EqI.okB L) = true := by kernel_rfl
theorem c_m : L.memos.all (MemI.okB L) = true := by kernel_rfl
theorem c_mc : L.mcB = true := by kernel_rfl
theorem c_dr : fsB L.dN [L.dp.1, L.dp.2] (L2.defScope L.dst) = true := by kernel_rfl
theorem c_drp : params5 (L2.defArgs L.dst) [L.dp.1, L.dp.2] = true := by kernel_rfl
theorem c_drb : zckSs L.dN (L2.defScope L.dst) L.db (L2.defBody L.dst) = true := by kernel_rfl
theorem c_h1 : fsB J.hN [J.hp] (L2.defScope J.hst) = true := by kernel_rfl
theorem c_h2 : params5 (L2.defArgs J.hst) [J.hp] = true := by kernel_rfl
theorem c_h4 : handB J.hN (L2.defScope J.hst) (L2.defBody J.hst) = true := by kernel_rfl
theorem c_l1 : fsB J.N [J.p] (L2.defScope J.st) = true := by kernel_rfl
theorem c_l2 : params5 (L2.defArgs J.st) [J.p] = true := by kernel_rfl
theorem c_l4 : lawB (lawCk J.L.pr J.N J.st) J.b (L2.defBody J.st) = true := by kernel_rfl
theorem c_dG : ∀ d ∈ L.defs, L.G d.n = some (.code d.ps.length d.N.length d.body) := by
  intro d hd
  simp only [L, defs, List.mem_cons, List.not_mem_nil, or_false] at hd
  rcases hd with rfl | rfl | rfl | rfl | rfl | rfl | rfl | rfl | rfl | rfl | rfl | rfl | rfl | rfl | rfl | rfl | rfl | rfl | rfl | rfl | rfl | rfl | rfl | rfl | rfl | rfl | rfl | rfl | rfl | rfl <;> rfl
theorem c_cG : ∀ d ∈ L.cls, L.G d.n = some (.init 2 d.N.length d.body) := by
  intro d hd
  simp only [L, cls, List.mem_cons, List.not_mem_nil, or_false] at hd
  rcases hd with rfl <;> rfl
theorem c_eG : ∀ d ∈ L.eqs, L.G d.n = some (.eqf d.ps.length d.N.length d.body) := by
  intro d hd
  simp only [L, eqs, List.mem_cons, List.not_mem_nil, or_false] at hd
  rcases hd with rfl <;> rfl
theorem c_mG : ∀ d ∈ L.memos, ∀ c, L.mc = some c → L.G d.n = some (.memo L.mv d.ps.length d.N.length c d.key d.e) := by
  intro d hd
  simp only [L, memos, List.mem_cons, List.not_mem_nil, or_false] at hd
  rcases hd with rfl <;> (intro c hc; cases hc; rfl)
theorem c_mv : L.mv.length ≤ 1000 := by decide
end K07

set_option Elab.async false
set_option linter.all false
set_option maxRecDepth 100000
set_option maxHeartbeats 0
namespace K07
open PySem Mp PyProof.Rows
abbrev R : PySem.W.OpenRow := PySem.W.OpenLaw.row PySem.Challenge.rw_onetables_k07_whole_cancelling_and_divid
abbrev hk : PySem.W.Hook := He.hookX 5 J.fa J.fn [] J.L.tf J.L.exB
def ob (s : PySem.W.SharedT) : He.AlX := He.obsX 5 J.fa J.fn [] J.L.tf J.L.exB (HandSHeadRun.getT s)
theorem ob_eq (s : PySem.W.SharedT) : ob s = hk.obs s.abs := He.obsX_eq (HandSHeadRun.getT_eq s)
def loose : List PySem.Str := (["TableError", "BadTable", "NoThing", "NoSize", "TooMany", "is_integer", "is_within", "is_tuple", "MOST_THINGS", "is_size", "check_size", "is_row_of", "are_rows", "Table", "made_by", "is_thing", "check_thing", "check_two", "sums_of", "least_of", "left_clash", "right_clash", "cancels", "divided_left", "divided_right", "divides", "is_square_of", "is_square", "turned_of", "turned"] : List PySem.Str) ++ (["check_room", "beside_of", "beside", "_law_hand", "_law_draw", "_law_some", "_law_order", "_law_rows", "_law_size", "_law_bar"] : List PySem.Str)
abbrev vw : Program := PySem.W.view R.prog [46]
theorem run (w : World) : HandSHeadRun.RunEq R vw hk ob 8000 loose w := by
  intro os
  kernel_rfl
end K07

set_option Elab.async false
set_option linter.all false
set_option maxRecDepth 100000
set_option maxHeartbeats 4000000
/-! Plain: what the defs answer. -/
namespace K07
open Mp
open PySem (Str PyData)
section
variable {S : Type} {dr : Dr S} {n m : Nat} {f : Nat → Nat → Nat}
theorem s_is_integer {i : Int} : callN G dr (n + 1) 253 [.int i] = M.pure (.bl true) := call_ret rfl rfl (run_ret (ev_and (j := true) (k := true) (ev_isi (ev_var rfl) rfl) fun _ => ev_not (j := false) (ev_isi (ev_var rfl) rfl)))
theorem s_is_within {x lo hi : Int} : callN G dr (n + 2) 317 [.int x, .int lo, .int hi] = M.pure (.bl (decide (lo ≤ x) && decide (x ≤ hi))) := by
  have := call_ret (G := G) (dr := dr) (n := n + 1) (f := 317) (np := 3) (ns := 3) (body := b_is_within) (args := [.int x, .int lo, .int hi]) rfl rfl (run_ret (ev_and (ev_call (evs_cons (ev_var rfl) evs_nil) s_is_integer) fun _ => ev_chain (ev_var rfl) (ev_var rfl) (ev_var rfl) rfl rfl))
  rw [Bool.true_and] at this
  exact this
theorem s_is_tuple {xs : List D} {lo hi : Int} : callN G dr (n + 1) 313 [.tup xs, .int lo, .int hi] = M.pure (.bl (decide (lo ≤ (xs.length : Int)) && decide ((xs.length : Int) ≤ hi))) := by
  have := call_ret (G := G) (dr := dr) (n := n) (f := 313) (np := 3) (ns := 3) (body := b_is_tuple) (args := [.tup xs, .int lo, .int hi]) rfl rfl (run_ret (ev_and (j := true) (ev_isi (ev_var rfl) rfl) fun _ => ev_chain (ev_var rfl) (ev_bi (evs_cons (ev_var rfl) evs_nil) rfl) (ev_var rfl) rfl rfl))
  rw [Bool.true_and] at this
  exact this
theorem s_is_size (h0 : 1 ≤ m) (h8 : m ≤ 8) : callN G dr (n + 3) 293 [natD m] = M.pure (.bl true) := by
  refine call_ret rfl rfl (run_ret ?_)
  have e : D.bl true = D.bl (decide ((1 : Int) ≤ (m : Int)) && decide ((m : Int) ≤ 8)) := by
    rw [decide_eq_true (by omega), decide_eq_true (by omega)]
    rfl
  rw [e]
  exact ev_call (evs_cons (ev_var rfl) (evs_cons ev_con (evs_cons ev_con evs_nil))) s_is_within
theorem s_is_row {l : List Nat} (hl : l.length = m) (hm : m ≤ LIM) (h : ∀ a ∈ l, a < m) : callN G dr (n + 3) 288 [natD m, lotD l] = M.pure (.bl true) := by
  have e1 : D.bl true = D.bl ((decide ((m : Int) ≤ (natsD l).length) && decide (((natsD l).length : Int) ≤ m)) && l.all fun _ => true) := by
    have : (natsD l).length = m := by unfold natsD; rw [List.length_map, hl]
    rw [this, decide_eq_true (Int.le_refl _)]
    simp
  rw [e1]
  refine call_ret rfl rfl (run_ret (ev_and (ev_call (evs_cons (ev_var rfl) (evs_cons (ev_var rfl) (evs_cons (ev_var rfl) evs_nil))) s_is_tuple) fun _ => ev_bi (evs_cons (lc_map (l := l) (inj := natD) (g := fun _ => D.bl true) (evi_ex (ev_var rfl) rfl) (by rw [hl]; exact hm) (fun a _ => rfl) fun b hb => ?_) evs_nil) (all_map l)))
  have hb := h b hb
  have e : D.bl true = D.bl (decide ((0 : Int) ≤ (b : Int)) && decide ((b : Int) ≤ (m : Int) - 1)) := by
    rw [decide_eq_true (by omega), decide_eq_true (by omega)]
    rfl
  rw [e]
  exact ev_call (evs_cons (ev_var rfl) (evs_cons ev_con (evs_cons (ev_bin (ev_var rfl) ev_con rfl) evs_nil))) s_is_within
theorem s_are_rows (hm : m ≤ LIM) (h : ∀ a b, a < m → b < m → f a b < m) : callN G dr (n + 4) 42 [natD m, rowsD m f] = M.pure (.bl true) := by
  have e1 : D.bl true = D.bl ((decide ((m : Int) ≤ ((List.range m).map fun a => rowD m (f a)).length) && decide ((((List.range m).map fun a => rowD m (f a)).length : Int) ≤ m)) && (List.range m).all fun _ => true) := by
    rw [List.length_map, List.length_range, decide_eq_true (Int.le_refl _)]
    simp
  rw [e1]
  refine call_ret rfl rfl (run_ret (ev_and (ev_call (evs_cons (ev_var rfl) (evs_cons (ev_var rfl) (evs_cons (ev_var rfl) evs_nil))) s_is_tuple) fun _ => ev_bi (evs_cons (lc_map (l := List.range m) (inj := fun a => rowD m (f a)) (g := fun _ => D.bl true) (evi_ex (ev_var rfl) rfl) (by rw [List.length_range]; exact hm) (fun a _ => rfl) fun a ha => ?_) evs_nil) (all_map _)))
  refine ev_call (evs_cons (ev_var rfl) (evs_cons (ev_var rfl) evs_nil)) ?_
  rw [row_lot]
  refine s_is_row (by rw [List.length_map, List.length_range]) hm fun x hx => ?_
  obtain ⟨b, hb, rfl⟩ := List.mem_map.mp hx
  exact h a b (List.mem_range.mp ha) (List.mem_range.mp hb)
theorem s_init (h0 : 1 ≤ m) (h8 : m ≤ 8) (h : ∀ a b, a < m → b < m → f a b < m) : callN G dr (n + 6) 3000 [natD m, rowsD m f] = M.pure .non := by
  refine call_init (n := n + 4) rfl rfl (run_no (ev_not (j := true) (ev_call (evs_cons (ev_var rfl) evs_nil) (s_is_size h0 h8))) (run_no (ev_not (j := true) (ev_call (evs_cons (ev_var rfl) (evs_cons (ev_var rfl) evs_nil)) (s_are_rows (Nat.le_trans h8 (by decide)) h))) run_nil))
theorem s_made {k : Nat} {cs : List D} (h0 : 1 ≤ m) (h8 : m ≤ 8) (h : ∀ a b, a < m → b < m → f a b < m) (hn : nocls cs = true) (hk : ∀ a b, a < m → b < m → callN G dr (n + 6) k (natD a :: natD b :: cs) = M.pure (natD (f a b))) : callN G dr (n + 7) 402 [natD m, .clo k cs] = M.pure (tabD m f) := by
  have hm : m ≤ LIM := Nat.le_trans h8 (by decide)
  have hl : (List.range m).length ≤ LIM := by rw [List.length_range]; exact hm
  refine call_ret rfl rfl (run_ret (ev_mk (x := .non) (evs_cons (ev_var rfl) (evs_cons (ev_bi (evs_cons (lc_map (l := List.range m) (inj := natD) (g := fun a => rowD m (f a)) (evi_nat (ev_var rfl) hm) hl (fun a _ => rfl) fun a ha => ?_) evs_nil) rfl) evs_nil)) (s_init h0 h8 h)))
  refine ev_bi (evs_cons (lc_map (l := List.range m) (inj := natD) (g := fun b => natD (f a b)) (evi_nat (ev_var rfl) hm) hl (fun a _ => rfl) fun b hb => ?_) evs_nil) rfl
  exact ev_callv rfl (evs_cons (ev_var rfl) (evs_cons (ev_var rfl) evs_nil)) hn (hk a b (List.mem_range.mp ha) (List.mem_range.mp hb))
theorem small_nat {a : Nat} (h : a < 1000000) : small (a : Int) = true := by
  unfold small
  rw [decide_eq_true (by omega), decide_eq_true (by omega)]
  rfl
theorem s_turned_of (h0 : 1 ≤ m) (h8 : m ≤ 8) (h : ∀ a b, a < m → b < m → f a b < m) : callN G dr (n + 8) 621 [tabD m f] = M.pure (tabD m fun a b => f b a) := by
  refine call_ret rfl rfl (run_ret (ev_callc (evs_cons (ev_fld (ev_var rfl) rfl) evs_nil) (vs := [tabD m f]) rfl (by show (noclo (tabD m f) && true) = true; rw [nc_tab]; rfl) (s_made h0 h8 (fun a b ha hb => h b a hb ha) (by show (noclo (tabD m f) && true) = true; rw [nc_tab]; rfl) fun a b ha hb => ?_) (nc_tab _ _)))
  exact call_ret rfl rfl (run_ret (ev_idx (ev_idx (ev_fld (ev_var rfl) rfl) (ev_var rfl) (idx_rows hb)) (ev_var rfl) (idx_row ha)))
theorem s_turned (h0 : 1 ≤ m) (h8 : m ≤ 8) (h : ∀ a b, a < m → b < m → f a b < m) : callN G dr (n + 9) 619 [tabD m f] = M.pure (tabD m fun a b => f b a) :=
  call_ret rfl rfl (run_ret (ev_call (evs_cons (ev_var rfl) evs_nil) (s_turned_of h0 h8 h)))
/-- the table called otherwise -/
def renF (l : List Nat) (f : Nat → Nat → Nat) (a b : Nat) : Nat := l.getD (f (l.idxOf a) (l.idxOf b)) 0
theorem getD_at {l : List Nat} {i : Nat} (h : i < l.length) : l[i]? = some (l.getD i 0) := by
  rw [List.getD_eq_getElem?_getD, List.getElem?_eq_getElem h]
  rfl
theorem ren_lt {l : List Nat} (hp : l.Perm (List.range m)) (h : ∀ a b, a < m → b < m → f a b < m) {a b : Nat} (ha : a < m) (hb : b < m) : renF l f a b < m := by
  have hl : l.length = m := by rw [hp.length_eq, List.length_range]
  have ia := List.idxOf_lt_length_of_mem (hp.mem_iff.mpr (List.mem_range.mpr ha))
  have ib := List.idxOf_lt_length_of_mem (hp.mem_iff.mpr (List.mem_range.mpr hb))
  have := h _ _ (by rw [← hl]; exact ia) (by rw [← hl]; exact ib)
  unfold renF
  exact List.mem_range.mp (hp.mem_iff.mp (List.mem_of_getElem? (getD_at (by rw [hl]; exact this))))
end
end K07



set_option Elab.async false
set_option linter.all false
set_option maxRecDepth 100000
set_option maxHeartbeats 4000000
/-! Plain: what is drawn. -/
namespace K07
open Mp
open PySem (Str PyData)
section
variable {S : Type} {dr : Dr S} {n m : Nat} {f : Nat → Nat → Nat}
/-- a call that draws below k -/
theorem s_draw (ok : dr.Ok) {env : Env} {e : Ex} {i k : Nat} (he : env.get i = some .hand) (hk : Ev (callN G dr (n + 1)) e env (natD k)) (h0 : 0 < k) (h1 : k ≤ 1000) : Wp (ev (callN G dr (n + 1)) (.call 2056 [.var i, e]) env) fun d => ∃ x, x < k ∧ d = natD x := by
  refine we_call (P := fun ds => ds = [.hand, natD k]) (Evs.wp (evs_cons (ev_var he) (evs_cons hk evs_nil)) rfl) fun ds hd => ?_
  subst hd
  exact wp_mono (wp_draw ok rfl (by omega) (by omega)) fun d ⟨x, e, hx⟩ => ⟨x, by omega, e⟩
theorem s_some (ok : dr.Ok) {l : List Nat} (h0 : 0 < l.length) (h1 : l.length ≤ 1000) : Wp (callN G dr (n + 2) 2231 [.hand, .lst (natsD l)]) fun d => ∃ x, x ∈ l ∧ d = natD x := by
  refine wp_call rfl rfl (wq_ret (we_idx (ev_var rfl) (s_draw ok rfl (ev_bi (d := natD l.length) (evs_cons (ev_var rfl) evs_nil) ?_) h0 h1) fun y ⟨x, hx, e⟩ => ?_) fun d hd => hd)
  · rw [len_lst]
    unfold natsD
    rw [List.length_map]
  · subst e
    exact ⟨_, idx_lst (List.getElem?_eq_getElem hx), _, List.getElem_mem hx, rfl⟩
theorem s_size (ok : dr.Ok) : Wp (callN G dr (n + 3) 2229 [.hand]) fun d => ∃ x, 1 ≤ x ∧ x ≤ 4 ∧ d = natD x := by
  refine wp_call rfl rfl (wq_ret (we_call (P := fun ds => ds = [.hand, .lst (natsD [1, 2, 2, 3, 3, 3, 4])]) (Evs.wp (evs_cons (ev_var rfl) (evs_cons (ev_list (evs_cons ev_con (evs_cons ev_con (evs_cons ev_con (evs_cons ev_con (evs_cons ev_con (evs_cons ev_con (evs_cons ev_con evs_nil)))))))) evs_nil)) rfl) fun ds hd => ?_) fun d hd => hd)
  subst hd
  refine wp_mono (s_some ok (by decide) (by decide)) fun d ⟨x, hx, e⟩ => ⟨x, ?_, ?_, e⟩
  · simp at hx; omega
  · simp at hx; omega
theorem s_order (ok : dr.Ok) (h0 : 1 ≤ m) (h8 : m ≤ 8) : Wp (callN G dr (n + 2) 2180 [.hand, natD m]) fun d => ∃ l : List Nat, d = lotD l ∧ l.Perm (List.range m) := by
  have hm : m ≤ LIM := Nat.le_trans h8 (by decide)
  refine wp_call rfl rfl (wq_tset (P := fun ds => ds = [.lst (natsD (List.range m)), .lst []]) (Evs.wp (evs_cons (ev_lrng (t := false) (ev_var rfl) hm) (evs_cons (ev_list evs_nil) evs_nil)) rfl) fun ds hd => ?_)
  subst hd
  refine ⟨_, rfl, ?_⟩
  refine wq_while (m := m) (I := fun k e => ∃ left found : List Nat, e = [.fz .hand, .fz (natD m), .ow (.lst (natsD left)), .ow (.lst (natsD found))] ∧ left.length = k ∧ (found ++ left).Perm (List.range m)) (by unfold WL; omega) ⟨List.range m, [], rfl, List.length_range, .refl _⟩ (fun k e ⟨left, found, e1, e2, e3⟩ => ?_) (fun k e ⟨left, found, e1, e2, e3⟩ => ?_) fun e ⟨left, found, e1, e2, e3⟩ => ?_
  · subst e1
    rw [← e2]
    have e4 : D.bi .len [.lst (natsD left)] = some (natD left.length) := by
      rw [len_lst]
      unfold natsD
      rw [List.length_map]
    exact ev_cmp (ev_bi (evs_cons (ev_bor rfl) evs_nil) e4) (ev_con (d := natD 0)) gt_nat
  · subst e1
    have e4 : D.bi .len [.lst (natsD left)] = some (natD left.length) := by
      rw [len_lst]
      unfold natsD
      rw [List.length_map]
    have hl : left.length ≤ m := by
      have := e3.length_eq
      rw [List.length_append, List.length_range] at this
      omega
    have hf : found.length ≤ m := by
      have := e3.length_eq
      rw [List.length_append, List.length_range] at this
      omega
    refine wq_appPop (by decide) rfl rfl (by unfold natsD; rw [List.length_map]; exact Nat.lt_of_le_of_lt hf (Nat.lt_of_le_of_lt h8 (by decide))) (s_draw ok rfl (ev_bi (evs_cons (ev_bor rfl) evs_nil) e4) (by omega) (by omega)) fun d ⟨x, hx, ed⟩ => ?_
    refine ⟨x, _, ed, pop_map (List.getElem?_eq_getElem hx), wp_pure ⟨_, rfl, left.eraseIdx x, found ++ [left[x]], ?_, ?_, ?_⟩⟩
    · show _ = [Slot.fz .hand, .fz (natD m), .ow (.lst (natsD (left.eraseIdx x))), .ow (.lst (natsD (found ++ [left[x]])))]
      unfold natsD
      rw [List.map_append]
      rfl
    · rw [List.length_eraseIdx, if_pos hx]
      omega
    · refine List.Perm.trans ?_ e3
      rw [List.append_assoc]
      refine List.Perm.append_left found ?_
      exact L2.erase_perm left x _ (List.getElem?_eq_getElem hx)
  · subst e1
    have e4 : left = [] := List.eq_nil_of_length_eq_zero e2
    subst e4
    rw [List.append_nil] at e3
    exact wq_ret (P := fun d => d = lotD found) ((ev_bi (evs_cons (ev_bor rfl) evs_nil) rfl).wp rfl) fun d hd => ⟨found, hd, e3⟩
/-- a list of m lists of m numbers below m -/
def Sq (m : Nat) (d : D) : Prop := ∃ L : List (List Nat), d = .lst (L.map fun l => D.lst (natsD l)) ∧ L.length = m ∧ ∀ l ∈ L, l.length = m ∧ ∀ x ∈ l, x < m
theorem sq_nats {ds : List D} {m : Nat} : (∀ y ∈ ds, ∃ x, x < m ∧ y = natD x) → ∃ l : List Nat, ds = natsD l ∧ ∀ x ∈ l, x < m := by
  induction ds with
  | nil => intro _; exact ⟨[], rfl, fun x hx => nomatch hx⟩
  | cons y r ih =>
    intro h
    obtain ⟨x, hx, e⟩ := h y List.mem_cons_self
    obtain ⟨l, e2, h2⟩ := ih fun z hz => h z (List.mem_cons_of_mem _ hz)
    refine ⟨x :: l, by rw [e, e2]; rfl, fun z hz => ?_⟩
    rcases List.mem_cons.mp hz with rfl | hz
    · exact hx
    · exact h2 z hz
theorem sq_of {m : Nat} : ∀ {ds : List D}, ds.length = m → (∀ y ∈ ds, ∃ zs : List D, y = .lst zs ∧ zs.length = m ∧ ∀ z ∈ zs, ∃ x, x < m ∧ z = natD x) → Sq m (.lst ds) := fun {ds} hl h => by
  have : ∀ ds : List D, (∀ y ∈ ds, ∃ zs : List D, y = .lst zs ∧ zs.length = m ∧ ∀ z ∈ zs, ∃ x, x < m ∧ z = natD x) → ∃ L : List (List Nat), ds = L.map (fun l => D.lst (natsD l)) ∧ ∀ l ∈ L, l.length = m ∧ ∀ x ∈ l, x < m := fun ds => by
    induction ds with
    | nil => intro _; exact ⟨[], rfl, fun l hl => nomatch hl⟩
    | cons y r ih =>
      intro h
      obtain ⟨zs, e, hz, hx⟩ := h y List.mem_cons_self
      obtain ⟨l, e2, h2⟩ := sq_nats hx
      obtain ⟨L, e3, h3⟩ := ih fun z hz => h z (List.mem_cons_of_mem _ hz)
      refine ⟨l :: L, by rw [e, e2, e3]; rfl, fun k hk => ?_⟩
      rcases List.mem_cons.mp hk with rfl | hk
      · refine ⟨?_, h2⟩
        rw [← hz, e2]
        unfold natsD
        rw [List.length_map]
      · exact h3 k hk
  obtain ⟨L, e, hL⟩ := this ds h
  refine ⟨L, by rw [e], ?_, hL⟩
  rw [← hl, e, List.length_map]
/-- the state of _law_rows -/
def rEnv (m k : Nat) (p q r : List Nat) (F : Slot) : Env := [.fz .hand, .fz (natD m), .fz (natD k), .fz (lotD p), .fz (lotD q), .fz (lotD r), F, .un, .un, .un]
theorem sq_lc {k : Nat} {p q r : List Nat} {F : Slot} {elt : Ex} (hm : m ≤ LIM) (h : ∀ a b, a < m → b < m → Wp (ev (callN G dr n) elt [.fz .hand, .fz (natD m), .fz (natD k), .fz (lotD p), .fz (lotD q), .fz (lotD r), F, .fz (natD a), .fz (natD b), .un]) fun d => ∃ x, x < m ∧ d = natD x) :
    Wp (ev (callN G dr n) (.lc (.lc elt (.one 8) (.rng (.con (.int 0)) (.var 1)) none) (.one 7) (.rng (.con (.int 0)) (.var 1)) none) (rEnv m k p q r F)) (Sq m) := by
  have hl : (natsD (List.range m)).length = m := by unfold natsD; rw [List.length_map, List.length_range]
  refine wp_mono (we_lc (P := fun y => ∃ zs : List D, y = .lst zs ∧ zs.length = m ∧ ∀ z ∈ zs, ∃ x, x < m ∧ z = natD x) (evi_nat (ev_var rfl) hm) (by rw [hl]; exact hm) fun x hx => ?_) fun d ⟨ds, e1, e2, e3⟩ => ?_
  · obtain ⟨a, ha, rfl⟩ := List.mem_map.mp hx
    refine ⟨_, rfl, ?_⟩
    refine wp_mono (we_lc (P := fun z => ∃ x, x < m ∧ z = natD x) (evi_nat (ev_var rfl) hm) (by rw [hl]; exact hm) fun y hy => ?_) fun d ⟨ds, e1, e2, e3⟩ => ⟨ds, e1, by rw [e2, hl], e3⟩
    obtain ⟨b, hb, rfl⟩ := List.mem_map.mp hy
    exact ⟨_, rfl, h a b (List.mem_range.mp ha) (List.mem_range.mp hb)⟩
  · subst e1
    exact sq_of (by rw [e2, hl]) e3
theorem perm_at {l : List Nat} (hp : l.Perm (List.range m)) {a : Nat} (ha : a < m) : ∃ x, l[a]? = some x ∧ x < m := by
  have hl : l.length = m := by rw [hp.length_eq, List.length_range]
  have h : a < l.length := by omega
  exact ⟨l[a], List.getElem?_eq_getElem h, List.mem_range.mp (hp.mem_iff.mp (List.getElem_mem h))⟩
theorem s_rows (ok : dr.Ok) (h0 : 1 ≤ m) (h8 : m ≤ 8) : Wp (callN G dr (n + 3) 2216 [.hand, natD m]) fun d => ∃ f : Nat → Nat → Nat, (∀ a b, a < m → b < m → f a b < m) ∧ d = rowsD m f := by
  have hm : m ≤ LIM := Nat.le_trans h8 (by decide)
  have word : ∀ {env : Env} {i : Nat}, env.get 0 = some .hand → env.get 1 = some (natD m) → Wp (ev (callN G dr (n + 2)) (.call 2180 [.var 0, .var 1]) env) fun d => ∃ l : List Nat, d = lotD l ∧ l.Perm (List.range m) := fun {env i} e0 e1 =>
    we_call (P := fun ds => ds = [.hand, natD m]) (Evs.wp (evs_cons (ev_var e0) (evs_cons (ev_var e1) evs_nil)) rfl) fun ds hd => by subst hd; exact s_order ok h0 h8
  have drawm : ∀ {env : Env}, env.get 0 = some .hand → env.get 1 = some (natD m) → Wp (ev (callN G dr (n + 2)) (.call 2056 [.var 0, .var 1]) env) fun d => ∃ x, x < m ∧ d = natD x := fun e0 e1 => s_draw ok e0 (ev_var e1) h0 (by omega)
  refine wp_call rfl rfl (wq_tset (P := fun ds => ∃ k p q, ds = [natD k, lotD p, lotD q] ∧ k < 6 ∧ p.Perm (List.range m) ∧ q.Perm (List.range m)) (wp_mono (we_evs3 (s_draw ok rfl (ev_con (d := natD 6)) (by decide) (by decide)) (word (i := 0) rfl rfl) (word (i := 0) rfl rfl)) fun ds ⟨x, y, z, e, ⟨k, hk, e1⟩, ⟨p, e2, hp⟩, ⟨q, e3, hq⟩⟩ => ⟨k, p, q, by rw [e, e1, e2, e3], hk, hp, hq⟩) fun ds ⟨k, p, q, e, hk, hp, hq⟩ => ?_)
  subst e
  refine ⟨_, rfl, wq_set (word (i := 0) rfl rfl) fun d ⟨r, e, hr⟩ => ?_⟩
  subst e
  show Wp (exs (callN G dr (n + 2)) _ (rEnv m k p q r .un)) _
  refine wq_mat (P := Sq m) (sq_lc hm fun a b _ _ => drawm rfl rfl) fun d0 hd0 => ?_
  show Wp (exs (callN G dr (n + 2)) _ (rEnv m k p q r (.mx d0))) _
  have pass : ∀ {d : D}, Sq m d → Wp (exs (callN G dr (n + 2)) [] (rEnv m k p q r (.mx d))) fun f => ∃ e, f = .nxt e ∧ ∃ d, Sq m d ∧ e = rEnv m k p q r (.mx d) := fun {d} hd => wp_pure ⟨_, rfl, d, hd, rfl⟩
  -- r[(p[a] + q[b]) % size]
  refine wq_ite (P := fun e => ∃ d, Sq m d ∧ e = rEnv m k p q r (.mx d)) (Ev.wp (ev_cmp (k := ([1, 2] : List Nat).contains k) (ev_var rfl) (ev_tup (evs_cons ev_con (evs_cons ev_con evs_nil))) (mem_lot (l := [1, 2]))) ⟨_, rfl⟩) (wq_mat (P := Sq m) (sq_lc hm fun a b ha hb => ?_) fun d hd => wp_pure ⟨_, rfl, d, hd, rfl⟩) (pass hd0) fun e ⟨d1, hd1, e1⟩ => ?_
  · obtain ⟨x, ex, hx⟩ := perm_at hp ha
    obtain ⟨y, ey, hy⟩ := perm_at hq hb
    obtain ⟨z, ez, hz⟩ := perm_at hr (Nat.mod_lt (x + y) h0)
    refine Ev.wp (d := natD z) (ev_idx (y := natD ((x + y) % m)) (ev_var rfl) (ev_bin (x := natD (x + y)) (ev_bi (ds := [natD (x + y)]) (evs_cons (ev_bin (ev_idx (ev_var rfl) (ev_var rfl) (idx_lot ex)) (ev_idx (ev_var rfl) (ev_var rfl) (idx_lot ey)) rfl) evs_nil) rfl) (ev_var rfl) ?_) (idx_lot ez)) ⟨z, hz, rfl⟩
    show (if decide (0 < (m : Int)) = true then some (D.int (((x + y : Nat) : Int) % (m : Int))) else none) = _
    rw [decide_eq_true (by omega)]
    rfl
  subst e1
  -- p.index(min(p[a], p[b]))
  refine wq_ite (P := fun e => ∃ d, Sq m d ∧ e = rEnv m k p q r (.mx d)) (Ev.wp (ev_cmp (ev_var rfl) (ev_con (d := natD 3)) int_cmp) ⟨_, rfl⟩) (wq_mat (P := Sq m) (sq_lc hm fun a b ha hb => ?_) fun d hd => wp_pure ⟨_, rfl, d, hd, rfl⟩) (pass hd1) fun e ⟨d2, hd2, e2⟩ => ?_
  · obtain ⟨x, ex, hx⟩ := perm_at hp ha
    obtain ⟨y, ey, hy⟩ := perm_at hp hb
    have hmem : min x y ∈ p := hp.mem_iff.mpr (List.mem_range.mpr (by omega))
    have hi := List.idxOf_lt_length_of_mem hmem
    have hl : p.length = m := by rw [hp.length_eq, List.length_range]
    refine Ev.wp (d := natD (p.idxOf (min x y))) (ev_meth (x := lotD p) (ev_var rfl) rfl (evs_cons (d := natD (min x y)) (ev_bi (evs_cons (ev_idx (ev_var rfl) (ev_var rfl) (idx_lot ex)) (evs_cons (ev_idx (ev_var rfl) (ev_var rfl) (idx_lot ey)) evs_nil)) ?_) evs_nil) (index_tup (by rw [List.getElem?_eq_getElem hi, List.getElem_idxOf]) fun j hj e => ?_)) ⟨_, by omega, rfl⟩
    · show some (D.int (if (y : Int) < (x : Int) then (y : Int) else (x : Int))) = some (D.int ((min x y : Nat) : Int))
      congr 2
      split <;> omega
    · have hjl : j < p.length := by omega
      rw [List.getElem?_eq_getElem hjl] at e
      have hnd : p.Nodup := hp.nodup_iff.mpr List.nodup_range
      have e := Option.some.inj e
      have : p.idxOf p[j] = j := List.Nodup.idxOf_getElem hnd j hjl
      rw [e] at this
      omega
  subst e2
  refine wq_ite (P := fun e => ∃ d, Sq m d ∧ e = rEnv m k p q r (.mx d)) (Ev.wp (ev_cmp (ev_var rfl) (ev_con (d := natD 4)) int_cmp) ⟨_, rfl⟩) (wq_mat (P := Sq m) (sq_lc hm fun a b ha hb => (ev_var rfl).wp ⟨a, ha, rfl⟩) fun d hd => wp_pure ⟨_, rfl, d, hd, rfl⟩) (pass hd2) fun e ⟨d3, hd3, e3⟩ => ?_
  subst e3
  refine wq_ite (P := fun e => ∃ d, Sq m d ∧ e = rEnv m k p q r (.mx d)) (we_and (Ev.wp (ev_cmp (ev_var rfl) (ev_con (d := natD 1)) gt_nat) ⟨_, rfl⟩) (we_cmp (ev_con (d := natD 0)) (s_draw ok rfl (ev_con (d := natD 3)) (by decide) (by decide)) fun y ⟨x, _, e⟩ => by subst e; exact ⟨_, int_cmp⟩)) ?_ (pass hd3) fun e ⟨d4, hd4, e4⟩ => ?_
  · obtain ⟨L, eL, hL, hrow⟩ := hd3
    subst eL
    refine wq_put2 (rows := L.map fun l => D.lst (natsD l)) rfl (drawm rfl rfl) (drawm rfl rfl) (drawm rfl rfl) (fun v kv lv ⟨x, hx, ev⟩ ⟨y, hy, ey⟩ ⟨z, hz, ez⟩ => ?_) ⟨natD 0, 0, h0, rfl⟩ ⟨natD 0, 0, h0, rfl⟩
    subst ev ey ez
    have hyL : y < L.length := by omega
    have hzl := hrow _ (List.getElem_mem hyL)
    refine ⟨(y, natsD L[y]), .lst (natsD (L[y].set z x)), ?_, ?_, wp_pure ⟨_, rfl, .lst ((L.set y (L[y].set z x)).map fun l => D.lst (natsD l)), ⟨_, rfl, by rw [List.length_set]; exact hL, fun l hl => ?_⟩, ?_⟩⟩
    · show (L2.ixN (L.map fun l => D.lst (natsD l)).length (y : Int)).bind (fun j => ((L.map fun l => D.lst (natsD l))[j]?.bind asLst).map fun xs => (j, xs)) = _
      unfold L2.ixN
      rw [List.length_map, if_pos (Int.natCast_nonneg y), if_pos (by omega)]
      show ((L.map fun l => D.lst (natsD l))[((y : Int)).toNat]?.bind asLst).map (fun xs => (((y : Int)).toNat, xs)) = _
      rw [Int.toNat_natCast, List.getElem?_map, List.getElem?_eq_getElem hyL]
      rfl
    · show (L2.ixN (natsD L[y]).length (z : Int)).map (fun j => D.lst ((natsD L[y]).set j (natD x))) = _
      unfold L2.ixN natsD
      rw [List.length_map, hzl.1, if_pos (Int.natCast_nonneg z), if_pos (by omega)]
      show some (D.lst ((L[y].map natD).set ((z : Int)).toNat (natD x))) = _
      rw [Int.toNat_natCast, List.map_set]
    · rcases List.mem_or_eq_of_mem_set hl with hl | rfl
      · exact hrow l hl
      · refine ⟨by rw [List.length_set]; exact hzl.1, fun u hu => ?_⟩
        rcases List.mem_or_eq_of_mem_set hu with hu | rfl
        · exact hzl.2 u hu
        · exact hx
    · show _ = rEnv m k p q r _
      rw [List.map_set]
      rfl
  subst e4
  obtain ⟨L, eL, hL, hrow⟩ := hd4
  subst eL
  refine wq_frz rfl (wq_ret (P := fun d => d = rowsD m fun a b => (L.getD a []).getD b 0) (Ev.wp (d := .tup (L.map fun l => lotD l)) (ev_bi (evs_cons (lc_map (l := L) (inj := fun l => D.lst (natsD l)) (g := fun l => lotD l) (evi_ex (ev_var rfl) rfl) (by omega) (fun _ _ => rfl) fun l hl => ev_bi (evs_cons (ev_var rfl) evs_nil) rfl) evs_nil) rfl) ?_) fun d hd => ⟨_, fun a b ha hb => ?_, hd⟩)
  · unfold rowsD
    congr 1
    refine List.ext_getElem (by rw [List.length_map, List.length_map, List.length_range, hL]) fun i h1 h2 => ?_
    rw [List.getElem_map, List.getElem_map, List.getElem_range, row_lot]
    congr 1
    have hi : i < L.length := by rwa [List.length_map] at h1
    have hg : L.getD i [] = L[i] := by rw [List.getD_eq_getElem?_getD, List.getElem?_eq_getElem hi]; rfl
    show L[i] = (List.range m).map fun b => (L.getD i []).getD b 0
    rw [hg]
    refine List.ext_getElem (by rw [List.length_map, List.length_range, (hrow _ (List.getElem_mem hi)).1]) fun j h3 h4 => ?_
    rw [List.getElem_map, List.getElem_range, List.getD_eq_getElem?_getD, List.getElem?_eq_getElem h3]
    rfl
  · have hi : a < L.length := by omega
    have hg : L.getD a [] = L[a] := by rw [List.getD_eq_getElem?_getD, List.getElem?_eq_getElem hi]; rfl
    have hr := hrow _ (List.getElem_mem hi)
    rw [hg]
    exact hr.2 _ (List.mem_of_getElem? (getD_at (by rw [hr.1]; exact hb)))
end
end K07



set_option Elab.async false
set_option linter.all false
set_option maxRecDepth 100000
set_option maxHeartbeats 8000000
/-! Plain: what the defs of k07 answer. -/
namespace K07
open Mp
open PySem (Str PyData)
theorem fil_nodup {m : Nat} {p : Nat → Bool} : ((List.range m).filter p).Nodup := List.Pairwise.filter _ List.nodup_range
theorem fil_mem {m a : Nat} {p : Nat → Bool} : a ∈ (List.range m).filter p ↔ a < m ∧ p a = true := by rw [List.mem_filter, List.mem_range]
def besF (w : Nat) (f g : Nat → Nat → Nat) (a b : Nat) : Nat := f (a / w) (b / w) * w + g (a % w) (b % w)
theorem bes_lt {m w : Nat} {f g : Nat → Nat → Nat} (h0 : 1 ≤ w) (hf : ∀ a b, a < m → b < m → f a b < m) (hg : ∀ a b, a < w → b < w → g a b < w) {a b : Nat} (ha : a < m * w) (hb : b < m * w) : a / w < m ∧ b / w < m ∧ a % w < w ∧ b % w < w ∧ besF w f g a b < m * w := by
  have h1 : a / w < m := Nat.div_lt_of_lt_mul (by rw [Nat.mul_comm]; exact ha)
  have h2 : b / w < m := Nat.div_lt_of_lt_mul (by rw [Nat.mul_comm]; exact hb)
  have h3 : a % w < w := Nat.mod_lt _ h0
  have h4 : b % w < w := Nat.mod_lt _ h0
  refine ⟨h1, h2, h3, h4, ?_⟩
  have e1 := hf _ _ h1 h2
  have e2 := hg _ _ h3 h4
  unfold besF
  have e3 : (f (a / w) (b / w) + 1) * w ≤ m * w := Nat.mul_le_mul_right w e1
  rw [Nat.add_mul] at e3
  omega
/-! ### what bars cancelling -/
def flp (f : Nat → Nat → Nat) : Nat → Nat → Nat := fun a b => f b a
/-- the least three on the left -/
def clash (m : Nat) (f : Nat → Nat → Nat) : Option (Nat × Nat × Nat) := trip m fun a b c => if f a b = f a c then some (a, b, c) else none
def tri (p : Nat × Nat × Nat) : D := .tup [natD p.1, natD p.2.1, natD p.2.2]
def bar (w : Str) (p : Nat × Nat × Nat) : D := .tup [.str w, natD p.1, natD p.2.1, natD p.2.2]
def both : D := .tup [.str "both"]
def canD (m : Nat) (f : Nat → Nat → Nat) : D := match clash m f with
  | some p => bar "left" p
  | none => match clash m (flp f) with
    | some p => bar "right" p
    | none => both
theorem clash_with {m : Nat} {f : Nat → Nat → Nat} (g : Nat × Nat × Nat → D) : (clash m f).map g = trip m fun a b c => if f a b = f a c then some (g (a, b, c)) else none := by
  unfold clash
  rw [trip_map]
  unfold trip
  refine fs_congr fun a _ => fs_congr fun b _ => fs_congr fun c _ => ?_
  show Option.map g (if f a b = f a c then some (a, b, c) else none) = if f a b = f a c then some (g (a, b, c)) else none
  split <;> rfl
theorem clash_none {m : Nat} {f : Nat → Nat → Nat} : clash m f = none ↔ ∀ a b c, a < m → b < m → c < m → f a b = f a c → b = c := by
  unfold clash
  rw [trip_none]
  constructor
  · intro h a b c ha hb hc e
    rcases Nat.lt_trichotomy b c with z | z | z
    · have := h a b c ha z hc
      rw [if_pos e] at this
      cases this
    · exact z
    · have := h a c b ha z hb
      rw [if_pos e.symm] at this
      cases this
  · intro h a b c ha hb hc
    refine if_neg fun e => ?_
    have := h a b c ha (by omega) hc e
    omega
theorem clash_lt {m : Nat} {f : Nat → Nat → Nat} {p : Nat × Nat × Nat} (h : clash m f = some p) : p.1 < m ∧ p.2.1 < m ∧ p.2.2 < m := by
  obtain ⟨a, b, c, ha, hb, hc, e⟩ := trip_some h
  split at e
  · cases e
    exact ⟨ha, hb, hc⟩
  · cases e
/-- a square -/
def Sqr (m : Nat) (f : Nat → Nat → Nat) : Prop := clash m f = none ∧ clash m (flp f) = none
theorem sq_iff {m : Nat} {f : Nat → Nat → Nat} : Sqr m f ↔ ∀ a b c, a < m → b < m → c < m → (f a b = f a c → b = c) ∧ (f b a = f c a → b = c) := by
  unfold Sqr
  rw [clash_none, clash_none]
  exact ⟨fun h a b c ha hb hc => ⟨h.1 a b c ha hb hc, h.2 a b c ha hb hc⟩, fun h => ⟨fun a b c ha hb hc => (h a b c ha hb hc).1, fun a b c ha hb hc => (h a b c ha hb hc).2⟩⟩
theorem sqB_iff {m : Nat} {f : Nat → Nat → Nat} : sqB m f = true ↔ Sqr m f := by
  rw [sq_iff]
  unfold sqB
  simp only [List.all_eq_true, List.mem_range, decide_eq_true_eq]
  constructor
  · intro h a b c ha hb hc
    refine ⟨fun e => ?_, fun e => ?_⟩
    · rcases Nat.lt_trichotomy b c with z | z | z
      · exact absurd e (h a ha b hb c hc z).1
      · exact z
      · exact absurd e.symm (h a ha c hc b hb z).1
    · rcases Nat.lt_trichotomy b c with z | z | z
      · exact absurd e (h a ha b hb c hc z).2
      · exact z
      · exact absurd e.symm (h a ha c hc b hb z).2
  · intro h a ha b hb c hc hbc
    exact ⟨fun e => by have := (h a b c ha hb hc).1 e; omega, fun e => by have := (h a b c ha hb hc).2 e; omega⟩
theorem sq_flp {m : Nat} {f : Nat → Nat → Nat} : Sqr m (flp f) ↔ Sqr m f := ⟨fun h => ⟨h.2, h.1⟩, fun h => ⟨h.2, h.1⟩⟩
theorem can_both {m : Nat} {f : Nat → Nat → Nat} : canD m f = both ↔ Sqr m f := by
  unfold canD Sqr
  cases h1 : clash m f with
  | some p =>
    refine ⟨fun h => ?_, fun h => ?_⟩
    · unfold bar both at h
      simp at h
    · cases h.1
  | none =>
    cases h2 : clash m (flp f) with
    | some p =>
      refine ⟨fun h => ?_, fun h => ?_⟩
      · unfold bar both at h
        simp at h
      · cases h.2
    | none => exact ⟨fun _ => ⟨rfl, rfl⟩, fun _ => rfl⟩
theorem sqB_can {m : Nat} {f : Nat → Nat → Nat} : canD m f = both ↔ sqB m f = true := by rw [can_both, sqB_iff]
theorem sqB_flp {m : Nat} {f : Nat → Nat → Nat} : sqB m (flp f) = sqB m f := by
  rw [Bool.eq_iff_iff, sqB_iff, sqB_iff, sq_flp]
theorem cell_tab {m a b : Nat} {f : Nat → Nat → Nat} (ha : a < m) (hb : b < m) : cellD (tabD m f) a b = f a b := by
  have e1 : ((List.range m).map fun a => rowD m (f a))[a]? = some (rowD m (f a)) := by rw [List.getElem?_map, range_get ha]; rfl
  have e2 : ((List.range m).map fun b => natD (f a b))[b]? = some (natD (f a b)) := by rw [List.getElem?_map, range_get hb]; rfl
  unfold tabD rowsD cellD
  simp only [e1]
  unfold rowD
  simp only [e2]
  unfold natD
  simp
theorem sq_tab {m : Nat} {f : Nat → Nat → Nat} : sqB (sizeD (tabD m f)) (cellD (tabD m f)) = sqB m f := by
  have e : sizeD (tabD m f) = m := by
    unfold tabD sizeD natD
    simp
  rw [e, Bool.eq_iff_iff, sqB_iff, sqB_iff, sq_iff, sq_iff]
  constructor
  · intro h a b c ha hb hc
    have := h a b c ha hb hc
    rw [cell_tab ha hb, cell_tab ha hc, cell_tab hb ha, cell_tab hc ha] at this
    exact this
  · intro h a b c ha hb hc
    rw [cell_tab ha hb, cell_tab ha hc, cell_tab hb ha, cell_tab hc ha]
    exact h a b c ha hb hc
theorem sok_can {m : Nat} {f : Nat → Nat → Nat} : sok 1 (canD m f) = true := by
  unfold canD
  split
  · rfl
  · split
    · rfl
    · rfl
theorem rpr_can {m : Nat} {f : Nat → Nat → Nat} (h8 : m ≤ 8) : rprOk (canD m f) = true := by
  have wl : ∀ w ∈ (["left", "right", "both"] : List Str), Lf 0 8 (.str w) := by
    intro w hw
    have : ∀ w ∈ (["left", "right", "both"] : List Str), (D.str w).pl = true ∧ (D.str w).py.depth ≤ 0 ∧ (D.str w).py.showable = true ∧ (D.str w).py.leavesShort 13 = true ∧ (D.str w).py.bulk ≤ 8 := by decide +kernel
    obtain ⟨a, b, c, d, e⟩ := this w hw
    exact ⟨a, b, c, d, e⟩
  have lb : ∀ w ∈ (["left", "right", "both"] : List Str), ∀ p : Nat × Nat × Nat, p.1 < m ∧ p.2.1 < m ∧ p.2.2 < m → rprOk (bar w p) = true := fun w hw p hp => by
    refine (Lf.tup (n := 0) (k := 8) fun x hx => ?_).ok (by decide) (by simp)
    rcases List.mem_cons.mp hx with rfl | hx
    · exact wl w hw
    · rcases List.mem_cons.mp hx with rfl | hx
      · exact Lf.nat _ _ (by omega)
      · rcases List.mem_cons.mp hx with rfl | hx
        · exact Lf.nat _ _ (by omega)
        · rw [List.mem_singleton.mp hx]
          exact Lf.nat _ _ (by omega)
  unfold canD
  split
  · rename_i p hp
    exact lb _ (by decide) p (clash_lt hp)
  · split
    · rename_i p hp
      exact lb _ (by decide) p (clash_lt hp)
    · exact (Lf.tup (n := 0) (k := 8) fun x hx => by rw [List.mem_singleton.mp hx]; exact wl _ (by decide)).ok (by decide) (by simp)
section
variable {S : Type} {dr : Dr S} {n m w : Nat} {f g : Nat → Nat → Nat} {env : Env}
theorem s_check_room (h : m ≤ 8) : callN G dr (n + 1) 115 [natD m] = M.pure .non := by
  refine call_nxt rfl rfl (run_no (ev_cmp (ev_var rfl) (ev_con (d := natD 8)) ?_) run_nil)
  rw [gt_nat, decide_eq_false (by omega)]
theorem s_beside_of (h0 : 1 ≤ m) (hw : 1 ≤ w) (h8 : m * w ≤ 8) (hf : ∀ a b, a < m → b < m → f a b < m) (hg : ∀ a b, a < w → b < w → g a b < w) : callN G dr (n + 8) 63 [tabD m f, tabD w g] = M.pure (tabD (m * w) (besF w f g)) := by
  have hw8 : w ≤ 8 := Nat.le_trans (Nat.le_mul_of_pos_left w h0) h8
  have hv : nocls [tabD w g, natD w, tabD m f] = true := by
    show (noclo (tabD w g) && (noclo (natD w) && (noclo (tabD m f) && true))) = true
    rw [nc_tab, nc_tab]
    rfl
  refine call_ret rfl rfl (run_set (d := natD w) (ev_fld (ev_var rfl) rfl) (run_set (d := natD (m * w)) (ev_bin (ev_fld (ev_var rfl) rfl) (ev_var rfl) (mul_nat (by omega)))
    (run_ret (ev_callc (evs_cons (ev_var rfl) evs_nil) (vs := [tabD w g, natD w, tabD m f]) rfl hv (s_made (Nat.mul_le_mul h0 hw) h8 (fun a b ha hb => (bes_lt hw hf hg ha hb).2.2.2.2) hv fun a b ha hb => ?_) (nc_tab _ _)))))
  obtain ⟨h1, h2, h3, h4, _⟩ := bes_lt hw hf hg ha hb
  exact call_ret rfl rfl (run_ret (ev_bin (ev_bin (ev_idx (ev_idx (ev_fld (ev_var rfl) rfl) (ev_bin (ev_var rfl) (ev_var rfl) (div_nat hw (by omega))) (idx_rows h1)) (ev_bin (ev_var rfl) (ev_var rfl) (div_nat hw (by omega))) (idx_row h2)) (ev_var rfl) (mul_nat (by omega)))
    (ev_idx (ev_idx (ev_fld (ev_var rfl) rfl) (ev_bin (ev_var rfl) (ev_var rfl) (mod_nat hw)) (idx_rows h3)) (ev_bin (ev_var rfl) (ev_var rfl) (mod_nat hw)) (idx_row h4)) add_nat))
theorem s_beside (h0 : 1 ≤ m) (hw : 1 ≤ w) (h8 : m * w ≤ 8) (hf : ∀ a b, a < m → b < m → f a b < m) (hg : ∀ a b, a < w → b < w → g a b < w) : callN G dr (n + 9) 62 [tabD m f, tabD w g] = M.pure (tabD (m * w) (besF w f g)) := by
  have hw8 : w ≤ 8 := Nat.le_trans (Nat.le_mul_of_pos_left w h0) h8
  exact call_ret rfl rfl (run_expr (ev_call (evs_cons (ev_bin (ev_fld (ev_var rfl) rfl) (ev_fld (ev_var rfl) rfl) (mul_nat (by omega))) evs_nil) (s_check_room h8)) (run_ret (ev_call (evs_cons (ev_var rfl) (evs_cons (ev_var rfl) evs_nil)) (s_beside_of h0 hw h8 hf hg))))
theorem s_is_thing {a : Nat} (h : a < m) : callN G dr (n + 3) 309 [tabD m f, natD a] = M.pure (.bl true) := by
  refine call_ret rfl rfl (run_ret ?_)
  have e : D.bl true = D.bl (decide ((0 : Int) ≤ (a : Int)) && decide ((a : Int) ≤ (m : Int) - 1)) := by
    rw [decide_eq_true (by omega), decide_eq_true (by omega)]
    rfl
  rw [e]
  exact ev_call (evs_cons (ev_var rfl) (evs_cons ev_con (evs_cons (ev_bin (ev_fld (ev_var rfl) rfl) ev_con rfl) evs_nil))) s_is_within
theorem s_check_thing {a : Nat} (h : a < m) : callN G dr (n + 4) 125 [tabD m f, natD a] = M.pure .non := call_nxt rfl rfl (run_no (ev_not (j := true) (ev_call (evs_cons (ev_var rfl) (evs_cons (ev_var rfl) evs_nil)) (s_is_thing h))) run_nil)
theorem s_check_two {a b : Nat} (ha : a < m) (hb : b < m) : callN G dr (n + 5) 129 [tabD m f, natD a, natD b] = M.pure .non :=
  call_nxt rfl rfl (run_expr (ev_call (evs_cons (ev_var rfl) (evs_cons (ev_var rfl) evs_nil)) (s_check_thing ha)) (run_expr (ev_call (evs_cons (ev_var rfl) (evs_cons (ev_var rfl) evs_nil)) (s_check_thing hb)) run_nil))
theorem s_check_size (h0 : 1 ≤ m) (h8 : m ≤ 8) : callN G dr (n + 4) 120 [natD m] = M.pure .non := call_nxt rfl rfl (run_no (ev_not (j := true) (ev_call (evs_cons (ev_var rfl) evs_nil) (s_is_size h0 h8))) run_nil)
theorem s_sums (h0 : 1 ≤ m) (h8 : m ≤ 8) : callN G dr (n + 8) 579 [natD m] = M.pure (tabD m fun a b => (a + b) % m) :=
  call_ret rfl rfl (run_expr (ev_call (evs_cons (ev_var rfl) evs_nil) (s_check_size h0 h8)) (run_ret (ev_callc (evs_cons (ev_var rfl) evs_nil) (vs := [natD m]) rfl rfl (s_made h0 h8 (fun a b _ _ => Nat.mod_lt _ h0) rfl fun a b ha hb => call_ret rfl rfl (run_ret (ev_bin (ev_bin (ev_var rfl) (ev_var rfl) add_nat) (ev_var rfl) (mod_nat h0)))) (nc_tab _ _))))
theorem s_least (h0 : 1 ≤ m) (h8 : m ≤ 8) : callN G dr (n + 8) 349 [natD m] = M.pure (tabD m fun a b => min a b) := by
  refine call_ret rfl rfl (run_expr (ev_call (evs_cons (ev_var rfl) evs_nil) (s_check_size h0 h8)) (run_ret (ev_callc (evs_cons (ev_var rfl) evs_nil) (vs := []) rfl rfl (s_made h0 h8 (fun a b ha hb => by omega) rfl fun a b ha hb => ?_) (nc_tab _ _))))
  refine call_ret (d := natD (min a b)) rfl rfl (run_ret (ev_bi (evs_cons (ev_var rfl) (evs_cons (ev_var rfl) evs_nil)) ?_))
  show some (D.int (if (b : Int) < (a : Int) then (b : Int) else (a : Int))) = some (D.int ((min a b : Nat) : Int))
  congr 2
  split <;> omega
theorem s_left_clash (hm : m ≤ LIM) : callN G dr (n + 1) 368 [tabD m f] = M.pure (((clash m f).map tri).getD .non) := by
  have k := exs_trip (call := callN G dr n) (ia := 1) (ib := 2) (ic := 3) (m := m) (mE := .fld 0 (.var 0) 0) (bd := [.ite (.cmp .eq (.idx (.idx (.fld 0 (.var 0) 1) (.var 1)) (.var 2)) (.idx (.idx (.fld 0 (.var 0) 1) (.var 1)) (.var 3))) [.ret (.tup [.var 1, .var 2, .var 3])] []]) (E := fun x y z => [.fz (tabD m f), x, y, z]) (r := fun a b c => if f a b = f a c then some (tri (a, b, c)) else none) hm (fun _ _ _ _ => rfl) (fun _ _ _ _ => rfl) (fun _ _ _ _ => rfl) (fun _ _ _ => ev_fld (ev_var rfl) rfl) (fun _ _ _ => rfl) (fun a b c ha hb hc => by
    have c0 : Ev (callN G dr n) (.cmp .eq (.idx (.idx (.fld 0 (.var 0) 1) (.var 1)) (.var 2)) (.idx (.idx (.fld 0 (.var 0) 1) (.var 1)) (.var 3))) [.fz (tabD m f), .fz (natD a), .fz (natD b), .fz (natD c)] (.bl (decide (f a b = f a c))) := ev_cmp (ev_idx (ev_idx (ev_fld (ev_var rfl) rfl) (ev_var rfl) (idx_rows ha)) (ev_var rfl) (idx_row (by omega))) (ev_idx (ev_idx (ev_fld (ev_var rfl) rfl) (ev_var rfl) (idx_rows ha)) (ev_var rfl) (idx_row hc)) int_cmp
    by_cases e : f a b = f a c
    · rw [decide_eq_true e] at c0
      simp only [if_pos e]
      exact run_yes c0 (run_ret (ev_tup (evs_cons (ev_var rfl) (evs_cons (ev_var rfl) (evs_cons (ev_var rfl) evs_nil)))))
    · rw [decide_eq_false e] at c0
      simp only [if_neg e]
      exact run_no c0 run_nil) .un .un .un
  rw [← clash_with tri] at k
  cases h : clash m f with
  | some p =>
    rw [h] at k
    refine call_ret rfl rfl ?_
    exact seq_ret k
  | none =>
    rw [h] at k
    obtain ⟨e2, k1, x, y, z, rfl⟩ := k
    refine call_ret rfl rfl ?_
    exact seq_nxt k1 (run_ret ev_con)
theorem s_right_clash (hm : m ≤ LIM) : callN G dr (n + 1) 512 [tabD m f] = M.pure (((clash m (flp f)).map tri).getD .non) := by
  have k := exs_trip (call := callN G dr n) (ia := 1) (ib := 2) (ic := 3) (m := m) (mE := .fld 0 (.var 0) 0) (bd := [.ite (.cmp .eq (.idx (.idx (.fld 0 (.var 0) 1) (.var 2)) (.var 1)) (.idx (.idx (.fld 0 (.var 0) 1) (.var 3)) (.var 1))) [.ret (.tup [.var 1, .var 2, .var 3])] []]) (E := fun x y z => [.fz (tabD m f), x, y, z]) (r := fun a b c => if flp f a b = flp f a c then some (tri (a, b, c)) else none) hm (fun _ _ _ _ => rfl) (fun _ _ _ _ => rfl) (fun _ _ _ _ => rfl) (fun _ _ _ => ev_fld (ev_var rfl) rfl) (fun _ _ _ => rfl) (fun a b c ha hb hc => by
    have c0 : Ev (callN G dr n) (.cmp .eq (.idx (.idx (.fld 0 (.var 0) 1) (.var 2)) (.var 1)) (.idx (.idx (.fld 0 (.var 0) 1) (.var 3)) (.var 1))) [.fz (tabD m f), .fz (natD a), .fz (natD b), .fz (natD c)] (.bl (decide (flp f a b = flp f a c))) := ev_cmp (ev_idx (ev_idx (ev_fld (ev_var rfl) rfl) (ev_var rfl) (idx_rows (by omega))) (ev_var rfl) (idx_row ha)) (ev_idx (ev_idx (ev_fld (ev_var rfl) rfl) (ev_var rfl) (idx_rows hc)) (ev_var rfl) (idx_row ha)) int_cmp
    by_cases e : flp f a b = flp f a c
    · rw [decide_eq_true e] at c0
      simp only [if_pos e]
      exact run_yes c0 (run_ret (ev_tup (evs_cons (ev_var rfl) (evs_cons (ev_var rfl) (evs_cons (ev_var rfl) evs_nil)))))
    · rw [decide_eq_false e] at c0
      simp only [if_neg e]
      exact run_no c0 run_nil) .un .un .un
  rw [← clash_with tri] at k
  cases h : clash m (flp f) with
  | some p =>
    rw [h] at k
    refine call_ret rfl rfl ?_
    exact seq_ret k
  | none =>
    rw [h] at k
    obtain ⟨e2, k1, x, y, z, rfl⟩ := k
    refine call_ret rfl rfl ?_
    exact seq_nxt k1 (run_ret ev_con)
theorem s_cancels (hm : m ≤ LIM) : callN G dr (n + 2) 76 [tabD m f] = M.pure (canD m f) := by
  have l1 := s_left_clash (dr := dr) (n := n) (f := f) hm
  have l2 := s_right_clash (dr := dr) (n := n) (f := f) hm
  unfold canD
  cases h : clash m f with
  | some p =>
    rw [h] at l1
    refine call_ret rfl rfl (run_tset (ds := [tri p, ((clash m (flp f)).map tri).getD .non]) (evs_cons (ev_call (evs_cons (ev_var rfl) evs_nil) l1) (evs_cons (ev_call (evs_cons (ev_var rfl) evs_nil) l2) evs_nil)) rfl (run_yes (ev_notn (x := tri p) (ev_var rfl)) (run_ret (ev_bin (x := .tup [.str "left"]) (y := tri p) (ev_tup (evs_cons ev_con evs_nil)) (ev_var rfl) ?_))))
    exact cat_tup (xs := [D.str "left"]) (ys := [natD p.1, natD p.2.1, natD p.2.2]) (by show (1 : Nat) + 3 ≤ LIM; decide)
  | none =>
    rw [h] at l1
    cases h2 : clash m (flp f) with
    | some p =>
      rw [h2] at l2
      refine call_ret rfl rfl (run_tset (ds := [.non, tri p]) (evs_cons (ev_call (evs_cons (ev_var rfl) evs_nil) l1) (evs_cons (ev_call (evs_cons (ev_var rfl) evs_nil) l2) evs_nil)) rfl (run_no (ev_notn (x := .non) (ev_var rfl)) (run_ret (ev_ite (k := false) (ev_isn (x := tri p) (ev_var rfl)) (fun z => by cases z) fun _ => ev_bin (x := .tup [.str "right"]) (y := tri p) (ev_tup (evs_cons ev_con evs_nil)) (ev_var rfl) ?_))))
      exact cat_tup (xs := [D.str "right"]) (ys := [natD p.1, natD p.2.1, natD p.2.2]) (by show (1 : Nat) + 3 ≤ LIM; decide)
    | none =>
      rw [h2] at l2
      exact call_ret rfl rfl (run_tset (ds := [.non, .non]) (evs_cons (ev_call (evs_cons (ev_var rfl) evs_nil) l1) (evs_cons (ev_call (evs_cons (ev_var rfl) evs_nil) l2) evs_nil)) rfl (run_no (ev_notn (x := .non) (ev_var rfl)) (run_ret (ev_ite (k := true) (ev_isn (x := .non) (ev_var rfl)) (fun _ => ev_tup (evs_cons ev_con evs_nil)) fun z => by cases z))))
theorem is_both {call : Nat → List D → M S D} {env : Env} {a : Ex} (h : Ev call a env (canD m f)) : Ev call (.cmp .eq a (.tup [.con (.str "both")])) env (.bl (sqB m f)) :=
  ev_cmp h (ev_tup (evs_cons ev_con evs_nil)) (eq_dec (n := 1) (m := 1) sok_can rfl (by decide) (by decide) sqB_can)
theorem s_is_square (hm : m ≤ LIM) : callN G dr (n + 4) 297 [tabD m f] = M.pure (.bl (sqB m f)) := by
  refine call_ret rfl rfl (run_ret (ev_call (evs_cons (ev_var rfl) evs_nil) (call_memo (t := tabD m f) (y := "square") rfl rfl rfl rfl rfl ?_ rfl (is_both (ev_call (evs_cons (ev_var rfl) evs_nil) (s_cancels hm))))))
  show some (D.bl (sqB (sizeD (tabD m f)) (cellD (tabD m f)))) = _
  rw [sq_tab]
def divL (m : Nat) (f : Nat → Nat → Nat) (a b : Nat) : List Nat := (List.range m).filter fun x => decide (f a x = b)
theorem s_divided_left {a b : Nat} (hm : m ≤ LIM) (ha : a < m) : callN G dr (n + 1) 151 [tabD m f, natD a, natD b] = M.pure (.lst (natsD (divL m f a b))) :=
  call_ret rfl rfl (run_ret (lc_fil (l := List.range m) (inj := natD) (g := natD) (p := fun x => decide (f a x = b)) (evi_nat (ev_fld (ev_var rfl) rfl) hm) (by rw [List.length_range]; exact hm) (fun _ _ => rfl) (fun x hx => ev_cmp (ev_idx (ev_idx (ev_fld (ev_var rfl) rfl) (ev_var rfl) (idx_rows ha)) (ev_var rfl) (idx_row (List.mem_range.mp hx))) (ev_var rfl) int_cmp) fun x _ _ => ev_var rfl))
theorem s_divided_right {a b : Nat} (hm : m ≤ LIM) (ha : a < m) : callN G dr (n + 1) 152 [tabD m f, natD a, natD b] = M.pure (.lst (natsD (divL m (flp f) a b))) :=
  call_ret rfl rfl (run_ret (lc_fil (l := List.range m) (inj := natD) (g := natD) (p := fun x => decide (flp f a x = b)) (evi_nat (ev_fld (ev_var rfl) rfl) hm) (by rw [List.length_range]; exact hm) (fun _ _ => rfl) (fun x hx => ev_cmp (ev_idx (ev_idx (ev_fld (ev_var rfl) rfl) (ev_var rfl) (idx_rows (List.mem_range.mp hx))) (ev_var rfl) (idx_row ha)) (ev_var rfl) int_cmp) fun x _ _ => ev_var rfl))
theorem s_divides {a b : Nat} (hm : m ≤ LIM) (ha : a < m) (hb : b < m) : callN G dr (n + 6) 153 [tabD m f, natD a, natD b] = M.pure (.tup [lotD (divL m f a b), lotD (divL m (flp f) a b)]) :=
  call_ret rfl rfl (run_expr (ev_call (evs_cons (ev_var rfl) (evs_cons (ev_var rfl) (evs_cons (ev_var rfl) evs_nil))) (s_check_two ha hb)) (run_ret (ev_tup (evs_cons (ev_bi (evs_cons (ev_call (evs_cons (ev_var rfl) (evs_cons (ev_var rfl) (evs_cons (ev_var rfl) evs_nil))) (s_divided_left hm ha)) evs_nil) rfl) (evs_cons (ev_bi (evs_cons (ev_call (evs_cons (ev_var rfl) (evs_cons (ev_var rfl) (evs_cons (ev_var rfl) evs_nil))) (s_divided_right hm ha)) evs_nil) rfl) evs_nil)))))
/-- the law's own look -/
theorem s_bar (hm : m ≤ LIM) : callN G dr (n + 1) 2027 [natD m, rowsD m f] = M.pure (canD m f) := by
  have loop : ∀ (k : Bool) (x y z : Slot), match trip m (fun a b c => if (if k then f else flp f) a b = (if k then f else flp f) a c then some (bar (if k then "left" else "right") (a, b, c)) else none) with
      | some d => exs (callN G dr n) [.for (.one 3) (.rng (.con (.int 0)) (.var 0)) [.for (.one 4) (.rng (.con (.int 0)) (.var 0)) [.for (.one 5) (.rng (.bin .add (.var 4) (.con (.int 1))) (.var 0)) [.ite (.and (.cmp .eq (.var 2) (.con (.str "left"))) (.cmp .eq (.idx (.idx (.var 1) (.var 3)) (.var 4)) (.idx (.idx (.var 1) (.var 3)) (.var 5)))) [.ret (.tup [.var 2, .var 3, .var 4, .var 5])] [], .ite (.and (.cmp .eq (.var 2) (.con (.str "right"))) (.cmp .eq (.idx (.idx (.var 1) (.var 4)) (.var 3)) (.idx (.idx (.var 1) (.var 5)) (.var 3)))) [.ret (.tup [.var 2, .var 3, .var 4, .var 5])] []]]]] [.fz (natD m), .fz (rowsD m f), .fz (.str (if k then "left" else "right")), x, y, z] = M.pure (.ret d)
      | none => ∃ e2, exs (callN G dr n) [.for (.one 3) (.rng (.con (.int 0)) (.var 0)) [.for (.one 4) (.rng (.con (.int 0)) (.var 0)) [.for (.one 5) (.rng (.bin .add (.var 4) (.con (.int 1))) (.var 0)) [.ite (.and (.cmp .eq (.var 2) (.con (.str "left"))) (.cmp .eq (.idx (.idx (.var 1) (.var 3)) (.var 4)) (.idx (.idx (.var 1) (.var 3)) (.var 5)))) [.ret (.tup [.var 2, .var 3, .var 4, .var 5])] [], .ite (.and (.cmp .eq (.var 2) (.con (.str "right"))) (.cmp .eq (.idx (.idx (.var 1) (.var 4)) (.var 3)) (.idx (.idx (.var 1) (.var 5)) (.var 3)))) [.ret (.tup [.var 2, .var 3, .var 4, .var 5])] []]]]] [.fz (natD m), .fz (rowsD m f), .fz (.str (if k then "left" else "right")), x, y, z] = M.pure (.nxt e2) ∧ ∃ x' y' z', e2 = [.fz (natD m), .fz (rowsD m f), .fz (.str (if k then "left" else "right")), x', y', z'] := fun k x y z => by
    refine exs_trip (call := callN G dr n) (ia := 3) (ib := 4) (ic := 5) (m := m) (mE := .var 0) (E := fun x y z => [.fz (natD m), .fz (rowsD m f), .fz (.str (if k then "left" else "right")), x, y, z]) hm (fun _ _ _ _ => rfl) (fun _ _ _ _ => rfl) (fun _ _ _ _ => rfl) (fun _ _ _ => ev_var rfl) (fun _ _ _ => rfl) (fun a b c ha hb hc => ?_) x y z
    have hbm : b < m := by omega
    have c1 : Ev (callN G dr n) (.cmp .eq (.idx (.idx (.var 1) (.var 3)) (.var 4)) (.idx (.idx (.var 1) (.var 3)) (.var 5))) [.fz (natD m), .fz (rowsD m f), .fz (.str (if k then "left" else "right")), .fz (natD a), .fz (natD b), .fz (natD c)] (.bl (decide (f a b = f a c))) := ev_cmp (ev_idx (ev_idx (ev_var rfl) (ev_var rfl) (idx_rows ha)) (ev_var rfl) (idx_row hbm)) (ev_idx (ev_idx (ev_var rfl) (ev_var rfl) (idx_rows ha)) (ev_var rfl) (idx_row hc)) int_cmp
    have c2 : Ev (callN G dr n) (.cmp .eq (.idx (.idx (.var 1) (.var 4)) (.var 3)) (.idx (.idx (.var 1) (.var 5)) (.var 3))) [.fz (natD m), .fz (rowsD m f), .fz (.str (if k then "left" else "right")), .fz (natD a), .fz (natD b), .fz (natD c)] (.bl (decide (flp f a b = flp f a c))) := ev_cmp (ev_idx (ev_idx (ev_var rfl) (ev_var rfl) (idx_rows hbm)) (ev_var rfl) (idx_row ha)) (ev_idx (ev_idx (ev_var rfl) (ev_var rfl) (idx_rows hc)) (ev_var rfl) (idx_row ha)) int_cmp
    have wl : Ev (callN G dr n) (.cmp .eq (.var 2) (.con (.str "left"))) [.fz (natD m), .fz (rowsD m f), .fz (.str (if k then "left" else "right")), .fz (natD a), .fz (natD b), .fz (natD c)] (.bl k) := ev_cmp (ev_var rfl) ev_con (by cases k <;> decide +kernel)
    have wr : Ev (callN G dr n) (.cmp .eq (.var 2) (.con (.str "right"))) [.fz (natD m), .fz (rowsD m f), .fz (.str (if k then "left" else "right")), .fz (natD a), .fz (natD b), .fz (natD c)] (.bl (!k)) := ev_cmp (ev_var rfl) ev_con (by cases k <;> decide +kernel)
    have out : Run (callN G dr n) [.ret (.tup [.var 2, .var 3, .var 4, .var 5])] [.fz (natD m), .fz (rowsD m f), .fz (.str (if k then "left" else "right")), .fz (natD a), .fz (natD b), .fz (natD c)] (.ret (bar (if k then "left" else "right") (a, b, c))) := run_ret (ev_tup (evs_cons (ev_var rfl) (evs_cons (ev_var rfl) (evs_cons (ev_var rfl) (evs_cons (ev_var rfl) evs_nil)))))
    have t1 := ev_and wl fun _ => c1
    have t2 := ev_and wr fun _ => c2
    cases k with
    | true =>
      by_cases e : f a b = f a c
      · rw [decide_eq_true e] at t1
        simp only [if_true, if_pos e]
        exact run_yes t1 out
      · rw [decide_eq_false e] at t1
        simp only [if_true, if_neg e]
        exact run_no t1 (run_no t2 run_nil)
    | false =>
      by_cases e : flp f a b = flp f a c
      · rw [decide_eq_true e] at t2
        simp only [Bool.false_eq_true, if_false, if_pos e]
        exact run_no t1 (run_yes t2 out)
      · rw [decide_eq_false e] at t2
        simp only [Bool.false_eq_true, if_false, if_neg e]
        exact run_no t1 (run_no t2 run_nil)
  refine call_ret rfl rfl (run_find (l := [true, false]) (inj := fun k => D.str (if k then "left" else "right")) (r := fun k => trip m (fun a b c => if (if k then f else flp f) a b = (if k then f else flp f) a c then some (bar (if k then "left" else "right") (a, b, c)) else none)) (I := fun e => ∃ w x y z, e = [.fz (natD m), .fz (rowsD m f), w, x, y, z]) (evi_ex (x := .tup [.str "left", .str "right"]) (ev_tup (evs_cons ev_con (evs_cons ev_con evs_nil))) rfl) ⟨_, _, _, _, rfl⟩ (fun k _ e ⟨w, x, y, z, he⟩ => ?_) ?_)
  · subst he
    refine ⟨_, rfl, ?_⟩
    have q := loop k x y z
    cases ht : trip m (fun a b c => if (if k then f else flp f) a b = (if k then f else flp f) a c then some (bar (if k then "left" else "right") (a, b, c)) else none) with
    | some d => rw [ht] at q; exact q
    | none =>
      rw [ht] at q
      obtain ⟨e2, q1, x', y', z', q2⟩ := q
      exact ⟨e2, q1, _, x', y', z', q2⟩
  · have e1 : trip m (fun a b c => if (if true = true then f else flp f) a b = (if true = true then f else flp f) a c then some (bar (if true = true then "left" else "right") (a, b, c)) else none) = (clash m f).map (bar "left") := (clash_with (bar "left")).symm
    have e2 : trip m (fun a b c => if (if false = true then f else flp f) a b = (if false = true then f else flp f) a c then some (bar (if false = true then "left" else "right") (a, b, c)) else none) = (clash m (flp f)).map (bar "right") := (clash_with (bar "right")).symm
    rw [List.findSome?_cons, List.findSome?_cons, e1, e2]
    unfold canD
    cases h : clash m f with
    | some p => rfl
    | none =>
      cases h2 : clash m (flp f) with
      | some p => rfl
      | none =>
        rintro e ⟨w, x, y, z, rfl⟩
        exact run_ret (ev_tup (evs_cons ev_con evs_nil))
end
end K07

set_option Elab.async false
set_option linter.all false
set_option maxRecDepth 100000
set_option maxHeartbeats 8000000
/-! Plain: the law k07. -/
namespace K07
open Mp
open PySem (Str PyData)
theorem div_mod {x y w r s : Nat} (hr : r < w) (hs : s < w) (e : x * w + r = y * w + s) : x = y ∧ r = s := by
  have h0 : 0 < w := by omega
  have d : ∀ {a b : Nat}, b < w → (a * w + b) / w = a ∧ (a * w + b) % w = b := fun {a b} hb => ⟨by rw [Nat.mul_comm, Nat.mul_add_div h0, Nat.div_eq_of_lt hb, Nat.add_zero], by rw [Nat.mul_comm, Nat.mul_add_mod, Nat.mod_eq_of_lt hb]⟩
  have e1 := congrArg (· / w) e
  have e2 := congrArg (· % w) e
  simp only [(d hr).1, (d hs).1] at e1
  simp only [(d hr).2, (d hs).2] at e2
  exact ⟨e1, e2⟩
theorem bes_at {w x y a b : Nat} {f g : Nat → Nat → Nat} (hx : x < w) (hy : y < w) : besF w f g (a * w + x) (b * w + y) = f a b * w + g x y := by
  have h0 : 0 < w := by omega
  have d : ∀ {a b : Nat}, b < w → (a * w + b) / w = a ∧ (a * w + b) % w = b := fun {a b} hb => ⟨by rw [Nat.mul_comm, Nat.mul_add_div h0, Nat.div_eq_of_lt hb, Nat.add_zero], by rw [Nat.mul_comm, Nat.mul_add_mod, Nat.mod_eq_of_lt hb]⟩
  unfold besF
  rw [(d hx).1, (d hx).2, (d hy).1, (d hy).2]
theorem put_lt {m w a t : Nat} (ha : a < m) (ht : t < w) : a * w + t < m * w := by
  have : (a + 1) * w ≤ m * w := Nat.mul_le_mul_right w ha
  rw [Nat.add_mul] at this
  omega
theorem sq_bes {m w : Nat} {f g : Nat → Nat → Nat} (h0 : 1 ≤ m) (hw : 1 ≤ w) (hg : ∀ a b, a < w → b < w → g a b < w) : Sqr (m * w) (besF w f g) ↔ Sqr m f ∧ Sqr w g := by
  rw [sq_iff, sq_iff, sq_iff]
  constructor
  · intro h
    refine ⟨fun a b c ha hb hc => ?_, fun x y z hx hy hz => ?_⟩
    · have q := h (a * w + 0) (b * w + 0) (c * w + 0) (put_lt ha hw) (put_lt hb hw) (put_lt hc hw)
      rw [bes_at hw hw, bes_at hw hw, bes_at hw hw, bes_at hw hw] at q
      exact ⟨fun e => (div_mod hw hw (q.1 (by rw [e]))).1, fun e => (div_mod hw hw (q.2 (by rw [e]))).1⟩
    · have q := h (0 * w + x) (0 * w + y) (0 * w + z) (put_lt h0 hx) (put_lt h0 hy) (put_lt h0 hz)
      rw [bes_at hx hy, bes_at hx hz, bes_at hy hx, bes_at hz hx] at q
      exact ⟨fun e => (div_mod hy hz (q.1 (by rw [e]))).2, fun e => (div_mod hy hz (q.2 (by rw [e]))).2⟩
  · intro ⟨h1, h2⟩ a b c ha hb hc
    have da : ∀ {a : Nat}, a < m * w → a / w < m ∧ a % w < w ∧ a = a / w * w + a % w := fun {a} ha => ⟨Nat.div_lt_of_lt_mul (by rw [Nat.mul_comm]; exact ha), Nat.mod_lt _ hw, by rw [Nat.mul_comm]; exact (Nat.div_add_mod a w).symm⟩
    obtain ⟨a1, a2, a3⟩ := da ha
    obtain ⟨b1, b2, b3⟩ := da hb
    obtain ⟨c1, c2, c3⟩ := da hc
    have q1 := h1 _ _ _ a1 b1 c1
    have q2 := h2 _ _ _ a2 b2 c2
    refine ⟨fun e => ?_, fun e => ?_⟩
    · obtain ⟨z1, z2⟩ := div_mod (hg _ _ a2 b2) (hg _ _ a2 c2) (show f (a / w) (b / w) * w + g (a % w) (b % w) = f (a / w) (c / w) * w + g (a % w) (c % w) from e)
      rw [b3, c3, q1.1 z1, q2.1 z2]
    · obtain ⟨z1, z2⟩ := div_mod (hg _ _ b2 a2) (hg _ _ c2 a2) (show f (b / w) (a / w) * w + g (b % w) (a % w) = f (c / w) (a / w) * w + g (c % w) (a % w) from e)
      rw [b3, c3, q1.2 z1, q2.2 z2]
theorem sqB_bes {m w : Nat} {f g : Nat → Nat → Nat} (h0 : 1 ≤ m) (hw : 1 ≤ w) (hg : ∀ a b, a < w → b < w → g a b < w) : sqB (m * w) (besF w f g) = (sqB m f && sqB w g) := by
  rw [Bool.eq_iff_iff, Bool.and_eq_true, sqB_iff, sqB_iff, sqB_iff]
  exact sq_bes h0 hw hg
/-- of a square each lot has one thing -/
theorem one_div {m a b : Nat} {f : Nat → Nat → Nat} (hs : Sqr m f) (hf : ∀ a b, a < m → b < m → f a b < m) (ha : a < m) (hb : b < m) : (divL m f a b).length = 1 := by
  have h := sq_iff.mp hs
  have nd : ((List.range m).map (f a)).Nodup := by
    rw [List.Nodup, List.pairwise_map]
    refine List.Pairwise.imp_of_mem (fun {x y} hx hy hne e => hne ?_) (show (List.range m).Pairwise (· ≠ ·) from List.nodup_range)
    exact (h a x y ha (List.mem_range.mp hx) (List.mem_range.mp hy)).1 e
  have hm : b ∈ (List.range m).map (f a) := by
    by_cases z : b ∈ (List.range m).map (f a)
    · exact z
    · have := len_sub ((List.range m).map (f a)) ((List.range m).erase b) nd fun x hx => by
        obtain ⟨y, hy, e⟩ := List.mem_map.mp hx
        refine (List.mem_erase_of_ne fun q => z (by rw [← q]; exact hx)).mpr (List.mem_range.mpr ?_)
        rw [← e]
        exact hf a y ha (List.mem_range.mp hy)
      rw [List.length_map, List.length_range, List.length_erase_of_mem (List.mem_range.mpr hb), List.length_range] at this
      omega
  have c1 : ((List.range m).map (f a)).count b = 1 := nd.count.trans (if_pos hm)
  unfold divL
  rw [← List.countP_eq_length_filter, ← c1]
  unfold List.count
  rw [List.countP_map]
  refine List.countP_congr fun x _ => ?_
  simp
theorem ne_bl (a : Bool) : D.cmp .ne (.bl a) (.bl a) = some false := by cases a <;> decide +kernel
theorem ne_str (x : Str) : D.cmp .ne (.str x) (.str x) = some false := ne_no (n := 0) rfl (by decide) rfl
section
variable {S : Type} {dr : Dr S} {n : Nat}
/-- between the turns: the hand in its place -/
def Inv (e : Env) : Prop := ∃ s2 s3 s4 s5 s6 s7 s8 s9 s10 s11 s12 s13 s14 : Slot, e = [.un, .fz .hand, s2, s3, s4, s5, s6, s7, s8, s9, s10, s11, s12, s13, s14]
theorem rpr_bl (b : Bool) : rprOk (.bl b) = true := (Lf.bl 0 0 b).ok (by decide) (by decide)
theorem law_ok (ok : dr.Ok) : Wp (exs (callN G dr (n + 12)) b_law (lawEnv 15)) fun fl => fl = .ret (.bl true) := by
  have e3 : canD 3 (fun a b => (a + b) % 3) = both := can_both.mpr (sqB_iff.mp (by decide))
  have e2 : canD 2 (fun a b => min a b) = bar "left" (0, 0, 1) := by
    have : clash 2 (fun a b => min a b) = some (0, 0, 1) := by decide
    unfold canD
    rw [this]
  refine wq_no (ev_cmp (x := both) (y := both) (ev_call (evs_cons (ev_call (evs_cons (ev_con (d := natD 3)) evs_nil) (s_sums (n := n + 4) (m := 3) (by decide) (by decide))) evs_nil) ((s_cancels (n := n + 10) (by decide)).trans (by rw [e3]))) (ev_tup (evs_cons ev_con evs_nil)) (ne_no (n := 1) rfl (by decide) rfl)) ?_
  refine wq_no (ev_cmp (x := bar "left" (0, 0, 1)) (y := bar "left" (0, 0, 1)) (ev_call (evs_cons (ev_call (evs_cons (ev_con (d := natD 2)) evs_nil) (s_least (n := n + 4) (m := 2) (by decide) (by decide))) evs_nil) ((s_cancels (n := n + 10) (by decide)).trans (by rw [e2]))) (ev_tup (evs_cons ev_con (evs_cons ev_con (evs_cons ev_con (evs_cons ev_con evs_nil))))) (ne_no (n := 1) rfl (by decide) rfl)) ?_
  refine wq_no (ev_cmp (x := .tup [lotD [2], lotD [2]]) (y := .tup [lotD [2], lotD [2]]) (ev_call (evs_cons (ev_call (evs_cons (ev_con (d := natD 3)) evs_nil) (s_sums (n := n + 4) (m := 3) (by decide) (by decide))) (evs_cons (ev_con (d := natD 1)) (evs_cons (ev_con (d := natD 0)) evs_nil))) ((s_divides (n := n + 6) (m := 3) (a := 1) (b := 0) (by decide) (by decide) (by decide)).trans (by
    have z1 : divL 3 (fun a b => (a + b) % 3) 1 0 = [2] := by decide
    have z2 : divL 3 (flp fun a b => (a + b) % 3) 1 0 = [2] := by decide
    rw [z1, z2]))) (ev_tup (evs_cons (ev_tup (evs_cons ev_con evs_nil)) (evs_cons (ev_tup (evs_cons ev_con evs_nil)) evs_nil))) (ne_no (n := 2) rfl (by decide) rfl)) ?_
  refine wq_for (I := K07.Inv) (xs := natsD (List.range 5)) (evi_nat (b := .con (.int 5)) (m := 5) ev_con (by decide)) ⟨_, _, _, _, _, _, _, _, _, _, _, _, _, rfl⟩ ?_ ?_
  case refine_2 => exact fun e _ => wq_ret (P := fun d => d = .bl true) (ev_con.wp rfl) fun d hd => by rw [hd]
  intro x hx e he
  obtain ⟨s2, s3, s4, s5, s6, s7, s8, s9, s10, s11, s12, s13, s14, rfl⟩ := he
  refine ⟨_, rfl, ?_⟩
  -- size, wide
  refine wq_tset (P := fun ds => ∃ m w : Nat, ds = [natD m, natD w] ∧ 1 ≤ m ∧ m ≤ 4 ∧ 1 ≤ w ∧ w ≤ 2) (wp_mono (we_evs2 (P := fun d => ∃ x : Nat, 1 ≤ x ∧ x ≤ 4 ∧ d = natD x) (Q := fun d => ∃ x : Nat, 1 ≤ x ∧ x ≤ 2 ∧ d = natD x)
    (we_call (P := fun ds => ds = [.hand]) (Evs.wp (evs_cons (ev_var rfl) evs_nil) rfl) fun ds hd => by subst hd; exact s_size ok)
    (we_bin (x := natD 1) ev_con (s_draw (k := 2) ok rfl ev_con (by decide) (by decide)) fun y ⟨x, hx, e⟩ => by subst e; exact ⟨_, add_nat, 1 + x, by omega, by omega, rfl⟩)) fun ds ⟨x, y, e, ⟨m, h1, h2, e1⟩, ⟨w, h3, h4, e2⟩⟩ => ⟨m, w, by rw [e, e1, e2], h1, h2, h3, h4⟩) fun ds ⟨m, w, ed, h1, h4, hw, hw2⟩ => ?_
  subst ed
  try dsimp only [sets, slotOf, List.set]
  refine ⟨_, rfl, ?_⟩
  try dsimp only [sets, slotOf, List.set]
  have hm : m ≤ LIM := Nat.le_trans h4 (by decide)
  have h8 : m ≤ 8 := by omega
  have hw8 : w ≤ 8 := by omega
  have hmw : m * w ≤ 8 := Nat.mul_le_mul h4 hw2
  have hmwL : m * w ≤ LIM := Nat.le_trans hmw (by decide)
  have hwL : w ≤ LIM := Nat.le_trans hw8 (by decide)
  have hr : (List.range m).length ≤ LIM := by rw [List.length_range]; exact hm
  -- rows, far
  refine wq_tset (P := fun ds => ∃ f g, ds = [rowsD m f, rowsD w g] ∧ (∀ a b, a < m → b < m → f a b < m) ∧ (∀ a b, a < w → b < w → g a b < w)) (wp_mono (we_evs2 (P := fun d => ∃ f : Nat → Nat → Nat, (∀ a b, a < m → b < m → f a b < m) ∧ d = rowsD m f) (Q := fun d => ∃ f : Nat → Nat → Nat, (∀ a b, a < w → b < w → f a b < w) ∧ d = rowsD w f)
    (we_call (P := fun ds => ds = [.hand, natD m]) (Evs.wp (evs_cons (ev_var rfl) (evs_cons (ev_var rfl) evs_nil)) rfl) fun ds hd => by subst hd; exact s_rows ok h1 h8)
    (we_call (P := fun ds => ds = [.hand, natD w]) (Evs.wp (evs_cons (ev_var rfl) (evs_cons (ev_var rfl) evs_nil)) rfl) fun ds hd => by subst hd; exact s_rows ok hw hw8)) fun ds ⟨x, y, e, ⟨f, hf, e1⟩, ⟨g, hg, e2⟩⟩ => ⟨f, g, by rw [e, e1, e2], hf, hg⟩) fun ds ⟨f, g, ed, hf, hg⟩ => ?_
  subst ed
  try dsimp only [sets, slotOf, List.set]
  refine ⟨_, rfl, ?_⟩
  try dsimp only [sets, slotOf, List.set]
  have hft : ∀ a b, a < m → b < m → flp f a b < m := fun a b ha hb => hf b a hb ha
  -- table_now, other
  refine wq_tset (P := fun ds => ds = [tabD m f, tabD w g]) (Evs.wp (evs_cons (ev_mk (x := .non) (evs_cons (ev_var rfl) (evs_cons (ev_var rfl) evs_nil)) (s_init (n := n + 6) h1 h8 hf)) (evs_cons (ev_mk (x := .non) (evs_cons (ev_var rfl) (evs_cons (ev_var rfl) evs_nil)) (s_init (n := n + 6) hw hw8 hg)) evs_nil)) rfl) fun ds hd => ?_
  subst hd
  try dsimp only [sets, slotOf, List.set]
  refine ⟨_, rfl, ?_⟩
  try dsimp only [sets, slotOf, List.set]
  -- due
  refine wq_set (P := fun d => d = canD m f) (Ev.wp (ev_call (evs_cons (ev_var rfl) (evs_cons (ev_var rfl) evs_nil)) (s_bar (n := n + 11) hm)) rfl) fun d hd => ?_
  subst hd
  try dsimp only [sets, slotOf, List.set]
  refine wq_no (ev_cmp (ev_rpr (ev_call (evs_cons (ev_var rfl) evs_nil) (s_cancels (n := n + 10) hm)) (rpr_can h8)) (ev_rpr (ev_var rfl) (rpr_can h8)) (ne_str _)) ?_
  refine wq_no (ev_cmp (ev_rpr (ev_call (evs_cons (ev_var rfl) evs_nil) (s_is_square (n := n + 8) hm)) (rpr_bl _)) (ev_rpr (is_both (ev_var rfl)) (rpr_bl _)) (ne_str _)) ?_
  -- back
  refine wq_set (P := fun d => d = rowsD m (flp f)) (Ev.wp (ev_bi (evs_cons (lc_map (l := List.range m) (inj := natD) (g := fun a => rowD m fun b => f b a) (evi_nat (ev_var rfl) hm) hr (fun a _ => rfl) fun a ha => ev_bi (evs_cons (lc_map (l := List.range m) (inj := natD) (g := fun b => natD (f b a)) (evi_nat (ev_var rfl) hm) hr (fun b _ => rfl) fun b hb => ev_idx (ev_idx (ev_var rfl) (ev_var rfl) (idx_rows (List.mem_range.mp hb))) (ev_var rfl) (idx_row (List.mem_range.mp ha))) evs_nil) rfl) evs_nil) rfl) rfl) fun d hd => ?_
  subst hd
  try dsimp only [sets, slotOf, List.set]
  have tn : ∀ {i : Nat} {env : Env}, env.get i = some (tabD m f) → Ev (callN G dr (n + 12)) (.call 619 [.var i]) env (tabD m (flp f)) := fun h => ev_call (evs_cons (ev_var h) evs_nil) (s_turned (n := n + 3) h1 h8 hf)
  refine wq_no (ev_cmp (ev_call (evs_cons (tn rfl) evs_nil) (s_cancels (n := n + 10) hm)) (ev_call (evs_cons (ev_var rfl) (evs_cons (ev_var rfl) evs_nil)) (s_bar (n := n + 11) (f := flp f) hm)) (ne_no (n := 1) sok_can (by decide) rfl)) ?_
  refine wq_no (ev_cmp (ev_call (evs_cons (tn rfl) evs_nil) ((s_is_square (n := n + 8) (f := flp f) hm).trans (by rw [sqB_flp]))) (ev_call (evs_cons (ev_var rfl) evs_nil) (s_is_square (n := n + 8) hm)) (ne_bl _)) ?_
  -- divides
  refine wq_for (I := fun e => ∃ s5 s12 s13 s14, e = [Slot.un, .fz .hand, .fz x, .fz (canD m f), .fz (rowsD m (flp f)), s5, .fz (natD m), .fz (natD w), .fz (rowsD m f), .fz (rowsD w g), .fz (tabD m f), .fz (tabD w g), s12, s13, s14]) (xs := natsD (List.range m)) (evi_nat (ev_var rfl) hm) ⟨_, _, _, _, rfl⟩ (fun xa hxa e he => ?_) fun e he => ?_
  · obtain ⟨t5, t12, t13, t14, rfl⟩ := he
    obtain ⟨a, ha, rfl⟩ := List.mem_map.mp hxa
    have ha := List.mem_range.mp ha
    refine ⟨_, rfl, ?_⟩
    refine wq_for (I := fun e => ∃ s12 s13 s14, e = [Slot.un, .fz .hand, .fz x, .fz (canD m f), .fz (rowsD m (flp f)), .fz (natD a), .fz (natD m), .fz (natD w), .fz (rowsD m f), .fz (rowsD w g), .fz (tabD m f), .fz (tabD w g), s12, s13, s14]) (xs := natsD (List.range m)) (evi_nat (ev_var rfl) hm) ⟨_, _, _, rfl⟩ (fun xb hxb e he => ?_) fun e he => ?_
    · obtain ⟨u12, u13, u14, rfl⟩ := he
      obtain ⟨b, hb, rfl⟩ := List.mem_map.mp hxb
      have hb := List.mem_range.mp hb
      refine ⟨_, rfl, ?_⟩
      refine wq_set (P := fun d => d = .tup [lotD (divL m f a b), lotD (divL m (flp f) a b)]) (Ev.wp (ev_tup (evs_cons (ev_bi (evs_cons (lc_fil (l := List.range m) (inj := natD) (g := natD) (p := fun x => decide (f a x = b)) (evi_nat (ev_var rfl) hm) hr (fun _ _ => rfl) (fun x hx => ev_cmp (ev_idx (ev_idx (ev_var rfl) (ev_var rfl) (idx_rows ha)) (ev_var rfl) (idx_row (List.mem_range.mp hx))) (ev_var rfl) int_cmp) fun x _ _ => ev_var rfl) evs_nil) rfl)
        (evs_cons (ev_bi (evs_cons (lc_fil (l := List.range m) (inj := natD) (g := natD) (p := fun x => decide (flp f a x = b)) (evi_nat (ev_var rfl) hm) hr (fun _ _ => rfl) (fun x hx => ev_cmp (ev_idx (ev_idx (ev_var rfl) (ev_var rfl) (idx_rows (List.mem_range.mp hx))) (ev_var rfl) (idx_row ha)) (ev_var rfl) int_cmp) fun x _ _ => ev_var rfl) evs_nil) rfl) evs_nil))) rfl) fun d hd => ?_
      subst hd
      try dsimp only [sets, slotOf, List.set]
      have lt : ∀ h : Nat → Nat → Nat, (divL m h a b).length ≤ 8 ∧ ∀ y ∈ divL m h a b, y < 100 := fun h => ⟨Nat.le_trans (List.length_filter_le _ _) (by rw [List.length_range]; exact h8), fun y hy => by have := (fil_mem.mp hy).1; omega⟩
      have lf : ∀ h : Nat → Nat → Nat, Lf 1 8 (lotD (divL m h a b)) := fun h => (Lf.lot (n := 0) (k := 0) (lt h).2).mono (Nat.le_refl _) (by have := (lt h).1; omega)
      have rok : rprOk (.tup [lotD (divL m f a b), lotD (divL m (flp f) a b)]) = true := (Lf.tup (n := 1) (k := 8) fun y hy => by
        rcases List.mem_cons.mp hy with rfl | hy
        · exact lf _
        · rw [List.mem_singleton.mp hy]
          exact lf _).ok (by decide) (by simp)
      have sk : sok 2 (.tup [lotD (divL m (flp f) a b), lotD (divL m f a b)]) = true := by
        show (sok 1 (lotD _) && (sok 1 (lotD _) && true)) = true
        rw [sok_lot, sok_lot]
        rfl
      refine wq_no (ev_cmp (ev_rpr (ev_call (evs_cons (ev_var rfl) (evs_cons (ev_var rfl) (evs_cons (ev_var rfl) evs_nil))) (s_divides (n := n + 6) hm ha hb)) rok) (ev_rpr (ev_var rfl) rok) (ne_str _)) ?_
      refine wq_no (ev_cmp (ev_call (evs_cons (tn rfl) (evs_cons (ev_var rfl) (evs_cons (ev_var rfl) evs_nil))) (s_divides (n := n + 6) (f := flp f) hm ha hb)) (ev_rev (ev_var rfl)) (ne_no (n := 2) sk (by decide) rfl)) ?_
      have ln : ∀ l : List Nat, D.bi .len [lotD l] = some (natD l.length) := fun l => by
        show D.bi .len [.tup (natsD l)] = _
        rw [len_tup]
        unfold natsD
        rw [List.length_map]
      have t3 : Ev (callN G dr (n + 12)) (.and (.cmp .eq (.var 3) (.tup [.con (.str "both")])) (.or (.cmp .ne (.bi .len [.idx (.var 13) (.con (.int 0))]) (.con (.int 1))) (.cmp .ne (.bi .len [.idx (.var 13) (.con (.int 1))]) (.con (.int 1))))) [Slot.un, .fz .hand, .fz x, .fz (canD m f), .fz (rowsD m (flp f)), .fz (natD a), .fz (natD m), .fz (natD w), .fz (rowsD m f), .fz (rowsD w g), .fz (tabD m f), .fz (tabD w g), .fz (natD b), .fz (.tup [lotD (divL m f a b), lotD (divL m (flp f) a b)]), u14] (.bl (sqB m f && (!decide ((divL m f a b).length = 1) || !decide ((divL m (flp f) a b).length = 1)))) :=
        ev_and (is_both (ev_var rfl)) fun _ => ev_or (ev_cmp (ev_bi (evs_cons (ev_idx (x := .tup [lotD (divL m f a b), lotD (divL m (flp f) a b)]) (y := natD 0) (ev_var rfl) ev_con rfl) evs_nil) (ln _)) (ev_con (d := natD 1)) (ne_dec (n := 0) (m := 0) rfl rfl (by decide) (by decide) (by rw [natD_inj, decide_eq_true_eq]))) fun _ =>
          ev_cmp (ev_bi (evs_cons (ev_idx (x := .tup [lotD (divL m f a b), lotD (divL m (flp f) a b)]) (y := natD 1) (ev_var rfl) ev_con rfl) evs_nil) (ln _)) (ev_con (d := natD 1)) (ne_dec (n := 0) (m := 0) rfl rfl (by decide) (by decide) (by rw [natD_inj, decide_eq_true_eq]))
      have t4 : (sqB m f && (!decide ((divL m f a b).length = 1) || !decide ((divL m (flp f) a b).length = 1))) = false := by
        cases hs : sqB m f with
        | false => rfl
        | true =>
          have hs := sqB_iff.mp hs
          rw [decide_eq_true (one_div hs hf ha hb), decide_eq_true (one_div (sq_flp.mpr hs) hft ha hb)]
          rfl
      rw [t4] at t3
      exact wq_no t3 (wp_pure ⟨_, rfl, _, _, _, rfl⟩)
    · obtain ⟨u12, u13, u14, rfl⟩ := he
      exact wp_pure ⟨_, rfl, _, _, _, _, rfl⟩
  obtain ⟨t5, t12, t13, t14, rfl⟩ := he
  refine wq_no (ev_cmp (ev_call (evs_cons (ev_call (evs_cons (ev_var rfl) (evs_cons (ev_var rfl) evs_nil)) (s_beside (n := n + 3) h1 hw hmw hf hg)) evs_nil) ((s_is_square (n := n + 8) hmwL).trans (by rw [sqB_bes h1 hw hg]))) (ev_and (ev_call (evs_cons (ev_var rfl) evs_nil) (s_is_square (n := n + 8) hm)) fun _ => ev_call (evs_cons (ev_var rfl) evs_nil) (s_is_square (n := n + 8) hwL)) (ne_bl _)) ?_
  exact wp_pure ⟨_, rfl, _, _, _, _, _, _, _, _, _, _, _, _, _, rfl⟩
end
end K07

set_option Elab.async false
set_option linter.all false
set_option maxRecDepth 100000
set_option maxHeartbeats 0
namespace K07
open PySem Mp
theorem l_ok : J.L.Ok where
  d := c_d
  c := c_c
  dG := c_dG
  cG := c_cG
  dr := c_dr
  drp := c_drp
  drb := c_drb
  drG := rfl
  e := c_e
  eG := c_eG
  m := c_m
  mG := c_mG
  mc := c_mc
  mv := c_mv
  zo := drawA_ok (c := ⟨48271, 5, 29, 2147483587, 7877, 69621, 2147483647, 1103, 40692, 2147483399, 2311, 48271, 2147483629⟩) (by decide +kernel)
theorem j_ok : J.Ok where
  L := l_ok
  h1 := c_h1
  h2 := c_h2
  h3 := rfl
  h4 := c_h4
  l1 := c_l1
  l2 := c_l2
  l3 := by decide
  l4 := c_l4
theorem lawT : LawT J.L J.N J.b 20 := fun s => by
  obtain ⟨a, s', e, h⟩ := law_ok (dr := J.L.dr) (n := 8) (drw_ok _ _) s
  subst h
  exact ⟨s', e⟩
end K07
open PySem PySem.W PySem.Calls PyProof.Rows
theorem PySem.Challenge.cw_onetables_k07_whole_cancelling_and_divid_holds : PySem.Challenge.rw_onetables_k07_whole_cancelling_and_divid.Holds := by
  w_on; o_law
  refine HandSHeadRun.head_any (r := OpenLaw.row PySem.Challenge.rw_onetables_k07_whole_cancelling_and_divid) (q := K07.vw) (H := K07.hk) (ob := K07.ob) (M := 8000) (loose := K07.loose) (d := HandSHeadRun.topDef (OpenLaw.row PySem.Challenge.rw_onetables_k07_whole_cancelling_and_divid).prog 46) (kwd := []) K07.ob_eq
    (by kernel_rfl) (fun s => by kernel_rfl) K07.run (by kernel_rfl) (by kernel_rfl) (by kernel_rfl) (by rfl) (by first | assumption | decide +kernel) (by decide +kernel) ⟨rfl, rfl, rfl, rfl, rfl, by decide +kernel⟩ ?hw ?hc
  case hw => w_witness2
  case hc => exact Mp.law_walk (n := 5) (k := 20) rfl (by kernel_rfl) (by kernel_rfl) ⟨rfl, by decide, by decide⟩ K07.j_ok K07.lawT
