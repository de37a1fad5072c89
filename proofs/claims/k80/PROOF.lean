import PyProof.Rows.All
import PySem.Str
import Wide.All
import OpenK.AllK
import Wide.FinOn
import KE.KStateDown
import HandS.ForMost
import HandS.More
import HandS.WordsExc
import HandS.Defaults
import HandS.Zip
import HandS.TupAny
import HandS.TupMul
import HandS.NoneIn
import HandS.IsInst
import KE.KDictZip
import KE.KDictList
import KE.GoesMore
import KE.GoesEnum
import HandS.Words
import HandS.Codes
import HandS.Head0
import HandS.Head1
import HandS.Head2
import HandS.HeadEnd
import HandS.HeadHook1
import HandS.HeadHook2
import PySem.Challenge.RW_kindcourt_k80_one_step_told
import PyProof.TableCode
section
set_option linter.all false
set_option maxRecDepth 100000
/-! Pure values, a small language of the programs' own constructs, and what its programs come to. -/
namespace TL
open PySem

abbrev Key := Sum Int Str

/-- a value as a tree: tuples, frozen lists and dicts, instances; ref n: the n-th shared list -/
inductive T where
  | non | bl (b : Bool) | int (i : Int) | str (s : Str)
  | tup (ts : List T) | lst (ts : List T) | dct (ks : List Key) (ts : List T)
  | obj (c : Nat) (fs : List Str) (ts : List T)
  | ref (n : Nat)
  deriving Inhabited

/-- what stands in a slot: nothing; a value; a list, dict or instance that is the def's own, not yet seen by others -/
inductive Slot where
  | non | fro (t : T) | own (t : T)
  deriving Inhabited
inductive R where
  | fro (t : T) | own (t : T)
  deriving Inhabited
def R.val : R → T
  | .fro t => t
  | .own t => t
abbrev Env := List Slot
abbrev Sto := List (List T)
abbrev M (α : Type) := Sto → Option (α × Sto)
def M.ret {α : Type} (a : α) : M α := fun s => some (a, s)
def M.fail {α : Type} : M α := fun _ => none
def M.bind {α β : Type} (m : M α) (f : α → M β) : M β := fun s => match m s with
  | some (a, s') => f a s'
  | none => none
def M.of {α : Type} (o : Option α) : M α := fun s => match o with
  | some a => some (a, s)
  | none => none
def M.get : M Sto := fun s => some (s, s)
def M.set (s' : Sto) : M Unit := fun _ => some ((), s')

inductive Bop where
  | add | sub | mul | fdiv | mod | pow
  deriving DecidableEq
inductive Cop where
  | eq | ne | lt | le | gt | ge | inn | nin
  deriving DecidableEq
inductive Bif where
  | len | tuple | list | dict | int | sum | all
  deriving DecidableEq
/-- a target: a name, a tuple of names -/
inductive Tg where
  | var (i : Nat) | tup (is : List Nat)
  deriving DecidableEq

mutual
inductive E where
  | int (i : Int) | str (s : Str) | bl (b : Bool) | non
  | var (i : Nat)
  | cst (x : Str) (t : T)
  | tup (es : Es) | lst (es : Es) | dsp (kvs : Es)
  | bop (o : Bop) (a b : E) | neg (a : E) | cmp (o : Cop) (a b : E) | isN (a : E) | notN (a : E)
  | not (a : E) | and (a b : E) | or (a b : E)
  | idx (a i : E) | slcL (a lo : E) | slcH (a hi : E) | slcB (a lo hi : E)
  | call (f : Nat) (es : Es)
  | meth (o : E) (m : Str) (es : Es)
  | mk (c : Nat) (es : Es)
  | fld (o : E) (f : Str)
  | bif (b : Bif) (e : E)
  | isT (e : E)
  | lzip (a b : E) | dzip (a b : E)
  | get1 (d k : E) | get2 (d k x : E)
  | join (s xs : E)
  | lc (elt : E) (tg : Tg) (it : I) (ifs : Es) (own : List Nat)
inductive Es where
  | nil | cons (e : E) (es : Es)
inductive I where
  | plain (e : E) | items (e : E) | enum (e : E) | zip (a b : E) | rng (a : E)
end
mutual
inductive S where
  | asg (i : Nat) (e : E)
  | asgT (is : List Nat) (e : E)
  | setI (x : Nat) (i : E) (e : E)
  | fldS (f : Str) (e : E)
  | app (x : Nat) (e : E) | ext (x : Nat) (e : E) | ins (x : Nat) (i : E) (e : E)
  | ret (e : E) | retO (i : Nat) | pass
  | ifs (c : E) (a b : Ss)
  | whl (n : Nat) (c : E) (b : Ss)
  | fors (tg : Tg) (it : I) (b : Ss)
  | frz (i : Nat) | shr (i : Nat)
inductive Ss where
  | nil | cons (s : S) (ss : Ss)
end

/-! ### operations on values -/
/-- the greatest number of items -/
def lim : Nat := 2 ^ 24
def szOk (n : Nat) : Bool := Nat.ble n lim

mutual
def eqT : T → T → Bool
  | .non, b => match b with | .non => true | _ => false
  | .bl a, b => match b with | .bl c => a == c | .int j => decide ((if a then 1 else 0 : Int) = j) | _ => false
  | .int i, b => match b with | .int j => decide (i = j) | .bl c => decide (i = if c then 1 else 0) | _ => false
  | .str x, b => match b with | .str y => decide (x = y) | _ => false
  | .tup xs, b => match b with | .tup ys => eqTs xs ys | _ => false
  | .lst xs, b => match b with | .lst ys => eqTs xs ys | _ => false
  | _, _ => false
def eqTs : List T → List T → Bool
  | [], ys => match ys with | [] => true | _ => false
  | x :: xs, ys => match ys with | y :: ys => eqT x y && eqTs xs ys | [] => false
end
def strOk (x : Str) : Bool := x.cps.all (· < 0x110000)
mutual
/-- data that == reads -/
def dat : T → Bool
  | .non | .bl _ | .int _ => true
  | .str x => strOk x
  | .tup xs | .lst xs => dats xs
  | _ => false
def dats : List T → Bool
  | [] => true
  | x :: xs => dat x && dats xs
end
mutual
def dep : T → Nat
  | .tup xs | .lst xs => deps xs + 1
  | _ => 0
def deps : List T → Nat
  | [] => 0
  | x :: xs => max (dep x) (deps xs)
end
def shp (t : T) : Bool := dat t && Nat.ble (dep t) 64

def flat : T → Bool
  | .non | .bl _ | .int _ | .str _ => true
  | _ => false
/-- the items' number as Python counts them from a place -/
def ixN (n : Nat) (i : Int) : Option Nat := if 0 ≤ i then (if i < n then some i.toNat else none) else if -(n : Int) ≤ i then some (i + n).toNat else none
def at_ (xs : List T) (i : Int) : Option T := (ixN xs.length i).bind fun j => xs[j]?
def sIx (n d : Nat) : Option Int → Nat
  | none => d
  | some v => if v < 0 then (v + (n : Int)).toNat else min v.toNat n
def cut {α : Type} (xs : List α) (lo hi : Option Int) : List α := (xs.drop (sIx xs.length 0 lo)).take (sIx xs.length xs.length hi - sIx xs.length 0 lo)

def keyOf : T → Option Key
  | .int i => some (.inl i)
  | .str s => some (.inr s)
  | _ => none
def ofKey : Key → T
  | .inl i => .int i
  | .inr s => .str s
def look : List Key → List T → Key → Option T
  | k :: ks, t :: ts, x => if k = x then some t else look ks ts x
  | _, _, _ => none
/-- d[k] = v -/
def putKs (ks : List Key) (x : Key) : List Key := if ks.any (fun k => decide (k = x)) then ks else ks ++ [x]
def replTs : List Key → List T → Key → T → List T
  | k :: ks, t :: ts, x, v => (if k = x then v else t) :: replTs ks ts x v
  | _, ts, _, _ => ts
def putTs (ks : List Key) (ts : List T) (x : Key) (v : T) : List T := if ks.any (fun k => decide (k = x)) then replTs ks ts x v else ts ++ [v]
/-- pairs put in, one after the other -/
def pairsIn : List (Key × T) → List Key → List T → List Key × List T
  | [], ks, ts => (ks, ts)
  | (k, v) :: r, ks, ts => pairsIn r (putKs ks k) (putTs ks ts k v)
def pairOf : T → Option (Key × T)
  | .tup [a, b] => (keyOf a).map fun k => (k, b)
  | _ => none
def pairsOf : List T → Option (List (Key × T))
  | [] => some []
  | t :: ts => match pairOf t, pairsOf ts with
    | some p, some r => some (p :: r)
    | _, _ => none
/-- key, value, key, value .. -/
def altOf : List T → Option (List (Key × T))
  | [] => some []
  | k :: v :: r => match keyOf k, altOf r with
    | some k, some ps => some ((k, v) :: ps)
    | _, _ => none
  | _ => none
def intsOf : List T → Option (List Int)
  | [] => some []
  | .int i :: ts => (intsOf ts).map (i :: ·)
  | _ :: _ => none
def blsOf : List T → Option (List Bool)
  | [] => some []
  | .bl b :: ts => (blsOf ts).map (b :: ·)
  | _ :: _ => none
def strsOf : List T → Option (List Str)
  | [] => some []
  | .str s :: ts => (strsOf ts).map (s :: ·)
  | _ :: _ => none
def mulOk (i j : Int) : Bool := (decide (-(2 ^ 64) < i) && decide (i < 2 ^ 64)) || (decide (-(2 ^ 64) < j) && decide (j < 2 ^ 64))

def bopD : Bop → T → T → Option R
  | .add, .int i, .int j => some (.fro (.int (i + j)))
  | .add, .str x, .str y => if szOk (x.length + y.length) then some (.fro (.str (x ++ y))) else none
  | .add, .lst xs, .lst ys => if szOk (xs.length + ys.length) then some (.own (.lst (xs ++ ys))) else none
  | .add, .tup xs, .tup ys => if szOk (xs.length + ys.length) then some (.fro (.tup (xs ++ ys))) else none
  | .sub, .int i, .int j => some (.fro (.int (i - j)))
  | .mul, .int i, .int j => if mulOk i j then some (.fro (.int (i * j))) else none
  | .mul, .tup xs, .int j => if 2 ≤ j ∧ j ≤ 1000 ∧ xs.length ≤ 1000 ∧ xs.isEmpty = false then some (.fro (.tup (List.replicate j.toNat xs).flatten)) else none
  | .fdiv, .int i, .int j => if 0 < j ∧ j < 1073741824 then some (.fro (.int (i / j))) else none
  | .mod, .int i, .int j => if 0 < j then some (.fro (.int (i % j))) else none
  | .pow, .int i, .int j => if 0 ≤ j ∧ j ≤ 1000000 ∧ i.natAbs < 2 ^ 64 then some (.fro (.int (i ^ j.toNat))) else none
  | _, _, _ => none
def bopR : Bop → R → R → Option R
  | .mul, .own (.lst xs), .fro (.int j) => if 0 ≤ j ∧ j < 2 ^ 63 ∧ szOk (xs.length * j.toNat) then some (.own (.lst (List.replicate j.toNat xs).flatten)) else none
  | o, x, y => bopD o x.val y.val
def inD (a b : T) : Option Bool := match b with
  | .lst ts => if flat a && ts.all flat then some (ts.any fun t => eqT t a) else none
  | .tup ts => if flat a && ts.all flat then some (ts.any fun t => eqT t a) else none
  | .dct ks ts => (keyOf a).map fun k => (look ks ts k).isSome
  | _ => none
def cmpD : Cop → T → T → Option Bool
  | .eq, a, b => if shp a && shp b then some (eqT a b) else none
  | .ne, a, b => if shp a && shp b then some (!eqT a b) else none
  | .lt, .int i, .int j => some (decide (i < j))
  | .le, .int i, .int j => some (decide (i ≤ j))
  | .gt, .int i, .int j => some (decide (j < i))
  | .ge, .int i, .int j => some (decide (j ≤ i))
  | .inn, a, b => inD a b
  | .nin, a, b => (inD a b).map (!·)
  | _, _, _ => none
def idxD (s : Sto) (a i : T) : Option T := match a, i with
  | .lst ts, .int k => at_ ts k
  | .tup ts, .int k => at_ ts k
  | .ref n, .int k => (s[n]?).bind fun ts => at_ ts k
  | .str x, .int k => if szOk x.length = false then none else (ixN x.cps.toList.length k).bind fun j => (x.cps.toList[j]?).map fun c => .str ⟨#[c]⟩
  | .dct ks ts, k => (keyOf k).bind fun k => look ks ts k
  | _, _ => none
def slcD (a : T) (lo hi : Option Int) : Option R := match a with
  | .lst ts => some (.own (.lst (cut ts lo hi)))
  | .tup ts => some (.fro (.tup (cut ts lo hi)))
  | _ => none
def asInt : T → Option Int
  | .int i => some i
  | _ => none
def bifD (s : Sto) : Bif → T → Option R
  | .len, .lst ts => some (.fro (.int ts.length))
  | .len, .tup ts => some (.fro (.int ts.length))
  | .len, .ref n => (s[n]?).map fun ts => .fro (.int ts.length)
  | .tuple, .lst ts => some (.fro (.tup ts))
  | .tuple, .tup ts => some (.fro (.tup ts))
  | .tuple, .dct ks _ => some (.fro (.tup (ks.map ofKey)))
  | .list, .lst ts => some (.own (.lst ts))
  | .list, .tup ts => some (.own (.lst ts))
  | .dict, .lst ts => (pairsOf ts).map fun ps => .own (.dct (pairsIn ps [] []).1 (pairsIn ps [] []).2)
  | .dict, .tup ts => (pairsOf ts).map fun ps => .own (.dct (pairsIn ps [] []).1 (pairsIn ps [] []).2)
  | .dict, .dct ks ts => some (.own (.dct ks ts))
  | .int, .int i => some (.fro (.int i))
  | .int, .bl b => some (.fro (.int (if b then 1 else 0)))
  | .sum, .lst ts => (intsOf ts).map fun ns => .fro (.int ns.sum)
  | .all, .lst ts => (blsOf ts).map fun bs => .fro (.bl (bs.all id))
  | _, _ => none
def seqOf : T → Option (List T)
  | .lst ts => some ts
  | .tup ts => some ts
  | _ => none
def zipD (a b : T) : Option (List (T × T)) := match seqOf a, seqOf b with
  | some xs, some ys => some (xs.zip ys)
  | _, _ => none
def pairT (p : T × T) : T := .tup [p.1, p.2]
def getD (d k x : T) : Option T := match d with
  | .dct ks ts => (keyOf k).map fun k => (look ks ts k).getD x
  | _ => none
/-- what a loop goes through -/
def iterD : T → Option (List T)
  | .lst ts => some ts
  | .tup ts => some ts
  | .str x => if szOk x.length then some (x.cps.toList.map fun c => .str ⟨#[c]⟩) else none
  | .dct ks _ => some (ks.map ofKey)
  | _ => none
def itemsD : T → Option (List T)
  | .dct ks ts => some ((ks.zip ts).map fun p => .tup [ofKey p.1, p.2])
  | _ => none
def enumD (t : T) : Option (List T) := (seqOf t).map fun ts => (List.range ts.length).zip ts |>.map fun p => .tup [.int (p.1 : Nat), p.2]
def rngD (t : T) : Option (List T) := match t with
  | .int n => if -(2 ^ 62) ≤ n ∧ n ≤ 1000000 then some ((List.range n.toNat).map fun (k : Nat) => .int (k : Int)) else none
  | _ => none
def joinD (s xs : T) : Option T := match s, seqOf xs with
  | .str z, some ts => match strsOf ts with
    | some ss => if z.length = 0 ∧ (ss.map Str.length).sum ≤ 100000 then some (.str (ss.foldl (· ++ ·) ⟨#[]⟩)) else none
    | none => none
  | _, _ => none

def isNon : T → Bool
  | .non => true
  | _ => false

/-! ### slots -/
def Env.fro (ρ : Env) (i : Nat) : Option T := match ρ[i]? with
  | some (.fro t) => some t
  | _ => none
/-- reading a slot in passing -/
def Env.any (ρ : Env) (i : Nat) : Option T := match ρ[i]? with
  | some (.fro t) => some t
  | some (.own t) => some t
  | _ => none
def wipe (ρ : Env) : List Nat → Env
  | [] => ρ
  | v :: vs => (wipe ρ vs).set v .non
def setMany : Env → List Nat → List T → Option Env
  | ρ, [], [] => some ρ
  | ρ, i :: is, t :: ts => setMany (ρ.set i (.fro t)) is ts
  | _, _, _ => none
def Tg.put (ρ : Env) (v : T) : Tg → Option Env
  | .var i => some (ρ.set i (.fro v))
  | .tup is => match seqOf v with
    | some ts => setMany ρ is ts
    | none => none

/-- the calls: a def by its number -/
abbrev Calls := Nat → List T → M R
/-- classes: which def a method of a class is, its maker -/
structure Cfg where
  meth : Nat → Str → Option Nat
  init : Nat → Option Nat

def listM {α : Type} (f : T → M (Option α)) : List T → M (List α)
  | [] => M.ret []
  | t :: ts => M.bind (f t) fun o => M.bind (listM f ts) fun r => M.ret (match o with
    | some a => a :: r
    | none => r)
def truth : R → Option Bool
  | .fro (.bl b) => some b
  | _ => none

section
variable (G : Cfg) (C : Calls)
mutual
def denE (pk : Bool) : E → Env → M R
  | .int i, _ => M.ret (.fro (.int i))
  | .str s, _ => M.ret (.fro (.str s))
  | .bl b, _ => M.ret (.fro (.bl b))
  | .non, _ => M.ret (.fro .non)
  | .var i, ρ => M.of ((if pk then Env.any ρ i else Env.fro ρ i).map .fro)
  | .cst _ t, _ => M.ret (.fro t)
  | .tup es, ρ => M.bind (denEs es ρ) fun ts => M.ret (.fro (.tup ts))
  | .lst es, ρ => M.bind (denEs es ρ) fun ts => M.ret (.own (.lst ts))
  | .dsp kvs, ρ => M.bind (denEs kvs ρ) fun ts => M.of ((altOf ts).bind fun ps => if ps.length ≤ 15 then some (.own (.dct (pairsIn ps [] []).1 (pairsIn ps [] []).2)) else none)
  | .bop o a b, ρ => M.bind (denE false a ρ) fun x => M.bind (denE false b ρ) fun y => M.of (bopR o x y)
  | .neg a, ρ => M.bind (denE false a ρ) fun x => M.of ((asInt x.val).map fun i => .fro (.int (-i)))
  | .cmp o a b, ρ => M.bind (denE true a ρ) fun x => M.bind (denE true b ρ) fun y => M.of ((cmpD o x.val y.val).map fun b => .fro (.bl b))
  | .isN a, ρ => M.bind (denE false a ρ) fun x => M.ret (.fro (.bl (isNon x.val)))
  | .notN a, ρ => M.bind (denE false a ρ) fun x => M.ret (.fro (.bl (!isNon x.val)))
  | .not a, ρ => M.bind (denE false a ρ) fun x => M.of ((truth x).map fun b => .fro (.bl (!b)))
  | .and a b, ρ => M.bind (denE false a ρ) fun x => match truth x with
    | some true => denE false b ρ
    | some false => M.ret (.fro (.bl false))
    | none => M.fail
  | .or a b, ρ => M.bind (denE false a ρ) fun x => match truth x with
    | some true => M.ret (.fro (.bl true))
    | some false => denE false b ρ
    | none => M.fail
  | .idx a i, ρ => M.bind (denE true a ρ) fun x => M.bind (denE false i ρ) fun k => fun s => match idxD s x.val k.val with
    | some t => some (.fro t, s)
    | none => none
  | .slcL a lo, ρ => M.bind (denE true a ρ) fun x => M.bind (denE false lo ρ) fun l => M.of ((asInt l.val).bind fun l => slcD x.val (some l) none)
  | .slcH a hi, ρ => M.bind (denE true a ρ) fun x => M.bind (denE false hi ρ) fun h => M.of ((asInt h.val).bind fun h => slcD x.val none (some h))
  | .slcB a lo hi, ρ => M.bind (denE true a ρ) fun x => M.bind (denE false lo ρ) fun l => M.bind (denE false hi ρ) fun h => M.of ((asInt l.val).bind fun l => (asInt h.val).bind fun h => slcD x.val (some l) (some h))
  | .call f es, ρ => M.bind (denEs es ρ) fun ts => C f ts
  | .meth o m es, ρ => M.bind (denE false o ρ) fun x => M.bind (denEs es ρ) fun ts => match x.val with
    | .obj c fs us => (if fs.all (fun f => decide (f ≠ m)) then (match G.meth c m with
      | some f => C f (.obj c fs us :: ts)
      | none => M.fail) else M.fail)
    | _ => M.fail
  | .mk c es, ρ => M.bind (denEs es ρ) fun ts => match G.init c with
    | some f => C f (.obj c [] [] :: ts)
    | none => M.fail
  | .fld o f, ρ => M.bind (denE false o ρ) fun x => match x.val with
    | .obj _ fs us => M.of ((look (fs.map Sum.inr) us (.inr f)).map .fro)
    | _ => M.fail
  | .bif b e, ρ => M.bind (denE true e ρ) fun x => fun s => match bifD s b x.val with
    | some r => some (r, s)
    | none => none
  | .isT e, ρ => M.bind (denE false e ρ) fun x => M.of (match x.val with
    | .tup _ => some (.fro (.bl true))
    | .non | .bl _ | .int _ | .str _ => some (.fro (.bl false))
    | _ => none)
  | .lzip a b, ρ => M.bind (denE true a ρ) fun x => M.bind (denE true b ρ) fun y => M.of ((zipD x.val y.val).map fun ps => .own (.lst (ps.map pairT)))
  | .dzip a b, ρ => M.bind (denE true a ρ) fun x => M.bind (denE true b ρ) fun y => M.of ((zipD x.val y.val).bind fun ps => (pairsOf (ps.map pairT)).map fun qs => .own (.dct (pairsIn qs [] []).1 (pairsIn qs [] []).2))
  | .get1 d k, ρ => M.bind (denE false d ρ) fun x => M.bind (denE false k ρ) fun k => M.of ((getD x.val k.val .non).map .fro)
  | .get2 d k z, ρ => M.bind (denE false d ρ) fun x => M.bind (denE false k ρ) fun k => M.bind (denE false z ρ) fun z => M.of ((getD x.val k.val z.val).map .fro)
  | .join a xs, ρ => M.bind (denE false a ρ) fun x => M.bind (denE true xs ρ) fun y => M.of ((joinD x.val y.val).map .fro)
  | .lc elt tg it ifs own, ρ => M.bind (denI it ρ) fun xs => M.bind (listM (fun v => match tg.put (wipe ρ own) v with
      | some ρ' => M.bind (denIfs ifs ρ') fun b => if b then M.bind (denE false elt ρ') fun x => M.ret (some x.val) else M.ret none
      | none => M.fail) xs) fun ys => M.ret (.own (.lst ys))
def denEs : Es → Env → M (List T)
  | .nil, _ => M.ret []
  | .cons e es, ρ => M.bind (denE false e ρ) fun x => M.bind (denEs es ρ) fun r => M.ret (x.val :: r)
def denIfs : Es → Env → M Bool
  | .nil, _ => M.ret true
  | .cons e es, ρ => M.bind (denE false e ρ) fun x => match truth x with
    | some true => denIfs es ρ
    | some false => M.ret false
    | none => M.fail
def denI : I → Env → M (List T)
  | .plain e, ρ => M.bind (denE false e ρ) fun x => M.of (iterD x.val)
  | .items e, ρ => M.bind (denE false e ρ) fun x => M.of (itemsD x.val)
  | .enum e, ρ => M.bind (denE false e ρ) fun x => M.of (enumD x.val)
  | .zip a b, ρ => M.bind (denE false a ρ) fun x => M.bind (denE false b ρ) fun y => M.of ((zipD x.val y.val).map fun ps => ps.map pairT)
  | .rng e, ρ => M.bind (denE false e ρ) fun x => M.of (rngD x.val)
end
end

/-! ### statements -/
inductive Fl where
  | nx (ρ : Env) | rt (r : R)
  deriving Inhabited
def slotOf : R → Slot
  | .fro t => .fro t
  | .own t => .own t
def loopW (c : Env → M R) (b : Env → M Fl) : Nat → Env → M Fl
  | 0, _ => M.fail
  | n + 1, ρ => M.bind (c ρ) fun t => match truth t with
    | some true => M.bind (b ρ) fun fl => match fl with
      | .nx ρ' => loopW c b n ρ'
      | .rt r => M.ret (.rt r)
    | some false => M.ret (.nx ρ)
    | none => M.fail
def loopF (b : T → Env → M Fl) : List T → Env → M Fl
  | [], ρ => M.ret (.nx ρ)
  | t :: ts, ρ => M.bind (b t ρ) fun fl => match fl with
    | .nx ρ' => loopF b ts ρ'
    | .rt r => M.ret (.rt r)
/-- a field put -/
def putFs : List Str → Str → List Str
  | [], x => [x]
  | k :: ks, x => if k = x then k :: ks else k :: putFs ks x
def putUs : List Str → List T → Str → T → List T
  | k :: ks, t :: ts, x, v => if k = x then v :: ts else t :: putUs ks ts x v
  | _, ts, _, v => ts ++ [v]
/-- x[k] = v, by the slot's content -/
def setD (s : Sto) (sl : Slot) (k v : T) : Option (Slot × Sto) := match sl with
  | .own (.lst ts) => (asInt k).bind fun i => (ixN ts.length i).map fun j => (.own (.lst (ts.set j v)), s)
  | .own (.dct ks ts) => (keyOf k).bind fun x => if ks.length < lim then some (.own (.dct (putKs ks x) (putTs ks ts x v)), s) else none
  | .fro (.ref n) => (s[n]?).bind fun ts => (asInt k).bind fun i => (ixN ts.length i).map fun j => (.fro (.ref n), s.set n (ts.set j v))
  | _ => none
section
variable (G : Cfg) (C : Calls)
mutual
def denS : S → Env → M Fl
  | .asg i e, ρ => M.bind (denE G C false e ρ) fun r => M.ret (.nx (ρ.set i (slotOf r)))
  | .asgT is e, ρ => M.bind (denE G C false e ρ) fun r => match seqOf r.val with
    | some ts => M.of ((setMany ρ is ts).map .nx)
    | none => M.fail
  | .setI x i e, ρ => M.bind (denE G C false e ρ) fun v => M.bind (denE G C false i ρ) fun k => fun s => match (ρ[x]?).bind fun sl => setD s sl k.val v.val with
    | some (sl, s') => some (.nx (ρ.set x sl), s')
    | none => none
  | .fldS f e, ρ => M.bind (denE G C false e ρ) fun v => match (ρ[0]? : Option Slot) with
    | some (.own (.obj c fs ts)) => if fs.length < 100 then M.ret (.nx (ρ.set 0 (.own (.obj c (putFs fs f) (putUs fs ts f v.val))))) else M.fail
    | _ => M.fail
  | .app x e, ρ => M.bind (denE G C false e ρ) fun v => match ρ[x]? with
    | some (.own (.lst ts)) => if ts.length < lim then M.ret (.nx (ρ.set x (.own (.lst (ts ++ [v.val]))))) else M.fail
    | _ => M.fail
  | .ext x e, ρ => M.bind (denE G C false e ρ) fun v => match ρ[x]?, seqOf v.val with
    | some (.own (.lst ts)), some us => if szOk (ts.length + us.length) then M.ret (.nx (ρ.set x (.own (.lst (ts ++ us))))) else M.fail
    | _, _ => M.fail
  | .ins x i e, ρ => M.bind (denE G C false i ρ) fun k => M.bind (denE G C false e ρ) fun v => match ρ[x]?, k.val with
    | some (.own (.lst ts)), .int j => if ts.length < lim ∧ 0 ≤ j ∧ j < 2 ^ 62 then M.ret (.nx (ρ.set x (.own (.lst (ts.take j.toNat ++ v.val :: ts.drop j.toNat))))) else M.fail
    | _, _ => M.fail
  | .ret e, ρ => M.bind (denE G C false e ρ) fun r => M.ret (.rt r)
  | .retO i, ρ => match ρ[i]? with
    | some (.own t) => M.ret (.rt (.own t))
    | _ => M.fail
  | .pass, ρ => M.ret (.nx ρ)
  | .ifs c a b, ρ => M.bind (denE G C false c ρ) fun r => match truth r with
    | some true => denSs a ρ
    | some false => denSs b ρ
    | none => M.fail
  | .whl n c b, ρ => loopW (denE G C false c) (denSs b) n ρ
  | .fors tg it b, ρ => M.bind (denI G C it ρ) fun xs => loopF (fun v ρ => match tg.put ρ v with
      | some ρ' => denSs b ρ'
      | none => M.fail) xs ρ
  | .frz i, ρ => match ρ[i]? with
    | some (.own t) => M.ret (.nx (ρ.set i (.fro t)))
    | _ => M.ret (.nx ρ)
  | .shr i, ρ => match ρ[i]? with
    | some (.own (.lst ts)) => fun s => some (.nx (ρ.set i (.fro (.ref s.length))), s ++ [ts])
    | _ => M.fail
def denSs : Ss → Env → M Fl
  | .nil, ρ => M.ret (.nx ρ)
  | .cons s ss, ρ => M.bind (denS s ρ) fun fl => match fl with
    | .nx ρ' => denSs ss ρ'
    | .rt r => M.ret (.rt r)
end
end

/-! ### defs -/
structure Def where
  /-- how many parameters, how many names -/
  np : Nat
  ns : Nat
  init : Bool
  body : Ss
def Def.start (d : Def) (args : List T) : Env := match d.init, args with
  | true, t :: ts => Slot.own t :: ts.map .fro ++ List.replicate (d.ns - d.np) .non
  | _, ts => ts.map .fro ++ List.replicate (d.ns - d.np) .non
def Def.fin (d : Def) : Fl → Option R
  | .rt r => if d.init then none else some r
  | .nx ρ => if d.init then (match (ρ[0]? : Option Slot) with
      | some (.own t) => some (.own t)
      | _ => none) else some (.fro .non)
def Def.run (d : Def) (G : Cfg) (C : Calls) (args : List T) : M R := if args.length = d.np then M.bind (denSs G C d.body (d.start args)) fun fl => M.of (d.fin fl) else M.fail
/-- the defs of a program, so many calls deep -/
def den (G : Cfg) (tb : Nat → Option Def) : Nat → Calls
  | 0, _, _ => M.fail
  | k + 1, f, args => match tb f with
    | some d => d.run G (den G tb k) args
    | none => M.fail
end TL
end

section
set_option Elab.async false
set_option linter.all false
set_option maxRecDepth 100000
set_option maxHeartbeats 4000000
/-! What a value of the heap is as a tree, and what a state is. -/
namespace TL
open PySem PySem.Spec PyProof.Rows L2

/-- what is fixed: the written part, the classes' places -/
structure Pk where
  K : PySem.W.Frag
  cl : Nat → Addr

/-- an object without a dict and slots of its own -/
def Bare (o : Obj) : Prop := o.dict = none ∧ o.slots = #[]
/-- a tuple whose object is known to be bare -/
def TupN (K : PySem.W.Frag) (F : Hp) (a : Addr) (xs : List V) : Prop :=
  (∃ o : Obj, F a = some (.frz o (.tup xs)) ∧ Bare o) ∨
    ∃ (o : Obj) (its : Array Value) (n : Nat), K.lookup a = some o ∧ o.cls = .type "tuple" ∧ Bare o ∧ o.data = .seq its n ∧ its.size ≤ sizeLine ∧ Vals xs its.toList
theorem TupN.sqT {K : PySem.W.Frag} {F : Hp} {a : Addr} {xs : List V} (h : TupN K F a xs) : SqT K F a xs := by
  rcases h with ⟨o, h, _⟩ | ⟨o, its, n, h1, h2, _, h3, h4, h5⟩
  · exact .inl (.inr ⟨o, h⟩)
  · exact .inr ⟨o, its, n, h1, h2, h3, h4, h5⟩
mutual
def Is (p : Pk) (φ : List Addr) (F : Hp) : T → V → Prop
  | .non, v => v = .non
  | .bl b, v => v = .bl b
  | .int i, v => v = .int i
  | .str s, v => v = .str s
  | .tup ts, v => ∃ a xs, v = .ref a ∧ TupN p.K F a xs ∧ IsL p φ F ts xs
  | .lst ts, v => ∃ a xs, v = .ref a ∧ Rd F a (.lst xs) ∧ IsL p φ F ts xs
  | .dct ks ts, v => ∃ a kvs, v = .ref a ∧ Rd F a (.dK kvs) ∧ kvs.map (·.1) = ks ∧ IsL p φ F ts (kvs.map (·.2))
  | .obj c fs ts, v => ∃ a dx kvs, v = .ref a ∧ F a = some (.ins (p.cl c) dx kvs) ∧ kvs.map (·.1) = fs ∧ IsL p φ F ts (kvs.map (·.2))
  | .ref n, v => ∃ a, v = .ref a ∧ φ[n]? = some a
def IsL (p : Pk) (φ : List Addr) (F : Hp) : List T → List V → Prop
  | [], xs => xs = []
  | t :: ts, xs => ∃ x r, xs = x :: r ∧ Is p φ F t x ∧ IsL p φ F ts r
end

/-- F' knows what F knows; a list or dict may have been locked -/
def Le (F F' : Hp) : Prop := ∀ a o, F a = some o → F' a = some o ∨ (Mut (some o) ∧ (∀ C dx fs, o ≠ .ins C dx fs) ∧ ∃ ob, F' a = some (.frz ob o))
def Sub (F H : Hp) : Prop := ∀ a o, F a = some o → H a = some o
theorem Sub.refl (H : Hp) : Sub H H := fun _ _ h => h
theorem Le.refl (F : Hp) : Le F F := fun _ _ h => .inl h
theorem Le.of {F F' : Hp} (h : Sub F F') : Le F F' := fun a o e => .inl (h a o e)
theorem Le.trans {F G H : Hp} (a : Le F G) (b : Le G H) : Le F H := fun c o e => by
  rcases a c o e with e1 | ⟨m, n, ob, e1⟩
  · exact b c o e1
  · rcases b c _ e1 with e2 | ⟨m2, _⟩
    · exact .inr ⟨m, n, ob, e2⟩
    · exact False.elim m2
theorem Le.rd {F F' : Hp} {a : Addr} {u : HO} (h : Le F F') (r : Rd F a u) : Rd F' a u := by
  rcases r with r | ⟨o, r⟩
  · rcases h a u r with e | ⟨_, _, ob, e⟩
    · exact .inl e
    · exact .inr ⟨ob, e⟩
  · rcases h a _ r with e | ⟨m, _⟩
    · exact .inr ⟨o, e⟩
    · exact False.elim m
theorem Le.sqL {K : PySem.W.Frag} {F F' : Hp} {a : Addr} {xs : List V} (h : Le F F') (r : SqL K F a xs) : SqL K F' a xs := by
  rcases r with r | r
  · exact .inl (h.rd r)
  · exact .inr r
theorem Le.sqT {K : PySem.W.Frag} {F F' : Hp} {a : Addr} {xs : List V} (h : Le F F') (r : SqT K F a xs) : SqT K F' a xs := by
  rcases r with r | r
  · exact .inl (h.rd r)
  · exact .inr r
theorem Le.tupN {K : PySem.W.Frag} {F F' : Hp} {a : Addr} {xs : List V} (h : Le F F') (r : TupN K F a xs) : TupN K F' a xs := by
  rcases r with ⟨o, r, d⟩ | r
  · rcases h a _ r with e | ⟨m, _⟩
    · exact .inl ⟨o, e, d⟩
    · exact False.elim m
  · exact .inr r
theorem Le.ins {F F' : Hp} {a C dx : Addr} {fs : List (Str × V)} (h : Le F F') (r : F a = some (.ins C dx fs)) : F' a = some (.ins C dx fs) := by
  rcases h a _ r with e | ⟨_, n, _⟩
  · exact e
  · exact absurd rfl (n C dx fs)

/-- the shared lists' places grow at the end -/
def Pre (φ φ' : List Addr) : Prop := ∃ m, φ' = φ ++ m
theorem Pre.refl (φ : List Addr) : Pre φ φ := ⟨[], by simp⟩
theorem Pre.trans {a b c : List Addr} (h : Pre a b) (k : Pre b c) : Pre a c := by
  obtain ⟨m, rfl⟩ := h
  obtain ⟨n, rfl⟩ := k
  exact ⟨m ++ n, by simp⟩
theorem Pre.get {φ φ' : List Addr} (h : Pre φ φ') {n : Nat} {a : Addr} (e : φ[n]? = some a) : φ'[n]? = some a := by
  obtain ⟨m, rfl⟩ := h
  rw [List.getElem?_append_left (List.getElem?_eq_some_iff.mp e).1]
  exact e
theorem Pre.mem {φ φ' : List Addr} (h : Pre φ φ') {a : Addr} (e : a ∈ φ) : a ∈ φ' := by
  obtain ⟨m, rfl⟩ := h
  exact List.mem_append_left _ e

section
variable {p : Pk} {φ φ' : List Addr} {F F' : Hp}
mutual
theorem Is.mono (hp : Pre φ φ') (hl : Le F F') : ∀ (t : T) (v : V), Is p φ F t v → Is p φ' F' t v
  | .non, _, h => h
  | .bl _, _, h => h
  | .int _, _, h => h
  | .str _, _, h => h
  | .tup ts, _, h => by
    obtain ⟨a, xs, e, q, r⟩ := h
    exact ⟨a, xs, e, hl.tupN q, IsL.mono hp hl ts xs r⟩
  | .lst ts, _, h => by
    obtain ⟨a, xs, e, q, r⟩ := h
    exact ⟨a, xs, e, hl.rd q, IsL.mono hp hl ts xs r⟩
  | .dct ks ts, _, h => by
    obtain ⟨a, kvs, e, q, k, r⟩ := h
    exact ⟨a, kvs, e, hl.rd q, k, IsL.mono hp hl ts _ r⟩
  | .obj c fs ts, _, h => by
    obtain ⟨a, dx, kvs, e, q, k, r⟩ := h
    exact ⟨a, dx, kvs, e, hl.ins q, k, IsL.mono hp hl ts _ r⟩
  | .ref n, _, h => by
    obtain ⟨a, e, q⟩ := h
    exact ⟨a, e, hp.get q⟩
theorem IsL.mono (hp : Pre φ φ') (hl : Le F F') : ∀ (ts : List T) (xs : List V), IsL p φ F ts xs → IsL p φ' F' ts xs
  | [], _, h => h
  | t :: ts, _, h => by
    obtain ⟨x, r, e, h1, h2⟩ := h
    exact ⟨x, r, e, Is.mono hp hl t x h1, IsL.mono hp hl ts r h2⟩
end
theorem IsL.length : ∀ {ts : List T} {xs : List V}, IsL p φ F ts xs → ts.length = xs.length
  | [], _, h => by rw [show _ = [] from h]; rfl
  | t :: ts, _, h => by
    obtain ⟨x, r, rfl, _, h2⟩ := h
    rw [List.length_cons, List.length_cons, IsL.length h2]
theorem IsL.nil : IsL p φ F [] [] := rfl
theorem IsL.cons {t : T} {ts : List T} {x : V} {xs : List V} (h : Is p φ F t x) (r : IsL p φ F ts xs) : IsL p φ F (t :: ts) (x :: xs) := ⟨x, xs, rfl, h, r⟩
theorem IsL.append : ∀ {ts us : List T} {xs ys : List V}, IsL p φ F ts xs → IsL p φ F us ys → IsL p φ F (ts ++ us) (xs ++ ys)
  | [], us, _, ys, h, k => by rw [show _ = [] from h]; exact k
  | t :: ts, us, _, ys, h, k => by
    obtain ⟨x, r, rfl, h1, h2⟩ := h
    exact .cons h1 (IsL.append h2 k)
theorem IsL.get : ∀ {ts : List T} {xs : List V} {i : Nat} {t : T}, IsL p φ F ts xs → ts[i]? = some t → ∃ x, xs[i]? = some x ∧ Is p φ F t x
  | [], _, i, t, h, e => by simp at e
  | t :: ts, _, 0, t', h, e => by
    obtain ⟨x, r, rfl, h1, h2⟩ := h
    simp at e
    subst e
    exact ⟨x, rfl, h1⟩
  | t :: ts, _, i + 1, t', h, e => by
    obtain ⟨x, r, rfl, h1, h2⟩ := h
    obtain ⟨y, e1, e2⟩ := IsL.get (i := i) h2 (by simpa using e)
    exact ⟨y, by simpa using e1, e2⟩
theorem IsL.getV : ∀ {ts : List T} {xs : List V} {i : Nat} {x : V}, IsL p φ F ts xs → xs[i]? = some x → ∃ t, ts[i]? = some t ∧ Is p φ F t x
  | [], _, i, x, h, e => by rw [show _ = [] from h] at e; simp at e
  | t :: ts, _, 0, x', h, e => by
    obtain ⟨x, r, rfl, h1, h2⟩ := h
    simp at e
    subst e
    exact ⟨t, rfl, h1⟩
  | t :: ts, _, i + 1, x', h, e => by
    obtain ⟨x, r, rfl, h1, h2⟩ := h
    obtain ⟨y, e1, e2⟩ := IsL.getV (i := i) h2 (by simpa using e)
    exact ⟨y, by simpa using e1, e2⟩
theorem IsL.take : ∀ {ts : List T} {xs : List V} (n : Nat), IsL p φ F ts xs → IsL p φ F (ts.take n) (xs.take n)
  | ts, xs, 0, h => by rw [List.take_zero, List.take_zero]; exact .nil
  | [], _, n + 1, h => by rw [show _ = [] from h]; exact .nil
  | t :: ts, _, n + 1, h => by
    obtain ⟨x, r, rfl, h1, h2⟩ := h
    exact .cons h1 (IsL.take n h2)
theorem IsL.drop : ∀ {ts : List T} {xs : List V} (n : Nat), IsL p φ F ts xs → IsL p φ F (ts.drop n) (xs.drop n)
  | ts, xs, 0, h => h
  | [], _, n + 1, h => by rw [show _ = [] from h]; exact .nil
  | t :: ts, _, n + 1, h => by
    obtain ⟨x, r, rfl, h1, h2⟩ := h
    exact IsL.drop n h2
theorem IsL.set {t : T} {x : V} (q : Is p φ F t x) : ∀ {ts : List T} {xs : List V} (i : Nat), IsL p φ F ts xs → IsL p φ F (ts.set i t) (xs.set i x)
  | [], _, i, h => by rw [show _ = [] from h]; exact .nil
  | t :: ts, _, 0, h => by
    obtain ⟨x, r, rfl, h1, h2⟩ := h
    exact .cons q h2
  | t :: ts, _, i + 1, h => by
    obtain ⟨x, r, rfl, h1, h2⟩ := h
    exact .cons h1 (IsL.set q i h2)
theorem IsL.map {α : Type} {f : α → T} {g : α → V} (h : ∀ a, Is p φ F (f a) (g a)) : ∀ l : List α, IsL p φ F (l.map f) (l.map g)
  | [] => .nil
  | a :: l => .cons (h a) (IsL.map h l)
end

/-! ### shared lists, own things -/
def StoOk (p : Pk) (φ : List Addr) (F H : Hp) (st : Sto) : Prop :=
  φ.length = st.length ∧ φ.Nodup ∧ (∀ a ∈ φ, F a = none) ∧ ∀ (n : Nat) (a : Addr) (ts : List T), φ[n]? = some a → st[n]? = some ts → ∃ xs, H a = some (.lst xs) ∧ IsL p φ F ts xs
/-- a list, dict, instance that nobody else knows -/
def Own (p : Pk) (φ : List Addr) (F H : Hp) (t : T) (a : Addr) : Prop := F a = none ∧ a ∉ φ ∧ match t with
  | .lst ts => ∃ xs, H a = some (.lst xs) ∧ IsL p φ F ts xs
  | .dct ks ts => ∃ kvs, H a = some (.dK kvs) ∧ kvs.map (·.1) = ks ∧ IsL p φ F ts (kvs.map (·.2))
  | .obj c fs ts => ∃ dx kvs, H a = some (.ins (p.cl c) dx kvs) ∧ kvs.map (·.1) = fs ∧ IsL p φ F ts (kvs.map (·.2))
  | _ => False
def SlotOk (p : Pk) (φ : List Addr) (F H : Hp) (s : Slot) (v : Option V) : Prop := match s with
  | .non => True
  | .fro t => ∃ x, v = some x ∧ Is p φ F t x
  | .own t => ∃ a, v = some (.ref a) ∧ Own p φ F H t a
structure Rel (p : Pk) (φ : List Addr) (F H : Hp) (ρ : Env) (σ : L2.St) (st : Sto) : Prop where
  sub : Sub F H
  sto : StoOk p φ F H st
  len : ρ.length = σ.length
  slot : ∀ (i : Nat) (s : Slot) (v : Option V), ρ[i]? = some s → σ[i]? = some v → SlotOk p φ F H s v
  apart : ∀ (i j : Nat) (t u : T) (a : Addr), i ≠ j → ρ[i]? = some (.own t) → ρ[j]? = some (.own u) → σ[i]? = some (some (.ref a)) → σ[j]? = some (some (.ref a)) → False

/-- what a step leaves -/
structure Nx (p : Pk) (φ : List Addr) (F H : Hp) (φ' : List Addr) (F' H' : Hp) (st' : Sto) : Prop where
  le : Le F F'
  keep : ∀ a o, H a = some o → F a = none → a ∉ φ → H' a = some o
  new : ∀ a, F' a ≠ none → F a = none → H a = none
  pre : Pre φ φ'
  ext : ∀ a ∈ φ', a ∉ φ → H a = none
  sub : Sub F' H'
  sto : StoOk p φ' F' H' st'

section
variable {p : Pk} {φ φ' φ'' : List Addr} {F F' F'' H H' H'' : Hp} {st st' st'' : Sto}
theorem StoOk.at_ (h : StoOk p φ F H st) {a : Addr} (ha : a ∈ φ) : ∃ xs, H a = some (.lst xs) := by
  obtain ⟨l, _, _, q⟩ := h
  obtain ⟨n, hn⟩ := List.getElem?_of_mem ha
  have hlt : n < st.length := by rw [← l]; exact (List.getElem?_eq_some_iff.mp hn).1
  obtain ⟨xs, e, _⟩ := q n a st[n] hn (List.getElem?_eq_getElem hlt)
  exact ⟨xs, e⟩
theorem Nx.refl (hs : Sub F H) (ho : StoOk p φ F H st) : Nx p φ F H φ F H st :=
  ⟨Le.refl F, fun _ _ h _ _ => h, fun a h k => absurd k h, Pre.refl φ, fun a h k => absurd h k, hs, ho⟩
/-- what was there is there -/
theorem Nx.there (n : Nx p φ F H φ' F' H' st') (hs : Sub F H) {a : Addr} (h : H' a = none) : H a = none := by
  cases e : H a with
  | none => rfl
  | some o =>
    by_cases hf : F a = none
    · by_cases hp : a ∈ φ
      · obtain ⟨xs, e1⟩ := n.sto.at_ (n.pre.mem hp)
        rw [h] at e1; cases e1
      · have := n.keep a o e hf hp
        rw [h] at this; cases this
    · cases e2 : F a with
      | none => exact absurd e2 hf
      | some u =>
        rcases n.le a u e2 with e3 | ⟨_, _, ob, e3⟩
        · have := n.sub a _ e3; rw [h] at this; cases this
        · have := n.sub a _ e3; rw [h] at this; cases this
theorem Nx.trans (hs : Sub F H) (a : Nx p φ F H φ' F' H' st') (b : Nx p φ' F' H' φ'' F'' H'' st'') : Nx p φ F H φ'' F'' H'' st'' where
  le := a.le.trans b.le
  keep := fun x o h hf hp => by
    refine b.keep x o (a.keep x o h hf hp) ?_ ?_
    · cases e : F' x with
      | none => rfl
      | some u =>
        have := a.new x (by rw [e]; simp) hf
        rw [h] at this; cases this
    · intro hm
      have := a.ext x hm hp
      rw [h] at this; cases this
  new := fun x h hf => by
    by_cases e : F' x = none
    · exact a.there hs (b.new x h e)
    · exact a.new x e hf
  pre := a.pre.trans b.pre
  ext := fun x hx hp => by
    by_cases e : x ∈ φ'
    · exact a.ext x e hp
    · exact a.there hs (b.ext x hx e)
  sub := b.sub
  sto := b.sto
theorem Own.nx (n : Nx p φ F H φ' F' H' st') {t : T} {a : Addr} (h : Own p φ F H t a) : Own p φ' F' H' t a := by
  obtain ⟨h1, h2, h3⟩ := h
  have ha : ∃ o, H a = some o := by
    cases t with
    | lst ts => obtain ⟨xs, e, _⟩ := h3; exact ⟨_, e⟩
    | dct ks ts => obtain ⟨xs, e, _⟩ := h3; exact ⟨_, e⟩
    | obj c fs ts => obtain ⟨dx, xs, e, _⟩ := h3; exact ⟨_, e⟩
    | _ => exact h3.elim
  obtain ⟨o, ho⟩ := ha
  have k : ∀ {u}, H a = some u → H' a = some u := fun {u} e => n.keep a u e h1 h2
  refine ⟨?_, ?_, ?_⟩
  · cases e : F' a with
    | none => rfl
    | some u =>
      have := n.new a (by rw [e]; simp) h1
      rw [ho] at this; cases this
  · intro hm
    have := n.ext a hm h2
    rw [ho] at this; cases this
  · cases t with
    | lst ts =>
      obtain ⟨xs, e, q⟩ := h3
      exact ⟨xs, k e, IsL.mono n.pre n.le _ _ q⟩
    | dct ks ts =>
      obtain ⟨xs, e, e2, q⟩ := h3
      exact ⟨xs, k e, e2, IsL.mono n.pre n.le _ _ q⟩
    | obj c fs ts =>
      obtain ⟨dx, xs, e, e2, q⟩ := h3
      exact ⟨dx, xs, k e, e2, IsL.mono n.pre n.le _ _ q⟩
    | _ => exact h3.elim
theorem Rel.nx {ρ : Env} {σ : L2.St} (r : Rel p φ F H ρ σ st) (n : Nx p φ F H φ' F' H' st') : Rel p φ' F' H' ρ σ st' where
  sub := n.sub
  sto := n.sto
  len := r.len
  slot := fun i s v h1 h2 => by
    have q := r.slot i s v h1 h2
    cases s with
    | non => trivial
    | fro t =>
      obtain ⟨x, e, q⟩ := q
      exact ⟨x, e, Is.mono n.pre n.le _ _ q⟩
    | own t =>
      obtain ⟨a, e, q⟩ := q
      exact ⟨a, e, q.nx n⟩
  apart := r.apart
theorem Rel.self {ρ : Env} {σ : L2.St} (r : Rel p φ F H ρ σ st) : Nx p φ F H φ F H st := Nx.refl r.sub r.sto

/-- an expression's value: as a tree; or a new thing of one's own -/
def Res (p : Pk) (φ : List Addr) (F H H0 : Hp) (r : R) (v : V) : Prop := match r with
  | .fro t => Is p φ F t v
  | .own t => ∃ a, v = .ref a ∧ Own p φ F H t a ∧ H0 a = none
/-- the heap without the shared lists -/
def Hm (φ : List Addr) (H : Hp) : Hp := fun a => if a ∈ φ then none else H a
theorem Hm.of {a : Addr} {o : HO} (hp : a ∉ φ) (h : H a = some o) : Hm φ H a = some o := by
  unfold Hm; rw [if_neg hp]; exact h
theorem Hm.to {a : Addr} {o : HO} (h : Hm φ H a = some o) : a ∉ φ ∧ H a = some o := by
  unfold Hm at h
  by_cases hp : a ∈ φ
  · rw [if_pos hp] at h; cases h
  · rw [if_neg hp] at h; exact ⟨hp, h⟩
theorem Hm.sub (hs : Sub F H) (ho : StoOk p φ F H st) : Sub F (Hm φ H) := fun a o e => by
  refine Hm.of (fun hp => ?_) (hs a o e)
  rw [ho.2.2.1 a hp] at e; cases e
theorem Hm.subH : Sub (Hm φ H) H := fun a o e => (Hm.to e).2
/-- a value seen in passing stays what it is -/
theorem Hm.nx (hs : Sub F H) (n : Nx p φ F H φ' F' H' st') : Le (Hm φ H) (Hm φ' H') := fun a o e => by
  obtain ⟨hp, e⟩ := Hm.to e
  have hp' : a ∉ φ' := fun hm => by
    have := n.ext a hm hp
    rw [e] at this; cases this
  cases hf : F a with
  | none => exact .inl (Hm.of hp' (n.keep a o e hf hp))
  | some u =>
    have q := hs a u hf
    rw [e] at q; cases q
    rcases n.le a o hf with e3 | ⟨m, nn, ob, e3⟩
    · exact .inl (Hm.of hp' (n.sub a _ e3))
    · exact .inr ⟨m, nn, ob, Hm.of hp' (n.sub a _ e3)⟩
theorem Own.seen {t : T} {a : Addr} (hs : Sub F H) (ho : StoOk p φ F H st) (h : Own p φ F H t a) : Is p φ (Hm φ H) t (.ref a) := by
  obtain ⟨h1, h2, h3⟩ := h
  have m := Le.of (Hm.sub hs ho)
  cases t with
  | lst ts =>
    obtain ⟨xs, e, q⟩ := h3
    exact ⟨a, xs, rfl, .inl (Hm.of h2 e), IsL.mono (Pre.refl φ) m _ _ q⟩
  | dct ks ts =>
    obtain ⟨kvs, e, e2, q⟩ := h3
    exact ⟨a, kvs, rfl, .inl (Hm.of h2 e), e2, IsL.mono (Pre.refl φ) m _ _ q⟩
  | obj c fs ts =>
    obtain ⟨dx, kvs, e, e2, q⟩ := h3
    exact ⟨a, dx, kvs, rfl, Hm.of h2 e, e2, IsL.mono (Pre.refl φ) m _ _ q⟩
  | _ => exact h3.elim
theorem Res.seen {H0 : Hp} {r : R} {v : V} (hs : Sub F H) (ho : StoOk p φ F H st) (h : Res p φ F H H0 r v) : Is p φ (Hm φ H) r.val v := by
  cases r with
  | fro t => exact Is.mono (Pre.refl φ) (Le.of (Hm.sub hs ho)) _ _ h
  | own t =>
    obtain ⟨a, rfl, o, _⟩ := h
    exact o.seen hs ho
/-- a thing of one's own is given out of hand -/
theorem Own.freeze {t : T} {a : Addr} (n : Nx p φ F H φ' F' H' st') (hs : Sub F H) (h : Own p φ' F' H' t a) (h0 : H a = none) : ∃ F'', Nx p φ F H φ' F'' H' st' ∧ Sub F' F'' ∧ Is p φ' F'' t (.ref a) := by
  have ho : ∃ o, H' a = some o := by
    obtain ⟨_, _, h3⟩ := h
    cases t with
    | lst ts => obtain ⟨xs, e, _⟩ := h3; exact ⟨_, e⟩
    | dct ks ts => obtain ⟨xs, e, _⟩ := h3; exact ⟨_, e⟩
    | obj c fs ts => obtain ⟨dx, xs, e, _⟩ := h3; exact ⟨_, e⟩
    | _ => exact h3.elim
  obtain ⟨o, ho⟩ := ho
  obtain ⟨h1, h2, h3⟩ := h
  have sb : Sub F' (upd F' a o) := fun b u e => by rw [upd_ne (ne_of_none e h1)]; exact e
  have m := Le.of sb
  refine ⟨upd F' a o, ⟨n.le.trans m, n.keep, fun b hb hf => ?_, n.pre, n.ext, fun b u e => ?_, ⟨n.sto.1, n.sto.2.1, fun b hb => ?_, fun k b ts e1 e2 => ?_⟩⟩, sb, ?_⟩
  · by_cases e : b = a
    · rw [e]; exact h0
    · rw [upd_ne e] at hb; exact n.new b hb hf
  · by_cases eb : b = a
    · rw [eb, upd_same] at e; cases e; rw [eb]; exact ho
    · rw [upd_ne eb] at e; exact n.sub b u e
  · have : b ≠ a := fun e => h2 (e ▸ hb)
    rw [upd_ne this]; exact n.sto.2.2.1 b hb
  · obtain ⟨xs, e3, q⟩ := n.sto.2.2.2 k b ts e1 e2
    exact ⟨xs, e3, IsL.mono (Pre.refl φ') m _ _ q⟩
  · cases t with
    | lst ts =>
      obtain ⟨xs, e, q⟩ := h3
      rw [ho] at e; cases e
      exact ⟨a, xs, rfl, .inl upd_same, IsL.mono (Pre.refl φ') m _ _ q⟩
    | dct ks ts =>
      obtain ⟨kvs, e, e2, q⟩ := h3
      rw [ho] at e; cases e
      exact ⟨a, kvs, rfl, .inl upd_same, e2, IsL.mono (Pre.refl φ') m _ _ q⟩
    | obj c fs ts =>
      obtain ⟨dx, kvs, e, e2, q⟩ := h3
      rw [ho] at e; cases e
      exact ⟨a, dx, kvs, rfl, upd_same, e2, IsL.mono (Pre.refl φ') m _ _ q⟩
    | _ => exact h3.elim
theorem Res.freeze {r : R} {v : V} (n : Nx p φ F H φ' F' H' st') (hs : Sub F H) (h : Res p φ' F' H' H r v) : ∃ F'', Nx p φ F H φ' F'' H' st' ∧ Sub F' F'' ∧ Is p φ' F'' r.val v := by
  cases r with
  | fro t => exact ⟨F', n, Sub.refl _, h⟩
  | own t =>
    obtain ⟨a, rfl, o, h0⟩ := h
    exact o.freeze n hs h0
end
end TL
end

section
set_option Elab.async false
set_option linter.all false
set_option maxRecDepth 100000
set_option maxHeartbeats 4000000
/-! The operations on values keep to the trees. -/
namespace TL
open PySem PySem.Spec PyProof.Rows L2

/-- a value that is seen: given out, or one's own -/
def Seen (p : Pk) (φ : List Addr) (F H : Hp) (t : T) (v : V) : Prop := Is p φ F t v ∨ ∃ a, v = .ref a ∧ Own p φ F H t a

section
variable {p : Pk} {φ φ' : List Addr} {F F' H H' H0 : Hp} {st st' : Sto} {t u : T} {v x y : V}
theorem Seen.nx (n : Nx p φ F H φ' F' H' st') (h : Seen p φ F H t v) : Seen p φ' F' H' t v := by
  rcases h with h | ⟨a, e, o⟩
  · exact .inl (Is.mono n.pre n.le _ _ h)
  · exact .inr ⟨a, e, o.nx n⟩
theorem Res.saw {r : R} (h : Res p φ F H H0 r v) : Seen p φ F H r.val v := by
  cases r with
  | fro t => exact .inl h
  | own t =>
    obtain ⟨a, e, o, _⟩ := h
    exact .inr ⟨a, e, o⟩
theorem Seen.non (h : Seen p φ F H .non v) : v = .non := by
  rcases h with h | ⟨a, e, _, _, h⟩
  · exact h
  · exact h.elim
theorem Seen.bl {b : Bool} (h : Seen p φ F H (.bl b) v) : v = .bl b := by
  rcases h with h | ⟨a, e, _, _, h⟩
  · exact h
  · exact h.elim
theorem Seen.int {i : Int} (h : Seen p φ F H (.int i) v) : v = .int i := by
  rcases h with h | ⟨a, e, _, _, h⟩
  · exact h
  · exact h.elim
theorem Seen.str {s : Str} (h : Seen p φ F H (.str s) v) : v = .str s := by
  rcases h with h | ⟨a, e, _, _, h⟩
  · exact h
  · exact h.elim
theorem Seen.ref {n : Nat} (h : Seen p φ F H (.ref n) v) : ∃ a, v = .ref a ∧ φ[n]? = some a := by
  rcases h with h | ⟨a, e, _, _, h⟩
  · exact h
  · exact h.elim
theorem Seen.tup {ts : List T} (hs : Sub F H) (h : Seen p φ F H (.tup ts) v) : ∃ a xs, v = .ref a ∧ SqT p.K H a xs ∧ IsL p φ F ts xs := by
  rcases h with ⟨a, xs, e, q, r⟩ | ⟨a, e, _, _, h⟩
  · exact ⟨a, xs, e, ((Le.of hs).tupN q).sqT, r⟩
  · exact h.elim
theorem Seen.tupI {ts : List T} (h : Seen p φ F H (.tup ts) v) : Is p φ F (.tup ts) v := by
  rcases h with h | ⟨a, e, _, _, h⟩
  · exact h
  · exact h.elim
theorem Seen.lstR {ts : List T} (hs : Sub F H) (h : Seen p φ F H (.lst ts) v) : ∃ a xs, v = .ref a ∧ Rd H a (.lst xs) ∧ IsL p φ F ts xs := by
  rcases h with ⟨a, xs, e, q, r⟩ | ⟨a, e, _, _, xs, h, r⟩
  · exact ⟨a, xs, e, (Le.of hs).rd q, r⟩
  · exact ⟨a, xs, e, .inl h, r⟩
theorem Seen.tupNI {ts : List T} (hs : Sub F H) (h : Seen p φ F H (.tup ts) v) : ∃ a xs, v = .ref a ∧ TupN p.K H a xs ∧ IsL p φ F ts xs := by
  rcases h with ⟨a, xs, e, q, r⟩ | ⟨a, e, _, _, h⟩
  · exact ⟨a, xs, e, (Le.of hs).tupN q, r⟩
  · exact h.elim
theorem Seen.lst {ts : List T} (hs : Sub F H) (h : Seen p φ F H (.lst ts) v) : ∃ a xs, v = .ref a ∧ SqL p.K H a xs ∧ IsL p φ F ts xs := by
  rcases h with ⟨a, xs, e, q, r⟩ | ⟨a, e, _, _, xs, h, r⟩
  · exact ⟨a, xs, e, .inl ((Le.of hs).rd q), r⟩
  · exact ⟨a, xs, e, .inl (.inl h), r⟩
theorem Seen.dct {ks : List Key} {ts : List T} (hs : Sub F H) (h : Seen p φ F H (.dct ks ts) v) : ∃ a kvs, v = .ref a ∧ Rd H a (.dK kvs) ∧ kvs.map (·.1) = ks ∧ IsL p φ F ts (kvs.map (·.2)) := by
  rcases h with ⟨a, kvs, e, q, k, r⟩ | ⟨a, e, _, _, kvs, h, k, r⟩
  · exact ⟨a, kvs, e, (Le.of hs).rd q, k, r⟩
  · exact ⟨a, kvs, e, .inl h, k, r⟩
theorem Seen.obj {c : Nat} {fs : List Str} {ts : List T} (hs : Sub F H) (h : Seen p φ F H (.obj c fs ts) v) : ∃ a dx kvs, v = .ref a ∧ H a = some (.ins (p.cl c) dx kvs) ∧ kvs.map (·.1) = fs ∧ IsL p φ F ts (kvs.map (·.2)) := by
  rcases h with ⟨a, dx, kvs, e, q, k, r⟩ | ⟨a, e, _, _, dx, kvs, h, k, r⟩
  · exact ⟨a, dx, kvs, e, (Le.of hs).ins q, k, r⟩
  · exact ⟨a, dx, kvs, e, h, k, r⟩
/-- a sequence's items -/
theorem Seen.seq {ts : List T} (hs : Sub F H) (h : Seen p φ F H t v) (e : seqOf t = some ts) : ∃ a xs, v = .ref a ∧ (SqL p.K H a xs ∨ SqT p.K H a xs) ∧ IsL p φ F ts xs := by
  cases t with
  | lst us => cases e; obtain ⟨a, xs, e, q, r⟩ := h.lst hs; exact ⟨a, xs, e, .inl q, r⟩
  | tup us => cases e; obtain ⟨a, xs, e, q, r⟩ := h.tup hs; exact ⟨a, xs, e, .inr q, r⟩
  | _ => cases e

/-! ### new things -/
theorem fresh_sub (hs : Sub F H) {a : Addr} (h : H a = none) : F a = none := by
  cases e : F a with
  | none => rfl
  | some o => rw [hs a o e] at h; cases h
theorem fresh_sto (ho : StoOk p φ F H st) {a : Addr} (h : H a = none) : a ∉ φ := fun hm => by
  obtain ⟨xs, e⟩ := ho.at_ hm
  rw [h] at e; cases e
/-- a new thing of one's own at a -/
theorem nx_own (hs : Sub F H) (ho : StoOk p φ F H st) {a : Addr} (h : H a = none) (o : HO) : Nx p φ F H φ F (upd H a o) st where
  le := Le.refl F
  keep := fun b u e _ _ => by rw [upd_ne (ne_of_none e h)]; exact e
  new := fun b h1 h2 => absurd h2 h1
  pre := Pre.refl φ
  ext := fun b h1 h2 => absurd h1 h2
  sub := fun b u e => by rw [upd_ne (ne_of_none (hs b u e) h)]; exact hs b u e
  sto := ⟨ho.1, ho.2.1, ho.2.2.1, fun n b ts e1 e2 => by
    obtain ⟨xs, e3, q⟩ := ho.2.2.2 n b ts e1 e2
    exact ⟨xs, by rw [upd_ne (ne_of_none e3 h)]; exact e3, q⟩⟩
/-- a new thing given out at a -/
theorem nx_fro (hs : Sub F H) (ho : StoOk p φ F H st) {a : Addr} (h : H a = none) (o : HO) : Nx p φ F H φ (upd F a o) (upd H a o) st where
  le := Le.of fun b u e => by rw [upd_ne (ne_of_none e (fresh_sub hs h))]; exact e
  keep := fun b u e _ _ => by rw [upd_ne (ne_of_none e h)]; exact e
  new := fun b h1 h2 => by
    by_cases e : b = a
    · rw [e]; exact h
    · rw [upd_ne e] at h1; exact absurd h2 h1
  pre := Pre.refl φ
  ext := fun b h1 h2 => absurd h1 h2
  sub := fun b u e => by
    by_cases eb : b = a
    · rw [eb, upd_same] at e; cases e; rw [eb]; exact upd_same
    · rw [upd_ne eb] at e; rw [upd_ne eb]; exact hs b u e
  sto := ⟨ho.1, ho.2.1, fun b hb => by
      have : b ≠ a := fun e => fresh_sto ho h (e ▸ hb)
      rw [upd_ne this]; exact ho.2.2.1 b hb, fun n b ts e1 e2 => by
    obtain ⟨xs, e3, q⟩ := ho.2.2.2 n b ts e1 e2
    have m : Le F (upd F a o) := Le.of fun b u e => by rw [upd_ne (ne_of_none e (fresh_sub hs h))]; exact e
    exact ⟨xs, by rw [upd_ne (ne_of_none e3 h)]; exact e3, IsL.mono (Pre.refl φ) m _ _ q⟩⟩
theorem own_lst (hs : Sub F H) (ho : StoOk p φ F H st) {a : Addr} (h : H a = none) {ts : List T} {xs : List V} (r : IsL p φ F ts xs) :
    Nx p φ F H φ F (upd H a (.lst xs)) st ∧ Res p φ F (upd H a (.lst xs)) H (.own (.lst ts)) (.ref a) :=
  ⟨nx_own hs ho h _, a, rfl, ⟨fresh_sub hs h, fresh_sto ho h, xs, upd_same, r⟩, h⟩
theorem own_dct (hs : Sub F H) (ho : StoOk p φ F H st) {a : Addr} (h : H a = none) {ks : List Key} {ts : List T} {kvs : List (Key × V)} (k : kvs.map (·.1) = ks) (r : IsL p φ F ts (kvs.map (·.2))) :
    Nx p φ F H φ F (upd H a (.dK kvs)) st ∧ Res p φ F (upd H a (.dK kvs)) H (.own (.dct ks ts)) (.ref a) :=
  ⟨nx_own hs ho h _, a, rfl, ⟨fresh_sub hs h, fresh_sto ho h, kvs, upd_same, k, r⟩, h⟩
theorem fro_tup (hs : Sub F H) (ho : StoOk p φ F H st) {a : Addr} {o : Obj} (h : H a = none) (d : Bare o) {ts : List T} {xs : List V} (r : IsL p φ F ts xs) :
    Nx p φ F H φ (upd F a (.frz o (.tup xs))) (upd H a (.frz o (.tup xs))) st ∧ Res p φ (upd F a (.frz o (.tup xs))) (upd H a (.frz o (.tup xs))) H (.fro (.tup ts)) (.ref a) := by
  have n := nx_fro (p := p) hs ho h (.frz o (.tup xs))
  exact ⟨n, a, xs, rfl, .inl ⟨o, upd_same, d⟩, IsL.mono (Pre.refl φ) n.le _ _ r⟩
end

/-! ### the rules' words -/
section
variable (X : Cx) (cl : Nat → Addr)
abbrev pk : Pk := ⟨X.K, cl⟩
/-- what is wanted behind an operation -/
def Post (p : Pk) (φ : List Addr) (F H : Hp) (st : Sto) (r : R) (Q : VK) : Prop := ∀ v φ' F' H', Nx p φ F H φ' F' H' st → Res p φ' F' H' H r v → Q v H'
def Op2 (f : Value → Value → Sem Value) (g : T → T → Option R) : Prop := ∃ r : R2, OpR X f r ∧ ∀ φ F H st a b res x y Q, Sub F H → StoOk (pk X cl) φ F H st → Seen (pk X cl) φ F H a x → Seen (pk X cl) φ F H b y →
  g a b = some res → Post (pk X cl) φ F H st res Q → r x y H Q
end
section
variable {X : Cx} {cl : Nat → Addr}
theorem Post.fro {p : Pk} {φ : List Addr} {F H : Hp} {st : Sto} {t : T} {v : V} {Q : VK} (hs : Sub F H) (ho : StoOk p φ F H st) (h : Is p φ F t v) (q : Post p φ F H st (.fro t) Q) : Q v H :=
  q v φ F H (Nx.refl hs ho) h
theorem Post.int {p : Pk} {φ : List Addr} {F H : Hp} {st : Sto} {i : Int} {Q : VK} (q : Post p φ F H st (.fro (.int i)) Q) (hs : Sub F H) (ho : StoOk p φ F H st) : Q (.int i) H := q _ φ F H (Nx.refl hs ho) rfl
theorem Post.str {p : Pk} {φ : List Addr} {F H : Hp} {st : Sto} {i : Str} {Q : VK} (q : Post p φ F H st (.fro (.str i)) Q) (hs : Sub F H) (ho : StoOk p φ F H st) : Q (.str i) H := q _ φ F H (Nx.refl hs ho) rfl
theorem Post.bl {p : Pk} {φ : List Addr} {F H : Hp} {st : Sto} {i : Bool} {Q : VK} (q : Post p φ F H st (.fro (.bl i)) Q) (hs : Sub F H) (ho : StoOk p φ F H st) : Q (.bl i) H := q _ φ F H (Nx.refl hs ho) rfl
theorem OpR.or {f : Value → Value → Sem Value} {r r' : R2} (h : OpR X f r) (h' : OpR X f r') : OpR X f (fun x y H Q => r x y H Q ∨ r' x y H Q) := by
  intro pins s σ H x y v u Q I rx ry q
  rcases q with q | q
  · exact h pins s σ H x y v u Q I rx ry q
  · exact h' pins s σ H x y v u Q I rx ry q
theorem szOk_le {n : Nat} (h : szOk n = true) : n ≤ sizeLine := by
  have := Nat.le_of_ble_eq_true h
  rw [sizeLine_eq]
  exact this
/-- list + list, whatever stands there -/
theorem op_catS : OpR X (binaryOp .Add) (fun x y H Q => ∃ l b xs zs, x = .ref l ∧ y = .ref b ∧ SqL X.K H l xs ∧ SqL X.K H b zs ∧ xs.length + zs.length ≤ sizeLine ∧ ∀ p, H p = none → Q (.ref p) (upd H p (.lst (xs ++ zs)))) := by
  intro pins s σ H x y v u Q I rx ry h
  obtain ⟨l, b, xs, zs, rfl, rfl, hH, hB, hz, q⟩ := h
  cases rx
  cases ry
  obtain ⟨its, r, ⟨⟨c1, d1, t1, s1⟩, n1, e1, hc1, hd1, ht1⟩, z1⟩ := I.list hH
  obtain ⟨its2, r2, ⟨⟨c2, d2, t2, s2⟩, n2, e2, hc2, hd2, ht2⟩, z2⟩ := I.list hB
  have l1 := r.length
  have l2 := r2.length
  simp only at hc1 hd1 ht1 hc2 hd2 ht2
  subst hc1 hd1 ht1 hc2 hd2 ht2
  refine concat_meets ⟨_, e1, rfl⟩ ⟨_, e2, rfl⟩ noFill_list_add seq_list_add PySem.F.slot_list_add PySem.F.entry_list_add (PySem.F.args_list_add_2 _ _) (list_addW l b its.toArray its2.toArray n1 n2 none none s1 s2 (by rw [List.size_toArray, List.size_toArray]; omega)) ⟨e1, e2, ?_⟩
  have ea : its.toArray ++ its2.toArray = (its ++ its2).toArray := by simp
  rw [ea]
  exact ⟨.ref _, _, I.lnew (t' := s.toks) (r.append r2) (by rw [List.length_append]; omega), rfl, q _ I.fresh⟩
/-- a tuple is laid -/
theorem laid_tup {pins : List (Addr × Obj)} {σ : L2.St} {H : Hp} {s : Shared} {h' : Heap} {t' : Nat} {xs : List V} {its : List Value} {p : Addr} (I : Inv X pins σ H s) (k : ∀ b u, s.heap.get? b = some u → h'.get? b = some u) (hp : s.heap.objs.size ≤ p)
    (r : Vals xs its) (z : xs.length ≤ sizeLine) {n : Nat} (e : h'.get? p = some { cls := .type "tuple", dict := none, data := .seq its.toArray n, slots := #[] }) :
    Inv X pins σ (upd H p (.frz { cls := .type "tuple", dict := none, data := .seq its.toArray n, slots := #[] } (.tup xs))) { s with heap := h', toks := t' } :=
  I.laid k hp ⟨e, z, its, r, ⟨_, e, rfl, n, rfl⟩⟩
def rCatN (K : PySem.W.Frag) : R2 := fun x y H Q => ∃ a b xs ys, x = .ref a ∧ y = .ref b ∧ SqT K H a xs ∧ SqT K H b ys ∧ xs.length + ys.length ≤ sizeLine ∧
  (xs = [] → Q (.ref b) H) ∧ (xs ≠ [] → ys = [] → Q (.ref a) H) ∧ (xs ≠ [] → ys ≠ [] → ∀ p o, H p = none → Bare o → Q (.ref p) (upd H p (.frz o (.tup (xs ++ ys)))))
theorem op_catN : OpR X (binaryOp .Add) (rCatN X.K) := by
  intro pins s σ H x y v u Q I rx ry h
  obtain ⟨a, b, xs, ys, rfl, rfl, ha, hb, hz, q0, q1, q2⟩ := h
  by_cases hx : xs = []
  · exact op_catA pins s σ H _ _ v u Q I rx ry ⟨a, b, xs, ys, rfl, rfl, ha, hb, hz, q0, q1, fun h => absurd hx h⟩
  by_cases hy : ys = []
  · exact op_catA pins s σ H _ _ v u Q I rx ry ⟨a, b, xs, ys, rfl, rfl, ha, hb, hz, q0, q1, fun _ h => absurd hy h⟩
  cases rx
  cases ry
  obtain ⟨its, r1, p1, z1⟩ := I.tuple ha
  obtain ⟨its2, r2, p2, z2⟩ := I.tuple hb
  have l1 := r1.length
  have l2 := r2.length
  refine HT.cat_tup p1 p2 (fun e => hx (r1.nil_iff.mp e)) (fun e => absurd (r2.nil_iff.mp e) hy) (fun _ => ?_) (by rw [← l1, ← l2]; exact hz)
  exact ⟨.ref s.heap.objs.size, _, laid_tup (t' := s.toks) I (fun b u e => Heap.get?_push_of_some _ e) (Nat.le_refl _) (r1.append r2) (by rw [List.length_append]; exact hz) (Heap.get?_push_size _ rfl), rfl, q2 hx hy _ _ I.fresh ⟨rfl, rfl⟩⟩
abbrev rAddA (K : PySem.W.Frag) : R2 := fun x y H Q => (∃ i j, x = .int i ∧ y = .int j ∧ Q (.int (i + j)) H) ∨ (∃ i j, x = .str i ∧ y = .str j ∧ i.length + j.length ≤ sizeLine ∧ Q (.str (i ++ j)) H) ∨
  (∃ l b xs zs, x = .ref l ∧ y = .ref b ∧ SqL K H l xs ∧ SqL K H b zs ∧ xs.length + zs.length ≤ sizeLine ∧ ∀ p, H p = none → Q (.ref p) (upd H p (.lst (xs ++ zs)))) ∨ rCatN K x y H Q
theorem op_addA : OpR X (binaryOp .Add) (rAddA X.K) := OpR.or op_add (OpR.or op_add_str (OpR.or op_catS op_catN))
theorem ok_add : Op2 X cl (binaryOp .Add) (bopD .add) := by
  refine ⟨rAddA X.K, op_addA, fun φ F H st a b res x y Q hs ho ha hb e q => ?_⟩
  unfold bopD at e
  split at e <;> (try contradiction)
  · cases e
    obtain rfl := ha.int
    obtain rfl := hb.int
    exact .inl ⟨_, _, rfl, rfl, q.int hs ho⟩
  · split at e <;> (try contradiction)
    rename_i hz
    cases e
    obtain rfl := ha.str
    obtain rfl := hb.str
    exact .inr (.inl ⟨_, _, rfl, rfl, szOk_le hz, q.str hs ho⟩)
  · split at e <;> (try contradiction)
    rename_i hz
    cases e
    obtain ⟨l, xs, rfl, h1, r1⟩ := ha.lst hs
    obtain ⟨m, ys, rfl, h2, r2⟩ := hb.lst hs
    refine .inr (.inr (.inl ⟨l, m, xs, ys, rfl, rfl, h1, h2, by rw [← r1.length, ← r2.length]; exact szOk_le hz, fun p hp => ?_⟩))
    obtain ⟨n, r⟩ := own_lst (p := pk X cl) hs ho hp (r1.append r2)
    exact q _ _ _ _ n r
  · split at e <;> (try contradiction)
    rename_i hz
    cases e
    obtain ⟨l, xs, rfl, h1, r1⟩ := ha.tup hs
    obtain ⟨m, ys, rfl, h2, r2⟩ := hb.tup hs
    have q1 := ha.tupI
    have q2 := hb.tupI
    refine .inr (.inr (.inr ⟨l, m, xs, ys, rfl, rfl, h1, h2, by rw [← r1.length, ← r2.length]; exact szOk_le hz, fun hx => ?_, fun _ hy => ?_, fun _ _ p o hp hd => ?_⟩))
    · subst hx
      have : (_ : List T) = [] := List.eq_nil_of_length_eq_zero (by rw [r1.length]; rfl)
      rw [this] at q
      exact Post.fro hs ho q2 q
    · subst hy
      have : (_ : List T) = [] := List.eq_nil_of_length_eq_zero (by rw [r2.length]; rfl)
      rw [this, List.append_nil] at q
      exact Post.fro hs ho q1 q
    · obtain ⟨n, r⟩ := fro_tup (p := pk X cl) hs ho hp hd (r1.append r2)
      exact q _ _ _ _ n r
theorem ok_sub : Op2 X cl (binaryOp .Sub) (bopD .sub) := by
  refine ⟨_, op_sub, fun φ F H st a b res x y Q hs ho ha hb e q => ?_⟩
  unfold bopD at e
  split at e <;> (try contradiction)
  cases e
  obtain rfl := ha.int
  obtain rfl := hb.int
  exact ⟨_, _, rfl, rfl, q.int hs ho⟩
theorem ok_fdiv : Op2 X cl (binaryOp .FloorDiv) (bopD .fdiv) := by
  refine ⟨_, op_fdiv, fun φ F H st a b res x y Q hs ho ha hb e q => ?_⟩
  unfold bopD at e
  split at e <;> (try contradiction)
  split at e <;> (try contradiction)
  rename_i hz
  cases e
  obtain rfl := ha.int
  obtain rfl := hb.int
  exact ⟨_, _, rfl, rfl, hz, q.int hs ho⟩
theorem ok_mod : Op2 X cl (binaryOp .Mod) (bopD .mod) := by
  refine ⟨_, op_mod, fun φ F H st a b res x y Q hs ho ha hb e q => ?_⟩
  unfold bopD at e
  split at e <;> (try contradiction)
  split at e <;> (try contradiction)
  rename_i hz
  cases e
  obtain rfl := ha.int
  obtain rfl := hb.int
  exact ⟨_, _, rfl, rfl, hz, q.int hs ho⟩
theorem ok_pow : Op2 X cl (binaryOp .Pow) (bopD .pow) := by
  refine ⟨_, op_pow, fun φ F H st a b res x y Q hs ho ha hb e q => ?_⟩
  unfold bopD at e
  split at e <;> (try contradiction)
  split at e <;> (try contradiction)
  rename_i hz
  cases e
  obtain rfl := ha.int
  obtain rfl := hb.int
  exact ⟨_, _, rfl, rfl, hz, q.int hs ho⟩
def rRepN (K : PySem.W.Frag) : R2 := fun x y H Q => ∃ l k xs, x = .ref l ∧ y = .int k ∧ SqT K H l xs ∧ xs ≠ [] ∧ 2 ≤ k ∧ k ≤ 1000 ∧ xs.length ≤ 1000 ∧ ∀ p o, H p = none → Bare o → Q (.ref p) (upd H p (.frz o (.tup (List.replicate k.toNat xs).flatten)))
theorem op_repN : OpR X (binaryOp .Mult) (rRepN X.K) := by
  intro pins s σ H x y v u Q I rx ry h
  obtain ⟨l, k, xs, rfl, rfl, hT, hne, h1, h2, hz, q⟩ := h
  cases rx
  obtain ⟨t, rfl⟩ := ry
  obtain ⟨its, r, ⟨⟨cls, dd, data, sl⟩, ho, hc, n, hd⟩, hs⟩ := I.tuple hT
  simp only at hc hd
  subst hc hd
  have hle : its.length = xs.length := r.length.symm
  have hn : its ≠ [] := fun e => hne (by
    rw [e] at hle
    exact List.eq_nil_of_length_eq_zero hle.symm)
  have hi : its.toArray.isEmpty = false := by
    cases its with
    | nil => exact absurd rfl hn
    | cons a b => rfl
  have hsz0 : its.toArray.size = xs.length := by rw [List.size_toArray, hle]
  have hm : ((its.toArray.size : Nat) : Int) * k ≤ 1000000 := by
    rw [hsz0]
    have a1 : ((xs.length : Nat) : Int) * k ≤ 1000 * k := Int.mul_le_mul_of_nonneg_right (by omega) (by omega)
    omega
  have flen : (List.replicate k.toNat its).flatten.length ≤ sizeLine := by
    rw [PyProof.Rows.lm_len_rep_flat, hle, sizeLine_eq]
    have a1 : k.toNat * xs.length ≤ 1000 * 1000 := Nat.mul_le_mul (by omega) hz
    omega
  have c0 : (decide (k < -(2 ^ 63)) || decide (k ≥ 2 ^ 63)) = false := by
    rw [decide_eq_false (by omega), decide_eq_false (by omega)] <;> rfl
  have c1 : (its.toArray.isEmpty || k == 1) = false := by
    rw [hi, Bool.false_or]
    exact beq_eq_false_iff_ne.mpr (by omega)
  have c2 : (decide (k ≤ 0) || its.toArray.isEmpty) = false := by
    rw [hi, Bool.or_false]
    exact decide_eq_false (by omega)
  have c4 : Builtin.Tuple.tupleTooMany (((its.toArray.size : Nat) : Int) * k) = false := by
    unfold Builtin.Tuple.tupleTooMany
    rw [sizeLine_eq]
    exact decide_eq_false (by omega)
  refine wpAny_binaryOp_repeat_ref (T := "tuple") (U := "int") (by decide) ⟨_, ho, rfl⟩ (fun s' => typeIs_int s' k t) noFill_tuple_mul F.fills_int_mul F.slot_int_rmul repeat_tuple F.slot_int_index.lookup
    (call_meets F.slot_int_rmul (typeIs_int s k t) F.entry_int_rmul (F.args_int_rmul_2 _ _) (int_rmul_tuple k t l its.toArray n dd sl)
      ⟨ho, rfl, ⟨_, ho, rfl⟩, call_meets F.slot_tuple_mul ⟨_, ho, rfl⟩ F.entry_tuple_mul (F.args_tuple_mul_2 _ _) (tuple_mulW l its.toArray n dd sl k t c0 c1 c2 (by omega) c4 (by rw [size_rep, List.size_toArray]; exact flen)) ⟨ho, ?_⟩⟩)
  rw [size_rep]
  exact ⟨.ref s.heap.objs.size, _, laid_tup (t' := s.toks) I (fun b ob q => Heap.get?_push_of_some _ q) (Nat.le_refl _) (r.rep k.toNat) (by rw [PyProof.Rows.lm_len_rep_flat, sizeLine_eq]; have a1 : k.toNat * xs.length ≤ 1000 * 1000 := Nat.mul_le_mul (by omega) hz; omega) (Heap.get?_push_size _ rfl), rfl, q _ _ (I.hok.fresh (Nat.le_refl _)) ⟨rfl, rfl⟩⟩
theorem mulOk_C {i j : Int} (h : mulOk i j = true) : CMul i j := by
  unfold mulOk at h
  simp only [Bool.or_eq_true, Bool.and_eq_true, decide_eq_true_eq] at h
  exact h
abbrev rMulA (K : PySem.W.Frag) : R2 := fun x y H Q => (∃ i j, x = .int i ∧ y = .int j ∧ CMul i j ∧ Q (.int (i * j)) H) ∨ rRepN K x y H Q ∨ rRep x y H Q
theorem op_mulA : OpR X (binaryOp .Mult) (rMulA X.K) := OpR.or op_mul (OpR.or op_repN op_rep)
/-- the same with the results as they come -/
def Op2R (X : Cx) (cl : Nat → Addr) (f : Value → Value → Sem Value) (g : R → R → Option R) : Prop := ∃ r : R2, OpR X f r ∧ ∀ φ F H st a b res x y Q H1 H2, Sub F H → StoOk (pk X cl) φ F H st → Res (pk X cl) φ F H H1 a x → Res (pk X cl) φ F H H2 b y →
  g a b = some res → Post (pk X cl) φ F H st res Q → r x y H Q
theorem Op2.toR {f : Value → Value → Sem Value} {g : T → T → Option R} (h : Op2 X cl f g) : Op2R X cl f (fun a b => g a.val b.val) := by
  obtain ⟨r, h1, h2⟩ := h
  exact ⟨r, h1, fun φ F H st a b res x y Q H1 H2 hs ho ha hb e q => h2 φ F H st _ _ res x y Q hs ho ha.saw hb.saw e q⟩
theorem ok_mul : Op2R X cl (binaryOp .Mult) (bopR .mul) := by
  refine ⟨rMulA X.K, op_mulA, fun φ F H st a b res x y Q H1 H2 hs ho ha hb e q => ?_⟩
  have plain : bopD .mul a.val b.val = some res → rMulA X.K x y H Q := fun e => by
    have ha := ha.saw
    have hb := hb.saw
    generalize a.val = a at ha e
    generalize b.val = b at hb e
    unfold bopD at e
    split at e <;> (try contradiction)
    · split at e <;> (try contradiction)
      rename_i hz
      cases e
      obtain rfl := ha.int
      obtain rfl := hb.int
      exact .inl ⟨_, _, rfl, rfl, mulOk_C hz, q.int hs ho⟩
    · split at e <;> (try contradiction)
      rename_i hz
      obtain ⟨z1, z2, z3, z4⟩ := hz
      cases e
      obtain ⟨l, xs, rfl, h1, r1⟩ := ha.tup hs
      obtain rfl := hb.int
      refine .inr (.inl ⟨l, _, xs, rfl, rfl, h1, fun hx => ?_, z1, z2, by rw [← r1.length]; exact z3, fun p o hp hd => ?_⟩)
      · subst hx
        have : (_ : List T) = [] := List.eq_nil_of_length_eq_zero (by rw [r1.length]; rfl)
        rw [this] at z4
        cases z4
      · have rep : ∀ k : Nat, IsL (pk X cl) φ F (List.replicate k _).flatten (List.replicate k xs).flatten := fun k => by
          induction k with
          | zero => exact .nil
          | succ k ih => rw [List.replicate_succ, List.replicate_succ, List.flatten_cons, List.flatten_cons]; exact r1.append ih
        obtain ⟨n, r⟩ := fro_tup (p := pk X cl) hs ho hp hd (rep _)
        exact q _ _ _ _ n r
  unfold bopR at e
  split at e
  · split at e <;> (try contradiction)
    rename_i hz
    obtain ⟨z1, z2, z3⟩ := hz
    cases e
    obtain ⟨l, rfl, ⟨_, _, xs, h1, r1⟩, _⟩ := ha
    obtain rfl : y = _ := hb
    refine .inr (.inr ⟨l, _, xs, rfl, rfl, h1, by omega, z2, by rw [← r1.length]; exact szOk_le z3, fun p hp => ?_⟩)
    have rep : ∀ k : Nat, IsL (pk X cl) φ F (List.replicate k _).flatten (List.replicate k xs).flatten := fun k => by
      induction k with
      | zero => exact .nil
      | succ k ih => rw [List.replicate_succ, List.replicate_succ, List.flatten_cons, List.flatten_cons]; exact r1.append ih
    obtain ⟨n, r⟩ := own_lst (p := pk X cl) hs ho hp (rep _)
    exact q _ _ _ _ n r
  · exact plain e
/-- each operator -/
def bopOf : Bop → Operator
  | .add => .Add
  | .sub => .Sub
  | .mul => .Mult
  | .fdiv => .FloorDiv
  | .mod => .Mod
  | .pow => .Pow
theorem bopR_other {o : Bop} (h : o ≠ .mul) : bopR o = fun a b => bopD o a.val b.val := by
  funext a b
  cases o <;> first | exact absurd rfl h | rfl
theorem ok_bop (o : Bop) : Op2R X cl (binaryOp (bopOf o)) (bopR o) := by
  cases o with
  | mul => exact ok_mul
  | add => rw [bopR_other (by decide)]; exact ok_add.toR
  | sub => rw [bopR_other (by decide)]; exact ok_sub.toR
  | fdiv => rw [bopR_other (by decide)]; exact ok_fdiv.toR
  | mod => rw [bopR_other (by decide)]; exact ok_mod.toR
  | pow => rw [bopR_other (by decide)]; exact ok_pow.toR
end
end TL
end

section
set_option Elab.async false
set_option linter.all false
set_option maxRecDepth 100000
set_option maxHeartbeats 4000000
/-! Comparisons, items, slices, built-ins. -/
namespace TL
open PySem PySem.Spec PyProof.Rows L2

/-! ### == of data -/
mutual
def toD : T → PyData
  | .bl b => .bool b
  | .int i => .int i
  | .str s => .str s
  | .tup ts => .tuple (toDs ts)
  | .lst ts => .list (toDs ts)
  | _ => .none
def toDs : List T → List PyData
  | [] => []
  | t :: ts => toD t :: toDs ts
end
section
variable {p : Pk} {φ : List Addr} {F H : Hp} {st : Sto}
mutual
theorem dp_of (hs : Sub F H) : ∀ (t : T) (v : V), dat t = true → Is p φ F t v → Dp p.K H v (toD t)
  | .non, _, _, h => by rw [show _ = V.non from h]; exact .non
  | .bl b, _, _, h => by rw [show _ = V.bl b from h]; exact .bl b
  | .int i, _, _, h => by rw [show _ = V.int i from h]; exact .int i
  | .str s, _, _, h => by rw [show _ = V.str s from h]; exact .str s
  | .tup ts, _, d, h => by
    obtain ⟨a, xs, rfl, q, r⟩ := h
    exact .tup ((Le.of hs).tupN q).sqT (dps_of hs ts xs d r)
  | .lst ts, _, d, h => by
    obtain ⟨a, xs, rfl, q, r⟩ := h
    exact .lst (.inl ((Le.of hs).rd q)) (dps_of hs ts xs d r)
  | .dct _ _, _, d, _ => by cases d
  | .obj _ _ _, _, d, _ => by cases d
  | .ref _, _, d, _ => by cases d
theorem dps_of (hs : Sub F H) : ∀ (ts : List T) (vs : List V), dats ts = true → IsL p φ F ts vs → DpAll p.K H vs (toDs ts)
  | [], _, _, h => by rw [show _ = [] from h]; exact .nil
  | t :: ts, _, d, h => by
    obtain ⟨x, r, rfl, h1, h2⟩ := h
    obtain ⟨d1, d2⟩ := Bool.and_eq_true_iff.mp (show (dat t && dats ts) = true from d)
    exact .cons (dp_of hs t x d1 h1) (dps_of hs ts r d2 h2)
end
theorem dp_seen (hs : Sub F H) {t : T} {v : V} (d : dat t = true) (h : Seen p φ F H t v) : Dp p.K H v (toD t) := by
  cases t with
  | lst ts =>
    obtain ⟨a, xs, rfl, q, r⟩ := h.lst hs
    exact .lst q (dps_of hs ts xs d r)
  | dct _ _ => cases d
  | obj _ _ _ => cases d
  | ref _ => cases d
  | _ =>
    rcases h with h | ⟨a, e, _, _, h⟩
    · exact dp_of hs _ v d h
    · exact h.elim
end
mutual
theorem eqv_toD : ∀ a b : T, dat a = true → dat b = true → PyData.eqv (toD a) (toD b) = eqT a b
  | .non, b, _, h => by cases b <;> first | rfl | cases h
  | .bl x, b, _, h => by cases b <;> first | rfl | cases h
  | .int x, b, _, h => by cases b <;> first | rfl | cases h
  | .str x, b, _, h => by cases b <;> first | rfl | cases h
  | .tup xs, b, d, h => by
    cases b with
    | tup ys => exact eqvs_toD xs ys d h
    | dct _ _ => cases h
    | obj _ _ _ => cases h
    | ref _ => cases h
    | _ => rfl
  | .lst xs, b, d, h => by
    cases b with
    | lst ys => exact eqvs_toD xs ys d h
    | dct _ _ => cases h
    | obj _ _ _ => cases h
    | ref _ => cases h
    | _ => rfl
  | .dct _ _, _, d, _ => by cases d
  | .obj _ _ _, _, d, _ => by cases d
  | .ref _, _, d, _ => by cases d
theorem eqvs_toD : ∀ xs ys : List T, dats xs = true → dats ys = true → PyData.eqvAll (toDs xs) (toDs ys) = eqTs xs ys
  | [], ys, _, _ => by cases ys <;> rfl
  | x :: xs, [], _, _ => rfl
  | x :: xs, y :: ys, d, h => by
    obtain ⟨d1, d2⟩ := Bool.and_eq_true_iff.mp (show (dat x && dats xs) = true from d)
    obtain ⟨h1, h2⟩ := Bool.and_eq_true_iff.mp (show (dat y && dats ys) = true from h)
    show (PyData.eqv (toD x) (toD y) && PyData.eqvAll (toDs xs) (toDs ys)) = (eqT x y && eqTs xs ys)
    rw [eqv_toD x y d1 h1, eqvs_toD xs ys d2 h2]
end
mutual
theorem lay_toD : ∀ t : T, dat t = true → (toD t).canLay0 = true
  | .non, _ => rfl
  | .bl _, _ => rfl
  | .int _, _ => rfl
  | .str _, h => h
  | .tup ts, h => lays_toD ts h
  | .lst ts, h => lays_toD ts h
  | .dct _ _, d => by cases d
  | .obj _ _ _, d => by cases d
  | .ref _, d => by cases d
theorem lays_toD : ∀ ts : List T, dats ts = true → PyData.canLayAll0 (toDs ts) = true
  | [], _ => rfl
  | t :: ts, h => by
    obtain ⟨d1, d2⟩ := Bool.and_eq_true_iff.mp (show (dat t && dats ts) = true from h)
    show ((toD t).canLay0 && PyData.canLayAll0 (toDs ts)) = true
    rw [lay_toD t d1, lays_toD ts d2]
    rfl
end
mutual
theorem dep_toD : ∀ t : T, (toD t).depth = dep t
  | .non => rfl
  | .bl _ => rfl
  | .int _ => rfl
  | .str _ => rfl
  | .tup ts => congrArg (· + 1) (deps_toD ts)
  | .lst ts => congrArg (· + 1) (deps_toD ts)
  | .dct _ _ => rfl
  | .obj _ _ _ => rfl
  | .ref _ => rfl
theorem deps_toD : ∀ ts : List T, PyData.depthAll (toDs ts) = deps ts
  | [] => rfl
  | t :: ts => by
    show max (toD t).depth (PyData.depthAll (toDs ts)) = max (dep t) (deps ts)
    rw [dep_toD t, deps_toD ts]
end
theorem shaped_of {t : T} (h : shp t = true) : SeqAt.shaped (toD t) = true := by
  obtain ⟨d1, d2⟩ := Bool.and_eq_true_iff.mp (show (dat t && Nat.ble (dep t) 64) = true from h)
  show ((toD t).canLay0 && decide ((toD t).depth ≤ 64)) = true
  rw [lay_toD t d1, dep_toD t, decide_eq_true (Nat.le_of_ble_eq_true d2)]
  rfl
section
variable {X : Cx} {cl : Nat → Addr}
/-- a comparison: its answer -/
def Cmp2 (X : Cx) (cl : Nat → Addr) (f : Value → Value → Sem Value) (g : T → T → Option Bool) : Prop := ∃ r : R2, OpR X f r ∧ ∀ φ F H st a b res x y Q, Sub F H → StoOk (pk X cl) φ F H st → Seen (pk X cl) φ F H a x → Seen (pk X cl) φ F H b y →
  g a b = some res → Q (.bl res) H → r x y H Q
theorem shp_dat {t : T} (h : shp t = true) : dat t = true := (Bool.and_eq_true_iff.mp (show (dat t && Nat.ble (dep t) 64) = true from h)).1
theorem ok_eq (hu : X.A.units + 64 < cLine) : Cmp2 X cl (compareOp .Eq) (cmpD .eq) := by
  refine ⟨_, op_eqD hu, fun φ F H st a b res x y Q hs ho ha hb e q => ?_⟩
  simp only [cmpD] at e
  split at e <;> (try contradiction)
  rename_i hz
  obtain ⟨h1, h2⟩ := Bool.and_eq_true_iff.mp hz
  cases e
  refine ⟨toD a, toD b, dp_seen hs (shp_dat h1) ha, dp_seen hs (shp_dat h2) hb, shaped_of h1, shaped_of h2, ?_⟩
  rw [eqv_toD a b (shp_dat h1) (shp_dat h2)]
  exact q
theorem ok_ne (hu : X.A.units + 64 < cLine) : Cmp2 X cl (compareOp .NotEq) (cmpD .ne) := by
  refine ⟨_, op_neD hu, fun φ F H st a b res x y Q hs ho ha hb e q => ?_⟩
  simp only [cmpD] at e
  split at e <;> (try contradiction)
  rename_i hz
  obtain ⟨h1, h2⟩ := Bool.and_eq_true_iff.mp hz
  cases e
  refine ⟨toD a, toD b, dp_seen hs (shp_dat h1) ha, dp_seen hs (shp_dat h2) hb, shaped_of h1, shaped_of h2, ?_⟩
  rw [eqv_toD a b (shp_dat h1) (shp_dat h2)]
  exact q
theorem ok_int {op : CmpOp} {g : Int → Int → Bool} {c : Cop} (h : OpR X (compareOp op) (rI0 fun i j => .bl (g i j))) (hc : ∀ a b, cmpD c a b = match a, b with
    | .int i, .int j => some (g i j)
    | _, _ => none) : Cmp2 X cl (compareOp op) (cmpD c) := by
  refine ⟨_, h, fun φ F H st a b res x y Q hs ho ha hb e q => ?_⟩
  rw [hc] at e
  split at e <;> (try contradiction)
  cases e
  obtain rfl := ha.int
  obtain rfl := hb.int
  exact ⟨_, _, rfl, rfl, q⟩
theorem ok_lt : Cmp2 X cl (compareOp .Lt) (cmpD .lt) := ok_int op_lt fun a b => by cases a <;> cases b <;> rfl
theorem ok_le : Cmp2 X cl (compareOp .LtE) (cmpD .le) := ok_int op_le fun a b => by cases a <;> cases b <;> rfl
theorem ok_gt : Cmp2 X cl (compareOp .Gt) (cmpD .gt) := ok_int op_gt fun a b => by cases a <;> cases b <;> rfl
theorem ok_ge : Cmp2 X cl (compareOp .GtE) (cmpD .ge) := ok_int op_ge fun a b => by cases a <;> cases b <;> rfl

/-! ### in -/
theorem flat_is {p : Pk} {φ : List Addr} {F H : Hp} {t : T} {v : V} (h : Seen p φ F H t v) (f : flat t = true) : flatV v = true := by
  cases t with
  | non => rw [h.non]; rfl
  | bl b => rw [h.bl]; rfl
  | int b => rw [h.int]; rfl
  | str b => rw [h.str]; rfl
  | _ => cases f
theorem flats_is {p : Pk} {φ : List Addr} {F : Hp} : ∀ {ts : List T} {vs : List V}, IsL p φ F ts vs → ts.all flat = true → vs.all flatV = true
  | [], _, h, _ => by rw [show _ = [] from h]; rfl
  | t :: ts, _, h, f => by
    obtain ⟨x, r, rfl, h1, h2⟩ := h
    rw [List.all_cons, Bool.and_eq_true] at f
    rw [List.all_cons, flat_is (H := F) (.inl h1) f.1, flats_is h2 f.2]
    rfl
theorem eqV_is {p : Pk} {φ : List Addr} {F H H' : Hp} {t u : T} {v w : V} (h : Seen p φ F H t v) (f : flat t = true) (k : Seen p φ F H' u w) (g : flat u = true) : eqV v w = eqT t u := by
  cases t with
  | non =>
    rw [h.non]
    cases u with
    | non => rw [k.non]; rfl
    | bl b => rw [k.bl]; rfl
    | int b => rw [k.int]; rfl
    | str b => rw [k.str]; rfl
    | _ => cases g
  | bl c =>
    rw [h.bl]
    cases u with
    | non => rw [k.non]; rfl
    | bl b => rw [k.bl]; rfl
    | int b => rw [k.int]; rfl
    | str b => rw [k.str]; rfl
    | _ => cases g
  | int c =>
    rw [h.int]
    cases u with
    | non => rw [k.non]; rfl
    | bl b => rw [k.bl]; rfl
    | int b => rw [k.int]; rfl
    | str b => rw [k.str]; rfl
    | _ => cases g
  | str c =>
    rw [h.str]
    cases u with
    | non => rw [k.non]; rfl
    | bl b => rw [k.bl]; rfl
    | int b => rw [k.int]; rfl
    | str b => rw [k.str]; rfl
    | _ => cases g
  | _ => cases f
theorem inV_is {p : Pk} {φ : List Addr} {F H : Hp} {t : T} {v : V} (h : Seen p φ F H t v) (f : flat t = true) : ∀ {ts : List T} {vs : List V}, IsL p φ F ts vs → ts.all flat = true → inV v vs = ts.any fun u => eqT u t
  | [], _, k, _ => by rw [show _ = [] from k]; rfl
  | u :: ts, _, k, g => by
    obtain ⟨x, r, rfl, h1, h2⟩ := k
    rw [List.all_cons, Bool.and_eq_true] at g
    show (eqV x v || inV v r) = (eqT u t || ts.any fun u => eqT u t)
    rw [eqV_is (H := F) (.inl h1) g.1 h f, inV_is h f h2 g.2]
/-- keys -/
theorem key_is {p : Pk} {φ : List Addr} {F H : Hp} {t : T} {v : V} {k : Key} (h : Seen p φ F H t v) (e : keyOf t = some k) : v = kV k := by
  cases t with
  | int i => cases e; exact h.int
  | str s => cases e; exact h.str
  | _ => cases e
theorem look_is {p : Pk} {φ : List Addr} {F : Hp} (k : Key) : ∀ {kvs : List (Key × V)} {ts : List T}, IsL p φ F ts (kvs.map (·.2)) →
    match look (kvs.map (·.1)) ts k, valV kvs k with
    | some t, some v => Is p φ F t v
    | none, none => True
    | _, _ => False
  | [], ts, h => by
    cases ts with
    | nil => trivial
    | cons t ts => obtain ⟨x, r, e, _⟩ := h; cases e
  | (k', v') :: kvs, [], h => by
    have e : (((k', v') :: kvs).map (·.2)) = [] := h
    cases e
  | (k', v') :: kvs, t :: ts, h => by
    obtain ⟨x, r, e, h1, h2⟩ := h
    have e1 : v' = x := (List.cons.inj (show v' :: kvs.map (·.2) = x :: r from e)).1
    have e2 : kvs.map (·.2) = r := (List.cons.inj (show v' :: kvs.map (·.2) = x :: r from e)).2
    subst e1 e2
    by_cases hk : k' = k
    · have a1 : look (((k', v') :: kvs).map (·.1)) (t :: ts) k = some t := by
        show (if k' = k then some t else look (kvs.map (·.1)) ts k) = some t
        rw [if_pos hk]
      rw [a1, valV_pos (p := (k', v')) hk]
      exact h1
    · have a1 : look (((k', v') :: kvs).map (·.1)) (t :: ts) k = look (kvs.map (·.1)) ts k := by
        show (if k' = k then some t else look (kvs.map (·.1)) ts k) = _
        rw [if_neg hk]
      rw [a1, valV_neg (p := (k', v')) hk]
      exact look_is k h2
theorem look_some {p : Pk} {φ : List Addr} {F : Hp} {k : Key} {kvs : List (Key × V)} {ts : List T} {t : T} (h : IsL p φ F ts (kvs.map (·.2))) (e : look (kvs.map (·.1)) ts k = some t) : ∃ v, valV kvs k = some v ∧ Is p φ F t v := by
  have q := look_is k h
  rw [e] at q
  cases q2 : valV kvs k with
  | none => rw [q2] at q; exact q.elim
  | some v => rw [q2] at q; exact ⟨v, rfl, q⟩
theorem look_none {p : Pk} {φ : List Addr} {F : Hp} {k : Key} {kvs : List (Key × V)} {ts : List T} (h : IsL p φ F ts (kvs.map (·.2))) (e : look (kvs.map (·.1)) ts k = none) : valV kvs k = none := by
  have q := look_is k h
  rw [e] at q
  cases q2 : valV kvs k with
  | none => rfl
  | some v => rw [q2] at q; exact q.elim
theorem look_is' {p : Pk} {φ : List Addr} {F : Hp} {k : Key} {kvs : List (Key × V)} {ts : List T} (h : IsL p φ F ts (kvs.map (·.2))) : (look (kvs.map (·.1)) ts k).isSome = (valV kvs k).isSome := by
  cases e : look (kvs.map (·.1)) ts k with
  | none => rw [look_none h e]; rfl
  | some t => obtain ⟨v, e2, _⟩ := look_some h e; rw [e2]; rfl
def rInD : R2 := fun x y H Q => ∃ a o, y = .ref a ∧ DGet H a x o ∧ Q (.bl o.isSome) H
def rNotInD : R2 := fun x y H Q => ∃ a o, y = .ref a ∧ DGet H a x o ∧ Q (.bl (!o.isSome)) H
theorem op_inD (hu : X.A.units + 1 < cLine) : OpR X (compareOp .In) rInD := by
  intro pins s σ H x y v u Q I rx ry h
  obtain ⟨a, o, rfl, g, q⟩ := h
  cases ry
  exact d_in hu I g rx fun s' I' => ⟨.bl _, H, I', rfl, q⟩
theorem op_notInD (hu : X.A.units + 1 < cLine) : OpR X (compareOp .NotIn) rNotInD := by
  intro pins s σ H x y v u Q I rx ry h
  obtain ⟨a, o, rfl, g, q⟩ := h
  cases ry
  exact d_notIn hu I g rx fun s' I' => ⟨.bl _, H, I', rfl, q⟩
theorem dget_is {φ : List Addr} {F H : Hp} {p : Pk} {k : T} {ks : List Key} {ts : List T} {x y : V} {x' : Key} (hs : Sub F H) (hd : Seen p φ F H (.dct ks ts) y) (hk : Seen p φ F H k x) (e : keyOf k = some x') :
    ∃ a kvs, y = .ref a ∧ Rd H a (.dK kvs) ∧ DGet H a x (valV kvs x') ∧ kvs.map (·.1) = ks ∧ IsL p φ F ts (kvs.map (·.2)) := by
  obtain ⟨a, kvs, rfl, h1, h2, h3⟩ := hd.dct hs
  exact ⟨a, kvs, rfl, h1, .inl ⟨kvs, x', h1, key_is hk e, rfl⟩, h2, h3⟩
theorem ok_in (hu : X.A.units + 1 < cLine) : Cmp2 X cl (compareOp .In) (cmpD .inn) := by
  refine ⟨_, OpR.or (op_in_seq (X := X)) (op_inD hu), fun φ F H st a b res x y Q hs ho ha hb e q => ?_⟩
  have e : inD a b = some res := by cases a <;> exact e
  unfold inD at e
  split at e <;> (try contradiction)
  · split at e <;> (try contradiction)
    rename_i hz
    obtain ⟨h1, h2⟩ := Bool.and_eq_true_iff.mp hz
    cases e
    obtain ⟨l, xs, rfl, k1, r1⟩ := hb.lst hs
    refine .inl ⟨l, xs, rfl, .inl k1, flat_is ha h1, flats_is r1 h2, ?_⟩
    rw [if_neg Bool.false_ne_true, inV_is ha h1 r1 h2]
    exact q
  · split at e <;> (try contradiction)
    rename_i hz
    obtain ⟨h1, h2⟩ := Bool.and_eq_true_iff.mp hz
    cases e
    obtain ⟨l, xs, rfl, k1, r1⟩ := hb.tup hs
    refine .inl ⟨l, xs, rfl, .inr k1, flat_is ha h1, flats_is r1 h2, ?_⟩
    rw [if_neg Bool.false_ne_true, inV_is ha h1 r1 h2]
    exact q
  · obtain ⟨k, ek, e2⟩ := Option.map_eq_some_iff.mp e
    obtain ⟨l, kvs, rfl, k1, g, e3, r1⟩ := dget_is hs hb ha ek
    refine .inr ⟨l, _, rfl, g, ?_⟩
    rw [← e3] at e2
    rw [← look_is' r1, e2]
    exact q
theorem ok_nin (hu : X.A.units + 1 < cLine) : Cmp2 X cl (compareOp .NotIn) (cmpD .nin) := by
  refine ⟨_, OpR.or (op_notIn_seq (X := X)) (op_notInD hu), fun φ F H st a b res x y Q hs ho ha hb e q => ?_⟩
  have e0 : (inD a b).map (!·) = some res := by cases a <;> exact e
  clear e
  obtain ⟨res', e, rfl⟩ := Option.map_eq_some_iff.mp e0
  clear e0
  unfold inD at e
  split at e <;> (try contradiction)
  · split at e <;> (try contradiction)
    rename_i hz
    obtain ⟨h1, h2⟩ := Bool.and_eq_true_iff.mp hz
    cases e
    obtain ⟨l, xs, rfl, k1, r1⟩ := hb.lst hs
    refine .inl ⟨l, xs, rfl, .inl k1, flat_is ha h1, flats_is r1 h2, ?_⟩
    rw [if_pos rfl, inV_is ha h1 r1 h2]
    exact q
  · split at e <;> (try contradiction)
    rename_i hz
    obtain ⟨h1, h2⟩ := Bool.and_eq_true_iff.mp hz
    cases e
    obtain ⟨l, xs, rfl, k1, r1⟩ := hb.tup hs
    refine .inl ⟨l, xs, rfl, .inr k1, flat_is ha h1, flats_is r1 h2, ?_⟩
    rw [if_pos rfl, inV_is ha h1 r1 h2]
    exact q
  · obtain ⟨k, ek, e2⟩ := Option.map_eq_some_iff.mp e
    obtain ⟨l, kvs, rfl, k1, g, e3, r1⟩ := dget_is hs hb ha ek
    refine .inr ⟨l, _, rfl, g, ?_⟩
    rw [← e3] at e2
    rw [← look_is' r1, e2]
    exact q
def copOf : Cop → CmpOp
  | .eq => .Eq
  | .ne => .NotEq
  | .lt => .Lt
  | .le => .LtE
  | .gt => .Gt
  | .ge => .GtE
  | .inn => .In
  | .nin => .NotIn
theorem ok_cmp (hu : X.A.units + 64 < cLine) (c : Cop) : Cmp2 X cl (compareOp (copOf c)) (cmpD c) := by
  have hu1 : X.A.units + 1 < cLine := Nat.lt_of_le_of_lt (Nat.add_le_add_left (by decide) _) hu
  cases c with
  | eq => exact ok_eq hu
  | ne => exact ok_ne hu
  | lt => exact ok_lt
  | le => exact ok_le
  | gt => exact ok_gt
  | ge => exact ok_ge
  | inn => exact ok_in hu1
  | nin => exact ok_nin hu1
end
end TL
end

section
set_option Elab.async false
set_option linter.all false
set_option maxRecDepth 100000
set_option maxHeartbeats 4000000
namespace TL
open PySem PySem.Spec PyProof.Rows L2

section
variable {X : Cx} {cl : Nat → Addr}
/-! ### items -/
theorem at_is {p : Pk} {φ : List Addr} {F : Hp} {ts : List T} {xs : List V} {i : Int} {t : T} (h : IsL p φ F ts xs) (e : at_ ts i = some t) : ∃ v, atI xs i = some v ∧ Is p φ F t v := by
  unfold at_ at e
  obtain ⟨j, e1, e2⟩ := Option.bind_eq_some_iff.mp e
  obtain ⟨v, e3, q⟩ := h.get e2
  refine ⟨v, ?_, q⟩
  unfold atI
  rw [← h.length]
  show (TL.ixN ts.length i).bind _ = _
  rw [e1]
  exact e3
theorem ix_dict (hu : X.A.units + 1 < cLine) : IxR X (fun x y H Q => ∃ a v, x = .ref a ∧ DGet H a y (some v) ∧ Q v H) := by
  intro value slice pins s σ H x y v u Q I rx ry h hs
  obtain ⟨a, z, rfl, g, q⟩ := h
  cases rx
  exact tail_any (dict_typeIs I g) slot_dict_getitem.lookup (d_getItem hu I g ry fun w' s' I' r' => ⟨z, H, I', r', q⟩) hs
def Ix2 (X : Cx) (cl : Nat → Addr) : Prop := ∃ r : R2, IxR X r ∧ ∀ φ F H st a b t x y Q, Sub F H → StoOk (pk X cl) φ F H st → Seen (pk X cl) φ F H a x → Seen (pk X cl) φ F H b y →
  idxD st a b = some t → Post (pk X cl) φ F H st (.fro t) Q → r x y H Q
theorem ok_idx (hu : X.A.units + 1 < cLine) : Ix2 X cl := by
  refine ⟨_, (ix_seq (X := X)).or (ix_dict hu), fun φ F H st a b t x y Q hs ho ha hb e q => ?_⟩
  unfold idxD at e
  split at e <;> (try contradiction)
  · obtain ⟨l, xs, rfl, k1, r1⟩ := ha.lst hs
    obtain rfl := hb.int
    obtain ⟨v, e1, q1⟩ := at_is r1 e
    exact .inl (.inl ⟨l, xs, _, v, rfl, rfl, k1, e1, Post.fro hs ho q1 q⟩)
  · obtain ⟨l, xs, rfl, k1, r1⟩ := ha.tup hs
    obtain rfl := hb.int
    obtain ⟨v, e1, q1⟩ := at_is r1 e
    exact .inl (.inr (.inl ⟨l, xs, _, v, rfl, rfl, k1, e1, Post.fro hs ho q1 q⟩))
  · obtain ⟨ts, e1, e2⟩ := Option.bind_eq_some_iff.mp e
    obtain ⟨l, rfl, hl⟩ := ha.ref
    obtain rfl := hb.int
    obtain ⟨xs, k1, r1⟩ := ho.2.2.2 _ _ _ hl e1
    obtain ⟨v, e3, q1⟩ := at_is r1 e2
    exact .inl (.inl ⟨l, xs, _, v, rfl, rfl, .inl (.inl k1), e3, Post.fro hs ho q1 q⟩)
  · split at e <;> (try contradiction)
    rename_i hz
    obtain rfl := ha.str
    obtain rfl := hb.int
    obtain ⟨j, e1, e2⟩ := Option.bind_eq_some_iff.mp e
    obtain ⟨c, e3, e4⟩ := Option.map_eq_some_iff.mp e2
    subst e4
    refine .inl (.inr (.inr ⟨_, _, c, rfl, rfl, szOk_le (by simpa using hz), ?_, q.str hs ho⟩))
    unfold atI
    show (TL.ixN _ _).bind _ = _
    rw [e1]
    exact e3
  · obtain ⟨k, e1, e2⟩ := Option.bind_eq_some_iff.mp e
    obtain ⟨l, kvs, rfl, k1, g, e3, r1⟩ := dget_is hs ha hb e1
    rw [← e3] at e2
    obtain ⟨v, e4, q1⟩ := look_some r1 e2
    rw [e4] at g
    exact .inr ⟨l, v, rfl, g, Post.fro hs ho q1 q⟩
/-! ### slices -/
theorem sIx_eq (n d : Nat) (o : Option Int) : TL.sIx n d o = HT.sIx n d o := by cases o <;> rfl
theorem cut_is {p : Pk} {φ : List Addr} {F : Hp} {ts : List T} {xs : List V} (lo hi : Option Int) (h : IsL p φ F ts xs) : IsL p φ F (cut ts lo hi) (cutV xs lo hi) := by
  unfold cut cutV
  rw [sIx_eq, sIx_eq, h.length]
  exact (h.drop _).take _
def Sl2 (X : Cx) (cl : Nat → Addr) : Prop := ∃ r : V → Option Int → Option Int → Hp → VK → Prop, SlR X r ∧ ∀ φ F H st a lo hi res x Q, Sub F H → StoOk (pk X cl) φ F H st → Seen (pk X cl) φ F H a x →
  slcD a lo hi = some res → Post (pk X cl) φ F H st res Q → r x lo hi H Q
/-- a part of a tuple: the tuple itself, or a new one whose object is known -/
def rSlN (K : PySem.W.Frag) : V → Option Int → Option Int → Hp → VK → Prop := fun x lo hi H Q => ∃ a xs, x = .ref a ∧ SqT K H a xs ∧
  (HT.sIx xs.length 0 lo = 0 ∧ HT.sIx xs.length xs.length hi = xs.length → Q (.ref a) H) ∧ (¬ (HT.sIx xs.length 0 lo = 0 ∧ HT.sIx xs.length xs.length hi = xs.length) → ∀ p o, H p = none → Bare o → Q (.ref p) (upd H p (.frz o (.tup (cutV xs lo hi)))))
theorem sl_tupN : SlR X (rSlN X.K) := by
  intro pins s σ H x v vl vu lo hi sl Q I rx hs pl pu h
  obtain ⟨a, xs, rfl, hx, q1, q2⟩ := h
  by_cases hw : HT.sIx xs.length 0 lo = 0 ∧ HT.sIx xs.length xs.length hi = xs.length
  · exact sl_tupA pins s σ H _ v vl vu lo hi sl Q I rx hs pl pu ⟨a, xs, rfl, hx, q1, fun h => absurd hw h⟩
  · cases rx
    obtain ⟨its, r, ht, hz⟩ := I.tuple hx
    have hlen : its.toArray.size = xs.length := by rw [List.size_toArray, r.length]
    refine ⟨"tuple", _, PyProof.Rows.slot_tuple_getitem.lookup, ht.typeIs, HT.getItem_tuple_cut ht hs pl pu (by rw [hlen]; exact hw) ?_ (by rw [hlen]; exact hz)⟩
    rw [hlen]
    exact ⟨.ref s.heap.objs.size, _, laid_tup (t' := s.toks) I (fun b u e => Heap.get?_push_of_some _ e) (Nat.le_refl _) ((r.drop (HT.sIx xs.length 0 lo)).take (HT.sIx xs.length xs.length hi - HT.sIx xs.length 0 lo)) (Nat.le_trans (cutV_length xs lo hi) hz) (Heap.get?_push_size _ rfl), rfl, q2 hw _ _ I.fresh ⟨rfl, rfl⟩⟩
theorem ok_slc : Sl2 X cl := by
  refine ⟨_, (sl_list (X := X)).or sl_tupN, fun φ F H st a lo hi res x Q hs ho ha e q => ?_⟩
  unfold slcD at e
  split at e <;> (try contradiction)
  · cases e
    obtain ⟨l, xs, rfl, k1, r1⟩ := ha.lst hs
    refine .inl ⟨l, xs, rfl, k1, fun p hp => ?_⟩
    obtain ⟨n, r⟩ := own_lst (p := pk X cl) hs ho hp (cut_is lo hi r1)
    exact q _ _ _ _ n r
  · cases e
    obtain ⟨l, xs, rfl, k1, r1⟩ := ha.tup hs
    have q1 := ha.tupI
    refine .inr ⟨l, xs, rfl, k1, fun hw => ?_, fun hw p o hp hd => ?_⟩
    · have e1 : ∀ ts : List T, ts.length = xs.length → cut ts lo hi = ts := fun ts hl => by
        unfold cut
        rw [sIx_eq, sIx_eq, hl, hw.1, hw.2, Nat.sub_zero, List.drop_zero, ← hl, List.take_length]
      rw [e1 _ r1.length] at q
      exact Post.fro hs ho q1 q
    · obtain ⟨n, r⟩ := fro_tup (p := pk X cl) hs ho hp hd (cut_is lo hi r1)
      exact q _ _ _ _ n r
/-! ### built-ins of one argument -/
def Cal1 (X : Cx) (cl : Nat → Addr) (f : Value) (g : Sto → T → Option R) : Prop := ∃ r : List V → Hp → VK → Prop, CallR X f r ∧ ∀ φ F H st t res x Q, Sub F H → StoOk (pk X cl) φ F H st → Seen (pk X cl) φ F H t x →
  g st t = some res → Post (pk X cl) φ F H st res Q → r [x] H Q
theorem ok_len : Cal1 X cl (.builtin "len") (fun s => bifD s .len) := by
  refine ⟨_, call_len_seq, fun φ F H st t res x Q hs ho ha e q => ?_⟩
  have e : bifD st .len t = some res := e
  unfold bifD at e
  split at e <;> (try contradiction)
  · cases e
    obtain ⟨l, xs, rfl, k1, r1⟩ := ha.lst hs
    exact ⟨l, xs, rfl, .inl k1, by rw [← r1.length]; exact q.int hs ho⟩
  · cases e
    obtain ⟨l, xs, rfl, k1, r1⟩ := ha.tup hs
    exact ⟨l, xs, rfl, .inr k1, by rw [← r1.length]; exact q.int hs ho⟩
  · obtain ⟨ts, e1, e2⟩ := Option.map_eq_some_iff.mp e
    cases e2
    obtain ⟨l, rfl, hl⟩ := ha.ref
    obtain ⟨xs, k1, r1⟩ := ho.2.2.2 _ _ _ hl e1
    exact ⟨l, xs, rfl, .inl (.inl (.inl k1)), by rw [← r1.length]; exact q.int hs ho⟩
theorem ok_list : Cal1 X cl (.type "list") (fun s => bifD s .list) := by
  refine ⟨_, call_list_of, fun φ F H st t res x Q hs ho ha e q => ?_⟩
  have e : bifD st .list t = some res := e
  unfold bifD at e
  split at e <;> (try contradiction)
  · cases e
    obtain ⟨l, xs, rfl, k1, r1⟩ := ha.lst hs
    refine ⟨l, xs, rfl, .inl k1, fun p hp => ?_⟩
    obtain ⟨n, r⟩ := own_lst (p := pk X cl) hs ho hp r1
    exact q _ _ _ _ n r
  · cases e
    obtain ⟨l, xs, rfl, k1, r1⟩ := ha.tup hs
    refine ⟨l, xs, rfl, .inr k1, fun p hp => ?_⟩
    obtain ⟨n, r⟩ := own_lst (p := pk X cl) hs ho hp r1
    exact q _ _ _ _ n r
theorem ok_bint : Cal1 X cl (.type "int") (fun s => bifD s .int) := by
  refine ⟨_, call_int1, fun φ F H st t res x Q hs ho ha e q => ?_⟩
  have e : bifD st .int t = some res := e
  unfold bifD at e
  split at e <;> (try contradiction)
  · cases e
    obtain rfl := ha.int
    exact .inl ⟨_, rfl, q.int hs ho⟩
  · cases e
    obtain rfl := ha.bl
    exact .inr ⟨_, rfl, q.int hs ho⟩
theorem ints_is {p : Pk} {φ : List Addr} {F : Hp} : ∀ {ts : List T} {ns : List Int} {xs : List V}, IsL p φ F ts xs → intsOf ts = some ns → xs = ns.map V.int
  | [], ns, _, h, e => by cases e; exact h
  | t :: ts, ns, _, h, e => by
    obtain ⟨x, r, rfl, h1, h2⟩ := h
    cases t with
    | int i =>
      obtain ⟨ms, e1, rfl⟩ := Option.map_eq_some_iff.mp (show (intsOf ts).map (i :: ·) = some ns from e)
      rw [show x = V.int i from h1, ints_is h2 e1]
      rfl
    | _ => cases e
theorem bls_is {p : Pk} {φ : List Addr} {F : Hp} : ∀ {ts : List T} {ns : List Bool} {xs : List V}, IsL p φ F ts xs → blsOf ts = some ns → xs = ns.map V.bl
  | [], ns, _, h, e => by cases e; exact h
  | t :: ts, ns, _, h, e => by
    obtain ⟨x, r, rfl, h1, h2⟩ := h
    cases t with
    | bl i =>
      obtain ⟨ms, e1, rfl⟩ := Option.map_eq_some_iff.mp (show (blsOf ts).map (i :: ·) = some ns from e)
      rw [show x = V.bl i from h1, bls_is h2 e1]
      rfl
    | _ => cases e
theorem strs_is {p : Pk} {φ : List Addr} {F : Hp} : ∀ {ts : List T} {ns : List Str} {xs : List V}, IsL p φ F ts xs → strsOf ts = some ns → xs = ns.map V.str
  | [], ns, _, h, e => by cases e; exact h
  | t :: ts, ns, _, h, e => by
    obtain ⟨x, r, rfl, h1, h2⟩ := h
    cases t with
    | str i =>
      obtain ⟨ms, e1, rfl⟩ := Option.map_eq_some_iff.mp (show (strsOf ts).map (i :: ·) = some ns from e)
      rw [show x = V.str i from h1, strs_is h2 e1]
      rfl
    | _ => cases e
theorem ok_sum (hc : X.calm = true) : Cal1 X cl (.builtin "sum") (fun s => bifD s .sum) := by
  refine ⟨_, cr_sum hc, fun φ F H st t res x Q hs ho ha e q => ?_⟩
  have e : bifD st .sum t = some res := e
  unfold bifD at e
  split at e <;> (try contradiction)
  obtain ⟨ns, e1, e2⟩ := Option.map_eq_some_iff.mp e
  cases e2
  obtain ⟨l, xs, rfl, k1, r1⟩ := ha.lst hs
  rw [ints_is r1 e1] at k1
  exact ⟨l, ns, rfl, k1, q.int hs ho⟩
theorem ok_all (hc : X.calm = true) : Cal1 X cl (.builtin "all") (fun s => bifD s .all) := by
  refine ⟨_, cr_all hc, fun φ F H st t res x Q hs ho ha e q => ?_⟩
  have e : bifD st .all t = some res := e
  unfold bifD at e
  split at e <;> (try contradiction)
  obtain ⟨ns, e1, e2⟩ := Option.map_eq_some_iff.mp e
  cases e2
  obtain ⟨l, xs, rfl, k1, r1⟩ := ha.lst hs
  rw [bls_is r1 e1] at k1
  exact ⟨l, ns, rfl, k1, q.bl hs ho⟩
end
end TL
end

section
set_option Elab.async false
set_option linter.all false
set_option maxRecDepth 100000
set_option maxHeartbeats 4000000
/-! zip over a list and a tuple in any mix: as an iterator of pairs that stay, as a loop's. -/
namespace TL
open PySem PySem.Spec PyProof.Rows L2

/-! ### a list or a tuple -/
inductive Kd where
  | l | t
def Kd.it : Kd → Heap → Addr → Addr → Nat → Prop
  | .l => fun h it a i => h.IsListIter it a i
  | .t => fun h it a i => h.IsTupleIter it a i
def Kd.sq : Kd → Heap → Addr → Array Value → Prop
  | .l => fun h a its => h.IsList a its
  | .t => fun h a its => h.IsTuple a its
def Kd.SQ : Kd → PySem.W.Frag → Hp → Addr → List V → Prop
  | .l => SqL
  | .t => SqT
def Kd.ob : Kd → Addr → Obj
  | .l => fun a => { cls := .type "list_iterator", data := .fields #[.ref a, .int 0 0] }
  | .t => fun a => { cls := .type "tuple_iterator", data := .fields #[.ref a, .int 0 0] }
theorem Kd.draws (k : Kd) {prog : Program} {w : World} {A : Around} (hh : A.handled = none) (it a : Addr) (hne : a ≠ it) (its : Array Value) :
    Draws prog w A it [it, a] its.size (fun i v => its[i]? = some v) (fun i h => k.it h it a i ∧ k.sq h a its) := by
  cases k with
  | l => exact Draws.list hh it a hne its
  | t => exact Draws.tuple hh it a hne its
theorem Kd.begins (k : Kd) (a : Addr) (its : Array Value) : Begins (.ref a) (k.ob a) (fun h => k.sq h a its) := by
  cases k with
  | l => exact begins_list a its
  | t => exact begins_tuple a its
theorem Kd.start (k : Kd) {h : Heap} {it a : Addr} (e : h.get? it = some (k.ob a)) : k.it h it a 0 := by
  cases k with
  | l => exact ⟨_, e, rfl, rfl⟩
  | t => exact ⟨_, e, rfl, rfl⟩
theorem Kd.it_at (k : Kd) {h h' : Heap} {it a : Addr} {i : Nat} (x : k.it h it a i) (e : ∀ o, h.get? it = some o → h'.get? it = some o) : k.it h' it a i := by
  cases k with
  | l => exact Heap.IsListIter.at x e
  | t => exact Heap.IsTupleIter.at x e
theorem Kd.it_live (k : Kd) {h : Heap} {it a : Addr} {i : Nat} (x : k.it h it a i) : ∃ o, h.get? it = some o ∧ ∀ v, o.data ≠ .cell v := by
  cases k with
  | l =>
    obtain ⟨o, e, _, d⟩ := x
    exact ⟨o, e, fun v q => by rw [d] at q; cases q⟩
  | t =>
    obtain ⟨o, e, _, d⟩ := x
    exact ⟨o, e, fun v q => by rw [d] at q; cases q⟩
theorem Kd.sq_at (k : Kd) {h h' : Heap} {a : Addr} {its : Array Value} (x : k.sq h a its) (e : ∀ o, h.get? a = some o → h'.get? a = some o) : k.sq h' a its := by
  cases k with
  | l => exact Heap.IsList.at x e
  | t => exact Heap.IsTuple.at x e
theorem Kd.sq_lt (k : Kd) {h : Heap} {a : Addr} {its : Array Value} (x : k.sq h a its) : a < h.objs.size := by
  cases k with
  | l =>
    obtain ⟨o, e, _⟩ := x
    exact Heap.lt_size e
  | t =>
    obtain ⟨o, e, _⟩ := x
    exact Heap.lt_size e
theorem Kd.seq (k : Kd) {X : Cx} {pins : List (Addr × Obj)} {σ : L2.St} {H : Hp} {s : Shared} {a : Addr} {xs : List V} (I : Inv X pins σ H s) (h : k.SQ X.K H a xs) : ∃ its : List Value, Vals xs its ∧ k.sq s.heap a its.toArray ∧ xs.length ≤ sizeLine := by
  cases k with
  | l =>
    obtain ⟨its, r, p, z⟩ := I.list h
    exact ⟨its, r, p.isList, z⟩
  | t =>
    obtain ⟨its, r, p, z⟩ := I.tuple h
    exact ⟨its, r, p, z⟩
theorem Kd.inj (k : Kd) {X : Cx} {pins : List (Addr × Obj)} {σ : L2.St} {H : Hp} {s : Shared} {a : Addr} {xs ys : List V} (I : Inv X pins σ H s) (h : k.SQ X.K H a xs) (h' : k.SQ X.K H a ys) : xs = ys := by
  cases k with
  | l => exact I.list_inj h h'
  | t => exact I.tuple_inj h h'

/-! ### next, while the last pair is still out -/
section
variable {prog : Program} {w : World} {A : Around} {E : Value → Shared → Prop} {s : Shared} {z TI TO T i1 i2 : Addr} {f : Bool} {oT : Obj} {fp1 fp2 : List Addr} {n1 n2 i : Nat} {P1 P2 : Nat → Value → Prop} {St1 St2 : Nat → Heap → Prop}
theorem zipH_item {Q : Value → Shared → Prop} (S : ZipSep2 z TI TO i1 i2 fp1 fp2) (D1 : Draws prog w A i1 fp1 n1 P1 St1) (D2 : Draws prog w A i2 fp2 n2 P2 St2)
    (hz : IsZipHeld s.heap z TI TO T f) (hT : s.heap.get? T = some oT) (hTI : IsTupOf2 s.heap TI (.ref i1) (.ref i2)) (st1 : St1 i s.heap) (st2 : St2 i s.heap) (hlt1 : i < n1) (hlt2 : i < n2)
    (hQ : ∀ x1 x2 h' tk, P1 i x1 → P2 i x2 → IsZipHeld h' z TI TO T true → St1 (i + 1) h' → St2 (i + 1) h' → IsTupOf2 h' s.heap.objs.size x1 x2 → h'.objs.size = s.heap.objs.size + 1 →
      (∀ c o, c ≠ z → c ≠ i1 → c ≠ i2 → s.heap.get? c = some o → h'.get? c = some o) → Q (.ref s.heap.objs.size) { s with heap := h', toks := tk }) :
    wpAny (model prog w) A (Builtin.«zip.__next__» ⟨[.ref z], []⟩) (fun fin s' => ∃ v, fin = .done (.ret v) ∧ Q v s') E s := by
  obtain ⟨hp, g, d, tk0, os⟩ := s
  show wpAny _ _ (field (.ref z) 2 >>= _) _ _ _
  refine wpAny_bind (wpAny_field hz rfl (x := .bool false) rfl ?_)
  show wpAny _ _ (field (.ref z) 3 >>= _) _ _ _
  refine wpAny_bind (wpAny_field hz rfl (x := .ref TI) rfl ?_)
  refine wpAny_bind (wpAny_seqItems hTI rfl ?_)
  show wpAny _ _ (Builtin.SmallTypes.ownedTupleIsFree (.ref z) >>= _) _ _ _
  refine wpAny_bind (wpAny_tupleHeld_zip hz hT fun g0 hz0 hs0 => ?_)
  replace hs0 : Heap.SameBut z hp g0 := hs0
  simp only [Bool.false_eq_true, if_false]
  refine wpAny_bind ?_
  rw [← Array.forIn_toList]
  simp only [List.forIn_cons, List.forIn_nil]
  refine wpAny_bind (wpAny_bind (wpAny_holding ?_))
  show wpAny _ _ (Builtin.SmallTypes.nextOf (.ref i1) >>= _) _ _ ⟨g0, g, d, tk0, os⟩
  refine wpAny_bind (D1.item i _ _ _ hlt1 (D1.over st1 hs0 S.zf1) fun x1 p1 tk1 hx1 sn1 hp1 => wpAny_pure ?_)
  replace hp1 : Heap.SameBut i1 g0 p1 := hp1
  refine wpAny_pure ?_
  refine wpAny_bind (wpAny_bind (wpAny_holding ?_))
  show wpAny _ _ (Builtin.SmallTypes.nextOf (.ref i2) >>= _) _ _ ⟨p1, g, d, tk1, os⟩
  refine wpAny_bind (D2.item i _ _ _ hlt2 (D2.over (D2.over st2 hs0 S.zf2) hp1 S.sep1_2) fun x2 p2 tk2 hx2 sn2 hp2 => wpAny_pure ?_)
  replace hp2 : Heap.SameBut i2 p1 p2 := hp2
  refine wpAny_pure (wpAny_pure ?_)
  show wpAny _ _ (newTuple [x1, x2] >>= _) _ _ _
  refine wpAny_bind (wpAny_newTuple ?_)
  have hsz : p2.objs.size = hp.objs.size := by rw [hp2.1, hp1.1, hs0.1]
  have hz₃ : IsZipHeld p2 z TI TO T true := hp2.extBut _ _ S.zi2 (hp1.extBut _ _ S.zi1 hz0)
  have hk : ∀ c o, c ≠ z → c ≠ i1 → c ≠ i2 → hp.get? c = some o → p2.get? c = some o := fun c o c1 c2 c3 e => hp2.extBut _ _ c3 (hp1.extBut _ _ c2 (hs0.extBut _ _ c1 e))
  have hj1 : St1 (i + 1) p2 := D1.over sn1 hp2 S.sep2_1
  refine wpAny_pure ⟨_, rfl, ?_⟩
  show Q (.ref p2.objs.size) _
  have hpT : IsTupOf2 (p2.push { cls := .type "tuple", data := .seq #[x1, x2] }) p2.objs.size x1 x2 := Heap.get?_push_size _ rfl
  have hz4 : (p2.push { cls := .type "tuple", data := .seq #[x1, x2] }).objs.size = p2.objs.size + 1 := Heap.size_push ..
  rw [hsz] at hpT hz4 ⊢
  exact hQ x1 x2 _ tk2 hx1 hx2 (Heap.get?_push_of_some _ hz₃) (D1.frame _ _ _ hj1 fun b hb o e => Heap.get?_push_of_some _ e) (D2.frame _ _ _ sn2 fun b hb o e => Heap.get?_push_of_some _ e) hpT hz4 fun c o c1 c2 c3 e => Heap.get?_push_of_some _ (hk c o c1 c2 c3 e)
theorem zipH_end {Q : Fin → Shared → Prop} (S : ZipSep2 z TI TO i1 i2 fp1 fp2) (D1 : Draws prog w A i1 fp1 n1 P1 St1) (D2 : Draws prog w A i2 fp2 n2 P2 St2)
    (hz : IsZipHeld s.heap z TI TO T f) (hT : s.heap.get? T = some oT) (hTI : IsTupOf2 s.heap TI (.ref i1) (.ref i2)) (st1 : St1 i s.heap) (st2 : St2 i s.heap) (hle1 : i ≤ n1) (hle2 : i ≤ n2) (hend : i = n1 ∨ i = n2)
    (hE : ∀ h' tk e, (∀ c o, c ≠ z → c ≠ i1 → c ≠ i2 → s.heap.get? c = some o → h'.get? c = some o) → (∃ o, h'.get? e = some o ∧ o.cls = .type "StopIteration") → E (.ref e) { s with heap := h', toks := tk }) :
    wpAny (model prog w) A (Builtin.«zip.__next__» ⟨[.ref z], []⟩) Q E s := by
  obtain ⟨hp, g, d, tk0, os⟩ := s
  show wpAny _ _ (field (.ref z) 2 >>= _) _ _ _
  refine wpAny_bind (wpAny_field hz rfl (x := .bool false) rfl ?_)
  show wpAny _ _ (field (.ref z) 3 >>= _) _ _ _
  refine wpAny_bind (wpAny_field hz rfl (x := .ref TI) rfl ?_)
  refine wpAny_bind (wpAny_seqItems hTI rfl ?_)
  show wpAny _ _ (Builtin.SmallTypes.ownedTupleIsFree (.ref z) >>= _) _ _ _
  refine wpAny_bind (wpAny_tupleHeld_zip hz hT fun g0 hz0 hs0 => ?_)
  replace hs0 : Heap.SameBut z hp g0 := hs0
  simp only [Bool.false_eq_true, if_false]
  refine wpAny_bind ?_
  rw [← Array.forIn_toList]
  simp only [List.forIn_cons, List.forIn_nil]
  refine wpAny_bind (wpAny_bind (wpAny_holding ?_))
  show wpAny _ _ (Builtin.SmallTypes.nextOf (.ref i1) >>= _) _ _ ⟨g0, g, d, tk0, os⟩
  by_cases hlt1 : i < n1
  · have hi2 : i = n2 := by omega
    refine wpAny_bind (D1.item i _ _ _ hlt1 (D1.over st1 hs0 S.zf1) fun x1 p1 tk1 hx1 sn1 hp1 => wpAny_pure ?_)
    replace hp1 : Heap.SameBut i1 g0 p1 := hp1
    refine wpAny_pure ?_
    refine wpAny_bind (wpAny_bind (wpAny_holding ?_))
    show wpAny _ _ (Builtin.SmallTypes.nextOf (.ref i2) >>= _) _ _ ⟨p1, g, d, tk1, os⟩
    refine wpAny_bind (D2.done ⟨p1, g, d, tk1, os⟩ _ _ (by rw [← hi2]; exact D2.over (D2.over st2 hs0 S.zf2) hp1 S.sep1_2) fun q e hq he => ?_)
    replace hq : Heap.ExtBut i2 p1 q := hq
    exact hE q tk1 e (fun c o cz c1 c2 x => hq _ _ c2 (hp1.extBut _ _ c1 (hs0.extBut _ _ cz x))) he
  · have hi1 : i = n1 := by omega
    refine wpAny_bind (D1.done ⟨g0, g, d, tk0, os⟩ _ _ (by rw [← hi1]; exact D1.over st1 hs0 S.zf1) fun q e hq he => ?_)
    replace hq : Heap.ExtBut i1 g0 q := hq
    exact hE q tk0 e (fun c o cz c1 c2 x => hq _ _ c1 (hs0.extBut _ _ cz x)) he
end

/-! ### a zip whose pairs stay -/
/-- the state: no pair given out so far, or the first one still there (apart from D) -/
def ZSt (D : Addr) (z TI TO i1 i2 : Addr) (St1 St2 : Nat → Heap → Prop) (i : Nat) (h : Heap) : Prop :=
  IsTupOf2 h TI (.ref i1) (.ref i2) ∧ St1 i h ∧ St2 i h ∧ ((IsZip h z TI TO .none ∧ ∃ a b, IsTupOf2 h TO a b) ∨ ∃ T f oT, IsZipHeld h z TI TO T f ∧ h.get? T = some oT ∧ T ≠ D ∧ T ≠ z ∧ T ≠ i1 ∧ T ≠ i2)
section
variable {prog : Program} {w : World} {A : Around} {E : Value → Shared → Prop} {s : Shared} {N : Addr} {z TI TO i1 i2 : Addr} {fp1 fp2 : List Addr} {n1 n2 i : Nat} {P1 P2 : Nat → Value → Prop} {St1 St2 : Nat → Heap → Prop}
theorem ZSt.frame (D1 : Draws prog w A i1 fp1 n1 P1 St1) (D2 : Draws prog w A i2 fp2 n2 P2 St2) {h h' : Heap} (st : ZSt N z TI TO i1 i2 St1 St2 i h) (hDf : N ∉ z :: TI :: TO :: (fp1 ++ fp2))
    (k : ∀ b o, b ≠ N → h.get? b = some o → h'.get? b = some o) : ZSt N z TI TO i1 i2 St1 St2 i h' := by
  obtain ⟨hTI, st1, st2, hz⟩ := st
  simp only [List.mem_cons, List.mem_append, not_or] at hDf
  obtain ⟨d1, d2, d3, d4, d5⟩ := hDf
  refine ⟨k _ _ (Ne.symm d2) hTI, D1.frame _ _ _ st1 fun b hb o e => k b o (fun q => d4 (q ▸ hb)) e, D2.frame _ _ _ st2 fun b hb o e => k b o (fun q => d5 (q ▸ hb)) e, ?_⟩
  rcases hz with ⟨hz, a, b, hTO⟩ | ⟨T, f, oT, hz, hT, l, r⟩
  · exact .inl ⟨k _ _ (Ne.symm d1) hz, a, b, k _ _ (Ne.symm d3) hTO⟩
  · exact .inr ⟨T, f, oT, k _ _ (Ne.symm d1) hz, k _ _ l hT, l, r⟩
theorem ZSt.item (S : ZipSep2 z TI TO i1 i2 fp1 fp2) (D1 : Draws prog w A.in1 i1 fp1 n1 P1 St1) (D2 : Draws prog w A.in1 i2 fp2 n2 P2 St2) {Q : Option Value → Shared → Prop} (st : ZSt N z TI TO i1 i2 St1 St2 i s.heap) (hN : s.heap.objs.size ≠ N)
    (hi : i < min n1 n2) (hQ : ∀ x1 x2 h' tk, P1 i x1 → P2 i x2 → ZSt N z TI TO i1 i2 St1 St2 (i + 1) h' → IsTupOf2 h' s.heap.objs.size x1 x2 → h'.objs.size = s.heap.objs.size + 1 →
      (∀ c o, c ∉ [z, TO, i1, i2] → s.heap.get? c = some o → h'.get? c = some o) → Q (some (.ref s.heap.objs.size)) { s with heap := h', toks := tk }) : wpAny (model prog w) A (pyNext (.ref z)) Q E s := by
  obtain ⟨hTI, st1, st2, hz⟩ := st
  have hi1 : i < n1 := by omega
  have hi2 : i < n2 := by omega
  have lt : ∀ {c o}, s.heap.get? c = some o → s.heap.objs.size ≠ c := fun e => Nat.ne_of_gt (Heap.lt_size e)
  have l1 : s.heap.objs.size ≠ i1 := by obtain ⟨_, e⟩ := D1.live _ _ st1; exact lt e
  have l2 : s.heap.objs.size ≠ i2 := by obtain ⟨_, e⟩ := D2.live _ _ st2; exact lt e
  rcases hz with ⟨hz, a, b, hTO⟩ | ⟨T, f, oT, hz, hT, l, r1, r2, r3⟩
  · refine wpAny_pyNext_zipD2_item S D1 D2 hz hTI hTO st1 st2 hi1 hi2 fun x1 x2 h' tk y1 y2 b1 b2 d1 d2 b5 b6 hk => ?_
    exact hQ x1 x2 h' tk y1 y2 ⟨hk _ _ S.TIz S.TITO S.TIi1 S.TIi2 hTI, d1, d2, .inr ⟨_, false, _, b1, b5, hN, lt hz, l1, l2⟩⟩ b5 b6
      fun c o hc e => hk c o (fun x => hc (by simp [x])) (fun x => hc (by simp [x])) (fun x => hc (by simp [x])) (fun x => hc (by simp [x])) e
  · have hTy : s.TypeIs (.ref z) "zip" := ⟨_, hz, rfl⟩
    unfold pyNext
    refine wpAny_bind (wpAny_attempt (wpAny_callSpecial?_slot (name := Str.ofString "__next__") hTy F.slot_zip_next
      (wpAny_call_entry F.slot_zip_next hTy F.entry_zip_next (zipH_item S D1 D2 hz hT hTI st1 st2 hi1 hi2 fun x1 x2 h' tk y1 y2 b1 d1 d2 b5 b6 hk => wpAny_pure ?_) (F.args_zip_next_1 _))))
    exact hQ x1 x2 h' tk y1 y2 ⟨hk _ _ S.TIz S.TIi1 S.TIi2 hTI, d1, d2, .inr ⟨T, true, oT, b1, hk _ _ r1 r2 r3 hT, l, r1, r2, r3⟩⟩ b5 b6
      fun c o hc e => hk c o (fun x => hc (by simp [x])) (fun x => hc (by simp [x])) (fun x => hc (by simp [x])) e
theorem ZSt.done (S : ZipSep2 z TI TO i1 i2 fp1 fp2) (D1 : Draws prog w A.in1 i1 fp1 n1 P1 St1) (D2 : Draws prog w A.in1 i2 fp2 n2 P2 St2) {Q : Option Value → Shared → Prop} (st : ZSt N z TI TO i1 i2 St1 St2 (min n1 n2) s.heap)
    (hQ : ∀ h' tk, (∀ c o, c ∉ [z, TO, i1, i2] → s.heap.get? c = some o → h'.get? c = some o) → Q none { s with heap := h', toks := tk }) : wpAny (model prog w) A (pyNext (.ref z)) Q E s := by
  obtain ⟨hTI, st1, st2, hz⟩ := st
  have m1 : min n1 n2 ≤ n1 := Nat.min_le_left ..
  have m2 : min n1 n2 ≤ n2 := Nat.min_le_right ..
  have m3 : min n1 n2 = n1 ∨ min n1 n2 = n2 := by omega
  rcases hz with ⟨hz, a, b, hTO⟩ | ⟨T, f, oT, hz, hT, l, r1, r2, r3⟩
  · exact wpAny_pyNext_zipD2_end S D1 D2 hz hTI hTO st1 st2 m1 m2 m3 fun h' tk hk => hQ h' tk
      fun c o hc e => hk c o (fun x => hc (by simp [x])) (fun x => hc (by simp [x])) (fun x => hc (by simp [x])) (fun x => hc (by simp [x])) e
  · have hTy : s.TypeIs (.ref z) "zip" := ⟨_, hz, rfl⟩
    unfold pyNext
    refine wpAny_bind (wpAny_attempt (wpAny_callSpecial?_slot (name := Str.ofString "__next__") hTy F.slot_zip_next
      (wpAny_call_entry F.slot_zip_next hTy F.entry_zip_next (zipH_end S D1 D2 hz hT hTI st1 st2 m1 m2 m3 fun h' tk e hk he => ?_) (F.args_zip_next_1 _))))
    obtain ⟨o, ho, hc⟩ := he
    refine wpAny_bind (wpAny_isInstance (T := "StopIteration") (b := true) ⟨o, ho, hc⟩ isSubtype_stop ?_)
    exact wpAny_pure (hQ _ _ fun c o hc e => hk c o (fun x => hc (by simp [x])) (fun x => hc (by simp [x])) (fun x => hc (by simp [x])) e)
end
end TL
end

section
set_option Elab.async false
set_option linter.all false
set_option maxRecDepth 100000
set_option maxHeartbeats 4000000
/-! dict(zip(..)), list(zip(..)), for .. in zip(..). -/
namespace TL
open PySem PySem.Spec PyProof.Rows L2

section
variable {prog : Program} {w : World} {A : Around} {E : Value → Shared → Prop} {s : Shared} {z TI TO i1 i2 a b : Addr} {k1 k2 : Kd} {xs ys : Array Value}
/-- the states of the two iterators -/
def KSt (k : Kd) (it a : Addr) (its : Array Value) (i : Nat) (h : Heap) : Prop := k.it h it a i ∧ k.sq h a its
/-- a zip just made -/
def ZNew (k1 k2 : Kd) (z TI TO i1 i2 a b : Addr) (xs ys : Array Value) (h : Heap) : Prop :=
  IsZip h z TI TO .none ∧ IsTupOf2 h TI (.ref i1) (.ref i2) ∧ (∃ u v, IsTupOf2 h TO u v) ∧ KSt k1 i1 a xs 0 h ∧ KSt k2 i2 b ys 0 h
theorem ZNew.at {h h' : Heap} (x : ZNew k1 k2 z TI TO i1 i2 a b xs ys h) (k : ∀ b o, h.get? b = some o → h'.get? b = some o) : ZNew k1 k2 z TI TO i1 i2 a b xs ys h' := by
  obtain ⟨hz, hTI, ⟨u, v, hTO⟩, ⟨p1, q1⟩, p2, q2⟩ := x
  exact ⟨k _ _ hz, k _ _ hTI, ⟨u, v, k _ _ hTO⟩, ⟨k1.it_at p1 fun o e => k _ o e, k1.sq_at q1 fun o e => k _ o e⟩, k2.it_at p2 fun o e => k _ o e, k2.sq_at q2 fun o e => k _ o e⟩
theorem ZNew.st {N : Addr} {h : Heap} (x : ZNew k1 k2 z TI TO i1 i2 a b xs ys h) : ZSt N z TI TO i1 i2 (KSt k1 i1 a xs) (KSt k2 i2 b ys) 0 h := ⟨x.2.1, x.2.2.2.1, x.2.2.2.2, .inl ⟨x.1, x.2.2.1⟩⟩
theorem ZNew.lt {h : Heap} (x : ZNew k1 k2 z TI TO i1 i2 a b xs ys h) : ∀ c ∈ [z, TI, TO, i1, a, i2, b], c < h.objs.size := by
  obtain ⟨hz, hTI, ⟨u, v, hTO⟩, ⟨p1, q1⟩, p2, q2⟩ := x
  intro c hc
  simp only [List.mem_cons, List.not_mem_nil, or_false] at hc
  rcases hc with rfl | rfl | rfl | rfl | rfl | rfl | rfl
  · exact Heap.lt_size hz
  · exact Heap.lt_size hTI
  · exact Heap.lt_size hTO
  · obtain ⟨o, e, _⟩ := k1.it_live p1; exact Heap.lt_size e
  · exact k1.sq_lt q1
  · obtain ⟨o, e, _⟩ := k2.it_live p2; exact Heap.lt_size e
  · exact k2.sq_lt q2

theorem it_ne (k : Kd) {h : Heap} {it a : Addr} {i : Nat} {its : Array Value} (p : k.it h it a i) (q : k.sq h a its) : a ≠ it := by
  intro e
  subst e
  have nl : (Value.type "list_iterator" : Value) ≠ .type "list" := by simp
  have nt : (Value.type "tuple_iterator" : Value) ≠ .type "tuple" := by simp
  cases k with
  | l => obtain ⟨o, e1, c1, _⟩ := p; obtain ⟨o2, e2, c2, _⟩ := q; rw [e1] at e2; cases e2; exact nl (c1.symm.trans c2)
  | t => obtain ⟨o, e1, c1, _⟩ := p; obtain ⟨o2, e2, c2, _⟩ := q; rw [e1] at e2; cases e2; exact nt (c1.symm.trans c2)
theorem zip_pairArg (S : ZipSep2 z TI TO i1 i2 [i1, a] [i2, b]) :
    PairArg prog w "zip" z [z, TI, TO, i1, a, i2, b] [z, TO, i1, i2] (min xs.size ys.size) (fun i k v => xs[i]? = some k ∧ ys[i]? = some v) (ZNew k1 k2 z TI TO i1 i2 a b xs ys) where
  type := fun s ok => ⟨_, ok.1, rfl⟩
  notDict := by decide
  keep := fun h h' ok hk => ZNew.at ok hk
  there := fun h ok c hc => by
    obtain ⟨hz, hTI, ⟨u, v, hTO⟩, ⟨p1, q1⟩, p2, q2⟩ := ok
    simp only [List.mem_cons, List.not_mem_nil, or_false] at hc
    have sq : ∀ {k : Kd} {a : Addr} {its : Array Value}, k.sq h a its → ∃ o, h.get? a = some o := fun {k a its} x => by
      cases k with
      | l => obtain ⟨o, e, _⟩ := x; exact ⟨o, e⟩
      | t => obtain ⟨o, e, _⟩ := x; exact ⟨o, e⟩
    rcases hc with rfl | rfl | rfl | rfl | rfl | rfl | rfl
    · exact ⟨_, hz⟩
    · exact ⟨_, hTI⟩
    · exact ⟨_, hTO⟩
    · obtain ⟨o, e, _⟩ := k1.it_live p1; exact ⟨o, e⟩
    · exact sq q1
    · obtain ⟨o, e, _⟩ := k2.it_live p2; exact ⟨o, e⟩
    · exact sq q2
  sub := fun c hc => by
    simp only [List.mem_cons, List.not_mem_nil, or_false] at hc ⊢
    rcases hc with rfl | rfl | rfl | rfl <;> simp
  noKeys := fun A s Q E hA ok h => getAttrOr_miss_zip ok.1 rfl rfl rfl zip_no_keys (by decide +kernel) hA h
  iter := fun A s d Q E hA ok hd hdf h => by
    have D1 := Kd.draws k1 (prog := prog) (w := w) (A := A.in1) hA i1 a (it_ne k1 ok.2.2.2.1.1 ok.2.2.2.1.2) xs
    have D2 := Kd.draws k2 (prog := prog) (w := w) (A := A.in1) hA i2 b (it_ne k2 ok.2.2.2.2.1 ok.2.2.2.2.2) ys
    refine wpAny_pyIter_zip ok.1 (h z [z, TO, i1, i2] (ZSt d z TI TO i1 i2 (KSt k1 i1 a xs) (KSt k2 i2 b ys)) s.heap s.toks ?_ ok.st (fun _ _ e => e) fun c hc => .inl hc)
    exact {
      off := fun hm => by
        simp only [List.mem_cons, List.not_mem_nil, or_false] at hm hdf
        rcases hm with e | e | e | e
        · exact hdf (.inl e)
        · exact hdf (.inr (.inr (.inl e)))
        · exact hdf (.inr (.inr (.inr (.inl e))))
        · exact hdf (.inr (.inr (.inr (.inr (.inr (.inl e))))))
      frame := fun i h₁ h₂ st hk => by
        exact ZSt.frame D1 D2 st (by simpa using hdf) hk
      item := fun i s₁ Q₁ E₁ hi st hds hQ => by
        refine ZSt.item S D1 D2 st (Nat.ne_of_gt hds) hi fun x1 x2 h' tk y1 y2 st' hT hsz hk => ?_
        exact hQ s₁.heap.objs.size _ _ h' tk ⟨y1, y2⟩ (.inl ⟨_, hT, rfl, _, rfl⟩) st' hk
      done := fun s₁ Q₁ E₁ st hQ => ZSt.done S D1 D2 st hQ }
end
end TL
end

section
set_option Elab.async false
set_option linter.all false
set_option maxRecDepth 100000
set_option maxHeartbeats 4000000
/-! list(zip(..)). -/
namespace TL
open PySem PySem.Spec PyProof.Rows L2

/-- the pairs given out so far -/
def Outs (N : Nat) (xs ys : Array Value) (h : Heap) (Ts : List Addr) : Prop :=
  Ts.Pairwise (· < ·) ∧ ∀ (j : Nat) (T : Addr), Ts[j]? = some T → N ≤ T ∧ T < h.objs.size ∧ ∃ x y, xs[j]? = some x ∧ ys[j]? = some y ∧ IsTupOf2 h T x y
theorem Outs.at {N : Nat} {xs ys : Array Value} {h h' : Heap} {Ts : List Addr} (x : Outs N xs ys h Ts) (k : ∀ b o, N ≤ b → h.get? b = some o → h'.get? b = some o) : Outs N xs ys h' Ts :=
  ⟨x.1, fun j T e => by
    obtain ⟨l, m, u, v, e1, e2, e3⟩ := x.2 j T e
    have q := k _ _ l e3
    exact ⟨l, Heap.lt_size q, u, v, e1, e2, q⟩⟩
theorem Outs.snoc {N : Nat} {xs ys : Array Value} {h h' : Heap} {Ts : List Addr} {u v : Value} (x : Outs N xs ys h Ts) (k : ∀ b o, N ≤ b → h.get? b = some o → h'.get? b = some o) (hN : N ≤ h.objs.size) (hu : xs[Ts.length]? = some u) (hv : ys[Ts.length]? = some v)
    (hT : IsTupOf2 h' h.objs.size u v) : Outs N xs ys h' (Ts ++ [h.objs.size]) := by
  refine ⟨List.pairwise_append.mpr ⟨x.1, List.pairwise_singleton _ _, fun a ha b hb => ?_⟩, fun j T e => ?_⟩
  · rw [List.mem_singleton.mp hb]
    obtain ⟨j, e⟩ := List.getElem?_of_mem ha
    exact (x.2 j a e).2.1
  · rcases Nat.lt_trichotomy j Ts.length with l | l | l
    · rw [List.getElem?_append_left l] at e
      exact (x.at k).2 j T e
    · subst l
      rw [List.getElem?_append_right (Nat.le_refl _), Nat.sub_self] at e
      cases e
      exact ⟨hN, Heap.lt_size hT, u, v, hu, hv, hT⟩
    · have : (Ts ++ [h.objs.size])[j]? = none := List.getElem?_eq_none (by rw [List.length_append, List.length_singleton]; omega)
      rw [this] at e; cases e
section
variable {prog : Program} {w : World} {A : Around} {E : Value → Shared → Prop} {s : Shared} {z TI TO i1 i2 a b L : Addr} {k1 k2 : Kd} {xs ys : Array Value} {R : Result → Shared → Prop}
theorem zip_loop (S : ZipSep2 z TI TO i1 i2 [i1, a] [i2, b]) (D1 : Draws prog w A.in1.in1 i1 [i1, a] xs.size (fun i v => xs[i]? = some v) (KSt k1 i1 a xs)) (D2 : Draws prog w A.in1.in1 i2 [i2, b] ys.size (fun i v => ys[i]? = some v) (KSt k2 i2 b ys))
    {N : Nat} (hL : L ∉ [z, TI, TO, i1, a, i2, b]) (hLN : L < N) (hzN : ∀ c ∈ [z, TO, i1, i2], c < N) (hn : min xs.size ys.size ≤ sizeLine) (res : Value) :
    ∀ (k i : Nat) (s : Shared) (Ts : List Addr) (c : Nat), min xs.size ys.size - i = k → i ≤ min xs.size ys.size → Ts.length = i → ZSt L z TI TO i1 i2 (KSt k1 i1 a xs) (KSt k2 i2 b ys) i s.heap → N ≤ s.heap.objs.size →
    s.heap.get? L = some { cls := .type "list", dict := none, data := .seq (Ts.map Value.ref).toArray c, slots := #[] } → Outs N xs ys s.heap Ts →
    (∀ h' tk Ts' c', (∀ b o, b ∉ [L, z, TO, i1, i2] → s.heap.get? b = some o → h'.get? b = some o) → h'.get? L = some { cls := .type "list", dict := none, data := .seq (Ts'.map Value.ref).toArray c', slots := #[] } →
      Ts'.length = min xs.size ys.size → Outs N xs ys h' Ts' → R (.ok (.ret res)) { s with heap := h', toks := tk }) →
    codeAny (model prog w) A (.builtin "list.extend.loop" ⟨[.ref L, .ref z, res], []⟩) R s := by
  have hLw : ∀ c ∈ [z, TO, i1, i2], L ≠ c := fun c hc e => hL (by
    subst e
    simp only [List.mem_cons, List.not_mem_nil, or_false] at hc ⊢
    rcases hc with e | e | e | e
    · exact .inl e
    · exact .inr (.inr (.inl e))
    · exact .inr (.inr (.inr (.inl e)))
    · exact .inr (.inr (.inr (.inr (.inr (.inl e))))))
  have hLw' : L ∉ [z, TO, i1, i2] := fun hm => hLw _ hm rfl
  have hNw : ∀ c, N ≤ c → c ∉ [z, TO, i1, i2] := fun c hc hm => absurd (hzN c hm) (Nat.not_lt_of_le hc)
  intro k
  induction k with
  | zero =>
    intro i s Ts c hk hi hlen st hN hl ho hR
    have hin : i = min xs.size ys.size := by omega
    subst hin
    refine codeAny_builtin F.entry_extend_loop ?_
    rw [Around.under_plainId F.plain_extend_loop _]
    show wpAny _ A.in1 (pyNext (.ref z) >>= _) _ _ s
    refine wpAny_bind (ZSt.done S D1 D2 st fun h' tk hk => ?_)
    refine wpAny_pure (hR h' tk Ts c (fun b o hb e => hk b o (fun hm => hb (List.mem_cons_of_mem _ hm)) e) (hk _ _ hLw' hl) hlen (ho.at fun b o hb e => hk b o (hNw b hb) e))
  | succ k ih =>
    intro i s Ts c hk hi hlen st hN hl ho hR
    have hlt : i < min xs.size ys.size := by omega
    have hsL : s.heap.objs.size ≠ L := Nat.ne_of_gt (Nat.lt_of_lt_of_le hLN hN)
    refine codeAny_builtin F.entry_extend_loop ?_
    rw [Around.under_plainId F.plain_extend_loop _]
    show wpAny _ A.in1 (pyNext (.ref z) >>= _) _ _ s
    refine wpAny_bind (ZSt.item S D1 D2 st hsL hlt fun x1 x2 h' tk y1 y2 st' hT hsz hk => ?_)
    have hl' := hk _ _ hLw' hl
    show wpAny _ A.in1 (updateSeq L (·.push (.ref s.heap.objs.size)) >>= _) _ _ _
    refine wpAny_bind ?_
    have ub : ∀ b o, b ≠ L → h'.get? b = some o → (h'.update L (Obj.mapSeq (·.push (.ref s.heap.objs.size)))).get? b = some o := fun b o hb e => (Heap.get?_update_other _ _ (Ne.symm hb)).trans e
    have hL2 := Heap.get?_update_self (Obj.mapSeq (·.push (Value.ref s.heap.objs.size))) hl' rfl
    have e1 : ((Ts.map Value.ref).toArray).push (.ref s.heap.objs.size) = ((Ts ++ [s.heap.objs.size]).map Value.ref).toArray := by simp
    have szTs : ((Ts.map Value.ref).toArray).size = i := by simp [hlen]
    refine wpAny_updateSeq hl' rfl (wpAny_pure ⟨plainId_quiet F.plain_extend_loop _, ih (i + 1) _ (Ts ++ [s.heap.objs.size]) _ (by omega) hlt (by rw [List.length_append, List.length_singleton, hlen]) (ZSt.frame D1 D2 st' (by simpa using hL) ub) ?_ (by
      rw [← e1]; exact hL2) ?_ ?_⟩) (by rw [szTs]; omega) (by show (((Ts.map Value.ref).toArray).push _).size ≤ sizeLine + 1; rw [Array.size_push, szTs]; omega)
    · show N ≤ (h'.update L _).objs.size
      rw [(Heap.SameBut.update ..).1, hsz]
      exact Nat.le_succ_of_le hN
    · refine Outs.snoc ho (fun b o hb e => ub b o (fun q => absurd hb (by rw [q]; exact Nat.not_le_of_lt hLN)) (hk b o (hNw b hb) e)) hN (by rw [hlen]; exact y1) (by rw [hlen]; exact y2) (ub _ _ hsL hT)
    · intro h'' tk' Ts' c' hk' hl'' hlen' ho'
      exact hR h'' tk' Ts' c' (fun b o hb e => hk' b o hb (ub b o (fun q => hb (by simp [q])) (hk b o (fun hm => hb (List.mem_cons_of_mem _ hm)) e))) hl'' hlen' ho'
theorem zip_nolen : typeLookup (.type "zip") "__len__" = pure none := am_miss_of_fast (by decide +kernel)
theorem zip_nohint : typeLookup (.type "zip") "__length_hint__" = pure none := am_miss_of_fast (by decide +kernel)
theorem zip_hint {Q : Bool → Shared → Prop} (hT : s.TypeIs (.ref z) "zip") (h : Q true s) : wpAny (model prog w) A (Builtin.List.listLengthHint (.ref z)) Q E s := by
  unfold Builtin.List.listLengthHint
  refine wpAny_bind (wpAny_specialOf hT zip_nolen ?_)
  show wpAny _ A (specialOf (Value.ref z) (Str.ofString "__length_hint__") >>= _) _ _ _
  exact wpAny_bind (wpAny_specialOf hT zip_nohint (wpAny_pure h))
theorem zip_list {Q : Value → Shared → Prop} (hh : A.handled = none) (S : ZipSep2 z TI TO i1 i2 [i1, a] [i2, b]) (ok : ZNew k1 k2 z TI TO i1 i2 a b xs ys s.heap) (hn : min xs.size ys.size ≤ sizeLine)
    (hQ : ∀ h' tk Ts c', (∀ b o, b ∉ [z, TO, i1, i2] → s.heap.get? b = some o → h'.get? b = some o) → h'.get? s.heap.objs.size = some { cls := .type "list", dict := none, data := .seq (Ts.map Value.ref).toArray c', slots := #[] } →
      Ts.length = min xs.size ys.size → Outs (s.heap.objs.size + 1) xs ys h' Ts → Q (.ref s.heap.objs.size) { s with heap := h', toks := tk }) :
    wpAny (model prog w) A (call (.type "list") [.ref z]) Q E s := by
  refine callType_codes (Q₁ := fun obj s₁ => obj = .ref s.heap.objs.size ∧ s₁ = { s with heap := s.heap.push { cls := .type "list", data := .seq #[] } }) PySem.F.called_list (PySem.F.typeCall_list_1 _) PySem.F.entry_list_init
    (code_list_new _ ⟨rfl, rfl⟩) fun obj s₁ h₁ => ?_
  obtain ⟨rfl, rfl⟩ := h₁
  have lt := ok.lt
  have hS : (s.heap.push { cls := .type "list", data := .seq #[] }).get? s.heap.objs.size = some { cls := .type "list", data := .seq #[] } := Heap.get?_push_size _ rfl
  have hLm : s.heap.objs.size ∉ [z, TI, TO, i1, a, i2, b] := fun hm => Nat.lt_irrefl _ (lt _ hm)
  have hLz : s.heap.objs.size ≠ z := Nat.ne_of_gt (lt z (by simp))
  refine ⟨⟨_, hS, rfl⟩, PySem.F.args_list_init_2 _ _, ?_⟩
  show wpAny _ A.in1.in1 (do let old ← Builtin.List.listItems (.ref s.heap.objs.size); Builtin.List.listUpdate (.ref s.heap.objs.size) (fun _ => #[]); letGo old.toList.reverse; Builtin.List.listExtendWith (.ref s.heap.objs.size) (.ref z) .none) _ _ _
  refine wpAny_bind ?_
  unfold Builtin.List.listItems
  refine wpAny_bind (wpAny_seqItems hS rfl (wpAny_pure ?_))
  show wpAny _ _ (updateSeq s.heap.objs.size (fun _ => #[]) >>= fun _ => letGo (#[] : Array Value).toList.reverse >>= fun _ => Builtin.List.listExtendWith (.ref s.heap.objs.size) (.ref z) .none) _ _ _
  refine wpAny_bind (wpAny_updateSeq hS rfl ?_)
  have hS₂ := Heap.get?_update_self (Obj.mapSeq (fun _ => (#[] : Array Value))) hS rfl
  have oth : ∀ b o, s.heap.get? b = some o → ((s.heap.push { cls := .type "list", data := .seq #[] }).update s.heap.objs.size (Obj.mapSeq (fun _ => (#[] : Array Value)))).get? b = some o :=
    fun b o e => (Heap.get?_update_other _ _ (Nat.ne_of_gt (Heap.lt_size e))).trans (Heap.get?_push_of_some _ e)
  refine wpAny_bind (wpAny_letGo ?_)
  have ok2 := ok.at oth
  have hT : Shared.TypeIs { s with heap := (s.heap.push { cls := .type "list", data := .seq #[] }).update s.heap.objs.size (Obj.mapSeq (fun _ => (#[] : Array Value))) } (.ref z) "zip" := ⟨_, ok2.1, rfl⟩
  have sz : ((s.heap.push { cls := .type "list", data := .seq #[] }).update s.heap.objs.size (Obj.mapSeq (fun _ => (#[] : Array Value)))).objs.size = s.heap.objs.size + 1 := by rw [(Heap.SameBut.update ..).1, Heap.size_push]
  have D1 := Kd.draws k1 (prog := prog) (w := w) (A := A.in1.in1.in1) hh i1 a (it_ne k1 ok.2.2.2.1.1 ok.2.2.2.1.2) xs
  have D2 := Kd.draws k2 (prog := prog) (w := w) (A := A.in1.in1.in1) hh i2 b (it_ne k2 ok.2.2.2.2.1 ok.2.2.2.2.2) ys
  generalize hg : (s.heap.push { cls := .type "list", data := .seq #[] }).update s.heap.objs.size (Obj.mapSeq (fun _ => (#[] : Array Value))) = h2 at *
  unfold Builtin.List.listExtendWith
  refine wpAny_bind (wpAny_typeOf (T := "zip") hT ?_)
  have h1 : Builtin.List.listSameRef (.ref s.heap.objs.size) (.ref z) = false := by simp [Builtin.List.listSameRef, hLz]
  rw [if_neg (by rw [h1]; decide)]
  refine wpAny_bind (wpAny_pyIter_zip ok2.1 ?_)
  refine wpAny_bind (wpAny_holding (zip_hint hT ?_))
  have key : ∀ (h : Heap) (c₁ tk : Nat), h.objs.size = s.heap.objs.size + 1 → (∀ b o, b ≠ s.heap.objs.size → h2.get? b = some o → h.get? b = some o) → h.get? s.heap.objs.size = some { cls := .type "list", dict := none, data := .seq #[] c₁, slots := #[] } →
      codeAny (model prog w) A.in1 (.builtin "list.extend.loop" ⟨[.ref s.heap.objs.size, .ref z, .none], []⟩) (fun r s' => wants (fun r s₂ => r = .none ∧ Q (.ref s.heap.objs.size) s₂) E r s') { s with heap := h, toks := tk } := by
    intro h c₁ tk hsz hk hl
    refine zip_loop (A := A.in1) (k1 := k1) (k2 := k2) S D1 D2 (N := s.heap.objs.size + 1) hLm (Nat.lt_succ_self _) (fun c hc => Nat.lt_succ_of_lt (lt c (by
      simp only [List.mem_cons, List.not_mem_nil, or_false] at hc ⊢
      rcases hc with e | e | e | e
      · exact .inl e
      · exact .inr (.inr (.inl e))
      · exact .inr (.inr (.inr (.inl e)))
      · exact .inr (.inr (.inr (.inr (.inr (.inl e))))))) ) hn .none _ 0 _ [] c₁ rfl (Nat.zero_le _) rfl (ZSt.frame D1 D2 (ZNew.st ok2) (by simpa using hLm) hk) (by rw [hsz]; exact Nat.le_refl _) hl ⟨List.Pairwise.nil, fun j T e => by simp at e⟩ fun h' tk' Ts c' hk' hl' hlen ho => ?_
    refine ⟨rfl, hQ h' tk' Ts c' (fun b o hb e => hk' b o (fun hm => ?_) (hk b o (Nat.ne_of_lt (Heap.lt_size e)) (oth b o e))) hl' hlen ho⟩
    rcases List.mem_cons.mp hm with e' | hm
    · exact absurd (Heap.lt_size e) (by rw [e']; exact Nat.lt_irrefl _)
    · exact hb hm
  refine wpAny_ite_split (fun _ => ?_) (fun _ => wpAny_pure ⟨plainId_quiet PySem.F.plain_extend_loop _, key _ _ _ sz (fun b o _ e => e) hS₂⟩)
  refine wpAny_bind (wpAny_rule ?_)
  refine wpAny_bind ?_
  show wpAny _ _ (updateSeq s.heap.objs.size (·.push .none) >>= fun _ => updateSeq s.heap.objs.size (·.pop)) _ _ _
  refine wpAny_bind (wpAny_updateSeq hS₂ rfl ?_)
  have hS₃ := Heap.get?_update_self (Obj.mapSeq (·.push Value.none)) hS₂ rfl
  refine wpAny_updateSeq (hz := by seq_fits) hS₃ rfl ?_
  have hS₄ := Heap.get?_update_self (Obj.mapSeq (·.pop)) hS₃ rfl
  refine wpAny_pure ⟨plainId_quiet PySem.F.plain_extend_loop _, key _ _ _ ?_ (fun b o hb e => ?_) hS₄⟩
  · rw [(Heap.SameBut.update ..).1, (Heap.SameBut.update ..).1]; exact sz
  · exact (Heap.get?_update_other _ _ (Ne.symm hb)).trans ((Heap.get?_update_other _ _ (Ne.symm hb)).trans e)
end
end TL
end

section
set_option Elab.async false
set_option linter.all false
set_option maxRecDepth 100000
set_option maxHeartbeats 4000000
/-! The rules: list(zip(a, b)), dict(zip(a, b)), a loop over zip(a, b). -/
namespace TL
open PySem PySem.Spec PyProof.Rows L2

section
variable {X : Cx} {pins : List (Addr × Obj)} {σ : L2.St} {H H' : Hp} {s : Shared} {h' : Heap}
/-- several new objects are laid at once -/
theorem laidM {t' : Nat} (I : Inv X pins σ H s) (k : ∀ b o, s.heap.get? b = some o → h'.get? b = some o) (lo : ∀ b, b < s.heap.objs.size → H' b = H b)
    (hi : ∀ b o, s.heap.objs.size ≤ b → H' b = some o → ObjOk X.prog X.w H' h' b o) : Inv X pins σ H' { s with heap := h', toks := t' } := by
  have lt : ∀ {b u}, H b = some u → b < s.heap.objs.size := fun {b u} e => by
    rcases Nat.lt_or_ge b s.heap.objs.size with q | q
    · exact q
    · rw [I.hok.fresh q] at e; cases e
  have same : ∀ {b u}, H b = some u → H' b = some u := fun {b u} e => by rw [lo b (lt e)]; exact e
  have un : Un X.fs [] H H' s.heap h' :=
    ⟨fun b o e _ _ _ => k b o e, fun b o e _ _ _ => ⟨o.slots, k b o e⟩, fun b o e n _ => by rw [lo b (Heap.lt_size e)]; exact n, fun b o e _ => ⟨o, k b o e⟩, fun b xs e => same e, fun b o u e => same e, fun b ps e => ⟨#[], by rw [same e]; simp⟩⟩
  refine I.un un fun b o e => ?_
  rcases Nat.lt_or_ge b s.heap.objs.size with q | q
  · rw [lo b q] at e
    exact (I.hok b o e).stay (fun c u _ q => k c u q) (fun c q => same q) (fun c xs q => same q)
  · exact hi b o q e
/-- pairs laid -/
def layT (H : Hp) : List (Addr × Obj) → List (V × V) → Hp
  | (a, o) :: es, (x, y) :: ps => upd (layT H es ps) a (.frz o (.tup [x, y]))
  | _, _ => H
theorem layT_out {H : Hp} {b : Addr} : ∀ {es : List (Addr × Obj)} {ps : List (V × V)}, b ∉ es.map (·.1) → layT H es ps b = H b
  | [], _, _ => rfl
  | (a, o) :: es, [], _ => rfl
  | (a, o) :: es, (x, y) :: ps, h => by
    rw [List.map_cons, List.mem_cons, not_or] at h
    show upd (layT H es ps) a _ b = H b
    rw [upd_ne h.1]
    exact layT_out h.2
theorem layT_some {H : Hp} {b : Addr} {u : HO} : ∀ {es : List (Addr × Obj)} {ps : List (V × V)}, layT H es ps b = some u → H b = some u ∨ ∃ (j : Nat) (o : Obj) (x y : V), es[j]? = some (b, o) ∧ ps[j]? = some (x, y) ∧ u = .frz o (.tup [x, y])
  | [], _, h => .inl h
  | (a, o) :: es, [], h => .inl h
  | (a, o) :: es, (x, y) :: ps, h => by
    by_cases e : b = a
    · subst e
      rw [show layT H ((b, o) :: es) ((x, y) :: ps) b = some (.frz o (.tup [x, y])) from upd_same] at h
      cases h
      exact .inr ⟨0, o, x, y, rfl, rfl, rfl⟩
    · rw [show layT H ((a, o) :: es) ((x, y) :: ps) b = layT H es ps b from upd_ne e] at h
      rcases layT_some h with q | ⟨j, o', x', y', q1, q2, q3⟩
      · exact .inl q
      · exact .inr ⟨j + 1, o', x', y', q1, q2, q3⟩
theorem vals_refs : ∀ Ts : List Addr, Vals (Ts.map V.ref) (Ts.map Value.ref)
  | [] => .nil
  | _ :: Ts => .cons rfl (vals_refs Ts)
/-- the object of a pair -/
def pairO (x y : Value) : Obj := { cls := .type "tuple", data := .seq #[x, y] }
end

section
variable {X : Cx} {pins : List (Addr × Obj)} {σ : L2.St} {H : Hp} {s : Shared}
theorem zip_made {k1 k2 : Kd} {a b : Addr} {xs ys : List V} (I : Inv X pins σ H s) (ha : k1.SQ X.K H a xs) (hb : k2.SQ X.K H b ys) {Q : Value → Shared → Prop} {E : Value → Shared → Prop} {A : Around}
    (h : ∀ (us vs : List Value) (h' : Heap) (z TI TO i1 i2 : Addr), Vals xs us → Vals ys vs → xs.length ≤ sizeLine → ys.length ≤ sizeLine → (∀ c o, s.heap.get? c = some o → h'.get? c = some o) → Inv X pins σ H { s with heap := h' } →
      ZipSep2 z TI TO i1 i2 [i1, a] [i2, b] → ZNew k1 k2 z TI TO i1 i2 a b us.toArray vs.toArray h' → (∀ c ∈ [z, TI, TO, i1, i2], s.heap.objs.size ≤ c) → Q (.ref z) { s with heap := h' }) :
    wpAny (model X.prog X.w) A (call (.type "zip") [.ref a, .ref b]) Q E s := by
  obtain ⟨us, r1, p1, z1⟩ := k1.seq I ha
  obtain ⟨vs, r2, p2, z2⟩ := k2.seq I hb
  refine zip_begins2 (k1.begins a us.toArray) (k2.begins b vs.toArray) p1 p2 fun h' hz hTI hTO g1 g2 hsz hk => ?_
  have l1 := k1.sq_lt p1
  have l2 := k2.sq_lt p2
  refine h us vs h' _ _ _ _ _ r1 r2 z1 z2 hk (I.kept (t' := s.toks) hk) (zip_sep2 (fun c hc => by rw [List.mem_singleton.mp hc]; exact l1) fun c hc => by rw [List.mem_singleton.mp hc]; exact l2)
    ⟨hz, hTI, ⟨_, _, hTO⟩, ⟨k1.start g1, k1.sq_at p1 fun o e => hk _ o e⟩, k2.start g2, k2.sq_at p2 fun o e => hk _ o e⟩ fun c hc => ?_
  simp only [List.mem_cons, List.not_mem_nil, or_false] at hc
  rcases hc with e | e | e | e | e <;> rw [e] <;> first | exact Nat.le_add_right _ _ | exact Nat.le_refl _
end

/-- two sequences, then what is wanted -/
def tZ (K : PySem.W.Frag) (ta : TA) (R : List V → List V → Hp → Prop) : L2.St → Hp → Prop := fun σ H => ta σ H fun vs H1 => ∃ (a b : Addr) (k1 k2 : Kd) (xs ys : List V), vs = [.ref a, .ref b] ∧ k1.SQ K H1 a xs ∧ k2.SQ K H1 b ys ∧ R xs ys H1
section
variable {X : Cx} {e1 e2 : Expr} {ta : TA} {p p2 pos pos2 : Pos}
/-- the call of zip within an argument list -/
theorem zip_eval {pins : List (Addr × Obj)} {σ : L2.St} {H : Hp} {s : Shared} {R : List V → List V → Hp → Prop} {Q : Value → Shared → Prop} (hg : Gl X "zip") (hm : X.mg "zip" = none) (ha : PA X [e1, e2] ta) (I : Inv X pins σ H s) (h : tZ X.K ta R σ H)
    (hs : starEach [e1, e2] X.env = (false, eval e1 X.env) :: starEach [e2] X.env) (hpl : (backTo pos (starEach [e2] X.env)).any (·.1) = false)
    (q : ∀ (s1 : Shared) (H1 : Hp) (a b : Addr) (k1 k2 : Kd) (xs ys : List V) (us vs : List Value) (h' : Heap) (z TI TO i1 i2 : Addr), Inv X pins σ H1 s1 → R xs ys H1 → k1.SQ X.K H1 a xs → k2.SQ X.K H1 b ys → Vals xs us → Vals ys vs → xs.length ≤ sizeLine → ys.length ≤ sizeLine →
      (∀ c o, s1.heap.get? c = some o → h'.get? c = some o) → Inv X pins σ H1 { s1 with heap := h' } →
      ZipSep2 z TI TO i1 i2 [i1, a] [i2, b] → ZNew k1 k2 z TI TO i1 i2 a b us.toArray vs.toArray h' → (∀ c ∈ [z, TI, TO, i1, i2], s1.heap.objs.size ≤ c) → Q (.ref z) { s1 with heap := h' }) :
    wpAny (model X.prog X.w) X.A (eval (.Call (.Name "zip" p) [e1, e2] [] pos) X.env) Q X.xe s := by
  refine Call_ (ld_blt I hg hm PyProof.Rows.boot_zip (PyProof.Rows.callWith_type1 (thn (ha.run pos pins s σ H _ I h) fun us s1 ⟨vs, H1, I1, r1, q1⟩ => ?_) hs hpl))
  obtain ⟨a, b, k1, k2, xs, ys, rfl, h1, h2, q1⟩ := q1
  obtain ⟨u, v, rfl, rx, ry⟩ := r1.two
  cases rx
  cases ry
  exact zip_made I1 h1 h2 fun us vs h' z TI TO i1 i2 r1 r2 z1 z2 hk I2 S zn hlo => q s1 H1 a b k1 k2 xs ys us vs h' z TI TO i1 i2 I1 q1 h1 h2 r1 r2 z1 z2 hk I2 S zn hlo

/-- list(zip(a, b)) -/
def tLz (K : PySem.W.Frag) (ta : TA) : TE := fun σ H Q => tZ K ta (fun xs ys H1 => ∀ (es : List (Addr × Obj)) (p : Addr), es.length = (xs.zip ys).length → (p :: es.map (·.1)).Nodup → (∀ q ∈ p :: es.map (·.1), H1 q = none) → (∀ e ∈ es, Bare e.2) →
  Q (.ref p) (upd (layT H1 es (xs.zip ys)) p (.lst (es.map fun e => .ref e.1)))) σ H
theorem pe_lzip (hc : X.calm = true) (hg : Gl X "zip") (hm : X.mg "zip" = none) (hgl : Gl X "list") (hml : X.mg "list" = none) (ha : PA X [e1, e2] ta)
    (hs : starEach [e1, e2] X.env = (false, eval e1 X.env) :: starEach [e2] X.env) (hpl : (backTo pos (starEach [e2] X.env)).any (·.1) = false)
    (hs2 : starEach [.Call (.Name "zip" p) [e1, e2] [] pos] X.env = (false, eval (.Call (.Name "zip" p) [e1, e2] [] pos) X.env) :: starEach [] X.env) :
    PE X (.Call (.Name "list" p2) [.Call (.Name "zip" p) [e1, e2] [] pos] [] pos2) (tLz X.K ta) := by
  refine ⟨fun pins s σ H Q I h => ?_⟩
  refine Call_ (ld_blt I hgl hml PyProof.Rows.boot_list ?_)
  refine PyProof.Rows.callWith_type1 (PyProof.Rows.args_cons (zip_eval hg hm ha I h hs hpl fun s1 H1 a b k1 k2 xs ys us vs h' z TI TO i1 i2 I1 q1 h1 h2 r1 r2 z1 z2 hk I2 S zn hlo => PyProof.Rows.args_nil ?_) hs2) hs2 rfl
  have le1 := r1.length
  have le2 := r2.length
  have hsz : ∀ c ∈ [z, TI, TO, i1, i2], c < h'.objs.size := fun c hc => zn.lt c (by
    simp only [List.mem_cons, List.not_mem_nil, or_false] at hc ⊢
    rcases hc with e | e | e | e | e
    · exact .inl e
    · exact .inr (.inl e)
    · exact .inr (.inr (.inl e))
    · exact .inr (.inr (.inr (.inl e)))
    · exact .inr (.inr (.inr (.inr (.inr (.inl e))))))
  refine zip_list (s := { s1 with heap := h' }) (I1.ok.hd hc) S zn (by simp only [List.size_toArray]; omega) fun h'' tk Ts c' hk' hl hlen ho => ?_
  have hk2 : ∀ c o, s1.heap.get? c = some o → h''.get? c = some o := fun c o e => hk' c o (fun hm => by
    have l : s1.heap.objs.size ≤ c := hlo c (by
      simp only [List.mem_cons, List.not_mem_nil, or_false] at hm ⊢
      rcases hm with e | e | e | e
      · exact .inl e
      · exact .inr (.inr (.inl e))
      · exact .inr (.inr (.inr (.inl e)))
      · exact .inr (.inr (.inr (.inr e))))
    exact absurd (Heap.lt_size e) (Nat.not_lt_of_le l)) (hk c o e)
  have hL : s1.heap.objs.size ≤ h'.objs.size := Nat.le_of_lt (Nat.lt_of_le_of_lt (hlo z (by simp)) (hsz z (by simp)))
  -- the pairs' objects
  let es : List (Addr × Obj) := Ts.zipIdx.map fun q => (q.1, pairO (us.getD q.2 .none) (vs.getD q.2 .none))
  have elen : es.length = Ts.length := by simp [es]
  have efst : es.map (·.1) = Ts := by simp [es, List.map_map, Function.comp_def]
  have eget : ∀ (j : Nat) (T : Addr), Ts[j]? = some T → es[j]? = some (T, pairO (us.getD j .none) (vs.getD j .none)) := fun j T e => by simp [es, e]
  have eget' : ∀ (j : Nat) (T : Addr) (o : Obj), es[j]? = some (T, o) → Ts[j]? = some T ∧ o = pairO (us.getD j .none) (vs.getD j .none) := fun j T o e => by
    cases q : Ts[j]? with
    | none =>
      have : es[j]? = none := by
        rw [List.getElem?_eq_none_iff] at q ⊢
        omega
      rw [this] at e; cases e
    | some T' =>
      rw [eget j T' q] at e
      cases e
      exact ⟨rfl, rfl⟩
  clear_value es
  have hTge : ∀ T ∈ Ts, h'.objs.size + 1 ≤ T := fun T hT => by
    obtain ⟨j, e⟩ := List.getElem?_of_mem hT
    exact (ho.2 j T e).1
  have nd : (h'.objs.size :: es.map (·.1)).Nodup := by
    rw [efst]
    refine List.nodup_cons.mpr ⟨fun hm => absurd (hTge _ hm) (Nat.not_succ_le_self _), ?_⟩
    exact (List.pairwise_iff_getElem.mp ho.1 |> fun f => List.pairwise_iff_getElem.mpr fun i j hi hj hij => Nat.ne_of_lt (f i j hi hj hij))
  have fr : ∀ q ∈ h'.objs.size :: es.map (·.1), H1 q = none := fun q hq => by
    rw [efst] at hq
    refine I1.hok.fresh ?_
    rcases List.mem_cons.mp hq with e | hq
    · rw [e]; exact hL
    · exact Nat.le_trans hL (Nat.le_trans (Nat.le_succ _) (hTge q hq))
  have zl : (xs.zip ys).length = Ts.length := by rw [List.length_zip, hlen]; simp only [List.size_toArray]; omega
  have hlist : h''.get? h'.objs.size = some { cls := .type "list", data := .seq (Ts.map Value.ref).toArray c' } := hl
  refine ⟨.ref h'.objs.size, upd (layT H1 es (xs.zip ys)) h'.objs.size (.lst (es.map fun e => .ref e.1)), laidM (s := s1) (t' := tk) I1 hk2 (fun b hb => ?_) (fun b o hb e => ?_), rfl, q1 es h'.objs.size (by rw [elen, zl]) nd fr (fun e he => ?_)⟩
  · rw [upd_ne (Nat.ne_of_lt (Nat.lt_of_lt_of_le hb hL)), layT_out]
    rw [efst]
    intro hm
    exact absurd (Nat.lt_of_lt_of_le hb hL) (Nat.not_lt_of_le (Nat.le_trans (Nat.le_succ _) (hTge b hm)))
  · by_cases eb : b = h'.objs.size
    · subst eb
      rw [upd_same] at e
      cases e
      refine ⟨by rw [List.length_map, elen, ← zl, List.length_zip]; omega, Ts.map Value.ref, c', ?_, hlist⟩
      have e3 : (es.map fun e => V.ref e.1) = (es.map (·.1)).map V.ref := by rw [List.map_map]; rfl
      rw [e3, efst]
      exact vals_refs Ts
    · rw [upd_ne eb] at e
      rcases layT_some e with e | ⟨j, o', x, y, g1, g2, rfl⟩
      · rw [I1.hok.fresh hb] at e; cases e
      · obtain ⟨hT, rfl⟩ := eget' j b o' g1
        obtain ⟨_, _, u, v, e1, e2, e3⟩ := ho.2 j b hT
        obtain ⟨gx, gy⟩ : xs[j]? = some x ∧ ys[j]? = some y := by
          rw [List.getElem?_zip_eq_some] at g2
          exact g2
        obtain ⟨u', eu, ru⟩ := r1.get gx
        obtain ⟨v', ev, rv⟩ := r2.get gy
        have hu : u' = u := Option.some.inj (eu.symm.trans (by simpa using e1))
        have hv : v' = v := Option.some.inj (ev.symm.trans (by simpa using e2))
        subst hu hv
        have ge : h''.get? b = some (pairO (us.getD j .none) (vs.getD j .none)) := by
          rw [List.getD_eq_getElem?_getD, List.getD_eq_getElem?_getD, eu, ev]
          exact e3
        refine ⟨ge, by show 2 ≤ sizeLine; decide, [u', v'], .cons ru (.cons rv .nil), ⟨_, e3, rfl, _, rfl⟩⟩
  · obtain ⟨j, ej⟩ := List.getElem?_of_mem he
    obtain ⟨_, e2⟩ := eget' j e.1 e.2 ej
    rw [e2]
    exact ⟨rfl, rfl⟩
end
end TL
end

section
set_option Elab.async false
set_option linter.all false
set_option maxRecDepth 100000
set_option maxHeartbeats 4000000
/-! dict(zip(a, b)), for x, y in zip(a, b). -/
namespace TL
open PySem PySem.Spec PyProof.Rows L2

/-- dict(zip(a, b)) -/
def tDz (K : PySem.W.Frag) (ta : TA) : TE := fun σ H Q => tZ K ta (fun xs ys H1 => ∃ kvs : List (Key × V), xs.zip ys = kvs.map (fun kv => (kV kv.1, kv.2)) ∧ ∀ p, H1 p = none → Q (.ref p) (upd H1 p (.dK (mergeK [] kvs)))) σ H
theorem zip_kvs : ∀ {xs ys : List V} {us vs : List Value} {kvs : List (Key × V)}, Vals xs us → Vals ys vs → xs.zip ys = kvs.map (fun kv => (kV kv.1, kv.2)) →
    ∃ rs : List (Key × Value), rs.length = min us.length vs.length ∧ KV kvs rs ∧ ∀ (i : Nat) (k v : Value), us[i]? = some k → vs[i]? = some v → ∃ q, rs[i]? = some (q, v) ∧ keyIs q k = true
  | _, _, _, _, kvs, .nil, r2, e => by
    have : kvs = [] := by
      cases kvs with
      | nil => rfl
      | cons p r => cases e
    subst this
    exact ⟨[], by simp, .nil, fun i k v h => by simp at h⟩
  | _, _, _, _, kvs, .cons r1 t1, .nil, e => by
    have : kvs = [] := by
      cases kvs with
      | nil => rfl
      | cons p r => cases e
    subst this
    exact ⟨[], by simp, .nil, fun i k v _ h => by simp at h⟩
  | _, _, _, _, [], .cons r1 t1, .cons r2 t2, e => by cases e
  | _, _, _, _, (q, z) :: kvs, .cons (a := x) (b := u) r1 t1, .cons (a := y) (b := v) r2 t2, e => by
    have e1 := (List.cons.inj e).1
    have e2 := (List.cons.inj e).2
    obtain ⟨ex, ey⟩ := Prod.mk.inj e1
    obtain ⟨rs, h1, h2, h3⟩ := zip_kvs t1 t2 e2
    refine ⟨(q, v) :: rs, by simp only [List.length_cons, h1]; omega, .cons ⟨rfl, by rw [← ey]; exact r2⟩ h2, fun i k w g1 g2 => ?_⟩
    cases i with
    | zero =>
      simp only [List.getElem?_cons_zero, Option.some.injEq] at g1 g2
      subst g1 g2
      refine ⟨q, rfl, ?_⟩
      rw [ex] at r1
      cases q with
      | inl i => obtain ⟨t, rfl⟩ := r1; exact keyIs_int i t
      | inr x => obtain ⟨t, rfl⟩ := r1; exact keyIs_str x t
    | succ i =>
      obtain ⟨q', g3, g4⟩ := h3 i k w (by simpa using g1) (by simpa using g2)
      exact ⟨q', by simpa using g3, g4⟩
section
variable {X : Cx} {e1 e2 : Expr} {ta : TA} {p p2 pos pos2 : Pos}
theorem pe_dzip (hc : X.calm = true) (hg : Gl X "zip") (hm : X.mg "zip" = none) (hgl : Gl X "dict") (hml : X.mg "dict" = none) (ha : PA X [e1, e2] ta)
    (hs : starEach [e1, e2] X.env = (false, eval e1 X.env) :: starEach [e2] X.env) (hpl : (backTo pos (starEach [e2] X.env)).any (·.1) = false)
    (hs2 : starEach [.Call (.Name "zip" p) [e1, e2] [] pos] X.env = (false, eval (.Call (.Name "zip" p) [e1, e2] [] pos) X.env) :: starEach [] X.env) :
    PE X (.Call (.Name "dict" p2) [.Call (.Name "zip" p) [e1, e2] [] pos] [] pos2) (tDz X.K ta) := by
  refine ⟨fun pins s σ H Q I h => ?_⟩
  refine Call_ (ld_blt I hgl hml PyProof.Rows.boot_dict ?_)
  refine PyProof.Rows.callWith_type1 (PyProof.Rows.args_cons (zip_eval hg hm ha I h hs hpl fun s1 H1 a b k1 k2 xs ys us vs h' z TI TO i1 i2 I1 q1 h1 h2 r1 r2 z1 z2 hk I2 S zn hlo => PyProof.Rows.args_nil ?_) hs2) hs2 rfl
  obtain ⟨kvs, ez, q⟩ := q1
  obtain ⟨rs, g1, g2, g3⟩ := zip_kvs r1 r2 ez
  have le1 := r1.length
  have le2 := r2.length
  have hzs : z < h'.objs.size := Heap.lt_size zn.1
  have hL : s1.heap.objs.size ≤ h'.objs.size := Nat.le_of_lt (Nat.lt_of_le_of_lt (hlo z (by simp)) hzs)
  refine _root_.PySem.call_dict_pairs (s := { s1 with heap := h' }) (knd := mixKind X.prog X.w) (kvs := rs) (zip_pairArg S) (I1.ok.hd hc) zn ⟨by simp only [List.size_toArray]; exact g1, fun i k v e => ?_⟩ (by simp only [List.size_toArray]; omega) fun h'' tk hd' hk' => ?_
  · exact g3 i k v (by simpa using e.1) (by simpa using e.2)
  · have hk2 : ∀ c o, s1.heap.get? c = some o → h''.get? c = some o := fun c o e => hk' c o (fun hm => by
      have l : s1.heap.objs.size ≤ c := hlo c (by
        simp only [List.mem_cons, List.not_mem_nil, or_false] at hm ⊢
        rcases hm with e | e | e | e
        · exact .inl e
        · exact .inr (.inr (.inl e))
        · exact .inr (.inr (.inr (.inl e)))
        · exact .inr (.inr (.inr (.inr e))))
      exact absurd (Heap.lt_size e) (Nat.not_lt_of_le l)) (hk c o e)
    have hsm : (h'.objs.size == sysModules) = false := beq_eq_false_iff_ne.mpr (Nat.ne_of_gt (Nat.lt_of_lt_of_le I1.big hL))
    have kl : kvs.length ≤ sizeLine := by
      have e := congrArg List.length ez
      rw [List.length_zip, List.length_map] at e
      omega
    refine ⟨.ref h'.objs.size, upd H1 h'.objs.size (.dK (mergeK [] kvs)), I1.laid (t' := tk) hk2 hL (show ObjOk X.prog X.w _ _ _ (.dK (mergeK [] kvs)) from ⟨?_, hsm, merged [] rs, KV.merge g2 .nil, hd'⟩), rfl, q _ (I1.hok.fresh hL)⟩
    have := length_mergeK kvs []
    simp only [List.length_nil, Nat.zero_add] at this
    exact Nat.le_trans this kl
end

/-! ### for x, y in zip(a, b) -/
def Itm (K : PySem.W.Frag) (k1 k2 : Kd) (a b : Addr) : It :=
  ⟨fun i H => ∃ (xs ys : List V) (x y : V), k1.SQ K H a xs ∧ k2.SQ K H b ys ∧ xs[i]? = some x ∧ ys[i]? = some y,
    fun i H v H' => ∃ T x y, v = .ref T ∧ H T = none ∧ H' = upd H T (.tup [x, y]) ∧ (∀ xs, k1.SQ K H a xs → xs[i]? = some x) ∧ ∀ ys, k2.SQ K H b ys → ys[i]? = some y,
    fun i H => ∃ xs ys : List V, k1.SQ K H a xs ∧ k2.SQ K H b ys ∧ i ≤ xs.length ∧ i ≤ ys.length ∧ (i = xs.length ∨ i = ys.length)⟩
theorem turn_zipM {P : Program} {w : World} {K : PySem.W.Frag} {elts : List Expr} {kk : Nat} {tpos : Pos} {k1 k2 : Kd} {a b z TI TO i1 i2 : Addr} (S : ZipSep2 z TI TO i1 i2 [i1, a] [i2, b]) (hai : a ≠ i1) (hbi : b ≠ i2) :
    Turn P w K (.Tuple elts kk tpos) (Itm K k1 k2 a b) [z, TI, TO, i1, i2] z (fun i h => IsZip h z TI TO .none ∧ IsTupOf2 h TI (.ref i1) (.ref i2) ∧ (∃ x y, IsTupOf2 h TO x y) ∧ k1.it h i1 a i ∧ k2.it h i2 b i) where
  mem := by simp
  obj := fun i h st c hc => by
    obtain ⟨hz, hTI, ⟨x, y, hTO⟩, p1, p2⟩ := st
    simp only [List.mem_cons, List.not_mem_nil, or_false] at hc
    rcases hc with q | q | q | q | q
    · rw [q]; exact ⟨_, hz, fun v q => nomatch q⟩
    · rw [q]; exact ⟨_, hTI, fun v q => nomatch q⟩
    · rw [q]; exact ⟨_, hTO, fun v q => nomatch q⟩
    · rw [q]; exact k1.it_live p1
    · rw [q]; exact k2.it_live p2
  keep := fun i h h' st k => by
    obtain ⟨hz, hTI, ⟨x, y, hTO⟩, p1, p2⟩ := st
    exact ⟨k z (by simp) _ hz, k TI (by simp) _ hTI, ⟨x, y, k TO (by simp) _ hTO⟩, k1.it_at p1 fun o q => k i1 (by simp) o q, k2.it_at p2 fun o q => k i2 (by simp) o q⟩
  item := by
    intro X hP hw hK hc i pins s σ H E I hf st hg
    subst hP hw hK
    obtain ⟨hz, hTI, ⟨x0, y0, hTO⟩, p1, p2⟩ := st
    obtain ⟨xs, ys, x, y, hqx, hqy, hx, hy⟩ := hg
    obtain ⟨us, rv, q1, _⟩ := k1.seq I hqx
    obtain ⟨vs, rv2, q2, _⟩ := k2.seq I hqy
    obtain ⟨u, hu, ru⟩ := rv.get hx
    obtain ⟨v, hv, rv'⟩ := rv2.get hy
    have hh : X.A.in1.handled = none := I.ok.hd hc
    have D1 := Kd.draws k1 (prog := X.prog) (w := X.w) (A := X.A.in1) hh i1 a hai us.toArray
    have D2 := Kd.draws k2 (prog := X.prog) (w := X.w) (A := X.A.in1) hh i2 b hbi vs.toArray
    have hul : i < us.toArray.size := by simpa using (List.getElem?_eq_some_iff.mp hu).1
    have hvl : i < vs.toArray.size := by simpa using (List.getElem?_eq_some_iff.mp hv).1
    have hzl : z < s.heap.objs.size := Heap.lt_size hz
    refine wpAny_pyNext_zipD2_item S D1 D2 hz hTI hTO ⟨p1, q1⟩ ⟨p2, q2⟩ hul hvl fun u' v' h' tk gu gv z' TO' s1 s2 hT hsz hk => ?_
    have eu : u' = u := by
      rw [List.getElem?_toArray, hu] at gu
      exact (Option.some.inj gu).symm
    have ev : v' = v := by
      rw [List.getElem?_toArray, hv] at gv
      exact (Option.some.inj gv).symm
    subst eu ev
    refine ⟨_, rfl, wpAny_letOwnedTupleGo_zip (s := { s with heap := h', toks := tk }) z' fun h'' z'' sb => ?_⟩
    have hT2 : h''.get? s.heap.objs.size = some { cls := .type "tuple", data := .seq #[u', v'] } := (sb.2 _ (Nat.ne_of_gt hzl)).trans hT
    have new : ObjOk X.prog X.w (upd H s.heap.objs.size (.tup [x, y])) h'' s.heap.objs.size (.tup [x, y]) :=
      ⟨by show 2 ≤ sizeLine; decide, [u', v'], .cons ru (.cons rv' .nil), ⟨_, hT2, rfl, _, rfl⟩⟩
    have I1 : Inv X pins σ (upd H s.heap.objs.size (.tup [x, y])) { s with heap := h'', toks := tk } :=
      I.turnedNew (t' := tk) (ch := [z, TI, TO, i1, i2]) (fun c o hb q => (sb.2 c (fun q' => hb (by simp [q']))).trans (hk c o (fun q' => hb (by simp [q'])) (fun q' => hb (by simp [q'])) (fun q' => hb (by simp [q'])) (fun q' => hb (by simp [q'])) q)) hf (Nat.le_refl _) new
    refine ⟨.ref s.heap.objs.size, _, I1, rfl, ⟨_, x, y, rfl, I.hok.fresh (Nat.le_refl _), rfl, fun l hl => by rw [k1.inj I hl hqx]; exact hx, fun l hl => by rw [k2.inj I hl hqy]; exact hy⟩, ⟨z'', ?_, ⟨u', v', ?_⟩, ?_, ?_⟩, fun c hcm => ?_⟩
    · exact (sb.2 _ S.TIz).trans (hk _ _ S.TIz S.TITO S.TIi1 S.TIi2 hTI)
    · exact (sb.2 _ S.TOz).trans TO'
    · exact k1.it_at s1.1 fun o q => (sb.2 _ (Ne.symm S.zi1)).trans q
    · exact k2.it_at s2.1 fun o q => (sb.2 _ (Ne.symm S.zi2)).trans q
    · have hlt : c < s.heap.objs.size := by
        simp only [List.mem_cons, List.not_mem_nil, or_false] at hcm
        rcases hcm with q | q | q | q | q
        · rw [q]; exact hzl
        · rw [q]; exact Heap.lt_size hTI
        · rw [q]; exact Heap.lt_size hTO
        · rw [q]; obtain ⟨_, e1, _⟩ := k1.it_live p1; exact Heap.lt_size e1
        · rw [q]; obtain ⟨_, e2, _⟩ := k2.it_live p2; exact Heap.lt_size e2
      rw [upd_ne (Nat.ne_of_lt hlt)]
      exact (hf c hcm).1
  done := by
    intro X hP hw hK hc i pins s σ H E I hf st hg
    subst hP hw hK
    obtain ⟨hz, hTI, ⟨x0, y0, hTO⟩, p1, p2⟩ := st
    obtain ⟨xs, ys, hqx, hqy, l1, l2, hend⟩ := hg
    obtain ⟨us, rv, q1, _⟩ := k1.seq I hqx
    obtain ⟨vs, rv2, q2, _⟩ := k2.seq I hqy
    have e1 := rv.length
    have e2 := rv2.length
    have hh : X.A.in1.handled = none := I.ok.hd hc
    have D1 := Kd.draws k1 (prog := X.prog) (w := X.w) (A := X.A.in1) hh i1 a hai us.toArray
    have D2 := Kd.draws k2 (prog := X.prog) (w := X.w) (A := X.A.in1) hh i2 b hbi vs.toArray
    exact wpAny_pyNext_zipD2_end S D1 D2 hz hTI hTO ⟨p1, q1⟩ ⟨p2, q2⟩ (by simp only [List.size_toArray]; omega) (by simp only [List.size_toArray]; omega) (by simp only [List.size_toArray]; omega) fun h' tk hk => ⟨rfl, I.turnedL (t' := tk) (ch := [z, TI, TO, i1, i2]) (fun c o hb q =>
      hk c o (fun q' => hb (by simp [q'])) (fun q' => hb (by simp [q'])) (fun q' => hb (by simp [q'])) (fun q' => hb (by simp [q'])) q) hf⟩
  self := fun A i s Q E st h => wpAny_pyIter_zip st.1 h
def iZm (K : PySem.W.Frag) (ta : TA) : TI := fun σ H R => ta σ H fun vs H1 => ∃ (a b : Addr) (k1 k2 : Kd) (xs ys : List V), vs = [.ref a, .ref b] ∧ k1.SQ K H1 a xs ∧ k2.SQ K H1 b ys ∧ R (Itm K k1 k2 a b) H1
theorem pi_zipM {X : Cx} {e1 e2 : Expr} {ta : TA} {p pos tpos : Pos} {elts : List Expr} {kk : Nat} (hg : Gl X "zip") (hm : X.mg "zip" = none) (ha : PA X [e1, e2] ta)
    (hs : starEach [e1, e2] X.env = (false, eval e1 X.env) :: starEach [e2] X.env) (hpl : (backTo pos (starEach [e2] X.env)).any (·.1) = false) :
    PI X (.Tuple elts kk tpos) (.Call (.Name "zip" p) [e1, e2] [] pos) (iZm X.K ta) := by
  refine ⟨fun pins s σ H R I h => ?_⟩
  refine Call_ (ld_blt I hg hm PyProof.Rows.boot_zip (PyProof.Rows.callWith_type1 (thn (ha.run pos pins s σ H _ I h) fun us s1 ⟨vs, H1, I1, r1, q1⟩ => ?_) hs hpl))
  obtain ⟨a, b, k1, k2, xs, ys, rfl, h1, h2, q1⟩ := q1
  obtain ⟨u, v, rfl, rx, ry⟩ := r1.two
  cases rx
  cases ry
  refine zip_made I1 h1 h2 fun us vs h' z TI TO i1 i2 r1 r2 z1 z2 hk I2 S zn hlo => wpAny_pyIter_zip zn.1 ?_
  have fr : ∀ c ∈ [z, TI, TO, i1, i2], FpOk X pins H1 c := fun c hc => I1.fpOk (hlo c hc) (I1.hok.fresh (hlo c hc))
  exact ⟨z, [z, TI, TO, i1, i2], _, _, H1, rfl, I2, turn_zipM S (it_ne k1 zn.2.2.2.1.1 zn.2.2.2.1.2) (it_ne k2 zn.2.2.2.2.1 zn.2.2.2.2.2), ⟨zn.1, zn.2.1, zn.2.2.1, zn.2.2.2.1.1, zn.2.2.2.2.1⟩, fr, q1⟩
end TL
end

section
set_option Elab.async false
set_option linter.all false
set_option maxRecDepth 100000
set_option maxHeartbeats 4000000
/-! What a loop goes through: enumerate of a list or tuple, a plain thing of any kind, a dict's items. -/
namespace TL
open PySem PySem.Spec PyProof.Rows L2

/-! ### enumerate(x) -/
theorem meets_enum_newK (k : Kd) (a : Addr) (its : Array Value) :
    Meets (Builtin.«enumerate.__new__» ⟨[.type "enumerate", .ref a], []⟩) (fun _ R s => k.sq s.heap a its ∧
      R (.ok (.ret (.ref (s.heap.push (k.ob a)).objs.size))) { s with heap := (s.heap.push (k.ob a)).push { cls := .type "enumerate", data := .fields #[.none, .bool false, .ref s.heap.objs.size, rawInt 0, .none, .none] } }) :=
  .of_wp fun prog w A R s h => by
    obtain ⟨hp, g, d, tk, os⟩ := s
    obtain ⟨h1, h⟩ := h
    have hsub := sub_enumerate
    have q1 : ∀ {A' : Around} {E : Value → Shared → Prop} {Q : Value → Shared → Prop}, Q (.ref hp.objs.size) ⟨hp.push (k.ob a), g, d, tk, os⟩ → wpAny (model prog w) A' (pyIter (.ref a)) Q E ⟨hp, g, d, tk, os⟩ :=
      fun q => (k.begins a its).iter prog w _ _ ⟨hp, g, d, tk, os⟩ _ h1 q
    wp_walk using q1
    refine wpAny_stack_any fun st => wpAny_pure ?_
    split
    · rename_i c _ _ _ _ _
      cases (c == Value.type "enumerate")
      · wp_walk using q1
        exact ⟨_, rfl, h⟩
      · wp_walk using q1
        exact ⟨_, rfl, h⟩
    · wp_walk using q1
      exact ⟨_, rfl, h⟩
section
variable {prog : Program} {w : World} {A : Around} {E : Value → Shared → Prop} {s : Shared}
theorem enum_made (k : Kd) {a : Addr} {its : Array Value} {Q : Value → Shared → Prop} (h1 : k.sq s.heap a its)
    (h : ∀ h', IsEnum h' (s.heap.objs.size + 1) s.heap.objs.size 0 .none → k.it h' s.heap.objs.size a 0 → (∀ b o, s.heap.get? b = some o → h'.get? b = some o) → Q (.ref (s.heap.objs.size + 1)) { s with heap := h' }) :
    wpAny (model prog w) A (call (.type "enumerate") [.ref a]) Q E s := by
  refine callType_new F.called_enumerate (by decide) (F.typeCall_enumerate_1 _) (F.newCall_enumerate_1 _) (fun obj => F.args_object_init_2 obj _) F.entry_enumerate_new (meets_enum_newK k a its) ⟨h1, ?_⟩
  have hz : (s.heap.push (k.ob a)).objs.size = s.heap.objs.size + 1 := Heap.size_push ..
  have he : IsEnum ((s.heap.push (k.ob a)).push { cls := .type "enumerate", data := .fields #[.none, .bool false, .ref s.heap.objs.size, rawInt 0, .none, .none] }) (s.heap.objs.size + 1) s.heap.objs.size 0 .none := by
    have := Heap.get?_push_size (s.heap.push (k.ob a)) (o := { cls := .type "enumerate", data := .fields #[.none, .bool false, .ref s.heap.objs.size, rawInt 0, .none, .none] }) rfl
    rw [hz] at this
    exact this
  show _ ∧ _
  rw [hz]
  exact ⟨⟨_, he, rfl⟩, h _ he (k.start (Heap.get?_push_of_some _ (Heap.get?_push_size _ (by cases k <;> rfl)))) fun b o y => Heap.get?_push_of_some _ (Heap.get?_push_of_some _ y)⟩
end
def IteM (K : PySem.W.Frag) (k : Kd) (a : Addr) : It :=
  ⟨fun i H => ∃ (xs : List V) (x : V), k.SQ K H a xs ∧ xs[i]? = some x, fun i H v H' => ∃ T x, v = .ref T ∧ H T = none ∧ H' = upd H T (.tup [.int (i : Nat), x]) ∧ ∀ xs, k.SQ K H a xs → xs[i]? = some x, fun i H => ∃ xs : List V, k.SQ K H a xs ∧ i = xs.length⟩
theorem turn_enumM {P : Program} {w : World} {K : PySem.W.Frag} {elts : List Expr} {kk : Nat} {tpos : Pos} {k : Kd} {a e it : Addr} (hei : e ≠ it) (hea : e ≠ a) (hai : a ≠ it) :
    Turn P w K (.Tuple elts kk tpos) (IteM K k a) [e, it] e (fun i h => (∃ old, IsEnum h e it (0 + ((i : Nat) : Int)) old) ∧ k.it h it a i) where
  mem := by simp
  obj := fun i h st b hb => by
    obtain ⟨⟨old, he⟩, p⟩ := st
    simp only [List.mem_cons, List.not_mem_nil, or_false] at hb
    rcases hb with z | z
    · rw [z]; exact ⟨_, he, fun v q => nomatch q⟩
    · rw [z]; exact k.it_live p
  keep := fun i h h' st kk => let ⟨⟨old, he⟩, p⟩ := st; ⟨⟨old, kk e (by simp) _ he⟩, k.it_at p fun o q => kk it (by simp) o q⟩
  item := by
    intro X hP hw hK hc i pins s σ H E I hf st hg
    subst hP hw hK
    obtain ⟨hen, hit⟩ := st
    obtain ⟨xs, x, hq, hx⟩ := hg
    obtain ⟨us, rv, p, hz⟩ := k.seq I hq
    obtain ⟨u, hu, ru⟩ := rv.get hx
    have hh : X.A.in1.handled = none := I.ok.hd hc
    have D := Kd.draws k (prog := X.prog) (w := X.w) (A := X.A.in1) hh it a hai us.toArray
    have W := WalksT.enumFrom 0 D e hei (by simp [hei, hea]) (by simp)
    have hlt : i < us.toArray.size := by simpa using (List.getElem?_eq_some_iff.mp hu).1
    have hel : e < s.heap.objs.size := by obtain ⟨_, he⟩ := hen; exact Heap.lt_size he
    have hil : it < s.heap.objs.size := by obtain ⟨_, q, _⟩ := k.it_live hit; exact Heap.lt_size q
    refine W.item i s _ _ hlt ⟨hen, hit, p⟩ fun T vals h' tk hP hT hIs hM hk => ?_
    obtain ⟨t, u', hu', rfl⟩ := hP
    have eu : u' = u := by
      rw [List.getElem?_toArray, hu] at hu'
      exact (Option.some.inj hu').symm
    subst eu
    have hTw := W.apart _ _ _ hM
    refine ⟨_, rfl, W.go elts kk tpos i T _ _ _ hM fun h'' st' hk' => ?_⟩
    have hT2 : h''.IsTuple T #[.int (0 + (i : Int)) t, u'] := hIs.at fun o q => hk' T o hTw q
    rw [Int.zero_add] at hT2
    have new : ObjOk X.prog X.w (upd H T (.tup [.int (i : Nat), x])) h'' T (.tup [.int (i : Nat), x]) :=
      ⟨by show 2 ≤ sizeLine; decide, [.int i t, u'], .cons ⟨_, rfl⟩ (.cons ru .nil), hT2⟩
    have I1 : Inv X pins σ (upd H T (.tup [.int (i : Nat), x])) { s with heap := h'', toks := tk } :=
      I.turnedNew (t' := tk) (ch := [e, it]) (fun b ob hb q => hk' b ob hb (hk b ob hb q)) hf hT new
    refine ⟨.ref T, _, I1, rfl, ⟨_, x, rfl, I.hok.fresh hT, rfl, fun ys hy => by rw [k.inj I hy hq]; exact hx⟩, ⟨?_, st'.2.1⟩, fun b hb => ?_⟩
    · exact st'.1
    · have hb' : b < s.heap.objs.size := by
        simp only [List.mem_cons, List.not_mem_nil, or_false] at hb
        rcases hb with z | z
        · rw [z]; exact hel
        · rw [z]; exact hil
      rw [upd_ne (Nat.ne_of_lt (Nat.lt_of_lt_of_le hb' hT))]
      exact (hf b hb).1
  done := by
    intro X hP hw hK hc i pins s σ H E I hf st hg
    subst hP hw hK
    obtain ⟨hen, hit⟩ := st
    obtain ⟨xs, hq, hx⟩ := hg
    obtain ⟨us, rv, p, hz⟩ := k.seq I hq
    have hh : X.A.in1.handled = none := I.ok.hd hc
    have D := Kd.draws k (prog := X.prog) (w := X.w) (A := X.A.in1) hh it a hai us.toArray
    have W := WalksT.enumFrom 0 D e hei (by simp [hei, hea]) (by simp)
    have hn : i = us.toArray.size := by rw [List.size_toArray, ← rv.length]; exact hx
    rw [hn] at hen hit
    exact W.done s _ _ ⟨hen, hit, p⟩ fun h' tk hk => ⟨rfl, I.turnedL (t' := tk) (ch := [e, it]) hk hf⟩
  self := fun A i s Q E st h => let ⟨⟨_, he⟩, _⟩ := st; wpAny_pyIter_enum he h
def iEnM (K : PySem.W.Frag) (ta : TA) : TI := fun σ H R => ta σ H fun vs H1 => ∃ (a : Addr) (k : Kd) (xs : List V), vs = [.ref a] ∧ k.SQ K H1 a xs ∧ R (IteM K k a) H1
theorem pi_enumM {X : Cx} {e : Expr} {ta : TA} {p pos tpos : Pos} {elts : List Expr} {kk : Nat} (hg : Gl X "enumerate") (hm : X.mg "enumerate" = none) (ha : PA X [e] ta)
    (hs : starEach [e] X.env = (false, eval e X.env) :: starEach [] X.env) : PI X (.Tuple elts kk tpos) (.Call (.Name "enumerate" p) [e] [] pos) (iEnM X.K ta) := by
  refine ⟨fun pins s σ H R I h => ?_⟩
  refine Call_ (ld_blt I hg hm boot_enumerate (PyProof.Rows.callWith_type1 (thn (ha.run pos pins s σ H _ I h) fun us s1 ⟨vs, H1, I1, r1, q1⟩ => ?_) hs rfl))
  obtain ⟨a, k, xs, rfl, hq, q⟩ := q1
  obtain ⟨u, rfl, rx⟩ := r1.one
  cases rx
  obtain ⟨its, rv, p', hz⟩ := k.seq I1 hq
  have hal := k.sq_lt p'
  refine enum_made k p' fun h' he hit hk => wpAny_pyIter_enum he ?_
  have I2 : Inv X pins σ H1 { s1 with heap := h' } := I1.kept (t' := s1.toks) hk
  refine ⟨s1.heap.objs.size + 1, [s1.heap.objs.size + 1, s1.heap.objs.size], _, _, H1, rfl, I2, turn_enumM (Nat.succ_ne_self _) (Nat.ne_of_gt (Nat.lt_succ_of_lt hal)) (Nat.ne_of_lt hal), ⟨⟨.none, he⟩, hit⟩, fun b hb => ?_, q⟩
  simp only [List.mem_cons, List.not_mem_nil, or_false] at hb
  have hle : s1.heap.objs.size ≤ b := by
    rcases hb with z | z
    · rw [z]; exact Nat.le_add_right _ _
    · rw [z]; exact Nat.le_refl _
  exact I1.fpOk hle (I1.hok.fresh hle)

/-! ### a dict on the way: locked from then on -/
def tLk (te : TE) : TE := fun σ H Q => te σ H fun x H1 => Q x H1 ∨ ∃ d kvs, x = .ref d ∧ H1 d = some (.dK kvs) ∧ ∀ o, Q x (upd H1 d (.frz o (.dK kvs)))
theorem pe_lk {X : Cx} {e : Expr} {te : TE} (he : PE X e te) : PE X e (tLk te) := by
  refine ⟨fun pins s σ H Q I h => thn (he.run pins s σ H _ I h) fun u s1 ⟨x, H1, I1, r1, q1⟩ => ?_⟩
  rcases q1 with q | ⟨d, kvs, rfl, hd, q⟩
  · exact ⟨x, H1, I1, r1, q⟩
  · obtain ⟨od, I2⟩ := I1.lock hd trivial
    exact ⟨.ref d, _, I2, r1, q od⟩
/-! ### a plain thing: list, tuple, text, dict -/
def iPl (K : PySem.W.Frag) (te : TE) : TI := fun σ H R => te σ H fun v H1 => (∃ a xs, v = .ref a ∧ SqL K H1 a xs ∧ R (Itl K a) H1) ∨ (∃ a xs, v = .ref a ∧ SqT K H1 a xs ∧ R (Itt K a) H1) ∨ (∃ x, v = .str x ∧ R (Its x) H1) ∨
  ∃ d o kvs, v = .ref d ∧ H1 d = some (.frz o (.dK kvs)) ∧ R (Itk d o kvs) H1
theorem pi_plain {X : Cx} {tg e : Expr} {te : TE} (he : PE X e te) : PI X tg e (iPl X.K te) := by
  refine ⟨fun pins s σ H R I h => thn (he.run pins s σ H _ I h) fun u s1 ⟨v, H1, I1, r1, q1⟩ => ?_⟩
  rcases q1 with ⟨a, xs, rfl, hq, q⟩ | ⟨a, xs, rfl, hq, q⟩ | ⟨x, rfl, q⟩ | ⟨d, o, kvs, rfl, hd, q⟩
  · cases r1
    obtain ⟨its, rv, p, _⟩ := I1.list hq
    exact wpAny_pyIter_list p.isList (pi_one (tk := s1.toks) I1 _ (turn_list a _) ⟨_, Heap.get?_push_size _ rfl, rfl, rfl⟩ q)
  · cases r1
    obtain ⟨its, rv, p, _⟩ := I1.tuple hq
    exact wpAny_pyIter_tuple (show s1.heap.IsTuple a its.toArray from p) (pi_one (tk := s1.toks) I1 _ (turn_tuple a _) ⟨_, Heap.get?_push_size _ rfl, rfl, rfl⟩ q)
  · obtain ⟨t, rfl⟩ := r1
    cases ha : x.cps.all (· < 128)
    · exact wpAny_pyIter_wide ha (pi_one (tk := s1.toks) I1 _ (turn_str _ x t "str_iterator" (.inr rfl)) ⟨_, Heap.get?_push_size _ rfl, rfl, rfl⟩ q)
    · exact wpAny_pyIter_ascii ha (pi_one (tk := s1.toks) I1 _ (turn_str _ x t "str_ascii_iterator" (.inl rfl)) ⟨_, Heap.get?_push_size _ rfl, rfl, rfl⟩ q)
  · obtain rfl : u = Value.ref d := r1
    obtain ⟨hs, hgd, hx, es, ep, vs, hdt, hsz, kv, hm⟩ := I1.frzK hd
    refine iter_keys hs hgd hx hdt (pi_one (tk := s1.toks) I1 _ (turn_keys _ hdt) ⟨_, Heap.get?_push_size _ rfl, rfl, ?_⟩ q)
    rw [hsz]
    rfl
end TL
end

section
set_option Elab.async false
set_option linter.all false
set_option maxRecDepth 100000
set_option maxHeartbeats 4000000
/-! Tuples that are made, tuple(..), dict(..), isinstance, join, a list's methods. -/
namespace TL
open PySem PySem.Spec PyProof.Rows L2

section
variable {X : Cx} {cl : Nat → Addr}
theorem tupO {pins : List (Addr × Obj)} {σ : L2.St} {H : Hp} {s : Shared} {a : Addr} {xs : List V} (I : Inv X pins σ H s) (h : TupN X.K H a xs) :
    ∃ (its : List Value) (n : Nat), Vals xs its ∧ s.heap.get? a = some { cls := .type "tuple", dict := none, data := .seq its.toArray n, slots := #[] } ∧ xs.length ≤ sizeLine := by
  rcases h with ⟨o, h, d1, d2⟩ | ⟨o, its, n, hk, hc, ⟨d1, d2⟩, hd, hz, r⟩
  · obtain ⟨e, z, its, r, ⟨ob, e2, c2, n, dt⟩⟩ := I.hok a _ h
    rw [e] at e2
    cases e2
    obtain ⟨c, dd, dat, sl⟩ := o
    simp only at d1 d2 c2 dt
    subst d1 d2 c2 dt
    exact ⟨its, n, r, e, z⟩
  · have e := I.kIn a o hk
    obtain ⟨c, dd, dat, sl⟩ := o
    simp only at d1 d2 hc hd
    subst d1 d2 hc hd
    have l := r.length
    simp only [Array.length_toList] at l
    exact ⟨its.toList, n, r, by simpa using e, by omega⟩
theorem lstO {pins : List (Addr × Obj)} {σ : L2.St} {H : Hp} {s : Shared} {a : Addr} {xs : List V} (I : Inv X pins σ H s) (h : Rd H a (.lst xs)) :
    ∃ (its : List Value) (n : Nat), Vals xs its ∧ s.heap.get? a = some { cls := .type "list", dict := none, data := .seq its.toArray n, slots := #[] } ∧ xs.length ≤ sizeLine := by
  obtain ⟨z, its, n, r, e⟩ := h.ok I.hok
  exact ⟨its, n, r, e, z⟩

/-! ### a tuple of written items -/
def tTupN (t : TA) : TE := fun σ H Q => t σ H fun xs H1 => xs.length ≤ sizeLine ∧ ∀ p o, H1 p = none → Bare o → Q (.ref p) (upd H1 p (.frz o (.tup xs)))
theorem pe_tupN {es : List Expr} {t : TA} {pos : Pos} {x1} (h : PA X es t) : PE X (.Tuple es x1 pos) (tTupN t) := by
  refine ⟨fun pins s σ H Q I hq => wpAny_Tuple_spliced (thn (h.run pos pins s σ H _ I hq) fun us s1 ⟨xs, H1, I1, r, z, q⟩ => ⟨by rw [← r.length]; exact z, ?_⟩)⟩
  exact ⟨.ref s1.heap.objs.size, _, laid_tup (t' := s1.toks) I1 (fun b u e => Heap.get?_push_of_some _ e) (Nat.le_refl _) r z (Heap.get?_push_size _ rfl), rfl, q _ _ I1.fresh ⟨rfl, rfl⟩⟩

/-! ### tuple(x) -/
section
variable {prog : Program} {w : World} {A : Around} {E : Value → Shared → Prop} {s : Shared} {T : String} {r d : Addr} {n : Nat} {P : Nat → Value → Prop} {OK : Heap → Prop}
theorem collect_kdl {Q : List Value → Shared → Prop} (K : PySem.W.KdlSrc prog w T r d n P OK) (hh : A.handled = none) (hok : OK s.heap) (hn : n ≤ sizeLine)
    (hQ : ∀ (h' : Heap) (tk : Nat) (acc : Array Value), (∀ b o, s.heap.get? b = some o → h'.get? b = some o) → ItemsOf P acc n → Q acc.toList { s with heap := h', toks := tk }) : wpAny (model prog w) A (collect (.ref r)) Q E s := by
  unfold collect
  refine wpAny_bind (wpAny_runValue (codeAny_builtin F.entry_proto_collect ?_))
  rw [Around.under_plainId F.plain_proto_collect _]
  show wpAny _ A.in1 (newList [] >>= fun l => again (.builtin "list.__iadd__" ⟨[l, .ref r], []⟩)) _ _ s
  refine wpAny_bind (wpAny_newObj_type ?_)
  refine wpAny_pure ⟨plainId_quiet F.plain_list_iadd _, codeAny_builtin F.entry_list_iadd ?_⟩
  rw [Around.under_plainId F.plain_list_iadd _]
  show wpAny _ A.in1 (Builtin.List.listExtendWith (.ref s.heap.objs.size) (.ref r) (.ref s.heap.objs.size)) _ _ _
  have hlt := K.there _ hok
  have hS : (s.heap.push { cls := .type "list", data := .seq ([] : List Value).toArray }).get? s.heap.objs.size = some { cls := .type "list", data := .seq #[] } := Heap.get?_push_size _ rfl
  have fin : ∀ (h' : Heap) (tk : Nat) (acc' : Array Value) (c' : Nat), (∀ b o, b ≠ s.heap.objs.size → (s.heap.push { cls := .type "list", data := .seq ([] : List Value).toArray }).get? b = some o → h'.get? b = some o) →
      h'.get? s.heap.objs.size = some { cls := .type "list", dict := none, data := .seq acc' c', slots := #[] } → ItemsOf P acc' n →
      wpAny (model prog w) A (match Value.ref s.heap.objs.size with
        | Value.ref a => do
          match (← load a).data with
            | Data.seq xs _ => pure xs.toList
            | _ => unsupported "internal:collect"
        | _ => unsupported "internal:collect") Q E { s with heap := h', toks := tk } := fun h' tk acc' c' hk hS' hacc => by
    show wpAny _ A (load s.heap.objs.size >>= _) _ _ _
    refine wpAny_bind (wpAny_load hS' (wpAny_pure ?_))
    exact hQ h' tk acc' (fun b o e => hk b o (Nat.ne_of_lt (Heap.lt_size e)) (Heap.get?_push_of_some _ e)) hacc
  refine wpAny_mono (PySem.W.kdl_extend (A := A) (s := { s with heap := s.heap.push { cls := .type "list", data := .seq ([] : List Value).toArray } })
    (R := fun r s' => r = .ok (.ret (.ref s.heap.objs.size)) ∧ wpAny (model prog w) A (match Value.ref s.heap.objs.size with
        | Value.ref a => do
          match (← load a).data with
            | Data.seq xs _ => pure xs.toList
            | _ => unsupported "internal:collect"
        | _ => unsupported "internal:collect") Q E s')
    K hh (K.keep _ _ hok fun b _ o e => Heap.get?_push_of_some _ e) s.heap.objs.size (Nat.ne_of_gt hlt.1) (Nat.ne_of_gt hlt.2) (.ref s.heap.objs.size) _ hS (fun h' tk acc' c' hk hS' hacc => ⟨rfl, fin h' tk acc' c' hk hS' hacc⟩) hn) (fun f s' h => ?_) (fun e s' h => ?_)
  · cases f with
    | done f =>
      obtain ⟨e, h⟩ := h
      cases e
      exact h
    | again c' => exact ⟨h.1, codeAny_mono h.2 fun r s'' hr => by obtain ⟨rfl, hr⟩ := hr; exact hr⟩
  · exact absurd h.1 (by simp)
theorem tuple_kdl {Q : Value → Shared → Prop} (K : PySem.W.KdlSrc prog w T r d n P OK) (hh : A.handled = none) (hok : OK s.heap) (hn : n ≤ sizeLine) (hne : (Value.type T == Value.type "tuple") = false)
    (hQ : ∀ (h' : Heap) (tk : Nat) (acc : Array Value), (∀ b o, s.heap.get? b = some o → h'.get? b = some o) → ItemsOf P acc n → Q (.ref h'.objs.size) { s with heap := h'.push { cls := .type "tuple", data := .seq acc }, toks := tk }) :
    wpAny (model prog w) A (call (.type "tuple") [.ref r]) Q E s := by
  refine callType_codes (Q₁ := fun obj s₁ => s₁.TypeIs obj "tuple" ∧ Q obj s₁) F.called_tuple (F.typeCall_tuple_1 _) F.entry_object_init ?_ fun obj s₁ h₁ => ⟨h₁.1, F.args_object_init_2 obj _, object_init_meets F.called_tuple.init.lookup F.called_tuple.made (by decide) prog w A.in1 _ s₁ ⟨h₁.1, rfl, h₁.2⟩⟩
  refine codeAny_of_tree ?_
  show wpAny _ A.in1.in1 (do checkBuiltinCall "tuple.__new__" ⟨[.type "tuple", .ref r], []⟩; again (.builtin "tuple.__new__" ⟨[.type "tuple", .ref r], []⟩)) _ _ s
  refine wpAny_bind (wpAny_of_eq (F.newCall_tuple_1 _) (wpAny_pure ⟨plainId_quiet F.plain_tuple_new _, codeAny_builtin F.entry_tuple_new ?_⟩))
  rw [Around.under_plainId F.plain_tuple_new _]
  have hsub := sub_tuple_self
  have hinit := init_tuple_lookup
  have hmh := madeHere_tuple
  have hTI : s.TypeIs (.ref r) T := K.type s hok
  have hh1 : A.in1.in1.handled = none := hh
  wp_walk using wpAny_typeOf hTI, collect_kdl (A := A.in1.in1) K hh1 hok hn
  all_goals first
    | (intro hab; exact absurd hab (by simp [hne]))
    | skip
  intro h' tk acc hk hacc
  show wpAny _ _ (Builtin.Tuple.tupleExact acc.toList.toArray >>= fun v => ret v) _ _ _
  unfold Builtin.Tuple.tupleExact
  have e : acc.toList.toArray = acc := by simp
  refine wpAny_bind (wpAny_newObj_type ?_ (by show acc.toList.toArray.size ≤ sizeLine; rw [e, hacc.1]; exact hn))
  rw [e]
  exact wpAny_pure ⟨⟨_, Heap.get?_push_size _ rfl, rfl⟩, hQ h' tk acc hk hacc⟩
end
end
end TL
end

section
set_option Elab.async false
set_option linter.all false
set_option maxRecDepth 100000
set_option maxHeartbeats 4000000
/-! tuple(..), dict(..), isinstance(.., tuple), join: on trees. -/
namespace TL
open PySem PySem.Spec PyProof.Rows L2

theorem keys_vals {P : Program} {w : World} {vs : List (Key × Value)} {us : List Value} (hl : us.length = vs.length) (h : ∀ (j : Nat) (v : Value), us[j]? = some v → ∃ k x, vs[j]? = some (k, x) ∧ (mixKind P w).is k v = true) : Vals (vs.map fun p => kV p.1) us := by
  induction vs generalizing us with
  | nil =>
    have : us = [] := List.eq_nil_of_length_eq_zero hl
    subst this
    exact .nil
  | cons p vs ih =>
    cases us with
    | nil => cases hl
    | cons u us =>
      refine .cons ?_ (ih (Nat.succ.inj hl) fun j v e => ?_)
      · obtain ⟨k, x, e1, e2⟩ := h 0 u rfl
        cases e1
        exact relV_key e2
      · obtain ⟨k, x, e1, e2⟩ := h (j + 1) v (by simpa using e)
        exact ⟨k, x, by simpa using e1, e2⟩
section
variable {X : Cx} {cl : Nat → Addr}
def rTupN (K : PySem.W.Frag) : List V → Hp → VK → Prop := fun xs H Q => ∃ p, xs = [.ref p] ∧ ((∃ ys, SqL K H p ys ∧ ∀ l o, H l = none → Bare o → Q (.ref l) (upd H l (.frz o (.tup ys)))) ∨ (∃ ys, SqT K H p ys ∧ Q (.ref p) H) ∨
  ∃ kvs : List (Key × V), Rd H p (.dK kvs) ∧ ∀ l o, H l = none → Bare o → Q (.ref l) (upd H l (.frz o (.tup (kvs.map fun kv => kV kv.1)))))
theorem call_tupN (hc : X.calm = true) : CallR X (.type "tuple") (rTupN X.K) := by
  intro pins s σ H xs us Q I r h
  obtain ⟨p, rfl, h⟩ := h
  obtain ⟨u, rfl, rx⟩ := vals1 r
  cases rx
  rcases h with ⟨ys, hq, q⟩ | ⟨ys, hq, q⟩ | ⟨kvs, hd, q⟩
  · obtain ⟨its, r', pl, hz⟩ := I.list hq
    have hlen := r'.length
    refine call_tuple_list pl.isList (fun h' kp => ?_) (by simp only [List.size_toArray] <;> omega)
    have I1 : Inv X pins σ H { s with heap := h' } := I.kept (t' := s.toks) kp
    exact ⟨.ref h'.objs.size, _, laid_tup (t' := s.toks) I1 (fun b u e => Heap.get?_push_of_some _ e) (Nat.le_refl _) r' hz (Heap.get?_push_size _ rfl), rfl, q _ _ I1.fresh ⟨rfl, rfl⟩⟩
  · obtain ⟨its, r', pl, hz⟩ := I.tuple hq
    exact call_tuple_same pl ⟨.ref p, H, I, rfl, q⟩
  · obtain ⟨z, lo, vs, rel, dd⟩ := dk_rd I.hok hd
    obtain ⟨ep, hat⟩ := dd.dictAt
    have ek : (kvs.map fun kv => kV kv.1) = vs.map fun p => kV p.1 := by
      have e := congrArg (List.map kV) rel.keys
      rw [List.map_map, List.map_map] at e
      exact e
    refine tuple_kdl (PySem.W.kdl_dict (knd := mixKind X.prog X.w) (kvs := vs) (ep := ep) lo) (I.ok.hd hc) hat (by rw [← rel.length]; exact z) (by decide) fun h' tk acc hk hacc => ?_
    have hv : Vals (vs.map fun p => kV p.1) acc.toList := keys_vals (P := X.prog) (w := X.w) (by rw [Array.length_toList]; exact hacc.1) fun j v e => hacc.2 j v (by rw [← Array.getElem?_toList]; exact e)
    have I1 : Inv X pins σ H { s with heap := h', toks := tk } := I.kept (t' := tk) hk
    rw [ek] at q
    refine ⟨.ref h'.objs.size, _, laid_tup (t' := tk) I1 (its := acc.toList) (fun b u e => Heap.get?_push_of_some _ e) (Nat.le_refl _) hv (by rw [List.length_map, ← rel.length]; exact z) (n := 0) ?_, rfl, q _ _ I1.fresh ⟨rfl, rfl⟩⟩
    rw [Array.toArray_toList]
    exact Heap.get?_push_size _ rfl
theorem keys_is {p : Pk} {φ : List Addr} {F : Hp} (ks : List Key) : IsL p φ F (ks.map ofKey) (ks.map kV) := IsL.map (fun k => by cases k <;> rfl) ks
theorem ok_tuple (hc : X.calm = true) : Cal1 X cl (.type "tuple") (fun s => bifD s .tuple) := by
  refine ⟨_, call_tupN hc, fun φ F H st t res x Q hs ho ha e q => ?_⟩
  have e : bifD st .tuple t = some res := e
  unfold bifD at e
  split at e <;> (try contradiction)
  · cases e
    obtain ⟨l, xs, rfl, k1, r1⟩ := ha.lst hs
    refine ⟨l, rfl, .inl ⟨xs, k1, fun p o hp hd => ?_⟩⟩
    obtain ⟨n, r⟩ := fro_tup (p := pk X cl) hs ho hp hd r1
    exact q _ _ _ _ n r
  · cases e
    have q1 := ha.tupI
    obtain ⟨l, xs, rfl, k1, r1⟩ := ha.tup hs
    exact ⟨l, rfl, .inr (.inl ⟨xs, k1, Post.fro hs ho q1 q⟩)⟩
  · cases e
    obtain ⟨l, kvs, rfl, k1, k2, r1⟩ := ha.dct hs
    refine ⟨l, rfl, .inr (.inr ⟨kvs, k1, fun p o hp hd => ?_⟩)⟩
    obtain ⟨n, r⟩ := fro_tup (p := pk X cl) hs ho hp hd (keys_is (p := pk X cl) (φ := φ) (F := F) (kvs.map (·.1)))
    rw [List.map_map] at n r
    rw [k2] at r
    exact q _ _ _ _ n r

/-! ### dict(x) -/
/-- items that are pairs with keys -/
inductive Prs (K : PySem.W.Frag) (H : Hp) : List V → List (Key × V) → Prop where
  | nil : Prs K H [] []
  | cons {T : Addr} {k : Key} {v : V} {xs : List V} {kvs : List (Key × V)} (h : SqT K H T [kV k, v]) (r : Prs K H xs kvs) : Prs K H (.ref T :: xs) ((k, v) :: kvs)
theorem Prs.length {K : PySem.W.Frag} {H : Hp} : ∀ {xs : List V} {kvs : List (Key × V)}, Prs K H xs kvs → xs.length = kvs.length
  | _, _, .nil => rfl
  | _, _, .cons _ r => by rw [List.length_cons, List.length_cons, Prs.length r]
/-- the pairs' places and values -/
theorem Prs.told {pins : List (Addr × Obj)} {σ : L2.St} {H : Hp} {s : Shared} (I : Inv X pins σ H s) : ∀ {xs : List V} {kvs : List (Key × V)} {us : List Value}, Prs X.K H xs kvs → Vals xs us →
    ∃ (Ts : List Addr) (ps : List (Value × Value)) (rs : List (Key × Value)), Ts.length = kvs.length ∧ ps.length = kvs.length ∧ rs.length = kvs.length ∧ KV kvs rs ∧
      (∀ (j : Nat) (k v : Value), ps[j]? = some (k, v) → ∃ T, Ts[j]? = some T ∧ us[j]? = some (.ref T) ∧ s.heap.IsTuple T #[k, v] ∧ ∃ q, rs[j]? = some (q, v) ∧ keyIs q k = true)
  | _, _, _, .nil, .nil => ⟨[], [], [], rfl, rfl, rfl, .nil, fun j k v e => by simp at e⟩
  | _, _, _, .cons (T := T0) (k := k0) h r, .cons r1 t => by
    cases r1
    obtain ⟨Ts, ps, rs, l1, l2, l3, kv, f⟩ := Prs.told I r t
    obtain ⟨its, rv, ht, _⟩ := I.tuple h
    obtain ⟨u, v, rfl, ru, rv⟩ := rv.two
    refine ⟨T0 :: Ts, (u, v) :: ps, (k0, v) :: rs, by rw [List.length_cons, List.length_cons, l1], by rw [List.length_cons, List.length_cons, l2], by rw [List.length_cons, List.length_cons, l3], .cons ⟨rfl, rv⟩ kv, fun j k w e => ?_⟩
    cases j with
    | zero =>
      cases e
      exact ⟨_, rfl, rfl, ht, _, rfl, kV_is (P := X.prog) (w := X.w) ru⟩
    | succ j =>
      obtain ⟨T, g1, g2, g3, q, g4, g5⟩ := f j k w (by simpa using e)
      exact ⟨T, by simpa using g1, by simpa using g2, g3, q, by simpa using g4, g5⟩
def rDicN (K : PySem.W.Frag) : List V → Hp → VK → Prop := fun vs H Q => ∃ p, vs = [.ref p] ∧ ((∃ xs kvs, (Rd H p (.lst xs) ∨ TupN K H p xs) ∧ Prs K H xs kvs ∧ ∀ l, H l = none → Q (.ref l) (upd H l (.dK (mergeK [] kvs)))) ∨
  ∃ kvs : List (Key × V), Rd H p (.dK kvs) ∧ ∀ l, H l = none → Q (.ref l) (upd H l (.dK kvs)))
theorem call_dicN (hc : X.calm = true) : CallR X (.type "dict") (rDicN X.K) := by
  intro pins s σ H vs us Q I r h
  obtain ⟨p, rfl, h⟩ := h
  rcases h with ⟨xs, kvs, hq, hp, q⟩ | ⟨kvs, hd, q⟩
  · obtain ⟨u, rfl, rx⟩ := vals1 r
    cases rx
    have fin : ∀ (T : String) (its : List Value) (n : Nat), Vals xs its → xs.length ≤ sizeLine → (∀ (Ts : Nat → Addr) (ps : List (Value × Value)), PairItems s.heap its.toArray Ts ps → ∃ OK, OK s.heap ∧
        PairArg X.prog X.w T p (p :: (List.range ps.length).map Ts) [] ps.length (PairRel ps) OK) → wpAny (model X.prog X.w) X.A (call (.type "dict") [.ref p]) (EP X pins σ Q) X.xe s := fun T its n r hz f => by
      obtain ⟨Ts, ps, rs, l1, l2, l3, kv, g⟩ := hp.told I r
      have lx := hp.length
      have lr := r.length
      have pi : PairItems s.heap its.toArray (fun j => Ts.getD j 0) ps := ⟨by rw [List.size_toArray]; omega, fun j k v e => by
        obtain ⟨T, g1, g2, g3, _⟩ := g j k v e
        have : Ts.getD j 0 = T := by rw [List.getD_eq_getElem?_getD, g1]; rfl
        show its.toArray[j]? = some (.ref (Ts.getD j 0)) ∧ PairAt s.heap (Ts.getD j 0) k v
        rw [this]
        exact ⟨by simpa using g2, .inl g3⟩⟩
      obtain ⟨OK, ok, P⟩ := f _ _ pi
      refine _root_.PySem.call_dict_pairs (knd := mixKind X.prog X.w) (kvs := rs) P (I.ok.hd hc) ok ⟨by omega, fun j k v e => ?_⟩ (by omega) fun h' tk hd' hk => ?_
      · obtain ⟨T, _, _, _, q, g4, g5⟩ := g j k v e
        exact ⟨q, g4, g5⟩
      · have hsm : (s.heap.objs.size == sysModules) = false := beq_eq_false_iff_ne.mpr (Nat.ne_of_gt I.big)
        refine ⟨.ref s.heap.objs.size, _, I.laid (t' := tk) (fun b o e => hk b o (fun z => nomatch z) e) (Nat.le_refl _) (show ObjOk X.prog X.w _ _ _ (.dK (mergeK [] kvs)) from ⟨?_, hsm, merged [] rs, KV.merge kv .nil, hd'⟩), rfl, q _ I.fresh⟩
        have := length_mergeK kvs []
        simp only [List.length_nil, Nat.zero_add] at this
        omega
    rcases hq with hq | hq
    · obtain ⟨its, n, r, e, z⟩ := lstO I hq
      exact fin "list" its n r z fun Ts ps pi => ⟨_, ⟨⟨_, n, e, rfl, rfl, rfl⟩, pi⟩, PairArg.list p its.toArray Ts ps⟩
    · obtain ⟨its, n, r, e, z⟩ := tupO I hq
      exact fin "tuple" its n r z fun Ts ps pi => ⟨_, ⟨⟨_, n, e, rfl, rfl, rfl⟩, pi⟩, PairArg.tuple p its.toArray Ts ps⟩
  · exact call_dictD pins s σ H _ us Q I r ⟨p, kvs, rfl, hd, q⟩
theorem pairsIn_is {p : Pk} {φ : List Addr} {F : Hp} : ∀ {ps : List (Key × T)} {kvs acc : List (Key × V)} {ts : List T}, ps.map (·.1) = kvs.map (·.1) → IsL p φ F (ps.map (·.2)) (kvs.map (·.2)) → IsL p φ F ts (acc.map (·.2)) →
    (mergeK acc kvs).map (·.1) = (pairsIn ps (acc.map (·.1)) ts).1 ∧ IsL p φ F (pairsIn ps (acc.map (·.1)) ts).2 ((mergeK acc kvs).map (·.2))
  | [], kvs, acc, ts, hk, hv, ha => by
    have : kvs = [] := by
      cases kvs with
      | nil => rfl
      | cons a b => cases hk
    subst this
    exact ⟨rfl, ha⟩
  | (k, t) :: ps, [], acc, ts, hk, hv, ha => by cases hk
  | (k, t) :: ps, (k', v) :: kvs, acc, ts, hk, hv, ha => by
    have e1 : k = k' := (List.cons.inj hk).1
    have e2 : ps.map (·.1) = kvs.map (·.1) := (List.cons.inj hk).2
    subst e1
    obtain ⟨x, r, e3, q1, q2⟩ := hv
    have e4 : v = x := (List.cons.inj e3).1
    have e5 : kvs.map (·.2) = r := (List.cons.inj e3).2
    subst e4 e5
    have any : (acc.map (·.1)).any (fun k' => decide (k' = k)) = acc.any (fun kv => decide (kv.1 = k)) := by rw [List.any_map]; rfl
    have put1 : (putK acc k v).map (·.1) = putKs (acc.map (·.1)) k := by
      unfold putK putKs
      rw [any]
      split
      · rw [List.map_map]
        refine List.map_congr_left fun kv _ => ?_
        show (if kv.1 = k then (kv.1, v) else kv).1 = kv.1
        split <;> rfl
      · rw [List.map_append]
        rfl
    have repl : ∀ {acc : List (Key × V)} {ts : List T}, IsL p φ F ts (acc.map (·.2)) → IsL p φ F (replTs (acc.map (·.1)) ts k t) ((acc.map fun kv => if kv.1 = k then (kv.1, v) else kv).map (·.2)) := fun {acc} => by
      induction acc with
      | nil => intro ts h; rw [show ts = [] from by cases ts with | nil => rfl | cons a b => obtain ⟨_, _, e, _⟩ := h; cases e]; exact .nil
      | cons a acc ih =>
        intro ts h
        cases ts with
        | nil => cases h
        | cons t' ts =>
          obtain ⟨x, r, e, h1, h2⟩ := h
          have e6 : a.2 = x := (List.cons.inj e).1
          have e7 : acc.map (·.2) = r := (List.cons.inj e).2
          subst e6 e7
          show IsL p φ F ((if a.1 = k then t else t') :: replTs (acc.map (·.1)) ts k t) ((if a.1 = k then (a.1, v) else a).2 :: _)
          refine .cons ?_ (ih h2)
          split
          · exact q1
          · exact h1
    have put2 : IsL p φ F (putTs (acc.map (·.1)) ts k t) ((putK acc k v).map (·.2)) := by
      unfold putK putTs
      rw [any]
      split
      · exact repl ha
      · rw [List.map_append]
        exact ha.append (.cons q1 .nil)
    have ih := pairsIn_is (ps := ps) (kvs := kvs) (acc := putK acc k v) (ts := putTs (acc.map (·.1)) ts k t) e2 q2 put2
    rw [put1] at ih
    exact ih
theorem pairsOf_is {p : Pk} {φ : List Addr} {F H : Hp} (hs : Sub F H) : ∀ {ts : List T} {xs : List V} {ps : List (Key × T)}, pairsOf ts = some ps → IsL p φ F ts xs → ∃ kvs : List (Key × V), Prs p.K H xs kvs ∧ ps.map (·.1) = kvs.map (·.1) ∧ IsL p φ F (ps.map (·.2)) (kvs.map (·.2))
  | [], _, ps, e, h => by
    cases e
    rw [show _ = [] from h]
    exact ⟨[], .nil, rfl, .nil⟩
  | t :: ts, _, ps, e, h => by
    obtain ⟨x, r, rfl, h1, h2⟩ := h
    have e : (match pairOf t, pairsOf ts with
      | some p, some r => some (p :: r)
      | _, _ => none) = some ps := e
    cases e1 : pairOf t with
    | none => rw [e1] at e; cases e
    | some pr =>
      cases e2 : pairsOf ts with
      | none => rw [e1, e2] at e; cases e
      | some rs =>
        rw [e1, e2] at e
        cases e
        obtain ⟨kvs, g1, g2, g3⟩ := pairsOf_is hs e2 h2
        unfold pairOf at e1
        split at e1 <;> (try contradiction)
        rename_i a b
        obtain ⟨k, e3, rfl⟩ := Option.map_eq_some_iff.mp e1
        obtain ⟨T, xs, rfl, q, r1⟩ := h1
        obtain ⟨va, r2, rfl, i1, r3⟩ := r1
        obtain ⟨vb, r4, rfl, i2, r5⟩ := r3
        obtain rfl : r4 = [] := r5
        have ka : va = kV k := key_is (H := H) (.inl i1) e3
        subst ka
        exact ⟨(k, vb) :: kvs, .cons ((Le.of hs).tupN q).sqT g1, by rw [List.map_cons, List.map_cons, g2], .cons i2 g3⟩
theorem ok_dict (hc : X.calm = true) : Cal1 X cl (.type "dict") (fun s => bifD s .dict) := by
  refine ⟨_, call_dicN hc, fun φ F H st t res x Q hs ho ha e q => ?_⟩
  have e : bifD st .dict t = some res := e
  unfold bifD at e
  split at e <;> (try contradiction)
  · obtain ⟨ps, e1, e2⟩ := Option.map_eq_some_iff.mp e
    cases e2
    obtain ⟨l, xs, rfl, k1, r1⟩ := ha.lstR hs
    obtain ⟨kvs, g1, g2, g3⟩ := pairsOf_is hs e1 r1
    refine ⟨l, rfl, .inl ⟨xs, kvs, .inl k1, g1, fun p hp => ?_⟩⟩
    have g := pairsIn_is (acc := []) (ts := []) g2 g3 .nil
    obtain ⟨n, r⟩ := own_dct (p := pk X cl) hs ho hp g.1 g.2
    exact q _ _ _ _ n r
  · obtain ⟨ps, e1, e2⟩ := Option.map_eq_some_iff.mp e
    cases e2
    obtain ⟨l, xs, rfl, k1, r1⟩ := ha.tupNI hs
    obtain ⟨kvs, g1, g2, g3⟩ := pairsOf_is hs e1 r1
    refine ⟨l, rfl, .inl ⟨xs, kvs, .inr k1, g1, fun p hp => ?_⟩⟩
    have g := pairsIn_is (acc := []) (ts := []) g2 g3 .nil
    obtain ⟨n, r⟩ := own_dct (p := pk X cl) hs ho hp g.1 g.2
    exact q _ _ _ _ n r
  · cases e
    obtain ⟨l, kvs, rfl, k1, k2, r1⟩ := ha.dct hs
    refine ⟨l, rfl, .inr ⟨kvs, k1, fun p hp => ?_⟩⟩
    obtain ⟨n, r⟩ := own_dct (p := pk X cl) hs ho hp k2 r1
    exact q _ _ _ _ n r
end
end TL
end

section
set_option Elab.async false
set_option linter.all false
set_option maxRecDepth 100000
set_option maxHeartbeats 4000000
/-! Expressions: the text does what the small language says. -/
namespace TL
open PySem PySem.Spec PyProof.Rows L2

theorem M.bind_eq {α β : Type} {m : M α} {f : α → M β} {s s' : Sto} {b : β} (h : M.bind m f s = some (b, s')) : ∃ a s1, m s = some (a, s1) ∧ f a s1 = some (b, s') := by
  unfold M.bind at h
  cases e : m s with
  | none => rw [e] at h; cases h
  | some p => rw [e] at h; exact ⟨p.1, p.2, rfl, h⟩
theorem M.of_eq {α : Type} {o : Option α} {s s' : Sto} {a : α} (h : M.of o s = some (a, s')) : o = some a ∧ s' = s := by
  unfold M.of at h
  cases e : o with
  | none => rw [e] at h; cases h
  | some p => rw [e] at h; cases h; exact ⟨rfl, rfl⟩
theorem M.ret_eq {α : Type} {s s' : Sto} {a b : α} (h : M.ret a s = some (b, s')) : b = a ∧ s' = s := by
  cases h; exact ⟨rfl, rfl⟩

/-! ### what comes of an expression -/
section
variable {p : Pk} {φ φ' φ'' : List Addr} {F F' F'' H H' H'' H0 H1 : Hp} {st st' st'' : Sto}
/-- pk: seen in passing -/
def Got (p : Pk) (pk : Bool) (φ : List Addr) (F H H0 : Hp) (r : R) (v : V) : Prop := if pk then Seen p φ F H r.val v else Res p φ F H H0 r v
theorem Res.nx {r : R} {v : V} (h : Res p φ F H H0 r v) (n : Nx p φ F H φ' F' H' st') : Res p φ' F' H' H0 r v := by
  cases r with
  | fro t => exact Is.mono n.pre n.le _ _ h
  | own t =>
    obtain ⟨a, e, o, h0⟩ := h
    exact ⟨a, e, o.nx n, h0⟩
theorem Res.back {r : R} {v : V} (h : Res p φ F H H1 r v) (k : ∀ a, H1 a = none → H0 a = none) : Res p φ F H H0 r v := by
  cases r with
  | fro t => exact h
  | own t =>
    obtain ⟨a, e, o, h0⟩ := h
    exact ⟨a, e, o, k a h0⟩
theorem Got.of_res {pk : Bool} {r : R} {v : V} (h : Res p φ F H H0 r v) : Got p pk φ F H H0 r v := by
  cases pk with
  | true => exact h.saw
  | false => exact h
theorem Got.saw {pk : Bool} {r : R} {v : V} (h : Got p pk φ F H H0 r v) : Seen p φ F H r.val v := by
  cases pk with
  | true => exact h
  | false => exact Res.saw h
/-- what is wanted behind -/
def Wt (p : Pk) (pk : Bool) (φ : List Addr) (F H : Hp) (st' : Sto) (r : R) (Q : VK) : Prop := ∀ v φ' F' H', Nx p φ F H φ' F' H' st' → Got p pk φ' F' H' H r v → Q v H'
theorem Wt.post {pk : Bool} {r : R} {Q : VK} (w : Wt p pk φ F H st'' r Q) (hs : Sub F H) (n : Nx p φ F H φ' F' H' st') : Post p φ' F' H' st'' r Q :=
  fun v φ2 F2 H2 n2 g => w v φ2 F2 H2 (Nx.trans hs n n2) (Got.of_res (g.back fun a e => n.there hs e))
theorem Wt.sub {pk : Bool} {r : R} {Q : VK} {st2 : Sto} (w : Wt p pk φ F H st'' r Q) (hs : Sub F H) (n : Nx p φ F H φ' F' H' st') : Wt p pk φ' F' H' st'' r Q :=
  fun v φ2 F2 H2 n2 g => w v φ2 F2 H2 (Nx.trans hs n n2) (by
    cases pk with
    | true => exact g
    | false => exact Res.back g fun a e => n.there hs e)
end

section
variable (X : Cx) (cl : Nat → Addr) (G : Cfg) (C : Calls)
def sE (pk' : Bool) (e : E) : TE := fun σ H Q => ∃ ρ φ F st r st', Rel (pk X cl) φ F H ρ σ st ∧ denE G C pk' e ρ st = some (r, st') ∧ Wt (pk X cl) pk' φ F H st' r Q
def sA (es : Es) : TA := fun σ H Q => ∃ ρ φ F st ts st', Rel (pk X cl) φ F H ρ σ st ∧ denEs G C es ρ st = some (ts, st') ∧ ∀ vs φ' F' H', Nx (pk X cl) φ F H φ' F' H' st' → IsL (pk X cl) φ' F' ts vs → Q vs H'
def sT (e : E) : TT := fun σ H Q => ∃ ρ φ F st r st' b, Rel (pk X cl) φ F H ρ σ st ∧ denE G C false e ρ st = some (r, st') ∧ truth r = some b ∧ ∀ φ' F' H', Nx (pk X cl) φ F H φ' F' H' st' → Q b H'
/-- the judgements -/
def JE (pk' : Bool) (x : Expr) (e : E) : Prop := PE X x (sE X cl G C pk' e)
def JA (xs : List Expr) (es : Es) : Prop := PA X xs (sA X cl G C es)
def JT (x : Expr) (e : E) : Prop := PT X x (sT X cl G C e)
end
section
variable {X : Cx} {cl : Nat → Addr} {G : Cfg} {C : Calls}
theorem PE.imp {x : Expr} {t t' : TE} (h : PE X x t) (k : ∀ σ H Q, t' σ H Q → t σ H Q) : PE X x t' := ⟨fun pins s σ H Q I q => h.run pins s σ H Q I (k σ H Q q)⟩
theorem PA.imp {x : List Expr} {t t' : TA} (h : PA X x t) (k : ∀ σ H Q, t' σ H Q → t σ H Q) : PA X x t' := ⟨fun pos pins s σ H Q I q => h.run pos pins s σ H Q I (k σ H Q q)⟩
theorem PT.imp {x : Expr} {t t' : TT} (h : PT X x t) (k : ∀ σ H Q, t' σ H Q → t σ H Q) : PT X x t' := ⟨fun pins s σ H Q I q => h.run pins s σ H Q I (k σ H Q q)⟩
theorem PW.imp {x : Expr} {t t' : TT} (h : PW X x t) (k : ∀ σ H Q, t' σ H Q → t σ H Q) : PW X x t' := ⟨fun wh pins s σ H Q I q => h.run wh pins s σ H Q I (k σ H Q q)⟩
/-- a value at once -/
theorem now {pk' : Bool} {φ : List Addr} {F H : Hp} {ρ : Env} {σ : L2.St} {st : Sto} {t : T} {v : V} {Q : VK} (rel : Rel (pk X cl) φ F H ρ σ st) (w : Wt (pk X cl) pk' φ F H st (.fro t) Q) (i : Is (pk X cl) φ F t v) : Q v H :=
  w v φ F H rel.self (Got.of_res (r := .fro t) i)

variable {pk' : Bool} {pos : Pos} {x a b : Expr} {e ea eb : E}
theorem j_int {i : Int} {j pos'} : JE X cl G C pk' (.Constant (.int i) j pos') (.int i) := PE.imp pe_int fun σ H Q ⟨ρ, φ, F, st, r, st', rel, h, w⟩ => by
  obtain ⟨rfl, rfl⟩ := M.ret_eq (show M.ret _ _ = _ from h)
  exact now rel w rfl
theorem j_str {i : Str} {j pos'} : JE X cl G C pk' (.Constant (.str i) j pos') (.str i) := PE.imp pe_str fun σ H Q ⟨ρ, φ, F, st, r, st', rel, h, w⟩ => by
  obtain ⟨rfl, rfl⟩ := M.ret_eq (show M.ret _ _ = _ from h)
  exact now rel w rfl
theorem j_bl {i : Bool} {j pos'} : JE X cl G C pk' (.Constant (.bool i) j pos') (.bl i) := PE.imp pe_bl fun σ H Q ⟨ρ, φ, F, st, r, st', rel, h, w⟩ => by
  obtain ⟨rfl, rfl⟩ := M.ret_eq (show M.ret _ _ = _ from h)
  exact now rel w rfl
theorem j_non {j pos'} : JE X cl G C pk' (.Constant .none j pos') .non := PE.imp pe_non fun σ H Q ⟨ρ, φ, F, st, r, st', rel, h, w⟩ => by
  obtain ⟨rfl, rfl⟩ := M.ret_eq (show M.ret _ _ = _ from h)
  exact now rel w rfl
theorem j_var {i : Nat} {n : Str} (hN : X.N[i]? = some n) (hv : Vis X.env.scope n) (hd : (n == ("__debug__" : Str)) = false) (hcd : (n == ("__classdict__" : Str)) = false) : JE X cl G C pk' (.Name n pos) (.var i) :=
  PE.imp (pe_var hN hv hd hcd) fun σ H Q ⟨ρ, φ, F, st, r, st', rel, h, w⟩ => by
    obtain ⟨h1, rfl⟩ := M.of_eq (show M.of ((if pk' then Env.any ρ i else Env.fro ρ i).map R.fro) st = some (r, st') from h)
    obtain ⟨t, h2, rfl⟩ := Option.map_eq_some_iff.mp h1
    clear h h1
    have get : ∀ {s : Slot}, ρ[i]? = some s → ∃ v, σ[i]? = some v ∧ SlotOk (pk X cl) φ F H s v := fun {s} e => by
      have hlt : i < σ.length := by rw [← rel.len]; exact (List.getElem?_eq_some_iff.mp e).1
      exact ⟨σ[i], List.getElem?_eq_getElem hlt, rel.slot i s _ e (List.getElem?_eq_getElem hlt)⟩
    have frz : ∀ {t : T}, ρ[i]? = some (.fro t) → ∃ v, σ[i]? = some (some v) ∧ Is (pk X cl) φ F t v := fun {t} e => by
      obtain ⟨v, e1, u, e2, q⟩ := get e
      subst e2
      exact ⟨u, e1, q⟩
    cases pk' with
    | false =>
      have h : Env.fro ρ i = some t := h2
      unfold Env.fro at h
      split at h <;> (try contradiction)
      rename_i t' e1
      cases h
      obtain ⟨v, e2, q⟩ := frz e1
      exact ⟨v, e2, now rel w q⟩
    | true =>
      have h : Env.any ρ i = some t := h2
      unfold Env.any at h
      split at h <;> (try contradiction)
      · rename_i t' e1
        cases h
        obtain ⟨v, e2, q⟩ := frz e1
        exact ⟨v, e2, now rel w q⟩
      · rename_i t' e1
        cases h
        obtain ⟨v, e2, u, e3, q⟩ := get e1
        subst e3
        exact ⟨.ref u, e2, w _ φ F H rel.self (.inr ⟨u, rfl, q⟩)⟩
/-- a module's constant -/
theorem j_cst {n : Str} {t : T} {v : V} {u : Value} (hg : Gl X n) (hm : X.mg n = some u) (r : RelV v u) (hi : ∀ φ F, Is (pk X cl) φ F t v) (hd : (n == ("__debug__" : Str)) = false) : JE X cl G C pk' (.Name n pos) (.cst n t) :=
  PE.imp (pe_glob hg hm r hd) fun σ H Q ⟨ρ, φ, F, st, r, st', rel, h, w⟩ => by
    obtain ⟨rfl, rfl⟩ := M.ret_eq (show M.ret _ _ = _ from h)
    exact now rel w (hi φ F)

/-! ### argument lists, displays -/
theorem ja_nil : JA X cl G C [] .nil := PA.imp pa_nil fun σ H Q ⟨ρ, φ, F, st, ts, st', rel, h, w⟩ => by
  obtain ⟨rfl, rfl⟩ := M.ret_eq (show M.ret _ _ = _ from h)
  exact w [] φ F H rel.self .nil
theorem ja_cons {xs : List Expr} {es : Es} (h : JE X cl G C false x e) (hr : JA X cl G C xs es) (hs : starEach (x :: xs) X.env = (false, eval x X.env) :: starEach xs X.env) : JA X cl G C (x :: xs) (.cons e es) :=
  PA.imp (pa_cons h hr hs) fun σ H Q ⟨ρ, φ, F, st, ts, st', rel, h, w⟩ => by
    obtain ⟨r, st1, h1, h2⟩ := M.bind_eq (show M.bind (denE G C false e ρ) (fun x => M.bind (denEs G C es ρ) fun r => M.ret (x.val :: r)) st = some (ts, st') from h)
    obtain ⟨ts', st2, h3, h4⟩ := M.bind_eq h2
    obtain ⟨rfl, rfl⟩ := M.ret_eq h4
    refine ⟨ρ, φ, F, st, r, st1, rel, h1, fun v φ1 F1 H1 n1 g1 => ?_⟩
    obtain ⟨F1', n1', s1, i1⟩ := Res.freeze n1 rel.sub g1
    refine ⟨ρ, φ1, F1', st1, ts', _, rel.nx n1', h3, fun vs φ2 F2 H2 n2 g2 => ?_⟩
    exact w (v :: vs) φ2 F2 H2 (Nx.trans rel.sub n1' n2) (.cons (Is.mono n2.pre n2.le _ _ i1) g2)
theorem j_tup {xs : List Expr} {es : Es} {x1} (hr : JA X cl G C xs es) (hl : ∀ ρ st ts st', denEs G C es ρ st = some (ts, st') → ts.length ≤ 1000) : JE X cl G C pk' (.Tuple xs x1 pos) (.tup es) :=
  PE.imp (pe_tupN hr) fun σ H Q ⟨ρ, φ, F, st, r, st', rel, h, w⟩ => by
    obtain ⟨ts, st1, h1, h2⟩ := M.bind_eq (show M.bind (denEs G C es ρ) (fun ts => M.ret (.fro (.tup ts))) st = some (r, st') from h)
    obtain ⟨rfl, rfl⟩ := M.ret_eq h2
    refine ⟨ρ, φ, F, st, ts, _, rel, h1, fun vs φ1 F1 H1 n1 g1 => ⟨?_, fun p o hp ho => ?_⟩⟩
    · have := hl _ _ _ _ h1
      rw [← g1.length, sizeLine_eq]
      omega
    · obtain ⟨n, q⟩ := fro_tup (p := pk X cl) n1.sub n1.sto hp ho g1
      exact w.post rel.sub n1 _ _ _ _ n q
theorem j_lst {xs : List Expr} {es : Es} (hr : JA X cl G C xs es) (hl : ∀ ρ st ts st', denEs G C es ρ st = some (ts, st') → ts.length ≤ 1000) : JE X cl G C pk' (.List xs pos) (.lst es) :=
  PE.imp (pe_lst hr) fun σ H Q ⟨ρ, φ, F, st, r, st', rel, h, w⟩ => by
    obtain ⟨ts, st1, h1, h2⟩ := M.bind_eq (show M.bind (denEs G C es ρ) (fun ts => M.ret (.own (.lst ts))) st = some (r, st') from h)
    obtain ⟨rfl, rfl⟩ := M.ret_eq h2
    refine ⟨ρ, φ, F, st, ts, _, rel, h1, fun vs φ1 F1 H1 n1 g1 => ⟨?_, fun p hp => ?_⟩⟩
    · have := hl _ _ _ _ h1
      rw [← g1.length, sizeLine_eq]
      omega
    · obtain ⟨n, q⟩ := own_lst (p := pk X cl) n1.sub n1.sto hp g1
      exact w.post rel.sub n1 _ _ _ _ n q

/-! ### operators -/
theorem j_bop {o : Bop} (ha : JE X cl G C false a ea) (hb : JE X cl G C false b eb) : JE X cl G C pk' (.BinOp a (bopOf o) b pos) (.bop o ea eb) := by
  obtain ⟨r2, hr, hok⟩ := ok_bop (X := X) (cl := cl) o
  refine PE.imp (pe_op hr ha hb) fun σ H Q ⟨ρ, φ, F, st, r, st', rel, h, w⟩ => ?_
  obtain ⟨x, st1, h1, h2⟩ := M.bind_eq (show M.bind (denE G C false ea ρ) (fun x => M.bind (denE G C false eb ρ) fun y => M.of (bopR o x y)) st = some (r, st') from h)
  obtain ⟨y, st2, h3, h4⟩ := M.bind_eq h2
  obtain ⟨h5, rfl⟩ := M.of_eq h4
  refine ⟨ρ, φ, F, st, x, st1, rel, h1, fun vx φ1 F1 H1 n1 g1 => ⟨ρ, φ1, F1, st1, y, st', rel.nx n1, h3, fun vy φ2 F2 H2 n2 g2 => ?_⟩⟩
  exact hok φ2 F2 H2 st' x y r vx vy Q H H1 n2.sub n2.sto (Res.nx g1 n2) g2 h5 (w.post rel.sub (Nx.trans rel.sub n1 n2))
theorem j_neg (ha : JE X cl G C false a ea) : JE X cl G C pk' (.UnaryOp .USub a pos) (.neg ea) :=
  PE.imp (pe_un un_neg ha) fun σ H Q ⟨ρ, φ, F, st, r, st', rel, h, w⟩ => by
    obtain ⟨x, st1, h1, h2⟩ := M.bind_eq (show M.bind (denE G C false ea ρ) (fun x => M.of ((asInt x.val).map fun i => R.fro (.int (-i)))) st = some (r, st') from h)
    obtain ⟨h3, rfl⟩ := M.of_eq h2
    obtain ⟨i, h4, rfl⟩ := Option.map_eq_some_iff.mp h3
    refine ⟨ρ, φ, F, st, x, _, rel, h1, fun vx φ1 F1 H1 n1 g1 => ?_⟩
    have sx := Got.saw g1
    cases e : x.val with
    | int j =>
      rw [e] at h4 sx
      cases h4
      exact ⟨_, sx.int, (w.post rel.sub n1).int n1.sub n1.sto⟩
    | _ => rw [e] at h4; cases h4
theorem j_cmp {o : Cop} (hu : X.A.units + 64 < cLine) (ha : JE X cl G C true a ea) (hb : JE X cl G C true b eb) (hm : behindInMarks (copOf o) b = false) : JE X cl G C pk' (.Compare a [copOf o] [b] pos) (.cmp o ea eb) := by
  obtain ⟨r2, hr, hok⟩ := ok_cmp (X := X) (cl := cl) hu o
  refine PE.imp (pe_cmpR hr ha hb hm) fun σ H Q ⟨ρ, φ, F, st, r, st', rel, h, w⟩ => ?_
  obtain ⟨x, st1, h1, h2⟩ := M.bind_eq (show M.bind (denE G C true ea ρ) (fun x => M.bind (denE G C true eb ρ) fun y => M.of ((cmpD o x.val y.val).map fun b => R.fro (.bl b))) st = some (r, st') from h)
  obtain ⟨y, st2, h3, h4⟩ := M.bind_eq h2
  obtain ⟨h5, rfl⟩ := M.of_eq h4
  obtain ⟨bb, h6, rfl⟩ := Option.map_eq_some_iff.mp h5
  refine ⟨ρ, φ, F, st, x, st1, rel, h1, fun vx φ1 F1 H1 n1 g1 => ⟨ρ, φ1, F1, st1, y, st', rel.nx n1, h3, fun vy φ2 F2 H2 n2 g2 => ?_⟩⟩
  exact hok φ2 F2 H2 st' x.val y.val bb vx vy Q n2.sub n2.sto (Seen.nx n2 g1) g2 h6 ((w.post rel.sub (Nx.trans rel.sub n1 n2)).bl n2.sub n2.sto)
theorem non_iff {p : Pk} {φ : List Addr} {F H : Hp} : ∀ {t : T} {v : V}, Seen p φ F H t v → decide (v = .non) = isNon t
  | .non, v, h => by rw [h.non]; rfl
  | .bl b, v, h => by rw [h.bl]; rfl
  | .int b, v, h => by rw [h.int]; rfl
  | .str b, v, h => by rw [h.str]; rfl
  | .ref n, v, h => by obtain ⟨a, rfl, _⟩ := h.ref; rfl
  | .tup ts, v, h => by rcases h with ⟨a, xs, rfl, _⟩ | ⟨a, rfl, _⟩ <;> rfl
  | .lst ts, v, h => by rcases h with ⟨a, xs, rfl, _⟩ | ⟨a, rfl, _⟩ <;> rfl
  | .dct ks ts, v, h => by rcases h with ⟨a, xs, rfl, _⟩ | ⟨a, rfl, _⟩ <;> rfl
  | .obj c ks ts, v, h => by rcases h with ⟨a, d, xs, rfl, _⟩ | ⟨a, rfl, _⟩ <;> rfl
theorem j_isN {j pos'} (ha : JE X cl G C false a ea) : JE X cl G C pk' (.Compare a [.Is] [.Constant .none j pos'] pos) (.isN ea) :=
  PE.imp (pe_cmp (pc_isN ha) (nobehind _ (by decide) (by decide))) fun σ H Q ⟨ρ, φ, F, st, r, st', rel, h, w⟩ => by
    obtain ⟨x, st1, h1, h2⟩ := M.bind_eq (show M.bind (denE G C false ea ρ) (fun x => M.ret (R.fro (.bl (isNon x.val)))) st = some (r, st') from h)
    obtain ⟨rfl, rfl⟩ := M.ret_eq h2
    refine ⟨ρ, φ, F, st, x, _, rel, h1, fun vx φ1 F1 H1 n1 g1 => ?_⟩
    show Q (.bl (decide (vx = .non))) H1
    rw [non_iff (Got.saw g1)]
    exact (w.post rel.sub n1).bl n1.sub n1.sto
theorem j_notN {j pos'} (ha : JE X cl G C false a ea) : JE X cl G C pk' (.Compare a [.IsNot] [.Constant .none j pos'] pos) (.notN ea) :=
  PE.imp (pe_cmp (pc_notN ha) (nobehind _ (by decide) (by decide))) fun σ H Q ⟨ρ, φ, F, st, r, st', rel, h, w⟩ => by
    obtain ⟨x, st1, h1, h2⟩ := M.bind_eq (show M.bind (denE G C false ea ρ) (fun x => M.ret (R.fro (.bl (!isNon x.val)))) st = some (r, st') from h)
    obtain ⟨rfl, rfl⟩ := M.ret_eq h2
    refine ⟨ρ, φ, F, st, x, _, rel, h1, fun vx φ1 F1 H1 n1 g1 => ?_⟩
    show Q (.bl (!decide (vx = .non))) H1
    rw [non_iff (Got.saw g1)]
    exact (w.post rel.sub n1).bl n1.sub n1.sto
/-! ### and, or, not: as values, as tests -/
theorem truth_is {p : Pk} {φ : List Addr} {F H H0 : Hp} {r : R} {v : V} {b : Bool} (h : Res p φ F H H0 r v) (e : truth r = some b) : v = .bl b := by
  cases r with
  | own t => cases e
  | fro t =>
    cases t with
    | bl c => cases e; exact h
    | _ => cases e
theorem j_not (ha : JE X cl G C false a ea) : JE X cl G C pk' (.UnaryOp .Not a pos) (.not ea) :=
  PE.imp (pe_not ha) fun σ H Q ⟨ρ, φ, F, st, r, st', rel, h, w⟩ => by
    obtain ⟨x, st1, h1, h2⟩ := M.bind_eq (show M.bind (denE G C false ea ρ) (fun x => M.of ((truth x).map fun b => R.fro (.bl (!b)))) st = some (r, st') from h)
    obtain ⟨h3, rfl⟩ := M.of_eq h2
    obtain ⟨b, h4, rfl⟩ := Option.map_eq_some_iff.mp h3
    exact ⟨ρ, φ, F, st, x, _, rel, h1, fun vx φ1 F1 H1 n1 g1 => ⟨b, truth_is g1 h4, (w.post rel.sub n1).bl n1.sub n1.sto⟩⟩
/-- the rest of and, or: a value that the two share -/
theorem j_and {rest : List Expr} (ha : JE X cl G C false a ea) (hb : JE X cl G C false (.BoolOp .And (b :: rest) pos) eb) : JE X cl G C false (.BoolOp .And (a :: b :: rest) pos) (.and ea eb) :=
  PE.imp (pe_and ha hb) fun σ H Q ⟨ρ, φ, F, st, r, st', rel, h, w⟩ => by
    obtain ⟨x, st1, h1, h2⟩ := M.bind_eq (show M.bind (denE G C false ea ρ) (fun x => match truth x with
      | some true => denE G C false eb ρ
      | some false => M.ret (.fro (.bl false))
      | none => M.fail) st = some (r, st') from h)
    refine ⟨ρ, φ, F, st, x, st1, rel, h1, fun vx φ1 F1 H1 n1 g1 => ?_⟩
    cases e : truth x with
    | none => rw [e] at h2; cases h2
    | some c =>
      rw [e] at h2
      refine ⟨c, truth_is g1 e, ?_⟩
      cases c with
      | true => exact ⟨ρ, φ1, F1, st1, r, st', rel.nx n1, h2, Wt.sub (st2 := st) w rel.sub n1⟩
      | false =>
        obtain ⟨rfl, rfl⟩ := M.ret_eq h2
        exact (w.post rel.sub n1).bl n1.sub n1.sto
theorem j_or {rest : List Expr} (ha : JE X cl G C false a ea) (hb : JE X cl G C false (.BoolOp .Or (b :: rest) pos) eb) : JE X cl G C false (.BoolOp .Or (a :: b :: rest) pos) (.or ea eb) :=
  PE.imp (pe_or ha hb) fun σ H Q ⟨ρ, φ, F, st, r, st', rel, h, w⟩ => by
    obtain ⟨x, st1, h1, h2⟩ := M.bind_eq (show M.bind (denE G C false ea ρ) (fun x => match truth x with
      | some true => M.ret (.fro (.bl true))
      | some false => denE G C false eb ρ
      | none => M.fail) st = some (r, st') from h)
    refine ⟨ρ, φ, F, st, x, st1, rel, h1, fun vx φ1 F1 H1 n1 g1 => ?_⟩
    cases e : truth x with
    | none => rw [e] at h2; cases h2
    | some c =>
      rw [e] at h2
      refine ⟨c, truth_is g1 e, ?_⟩
      cases c with
      | false => exact ⟨ρ, φ1, F1, st1, r, st', rel.nx n1, h2, Wt.sub (st2 := st) w rel.sub n1⟩
      | true =>
        obtain ⟨rfl, rfl⟩ := M.ret_eq h2
        exact (w.post rel.sub n1).bl n1.sub n1.sto
theorem j_one {op} (ha : JE X cl G C false a ea) : JE X cl G C false (.BoolOp op [a] pos) ea := pe_one ha
end
end TL
end

section
set_option Elab.async false
set_option linter.all false
set_option maxRecDepth 100000
set_option maxHeartbeats 4000000
/-! Items, slices, built-ins, dicts, zips. -/
namespace TL
open PySem PySem.Spec PyProof.Rows L2

section
variable {X : Cx} {cl : Nat → Addr} {G : Cfg} {C : Calls} {pk' : Bool} {pos p p2 apos : Pos} {x a b d : Expr} {e ea eb ed : E}
theorem j_idx (hu : X.A.units + 1 < cLine) (ha : JE X cl G C true a ea) (hb : JE X cl G C false b eb) (hs : PlainIx b) : JE X cl G C pk' (.Subscript a b pos) (.idx ea eb) := by
  obtain ⟨r2, hr, hok⟩ := ok_idx (X := X) (cl := cl) hu
  refine PE.imp (pe_ix hr ha hb hs) fun σ H Q ⟨ρ, φ, F, st, r, st', rel, h, w⟩ => ?_
  obtain ⟨x, st1, h1, h2⟩ := M.bind_eq (show M.bind (denE G C true ea ρ) (fun x => M.bind (denE G C false eb ρ) fun k => fun s => match idxD s x.val k.val with
    | some t => some (R.fro t, s)
    | none => none) st = some (r, st') from h)
  obtain ⟨y, st2, h3, h4⟩ := M.bind_eq h2
  have h4 : (match idxD st2 x.val y.val with
    | some t => some (R.fro t, st2)
    | none => none) = some (r, st') := h4
  cases e : idxD st2 x.val y.val with
  | none => rw [e] at h4; cases h4
  | some t =>
    rw [e] at h4
    cases h4
    refine ⟨ρ, φ, F, st, x, st1, rel, h1, fun vx φ1 F1 H1 n1 g1 => ⟨ρ, φ1, F1, st1, y, _, rel.nx n1, h3, fun vy φ2 F2 H2 n2 g2 => ?_⟩⟩
    exact hok φ2 F2 H2 _ x.val y.val t vx vy Q n2.sub n2.sto (Seen.nx n2 g1) (Got.saw g2) e (w.post rel.sub (Nx.trans rel.sub n1 n2))
theorem asInt_is {p : Pk} {φ : List Addr} {F H : Hp} {t : T} {v : V} {i : Int} (h : Seen p φ F H t v) (e : asInt t = some i) : v = .int i := by
  cases t with
  | int j => cases e; exact h.int
  | _ => cases e
theorem j_slcL {lo : Expr} {elo : E} (ha : JE X cl G C true a ea) (hl : JE X cl G C false lo elo) : JE X cl G C pk' (.Subscript a (.Slice (some lo) none none p2) pos) (.slcL ea elo) := by
  obtain ⟨r2, hr, hok⟩ := ok_slc (X := X) (cl := cl)
  refine PE.imp (pe_slice hr ha (po_some hl) po_none) fun σ H Q ⟨ρ, φ, F, st, r, st', rel, h, w⟩ => ?_
  obtain ⟨x, st1, h1, h2⟩ := M.bind_eq (show M.bind (denE G C true ea ρ) (fun x => M.bind (denE G C false elo ρ) fun l => M.of ((asInt l.val).bind fun l => slcD x.val (some l) none)) st = some (r, st') from h)
  obtain ⟨y, st2, h3, h4⟩ := M.bind_eq h2
  obtain ⟨h5, rfl⟩ := M.of_eq h4
  obtain ⟨i, h6, h7⟩ := Option.bind_eq_some_iff.mp h5
  refine ⟨ρ, φ, F, st, x, st1, rel, h1, fun vx φ1 F1 H1 n1 g1 => ⟨ρ, φ1, F1, st1, y, _, rel.nx n1, h3, fun vy φ2 F2 H2 n2 g2 => ⟨i, asInt_is (Got.saw g2) h6, ?_⟩⟩⟩
  exact hok φ2 F2 H2 _ x.val (some i) none r vx Q n2.sub n2.sto (Seen.nx n2 g1) h7 (w.post rel.sub (Nx.trans rel.sub n1 n2))
theorem j_slcH {hi : Expr} {ehi : E} (ha : JE X cl G C true a ea) (hl : JE X cl G C false hi ehi) : JE X cl G C pk' (.Subscript a (.Slice none (some hi) none p2) pos) (.slcH ea ehi) := by
  obtain ⟨r2, hr, hok⟩ := ok_slc (X := X) (cl := cl)
  refine PE.imp (pe_slice hr ha po_none (po_some hl)) fun σ H Q ⟨ρ, φ, F, st, r, st', rel, h, w⟩ => ?_
  obtain ⟨x, st1, h1, h2⟩ := M.bind_eq (show M.bind (denE G C true ea ρ) (fun x => M.bind (denE G C false ehi ρ) fun h => M.of ((asInt h.val).bind fun h => slcD x.val none (some h))) st = some (r, st') from h)
  obtain ⟨y, st2, h3, h4⟩ := M.bind_eq h2
  obtain ⟨h5, rfl⟩ := M.of_eq h4
  obtain ⟨i, h6, h7⟩ := Option.bind_eq_some_iff.mp h5
  refine ⟨ρ, φ, F, st, x, st1, rel, h1, fun vx φ1 F1 H1 n1 g1 => ⟨ρ, φ1, F1, st1, y, _, rel.nx n1, h3, fun vy φ2 F2 H2 n2 g2 => ⟨i, asInt_is (Got.saw g2) h6, ?_⟩⟩⟩
  exact hok φ2 F2 H2 _ x.val none (some i) r vx Q n2.sub n2.sto (Seen.nx n2 g1) h7 (w.post rel.sub (Nx.trans rel.sub n1 n2))
theorem j_slcB {lo hi : Expr} {elo ehi : E} (ha : JE X cl G C true a ea) (hl : JE X cl G C false lo elo) (hh : JE X cl G C false hi ehi) : JE X cl G C pk' (.Subscript a (.Slice (some lo) (some hi) none p2) pos) (.slcB ea elo ehi) := by
  obtain ⟨r2, hr, hok⟩ := ok_slc (X := X) (cl := cl)
  refine PE.imp (pe_slice hr ha (po_some hl) (po_some hh)) fun σ H Q ⟨ρ, φ, F, st, r, st', rel, h, w⟩ => ?_
  obtain ⟨x, st1, h1, h2⟩ := M.bind_eq (show M.bind (denE G C true ea ρ) (fun x => M.bind (denE G C false elo ρ) fun l => M.bind (denE G C false ehi ρ) fun h => M.of ((asInt l.val).bind fun l => (asInt h.val).bind fun h => slcD x.val (some l) (some h))) st = some (r, st') from h)
  obtain ⟨y, st2, h3, h4⟩ := M.bind_eq h2
  obtain ⟨z, st3, h5, h6⟩ := M.bind_eq h4
  obtain ⟨h7, rfl⟩ := M.of_eq h6
  obtain ⟨i, h8, h9⟩ := Option.bind_eq_some_iff.mp h7
  obtain ⟨j, h10, h11⟩ := Option.bind_eq_some_iff.mp h9
  refine ⟨ρ, φ, F, st, x, st1, rel, h1, fun vx φ1 F1 H1 n1 g1 => ⟨ρ, φ1, F1, st1, y, _, rel.nx n1, h3, fun vy φ2 F2 H2 n2 g2 => ⟨i, asInt_is (Got.saw g2) h8, ρ, φ2, F2, st2, z, _, (rel.nx n1).nx n2, h5, fun vz φ3 F3 H3 n3 g3 => ⟨j, asInt_is (Got.saw g3) h10, ?_⟩⟩⟩⟩
  exact hok φ3 F3 H3 _ x.val (some i) (some j) r vx Q n3.sub n3.sto (Seen.nx n3 (Seen.nx n2 g1)) h11 (w.post rel.sub (Nx.trans rel.sub (Nx.trans rel.sub n1 n2) n3))

/-! ### built-ins of one argument -/
theorem j_bif_of {g : Sto → T → Option R} {f : Value} (hk : Cal1 X cl f g) {bb : Bif} (hg : ∀ s t, g s t = bifD s bb t) {y : Expr}
    (hp : ∀ r, CallR X f r → PE X y (tCB r (tCons (sE X cl G C true e) tNil))) : JE X cl G C pk' y (.bif bb e) := by
  obtain ⟨r1, hr, hok⟩ := hk
  refine PE.imp (hp r1 hr) fun σ H Q ⟨ρ, φ, F, st, r, st', rel, h, w⟩ => ?_
  obtain ⟨x, st1, h1, h2⟩ := M.bind_eq (show M.bind (denE G C true e ρ) (fun x => fun s => match bifD s bb x.val with
    | some r => some (r, s)
    | none => none) st = some (r, st') from h)
  have h2 : (match bifD st1 bb x.val with
    | some r => some (r, st1)
    | none => none) = some (r, st') := h2
  cases e : bifD st1 bb x.val with
  | none => rw [e] at h2; cases h2
  | some t =>
    rw [e] at h2
    cases h2
    refine ⟨ρ, φ, F, st, x, _, rel, h1, fun vx φ1 F1 H1 n1 g1 => ?_⟩
    exact hok φ1 F1 H1 _ x.val r vx Q n1.sub n1.sto g1 (by rw [hg]; exact e) (w.post rel.sub n1)
theorem j_len (hg : Gl X "len") (hm : X.mg "len" = none) (h : JE X cl G C true x e) (hs : starEach [x] X.env = (false, eval x X.env) :: starEach [] X.env) : JE X cl G C pk' (.Call (.Name "len" p) [x] [] pos) (.bif .len e) :=
  j_bif_of ok_len (fun _ _ => rfl) fun r hr => pe_callB hr hg hm boot_len (pa_cons h pa_nil hs) (he := hs)
theorem j_tuple (hc : X.calm = true) (hg : Gl X "tuple") (hm : X.mg "tuple" = none) (h : JE X cl G C true x e) (hs : starEach [x] X.env = (false, eval x X.env) :: starEach [] X.env) : JE X cl G C pk' (.Call (.Name "tuple" p) [x] [] pos) (.bif .tuple e) :=
  j_bif_of (ok_tuple hc) (fun _ _ => rfl) fun r hr => pe_callTy hr hg hm PyProof.Rows.boot_tuple (pa_cons h pa_nil hs) (he := hs)
theorem j_list (hg : Gl X "list") (hm : X.mg "list" = none) (h : JE X cl G C true x e) (hs : starEach [x] X.env = (false, eval x X.env) :: starEach [] X.env) : JE X cl G C pk' (.Call (.Name "list" p) [x] [] pos) (.bif .list e) :=
  j_bif_of ok_list (fun _ _ => rfl) fun r hr => pe_callTy hr hg hm PyProof.Rows.boot_list (pa_cons h pa_nil hs) (he := hs)
theorem j_dict (hc : X.calm = true) (hg : Gl X "dict") (hm : X.mg "dict" = none) (h : JE X cl G C true x e) (hs : starEach [x] X.env = (false, eval x X.env) :: starEach [] X.env) : JE X cl G C pk' (.Call (.Name "dict" p) [x] [] pos) (.bif .dict e) :=
  j_bif_of (ok_dict hc) (fun _ _ => rfl) fun r hr => pe_callTy hr hg hm PyProof.Rows.boot_dict (pa_cons h pa_nil hs) (he := hs)
theorem j_bint (hg : Gl X "int") (hm : X.mg "int" = none) (h : JE X cl G C true x e) (hs : starEach [x] X.env = (false, eval x X.env) :: starEach [] X.env) : JE X cl G C pk' (.Call (.Name "int" p) [x] [] pos) (.bif .int e) :=
  j_bif_of ok_bint (fun _ _ => rfl) fun r hr => pe_callTy hr hg hm (by decide +kernel) (pa_cons h pa_nil hs) (he := hs)
theorem j_sum (hc : X.calm = true) (hg : Gl X "sum") (hm : X.mg "sum" = none) (h : JE X cl G C true x e) (hs : starEach [x] X.env = (false, eval x X.env) :: starEach [] X.env) : JE X cl G C pk' (.Call (.Name "sum" p) [x] [] pos) (.bif .sum e) :=
  j_bif_of (ok_sum hc) (fun _ _ => rfl) fun r hr => pe_callB hr hg hm (by decide +kernel) (pa_cons h pa_nil hs) (he := hs)
theorem j_all (hc : X.calm = true) (hg : Gl X "all") (hm : X.mg "all" = none) (h : JE X cl G C true x e) (hs : starEach [x] X.env = (false, eval x X.env) :: starEach [] X.env) : JE X cl G C pk' (.Call (.Name "all" p) [x] [] pos) (.bif .all e) :=
  j_bif_of (ok_all hc) (fun _ _ => rfl) fun r hr => pe_callB hr hg hm (by decide +kernel) (pa_cons h pa_nil hs) (he := hs)

/-! ### isinstance(x, tuple) -/
def isTup : T → Option Bool
  | .tup _ => some true
  | .non | .bl _ | .int _ | .str _ => some false
  | _ => none
theorem tyX_of {K : PySem.W.Frag} {cl : Nat → Addr} {φ : List Addr} {F H : Hp} {t : T} {v : V} {bb : Bool} (hs : Sub F H) (h : Seen ⟨K, cl⟩ φ F H t v) (e : isTup t = some bb) : ∃ ty, TyX K H v ty ∧ PySem.W.kitOne K ty (.type "tuple") = some bb := by
  cases t with
  | non => cases e; rw [h.non]; exact ⟨_, .base .non, kit_ty (by decide +kernel)⟩
  | bl b => cases e; rw [h.bl]; exact ⟨_, .base (.bl b), kit_ty (by decide +kernel)⟩
  | int b => cases e; rw [h.int]; exact ⟨_, .base (.int b), kit_ty (by decide +kernel)⟩
  | str b => cases e; rw [h.str]; exact ⟨_, .base (.str b), kit_ty (by decide +kernel)⟩
  | tup ts =>
    cases e
    obtain ⟨a, xs, rfl, q, _⟩ := h.tupNI hs
    rcases q with ⟨o, q, _⟩ | ⟨o, its, n, hk, hc, _⟩
    · exact ⟨_, .fTuple q, kit_ty (by decide +kernel)⟩
    · exact ⟨_, .kTuple hk hc, kit_ty (by decide +kernel)⟩
  | _ => cases e
theorem j_isT (hg : Gl X "isinstance") (hm : X.mg "isinstance" = none) (hgt : Gl X "tuple") (hmt : X.mg "tuple" = none) (h : JE X cl G C false x e)
    (hs : starEach [x, .Name "tuple" p2] X.env = (false, eval x X.env) :: starEach [.Name "tuple" p2] X.env) : JE X cl G C pk' (.Call (.Name "isinstance" p) [x, .Name "tuple" p2] [] pos) (.isT e) := by
  refine PE.imp (pe_callB call_isi hg hm (by decide +kernel) (pa_cons h (pa_cons (pe_bltn (v := .ty "tuple") hgt hmt PyProof.Rows.boot_tuple rfl) pa_nil) hs) (he := hs)) fun σ H Q ⟨ρ, φ, F, st, r, st', rel, h, w⟩ => ?_
  obtain ⟨x, st1, h1, h2⟩ := M.bind_eq (show M.bind (denE G C false e ρ) (fun x => M.of (match x.val with
    | .tup _ => some (R.fro (.bl true))
    | .non | .bl _ | .int _ | .str _ => some (R.fro (.bl false))
    | _ => none)) st = some (r, st') from h)
  obtain ⟨h3, rfl⟩ := M.of_eq h2
  have h4 : ∃ bb, isTup x.val = some bb ∧ r = .fro (.bl bb) := by
    cases q : x.val with
    | tup ts => rw [q] at h3; cases h3; exact ⟨_, rfl, rfl⟩
    | non => rw [q] at h3; cases h3; exact ⟨_, rfl, rfl⟩
    | bl ts => rw [q] at h3; cases h3; exact ⟨_, rfl, rfl⟩
    | int ts => rw [q] at h3; cases h3; exact ⟨_, rfl, rfl⟩
    | str ts => rw [q] at h3; cases h3; exact ⟨_, rfl, rfl⟩
    | _ => rw [q] at h3; cases h3
  obtain ⟨bb, h5, rfl⟩ := h4
  refine ⟨ρ, φ, F, st, x, _, rel, h1, fun vx φ1 F1 H1 n1 g1 => ?_⟩
  obtain ⟨ty, k1, k2⟩ := tyX_of n1.sub (Got.saw g1) h5
  exact ⟨vx, .ty "tuple", ty, .type "tuple", bb, rfl, .ty _, k1, k2, (w.post rel.sub n1).bl n1.sub n1.sto⟩

/-! ### dicts -/
theorem dget_v {p : Pk} {φ : List Addr} {F : Hp} {kvs : List (Key × V)} {ts : List T} {k : Key} (r : IsL p φ F ts (kvs.map (·.2))) {t : T} {v : V} (i : Is p φ F t v) : Is p φ F ((look (kvs.map (·.1)) ts k).getD t) ((valV kvs k).getD v) := by
  cases e : look (kvs.map (·.1)) ts k with
  | none => rw [look_none r e]; exact i
  | some t => obtain ⟨v, e2, q⟩ := look_some r e; rw [e2]; exact q
theorem getD_is {p : Pk} {φ : List Addr} {F H : Hp} {td tk tz t : T} {d y z : V} (hs : Sub F H) (hd : Seen p φ F H td d) (hk : Seen p φ F H tk y) (hz : Is p φ F tz z) (e : getD td tk tz = some t) : ∃ a o, d = .ref a ∧ IsD H a ∧ DGet H a y o ∧ Is p φ F t (o.getD z) := by
  cases td with
  | dct ks ts =>
    obtain ⟨k, e1, e2⟩ := Option.map_eq_some_iff.mp (show (keyOf tk).map (fun k => (look ks ts k).getD tz) = some t from e)
    obtain ⟨a, kvs, rfl, k1, g, k2, r⟩ := dget_is hs hd hk e1
    subst k2 e2
    exact ⟨a, _, rfl, .inl ⟨kvs, k1⟩, g, dget_v r hz⟩
  | _ => cases e
theorem isD_seen {p : Pk} {φ : List Addr} {F H : Hp} {tk tz td t : T} {d : V} (hs : Sub F H) (hd : Seen p φ F H td d) (e : getD td tk tz = some t) : ∃ a, d = .ref a ∧ IsD H a := by
  cases td with
  | dct ks ts =>
    obtain ⟨a, kvs, rfl, k1, _⟩ := hd.dct hs
    exact ⟨a, rfl, .inl ⟨kvs, k1⟩⟩
  | _ => cases e
theorem j_get1 (hu : X.A.units + 1 < cLine) (hd : JE X cl G C false d ed) (hk : JE X cl G C false a ea) (m : M1 X d "get" apos a pos) : JE X cl G C pk' (.Call (.Attribute d "get" apos) [a] [] pos) (.get1 ed ea) :=
  PE.imp (pe_dget1 hu hd hk m) fun σ H Q ⟨ρ, φ, F, st, r, st', rel, h, w⟩ => by
    obtain ⟨x, st1, h1, h2⟩ := M.bind_eq (show M.bind (denE G C false ed ρ) (fun x => M.bind (denE G C false ea ρ) fun k => M.of ((getD x.val k.val .non).map R.fro)) st = some (r, st') from h)
    obtain ⟨y, st2, h3, h4⟩ := M.bind_eq h2
    obtain ⟨h5, rfl⟩ := M.of_eq h4
    obtain ⟨t, h6, rfl⟩ := Option.map_eq_some_iff.mp h5
    refine ⟨ρ, φ, F, st, x, st1, rel, h1, fun vx φ1 F1 H1 n1 g1 => ?_⟩
    obtain ⟨l, rfl, hD⟩ := isD_seen n1.sub (Got.saw g1) h6
    refine ⟨l, rfl, hD, ρ, φ1, F1, st1, y, _, rel.nx n1, h3, fun vy φ2 F2 H2 n2 g2 => ?_⟩
    obtain ⟨l', o, e, _, g, i⟩ := getD_is n2.sub (Seen.nx n2 (Got.saw g1)) (Got.saw g2) (tz := .non) (z := .non) rfl h6
    cases e
    exact ⟨o, g, Post.fro n2.sub n2.sto i (w.post rel.sub (Nx.trans rel.sub n1 n2))⟩
theorem j_get2 (hu : X.A.units + 1 < cLine) (hd : JE X cl G C false d ed) (hk : JE X cl G C false a ea) (hb : JE X cl G C false b eb) (m : M2 X d "get" apos a b pos) : JE X cl G C pk' (.Call (.Attribute d "get" apos) [a, b] [] pos) (.get2 ed ea eb) :=
  PE.imp (pe_dget2 hu hd hk hb m) fun σ H Q ⟨ρ, φ, F, st, r, st', rel, h, w⟩ => by
    obtain ⟨x, st1, h1, h2⟩ := M.bind_eq (show M.bind (denE G C false ed ρ) (fun x => M.bind (denE G C false ea ρ) fun k => M.bind (denE G C false eb ρ) fun z => M.of ((getD x.val k.val z.val).map R.fro)) st = some (r, st') from h)
    obtain ⟨y, st2, h3, h4⟩ := M.bind_eq h2
    obtain ⟨z, st3, h5, h6⟩ := M.bind_eq h4
    obtain ⟨h7, rfl⟩ := M.of_eq h6
    obtain ⟨t, h8, rfl⟩ := Option.map_eq_some_iff.mp h7
    refine ⟨ρ, φ, F, st, x, st1, rel, h1, fun vx φ1 F1 H1 n1 g1 => ?_⟩
    obtain ⟨l, rfl, hD⟩ := isD_seen n1.sub (Got.saw g1) h8
    refine ⟨l, rfl, hD, ρ, φ1, F1, st1, y, _, rel.nx n1, h3, fun vy φ2 F2 H2 n2 g2 => ⟨ρ, φ2, F2, st2, z, _, (rel.nx n1).nx n2, h5, fun vz φ3 F3 H3 n3 g3 => ?_⟩⟩
    obtain ⟨F3', n3', s3, i3⟩ := Res.freeze n3 n2.sub g3
    obtain ⟨l', o, e, _, g, i⟩ := getD_is n3'.sub (Seen.nx n3' (Seen.nx n2 (Got.saw g1))) (Seen.nx n3' (Got.saw g2)) i3 h8
    cases e
    exact ⟨o, g, Post.fro n3'.sub n3'.sto i (w.post rel.sub (Nx.trans rel.sub (Nx.trans rel.sub n1 n2) n3'))⟩
end
end TL
end

section
set_option Elab.async false
set_option linter.all false
set_option maxRecDepth 100000
set_option maxHeartbeats 4000000
/-! Zips, displays of dicts, join, fields, tests. -/
namespace TL
open PySem PySem.Spec PyProof.Rows L2

section
variable {X : Cx} {cl : Nat → Addr} {G : Cfg} {C : Calls} {pk' : Bool} {pos pos2 p p2 apos : Pos} {x a b d : Expr} {e ea eb ed : E}
/-! ### zips -/
theorem seq_kd {p : Pk} {φ : List Addr} {F H : Hp} {t : T} {ts : List T} {v : V} (hs : Sub F H) (h : Seen p φ F H t v) (e : seqOf t = some ts) : ∃ (l : Addr) (k : Kd) (xs : List V), v = .ref l ∧ k.SQ p.K H l xs ∧ IsL p φ F ts xs := by
  obtain ⟨l, xs, e1, q, r⟩ := h.seq hs e
  rcases q with q | q
  · exact ⟨l, .l, xs, e1, q, r⟩
  · exact ⟨l, .t, xs, e1, q, r⟩
/-- two arguments that are seen -/
theorem two_seen {φ : List Addr} {F H : Hp} {ρ : Env} {σ : L2.St} {st st1 st2 : Sto} {x y : R} {R' : List V → Hp → Prop} (rel : Rel (pk X cl) φ F H ρ σ st) (h1 : denE G C true ea ρ st = some (x, st1)) (h3 : denE G C true eb ρ st1 = some (y, st2))
    (k : ∀ vx vy φ' F' H', Nx (pk X cl) φ F H φ' F' H' st2 → Seen (pk X cl) φ' F' H' x.val vx → Seen (pk X cl) φ' F' H' y.val vy → R' [vx, vy] H') : tCons (sE X cl G C true ea) (tCons (sE X cl G C true eb) tNil) σ H R' :=
  ⟨ρ, φ, F, st, x, st1, rel, h1, fun vx φ1 F1 H1 n1 g1 => ⟨ρ, φ1, F1, st1, y, st2, rel.nx n1, h3, fun vy φ2 F2 H2 n2 g2 => k vx vy φ2 F2 H2 (Nx.trans rel.sub n1 n2) (Seen.nx n2 g1) g2⟩⟩
theorem zip_is {p : Pk} {φ : List Addr} {F : Hp} : ∀ {xs ys : List T} {us vs : List V}, IsL p φ F xs us → IsL p φ F ys vs → IsL p φ F ((xs.zip ys).map (·.1)) ((us.zip vs).map (·.1)) ∧ IsL p φ F ((xs.zip ys).map (·.2)) ((us.zip vs).map (·.2))
  | [], ys, _, _, h, _ => by rw [show _ = [] from h]; exact ⟨.nil, .nil⟩
  | x :: xs, [], _, _, h, k => by
    obtain ⟨u, r, rfl, _⟩ := h
    rw [show _ = [] from k]
    exact ⟨.nil, .nil⟩
  | x :: xs, y :: ys, _, _, h, k => by
    obtain ⟨u, r, rfl, h1, h2⟩ := h
    obtain ⟨v, r', rfl, k1, k2⟩ := k
    obtain ⟨q1, q2⟩ := zip_is h2 k2
    exact ⟨.cons h1 q1, .cons k1 q2⟩
/-- pairs laid are trees -/
theorem layT_is {p : Pk} {φ : List Addr} {st : Sto} : ∀ {F H : Hp} {ps : List (T × T)} {us : List (V × V)} {es : List (Addr × Obj)}, Sub F H → StoOk p φ F H st → IsL p φ F (ps.map (·.1)) (us.map (·.1)) → IsL p φ F (ps.map (·.2)) (us.map (·.2)) →
    es.length = us.length → (es.map (·.1)).Nodup → (∀ q ∈ es.map (·.1), H q = none) → (∀ e ∈ es, Bare e.2) →
    Nx p φ F H φ (layT F es us) (layT H es us) st ∧ IsL p φ (layT F es us) (ps.map pairT) (es.map fun e => .ref e.1)
  | F, H, ps, [], [], hs, ho, h1, h2, hl, hn, hf, hb => by
    cases ps with
    | nil => exact ⟨Nx.refl hs ho, .nil⟩
    | cons a b => obtain ⟨_, _, e, _⟩ := h1; cases e
  | F, H, ps, [], e :: es, hs, ho, h1, h2, hl, hn, hf, hb => by cases hl
  | F, H, ps, u :: us, [], hs, ho, h1, h2, hl, hn, hf, hb => by cases hl
  | F, H, [], u :: us, e :: es, hs, ho, h1, h2, hl, hn, hf, hb => by cases h1
  | F, H, t :: ps, (u, v) :: us, (a, o) :: es, hs, ho, h1, h2, hl, hn, hf, hb => by
    obtain ⟨u', r, e1, i1, i2⟩ := h1
    obtain ⟨v', r', e2, j1, j2⟩ := h2
    have f1 : u = u' := (List.cons.inj e1).1
    have f2 : us.map (·.1) = r := (List.cons.inj e1).2
    have f3 : v = v' := (List.cons.inj e2).1
    have f4 : us.map (·.2) = r' := (List.cons.inj e2).2
    subst f1 f2 f3 f4
    rw [List.map_cons, List.nodup_cons] at hn
    obtain ⟨n, q⟩ := layT_is (ps := ps) (us := us) (es := es) hs ho i2 j2 (Nat.succ.inj hl) hn.2 (fun q hq => hf q (List.mem_cons_of_mem _ hq)) (fun e he => hb e (List.mem_cons_of_mem _ he))
    have ha : layT H es us a = none := by rw [layT_out hn.1]; exact hf a List.mem_cons_self
    obtain ⟨n2, q2⟩ := fro_tup (p := p) n.sub n.sto ha (hb (a, o) List.mem_cons_self) (ts := [t.1, t.2]) (xs := [u, v]) (.cons (Is.mono n.pre n.le _ _ i1) (.cons (Is.mono n.pre n.le _ _ j1) .nil))
    exact ⟨Nx.trans hs n n2, .cons q2 (IsL.mono n2.pre n2.le _ _ q)⟩
theorem j_lzip (hc : X.calm = true) (hg : Gl X "zip") (hm : X.mg "zip" = none) (hgl : Gl X "list") (hml : X.mg "list" = none) (ha : JE X cl G C true a ea) (hb : JE X cl G C true b eb)
    (hs : starEach [a, b] X.env = (false, eval a X.env) :: starEach [b] X.env) (hs1 : starEach [b] X.env = (false, eval b X.env) :: starEach [] X.env) (hpl : (backTo pos (starEach [b] X.env)).any (·.1) = false)
    (hs2 : starEach [.Call (.Name "zip" p) [a, b] [] pos] X.env = (false, eval (.Call (.Name "zip" p) [a, b] [] pos) X.env) :: starEach [] X.env) :
    JE X cl G C pk' (.Call (.Name "list" p2) [.Call (.Name "zip" p) [a, b] [] pos] [] pos2) (.lzip ea eb) :=
  PE.imp (pe_lzip hc hg hm hgl hml (pa_cons ha (pa_cons hb pa_nil hs1) hs) hs hpl hs2) fun σ H Q ⟨ρ, φ, F, st, r, st', rel, h, w⟩ => by
    obtain ⟨x, st1, h1, h2⟩ := M.bind_eq (show M.bind (denE G C true ea ρ) (fun x => M.bind (denE G C true eb ρ) fun y => M.of ((zipD x.val y.val).map fun ps => R.own (.lst (ps.map pairT)))) st = some (r, st') from h)
    obtain ⟨y, st2, h3, h4⟩ := M.bind_eq h2
    obtain ⟨h5, rfl⟩ := M.of_eq h4
    obtain ⟨ps, h6, rfl⟩ := Option.map_eq_some_iff.mp h5
    unfold tLz tZ
    refine two_seen rel h1 h3 fun vx vy φ' F' H' n g1 g2 => ?_
    unfold zipD at h6
    split at h6 <;> (try contradiction)
    rename_i xs ys q1 q2
    cases h6
    obtain ⟨l1, k1, us, rfl, c1, i1⟩ := seq_kd n.sub g1 q1
    obtain ⟨l2, k2, vs, rfl, c2, i2⟩ := seq_kd n.sub g2 q2
    obtain ⟨z1, z2⟩ := zip_is i1 i2
    refine ⟨l1, l2, k1, k2, us, vs, rfl, c1, c2, fun es p hl hn hf hbr => ?_⟩
    rw [List.nodup_cons] at hn
    obtain ⟨n2, q⟩ := layT_is n.sub n.sto z1 z2 hl hn.2 (fun q hq => hf q (List.mem_cons_of_mem _ hq)) hbr
    have hp : layT H' es (us.zip vs) p = none := by rw [layT_out hn.1]; exact hf p List.mem_cons_self
    obtain ⟨n3, q3⟩ := own_lst (p := pk X cl) n2.sub n2.sto hp q
    exact w.post rel.sub (Nx.trans rel.sub n n2) _ _ _ _ n3 q3
theorem pairsOf_zip {p : Pk} {φ : List Addr} {F H : Hp} : ∀ {xs ys : List T} {us vs : List V} {qs : List (Key × T)}, pairsOf ((xs.zip ys).map pairT) = some qs → IsL p φ F xs us → IsL p φ F ys vs →
    ∃ kvs : List (Key × V), us.zip vs = kvs.map (fun kv => (kV kv.1, kv.2)) ∧ qs.map (·.1) = kvs.map (·.1) ∧ IsL p φ F (qs.map (·.2)) (kvs.map (·.2))
  | [], ys, _, _, qs, e, h, k => by
    rw [show _ = [] from h]
    cases e
    exact ⟨[], rfl, rfl, .nil⟩
  | x :: xs, [], _, _, qs, e, h, k => by
    obtain ⟨u, r, rfl, _⟩ := h
    rw [show _ = [] from k]
    cases e
    exact ⟨[], rfl, rfl, .nil⟩
  | x :: xs, y :: ys, _, _, qs, e, h, k => by
    obtain ⟨u, r, rfl, h1, h2⟩ := h
    obtain ⟨v, r', rfl, k1, k2⟩ := k
    have e : (match pairOf (pairT (x, y)), pairsOf ((xs.zip ys).map pairT) with
      | some p, some r => some (p :: r)
      | _, _ => none) = some qs := e
    cases e2 : pairsOf ((xs.zip ys).map pairT) with
    | none => rw [e2] at e; split at e <;> simp_all
    | some rs =>
      rw [e2] at e
      cases e1 : keyOf x with
      | none =>
        have : pairOf (pairT (x, y)) = none := by show (keyOf x).map _ = none; rw [e1]; rfl
        rw [this] at e; cases e
      | some k =>
        have : pairOf (pairT (x, y)) = some (k, y) := by show (keyOf x).map _ = _; rw [e1]; rfl
        rw [this] at e
        cases e
        obtain ⟨kvs, g1, g2, g3⟩ := pairsOf_zip (H := H) e2 h2 k2
        have ka : u = kV k := key_is (H := H) (.inl h1) e1
        subst ka
        exact ⟨(k, v) :: kvs, by rw [List.zip_cons_cons, g1]; rfl, by rw [List.map_cons, List.map_cons, g2], .cons k1 g3⟩
theorem j_dzip (hc : X.calm = true) (hg : Gl X "zip") (hm : X.mg "zip" = none) (hgl : Gl X "dict") (hml : X.mg "dict" = none) (ha : JE X cl G C true a ea) (hb : JE X cl G C true b eb)
    (hs : starEach [a, b] X.env = (false, eval a X.env) :: starEach [b] X.env) (hs1 : starEach [b] X.env = (false, eval b X.env) :: starEach [] X.env) (hpl : (backTo pos (starEach [b] X.env)).any (·.1) = false)
    (hs2 : starEach [.Call (.Name "zip" p) [a, b] [] pos] X.env = (false, eval (.Call (.Name "zip" p) [a, b] [] pos) X.env) :: starEach [] X.env) :
    JE X cl G C pk' (.Call (.Name "dict" p2) [.Call (.Name "zip" p) [a, b] [] pos] [] pos2) (.dzip ea eb) :=
  PE.imp (pe_dzip hc hg hm hgl hml (pa_cons ha (pa_cons hb pa_nil hs1) hs) hs hpl hs2) fun σ H Q ⟨ρ, φ, F, st, r, st', rel, h, w⟩ => by
    obtain ⟨x, st1, h1, h2⟩ := M.bind_eq (show M.bind (denE G C true ea ρ) (fun x => M.bind (denE G C true eb ρ) fun y => M.of ((zipD x.val y.val).bind fun ps => (pairsOf (ps.map pairT)).map fun qs => R.own (.dct (pairsIn qs [] []).1 (pairsIn qs [] []).2))) st = some (r, st') from h)
    obtain ⟨y, st2, h3, h4⟩ := M.bind_eq h2
    obtain ⟨h5, rfl⟩ := M.of_eq h4
    obtain ⟨ps, h6, h7⟩ := Option.bind_eq_some_iff.mp h5
    obtain ⟨qs, h8, rfl⟩ := Option.map_eq_some_iff.mp h7
    unfold tDz tZ
    refine two_seen rel h1 h3 fun vx vy φ' F' H' n g1 g2 => ?_
    unfold zipD at h6
    split at h6 <;> (try contradiction)
    rename_i xs ys q1 q2
    cases h6
    obtain ⟨l1, k1, us, rfl, c1, i1⟩ := seq_kd n.sub g1 q1
    obtain ⟨l2, k2, vs, rfl, c2, i2⟩ := seq_kd n.sub g2 q2
    obtain ⟨kvs, z1, z2, z3⟩ := pairsOf_zip (H := H') h8 i1 i2
    refine ⟨l1, l2, k1, k2, us, vs, rfl, c1, c2, kvs, z1, fun p hp => ?_⟩
    have g := pairsIn_is (acc := []) (ts := []) z2 z3 .nil
    obtain ⟨n3, q3⟩ := own_dct (p := pk X cl) n.sub n.sto hp g.1 g.2
    exact w.post rel.sub n _ _ _ _ n3 q3

/-! ### a dict of written pairs -/
/-- the pairs' trees: keys and values in turn -/
def trsOf (X : Cx) (cl : Nat → Addr) (G : Cfg) (C : Calls) : Es → List (TE × TE)
  | .cons k (.cons v es) => (sE X cl G C false k, sE X cl G C false v) :: trsOf X cl G C es
  | _ => []
theorem trs_go : ∀ (es : Es) {φ : List Addr} {F H : Hp} {ρ : Env} {σ : L2.St} {st st' : Sto} {ts : List T} {qs : List (Key × T)} {R' : List (V × V) → Hp → Prop}, Rel (pk X cl) φ F H ρ σ st → denEs G C es ρ st = some (ts, st') → altOf ts = some qs →
    (∀ φ' F' H' (kvs : List (Key × V)), Nx (pk X cl) φ F H φ' F' H' st' → qs.map (·.1) = kvs.map (·.1) → IsL (pk X cl) φ' F' (qs.map (·.2)) (kvs.map (·.2)) → R' (kvs.map fun kv => (kV kv.1, kv.2)) H') → tPairs (trsOf X cl G C es) σ H R'
  | .nil, φ, F, H, ρ, σ, st, st', ts, qs, R', rel, h, ha, k => by
    obtain ⟨rfl, rfl⟩ := M.ret_eq (show M.ret _ _ = _ from h)
    cases ha
    exact k φ F H [] rel.self rfl .nil
  | .cons e .nil, φ, F, H, ρ, σ, st, st', ts, qs, R', rel, h, ha, k => by
    obtain ⟨r, st1, h1, h2⟩ := M.bind_eq (show M.bind (denE G C false e ρ) (fun x => M.bind (M.ret []) fun r => M.ret (x.val :: r)) st = some (ts, st') from h)
    obtain ⟨r', st2, h3, h4⟩ := M.bind_eq h2
    obtain ⟨rfl, rfl⟩ := M.ret_eq h3
    obtain ⟨rfl, rfl⟩ := M.ret_eq h4
    cases ha
  | .cons ek (.cons ev es), φ, F, H, ρ, σ, st, st', ts, qs, R', rel, h, ha, k => by
    obtain ⟨rk, st1, h1, h2⟩ := M.bind_eq (show M.bind (denE G C false ek ρ) (fun x => M.bind (denEs G C (.cons ev es) ρ) fun r => M.ret (x.val :: r)) st = some (ts, st') from h)
    obtain ⟨r1, st2, h3, h4⟩ := M.bind_eq h2
    obtain ⟨rv, st3, h5, h6⟩ := M.bind_eq (show M.bind (denE G C false ev ρ) (fun x => M.bind (denEs G C es ρ) fun r => M.ret (x.val :: r)) st1 = some (r1, st2) from h3)
    obtain ⟨r2, st4, h7, h8⟩ := M.bind_eq h6
    obtain ⟨rfl, rfl⟩ := M.ret_eq h8
    obtain ⟨rfl, rfl⟩ := M.ret_eq h4
    have ha : (match keyOf rk.val, altOf r2 with
      | some k, some ps => some ((k, rv.val) :: ps)
      | _, _ => none) = some qs := ha
    cases e1 : keyOf rk.val with
    | none => rw [e1] at ha; cases ha
    | some kk =>
      cases e2 : altOf r2 with
      | none => rw [e1, e2] at ha; cases ha
      | some ps =>
        rw [e1, e2] at ha
        cases ha
        refine ⟨ρ, φ, F, st, rk, st1, rel, h1, fun vk φ1 F1 H1 n1 g1 => ⟨ρ, φ1, F1, st1, rv, st3, rel.nx n1, h5, fun vv φ2 F2 H2 n2 g2 => ?_⟩⟩
        obtain ⟨F2', n2', s2, i2⟩ := Res.freeze n2 n1.sub g2
        have kk' : vk = kV kk := key_is (Got.saw g1) e1
        subst kk'
        refine trs_go es ((rel.nx n1).nx n2') h7 e2 fun φ3 F3 H3 kvs n3 k1 k2 => ?_
        exact k φ3 F3 H3 ((kk, vv) :: kvs) (Nx.trans rel.sub (Nx.trans rel.sub n1 n2') n3) (by rw [List.map_cons, List.map_cons, k1]) (.cons (Is.mono n3.pre n3.le _ _ i2) k2)
/-- the written pairs are the ones meant -/
structure JPs (X : Cx) (cl : Nat → Addr) (G : Cfg) (C : Calls) (pos : Pos) (ks : List (Option Expr)) (vs : List Expr) (es : Es) : Prop where
  pps : PPs X pos ks vs (trsOf X cl G C es)
theorem jps_nil : JPs X cl G C pos [] [] .nil := ⟨pps_nil⟩
theorem jps_cons {k v : Expr} {ek ev : E} {ks : List (Option Expr)} {vs : List Expr} {es : Es} (hk : JE X cl G C false k ek) (hv : JE X cl G C false v ev) (r : JPs X cl G C pos ks vs es) : JPs X cl G C pos (some k :: ks) (v :: vs) (.cons ek (.cons ev es)) := ⟨pps_cons hk hv r.pps⟩
theorem j_dsp {ks : List (Option Expr)} {vs : List Expr} {es : Es} (hp : JPs X cl G C pos ks vs es) (hall : ks.all (·.isSome) = true) (hl : ks.length = vs.length) (h0 : ks ≠ []) (h15 : ks.length ≤ 15) : JE X cl G C pk' (.Dict ks vs pos) (.dsp es) :=
  PE.imp (pe_disp hp.pps hall hl h0 h15) fun σ H Q ⟨ρ, φ, F, st, r, st', rel, h, w⟩ => by
    obtain ⟨ts, st1, h1, h2⟩ := M.bind_eq (show M.bind (denEs G C es ρ) (fun ts => M.of ((altOf ts).bind fun ps => if ps.length ≤ 15 then some (R.own (.dct (pairsIn ps [] []).1 (pairsIn ps [] []).2)) else none)) st = some (r, st') from h)
    obtain ⟨h3, rfl⟩ := M.of_eq h2
    obtain ⟨qs, h4, h5⟩ := Option.bind_eq_some_iff.mp h3
    split at h5 <;> (try contradiction)
    rename_i hlen
    cases h5
    intro l hl0
    obtain ⟨n0, q0⟩ := own_dct (p := pk X cl) (kvs := []) (ts := []) rel.sub rel.sto hl0 rfl .nil
    refine trs_go es (rel.nx n0) h1 h4 fun φ' F' H' kvs n k1 k2 => ?_
    obtain ⟨_, e0, o0, _⟩ := q0
    cases e0
    have o1 := o0.nx n
    obtain ⟨f1, f2, kvs0, f3, f4, f5⟩ := o1
    have : kvs0 = [] := by
      cases kvs0 with
      | nil => rfl
      | cons a b => cases f4
    subst this
    have kl : kvs.length = qs.length := by
      have := congrArg List.length k1
      rw [List.length_map, List.length_map] at this
      exact this.symm
    refine ⟨f3, kvs, rfl, by omega, ?_⟩
    have g := pairsIn_is (acc := []) (ts := []) k1 k2 .nil
    -- the dict at l is one's own still
    have nn : Nx (pk X cl) φ F H φ' F' (upd H' l (.dK (mergeK [] kvs))) st' := by
      have nt := Nx.trans rel.sub n0 n
      refine ⟨nt.le, fun c o e hf hp => ?_, nt.new, nt.pre, nt.ext, fun c u e => ?_, ⟨nt.sto.1, nt.sto.2.1, nt.sto.2.2.1, fun k c ts e1 e2 => ?_⟩⟩
      · rw [upd_ne (ne_of_none e hl0)]
        exact nt.keep c o e hf hp
      · rw [upd_ne (fun q => by rw [q, f1] at e; cases e)]
        exact nt.sub c u e
      · obtain ⟨xs, e3, q⟩ := nt.sto.2.2.2 k c ts e1 e2
        exact ⟨xs, by rw [upd_ne (fun q => f2 (by rw [← q]; exact List.mem_of_getElem? e1))]; exact e3, q⟩
    exact w _ _ _ _ nn (Got.of_res (r := .own _) ⟨l, rfl, ⟨f1, f2, mergeK [] kvs, upd_same, g.1, g.2⟩, hl0⟩)
theorem j_dsp0 : JE X cl G C pk' (.Dict [] [] pos) (.dsp .nil) :=
  PE.imp pe_dnewK fun σ H Q ⟨ρ, φ, F, st, r, st', rel, h, w⟩ => by
    have h0 : some ((R.own (.dct [] []), st) : R × Sto) = some (r, st') := h
    cases h0
    intro l hl
    obtain ⟨n0, q0⟩ := own_dct (p := pk X cl) (kvs := []) (ts := []) rel.sub rel.sto hl rfl .nil
    exact w _ _ _ _ n0 (Got.of_res q0)
/-! ### ''.join(xs) -/
theorem str_empty_of {s : Str} (h : s.length = 0) : s = Str.empty := by
  obtain ⟨⟨l⟩⟩ := s
  have : l = [] := by
    have h : l.length = 0 := h
    exact List.eq_nil_of_length_eq_zero h
  subst this
  rfl
theorem join_is : ∀ (ss : List Str) (acc : Str), ss.foldl (· ++ ·) acc = acc ++ Str.join Str.empty ss
  | [], acc => by
    show acc = acc ++ Str.empty
    obtain ⟨⟨l⟩⟩ := acc
    show (⟨⟨l⟩⟩ : Str) = ⟨⟨l⟩ ++ #[]⟩
    simp
  | [x], acc => rfl
  | x :: y :: r, acc => by
    show (y :: r).foldl (· ++ ·) (acc ++ x) = acc ++ (x ++ Str.empty ++ Str.join Str.empty (y :: r))
    rw [join_is (y :: r) (acc ++ x)]
    obtain ⟨⟨l⟩⟩ := acc
    obtain ⟨⟨l2⟩⟩ := x
    generalize Str.join Str.empty (y :: r) = z
    obtain ⟨⟨l3⟩⟩ := z
    show (⟨(⟨l⟩ ++ ⟨l2⟩) ++ ⟨l3⟩⟩ : Str) = ⟨⟨l⟩ ++ ((⟨l2⟩ ++ #[]) ++ ⟨l3⟩)⟩
    simp
end
end TL
end

section
set_option Elab.async false
set_option linter.all false
set_option maxRecDepth 100000
set_option maxHeartbeats 4000000
/-! join, fields, calls, tests. -/
namespace TL
open PySem PySem.Spec PyProof.Rows L2

section
variable {X : Cx} {cl : Nat → Addr} {G : Cfg} {C : Calls} {pk' : Bool} {pos pos2 p p2 apos : Pos} {x a b d o : Expr} {e ea eb ed eo : E}
theorem j_join (ha : JE X cl G C false a ea) (hb : JE X cl G C true b eb) (hs : starEach [b] X.env = [(false, eval b X.env)]) (hbase : attributeBase a "join" X.env (eval a X.env) = eval a X.env) (hline : (apos.endLine == pos.line) = true) :
    JE X cl G C pk' (.Call (.Attribute a "join" apos) [b] [] pos) (.join ea eb) :=
  PE.imp (pe_join ha hb hs hbase hline) fun σ H Q ⟨ρ, φ, F, st, r, st', rel, h, w⟩ => by
    obtain ⟨x, st1, h1, h2⟩ := M.bind_eq (show M.bind (denE G C false ea ρ) (fun x => M.bind (denE G C true eb ρ) fun y => M.of ((joinD x.val y.val).map R.fro)) st = some (r, st') from h)
    obtain ⟨y, st2, h3, h4⟩ := M.bind_eq h2
    obtain ⟨h5, rfl⟩ := M.of_eq h4
    obtain ⟨t, h6, rfl⟩ := Option.map_eq_some_iff.mp h5
    unfold joinD at h6
    split at h6 <;> (try contradiction)
    rename_i z ts q1 q2
    split at h6 <;> (try contradiction)
    rename_i ss q3
    split at h6 <;> (try contradiction)
    rename_i hz
    cases h6
    refine ⟨ρ, φ, F, st, x, st1, rel, h1, fun vx φ1 F1 H1 n1 g1 => ?_⟩
    have sx := Got.saw g1
    rw [q1] at sx
    have ex := sx.str
    subst ex
    refine ⟨⟨z, rfl⟩, ρ, φ1, F1, st1, y, _, rel.nx n1, h3, fun vy φ2 F2 H2 n2 g2 => ?_⟩
    obtain ⟨l, xs, rfl, k1, r1⟩ := Seen.seq n2.sub g2 q2
    have ezs := strs_is r1 q3
    subst ezs
    refine ⟨z, l, ss, rfl, rfl, k1, ?_, ?_⟩
    · rw [hz.1, Nat.mul_zero]
      have := hz.2
      have e : (ss.map (·.length)).sum = (ss.map Str.length).sum := rfl
      omega
    · have ez := str_empty_of hz.1
      subst ez
      have e : (ss.foldl (· ++ ·) (⟨#[]⟩ : Str)) = Txt.join Str.empty ss := by
        rw [TL.join_is, join_eq]
        show (⟨#[] ++ (Str.join Str.empty ss).cps⟩ : Str) = _
        rw [Array.empty_append]
      rw [← e]
      exact (w.post rel.sub (Nx.trans rel.sub n1 n2)).str n2.sub n2.sto

/-! ### fields -/
theorem look_fs {p : Pk} {φ : List Addr} {F : Hp} {f : Str} {t : T} : ∀ {kvs : List (Str × V)} {ts : List T}, IsL p φ F ts (kvs.map (·.2)) → look ((kvs.map (·.1)).map Sum.inr) ts (.inr f) = some t → ∃ v, kvs.lookup f = some v ∧ Is p φ F t v
  | [], ts, h, e => by cases ts <;> cases e
  | (k, v) :: kvs, [], h, e => by cases e
  | (k, v) :: kvs, t' :: ts, h, e => by
    obtain ⟨x, r, e1, h1, h2⟩ := h
    have f1 : v = x := (List.cons.inj e1).1
    have f2 : kvs.map (·.2) = r := (List.cons.inj e1).2
    subst f1 f2
    have e : (if (Sum.inr k : Key) = .inr f then some t' else look ((kvs.map (·.1)).map Sum.inr) ts (.inr f)) = some t := e
    by_cases hk : k = f
    · subst hk
      rw [if_pos rfl] at e
      cases e
      refine ⟨v, ?_, h1⟩
      rw [List.lookup_cons]
      simp
    · rw [if_neg (fun q => hk (Sum.inr.inj q))] at e
      obtain ⟨v', e2, q⟩ := look_fs h2 e
      refine ⟨v', ?_, q⟩
      have : (f == k) = false := beq_eq_false_iff_ne.mpr (Ne.symm hk)
      rw [List.lookup_cons, this]
      exact e2
theorem j_fld {f : Str} (hb : attributeBase o f X.env (eval o X.env) = eval o X.env) (hc : ∀ c, Cls X.K (cl c) ∧ NoAttr X.K (cl c) f) (ho : JE X cl G C false o eo) : JE X cl G C pk' (.Attribute o f pos) (.fld eo f) :=
  PE.imp (pe_fld ho hb) fun σ H Q ⟨ρ, φ, F, st, r, st', rel, h, w⟩ => by
    obtain ⟨x, st1, h1, h2⟩ := M.bind_eq (show M.bind (denE G C false eo ρ) (fun x => match x.val with
      | .obj _ fs us => M.of ((look (fs.map Sum.inr) us (.inr f)).map R.fro)
      | _ => M.fail) st = some (r, st') from h)
    refine ⟨ρ, φ, F, st, x, st1, rel, h1, fun vx φ1 F1 H1 n1 g1 => ?_⟩
    have sx := Got.saw g1
    cases q : x.val with
    | obj c fs us =>
      rw [q] at h2 sx
      obtain ⟨h3, rfl⟩ := M.of_eq (show M.of ((look (fs.map Sum.inr) us (.inr f)).map R.fro) st1 = some (r, st') from h2)
      obtain ⟨t, h4, rfl⟩ := Option.map_eq_some_iff.mp h3
      obtain ⟨l, dx, kvs, rfl, k1, k2, r1⟩ := sx.obj n1.sub
      subst k2
      obtain ⟨v, e, i⟩ := look_fs r1 h4
      exact ⟨l, cl c, dx, kvs, v, rfl, k1, (hc c).1, (hc c).2, e, Post.fro n1.sub n1.sto i (w.post rel.sub n1)⟩
    | _ => rw [q] at h2; cases h2

/-! ### calls -/
/-- what a def promises -/
def spF (p : Pk) (C : Calls) (f : Nat) : Sp := fun vs H Q _ => ∃ φ F st ts r st', Sub F H ∧ StoOk p φ F H st ∧ IsL p φ F ts vs ∧ C f ts st = some (r, st') ∧ Post p φ F H st' r Q
/-- what an __init__ promises: x is the instance -/
def spI (p : Pk) (C : Calls) (f : Nat) : Sp := fun vs H Q _ => ∃ φ F H0 st x dx ts us c r st', H = upd (upd H0 dx (.own x)) x (.ins (p.cl c) dx []) ∧ H0 x = none ∧ H0 dx = none ∧ dx ≠ x ∧ vs = .ref x :: us ∧ Sub F H0 ∧ StoOk p φ F H0 st ∧ IsL p φ F ts us ∧
  C f (.obj c [] [] :: ts) st = some (r, st') ∧ ∀ φ' F' H', Nx p φ F H0 φ' F' H' st' → Res p φ' F' H' H0 r (.ref x) → Q .non H'
structure Callee (X : Cx) (k : Nat) (a : Addr) (sp : Sp) : Prop where
  ex : ∃ fd ps, FnOk X.prog X.w X.K X.mg X.base CX0 k a fd ps sp ∧ PySem.W.keepIn X.K (.ref a) = true ∧ Binds X.K fd ps []
variable {k : Nat} {f : Nat} {g : Addr} {n : Str} {xs : List Expr} {es : Es}
theorem j_call0 (hf : Callee X k g (spF (pk X cl) C f)) (hr : Room k X.A) (hg : Gl X n) (hm : X.mg n = some (.ref g)) (hd : (n == ("__debug__" : Str)) = false) : JE X cl G C pk' (.Call (.Name n p) [] [] pos) (.call f .nil) := by
  obtain ⟨fd, ps, F, hk, hb⟩ := hf.ex
  refine PE.imp (pe_call0 F hr hg hm hk hb .nil pass0 hd) fun σ H Q ⟨ρ, φ, F, st, r, st', rel, h, w⟩ => ?_
  exact ⟨φ, F, st, [], r, st', rel.sub, rel.sto, .nil, h, w.post rel.sub rel.self⟩
theorem j_call (hf : Callee X k g (spF (pk X cl) C f)) (hr : Room k X.A) (hg : Gl X n) (hm : X.mg n = some (.ref g)) (hd : (n == ("__debug__" : Str)) = false) (ha : JA X cl G C (x :: xs) es)
    (he : starEach (x :: xs) X.env = (false, eval x X.env) :: starEach xs X.env) (hpl : (backTo pos (starEach xs X.env)).any (·.1) = false) : JE X cl G C pk' (.Call (.Name n p) (x :: xs) [] pos) (.call f es) := by
  obtain ⟨fd, ps, F, hk, hb⟩ := hf.ex
  refine PE.imp (pe_call F hr hg hm hk hb .nil pass0 ha hd he hpl) fun σ H Q ⟨ρ, φ, F, st, r, st', rel, h, w⟩ => ?_
  obtain ⟨ts, st1, h1, h2⟩ := M.bind_eq (show M.bind (denEs G C es ρ) (fun ts => C f ts) st = some (r, st') from h)
  exact ⟨ρ, φ, F, st, ts, st1, rel, h1, fun vs φ1 F1 H1 n1 g1 => ⟨φ1, F1, st1, ts, r, st', n1.sub, n1.sto, by rw [List.append_nil]; exact g1, h2, w.post rel.sub n1⟩⟩
/-- o.m(..), the class of o as it comes -/
def tMethR (X : Cx) (m : Str) (k : Nat) (ta : TE) (t : TA) : TE := fun σ H Q => ta σ H fun x H1 => ∃ a C dx fs g sp, x = .ref a ∧ H1 a = some (.ins C dx fs) ∧ Cls X.K C ∧ Meth X.K C m g ∧ Callee X k g sp ∧ fs.lookup m = none ∧ t σ H1 fun vs H2 => sp (x :: vs) H2 Q E0
theorem pe_methR {m : Str} {pl : Sem Bool} {ta : TE} {t : TA} (ho : PE X o ta) (hr : Room k X.A) (ha : PA X (x :: xs) t) (hst : starEach (x :: xs) X.env = (false, eval x X.env) :: starEach xs X.env) (hpl : (backTo pos (starEach xs X.env)).any (·.1) = false)
    (ht : eval (.Call (.Attribute o m apos) (x :: xs) [] pos) X.env = (do
      let ov ← eval o X.env
      standAt apos.atName
      let (f, first) ← holding [ov] (getMethod ov m pl)
      callWith pos f first (backTo pos (starEach (x :: xs) X.env)) (backToKw pos (keywordEach [] X.env)))) : PE X (.Call (.Attribute o m apos) (x :: xs) [] pos) (tMethR X m k ta t) := by
  refine ⟨fun pins s σ H Q I h => PySem.W.methodCall_KW (pl := pl) (thn (ho.run pins s σ H _ I h) fun u s1 ⟨v, H1, I1, rx, a, c, dx, fs, g, sp, ex, ea, hc, hm, hf, l, q⟩ => ?_) ht⟩
  subst ex
  obtain rfl : u = Value.ref a := rx
  obtain ⟨fd, ps, F, hk, hb⟩ := hf.ex
  refine getmeth_ok I1 ea hc hm l ?_
  refine PySem.W.callWith_K (first := [.ref a]) (h₀ := X.base) I.ok.mod.kin hm.kp (thn (ha.run pos pins s1 σ H1 _ I1 q) fun us s2 ⟨vs, H2, I2, r, q2⟩ => ⟨I2.kIn, ?_⟩) hst hpl
  exact run_fn (us := .ref a :: us) (vs := .ref a :: vs) F hr hb .nil pass0 I2 (.cons rfl r) (by rw [List.append_nil]; exact q2)
theorem pe_methR0 {m : Str} {pl : Sem Bool} {ta : TE} (ho : PE X o ta) (hr : Room k X.A)
    (ht : eval (.Call (.Attribute o m apos) [] [] pos) X.env = (do
      let ov ← eval o X.env
      standAt apos.atName
      let (f, first) ← holding [ov] (getMethod ov m pl)
      callWith pos f first (backTo pos (starEach [] X.env)) (backToKw pos (keywordEach [] X.env)))) : PE X (.Call (.Attribute o m apos) [] [] pos) (tMethR X m k ta tNil) := by
  refine ⟨fun pins s σ H Q I h => PySem.W.methodCall_KW (pl := pl) (thn (ho.run pins s σ H _ I h) fun u s1 ⟨v, H1, I1, rx, a, c, dx, fs, g, sp, ex, ea, hc, hm, hf, l, q⟩ => ?_) ht⟩
  subst ex
  obtain rfl : u = Value.ref a := rx
  obtain ⟨fd, ps, F, hk, hb⟩ := hf.ex
  refine getmeth_ok I1 ea hc hm l ?_
  exact PySem.W.callWith_K0 (first := [.ref a]) I1.kIn hm.kp (run_fn (us := [.ref a]) (vs := [.ref a]) F hr hb .nil pass0 I1 (.cons rfl .nil) (by rw [List.append_nil]; exact q))
theorem nolook {fs : List Str} {m : Str} {kvs : List (Str × V)} (h : kvs.map (·.1) = fs) (hn : fs.all (fun f => decide (f ≠ m)) = true) : kvs.lookup m = none := by
  subst h
  induction kvs with
  | nil => rfl
  | cons q r ih =>
    rw [List.map_cons, List.all_cons, Bool.and_eq_true, decide_eq_true_eq] at hn
    have : (m == q.1) = false := beq_eq_false_iff_ne.mpr (Ne.symm hn.1)
    rw [List.lookup_cons, this]
    exact ih hn.2
/-- a method's call on trees -/
theorem meth_go {m : Str} {es : Es} {t : TA} (ho : ∀ c f, G.meth c m = some f → ∃ g, Cls X.K (cl c) ∧ Meth X.K (cl c) m g ∧ Callee X k g (spF (pk X cl) C f)) (ht : ∀ σ H Q, sA X cl G C es σ H Q → t σ H Q) :
    ∀ σ H Q, sE X cl G C pk' (.meth eo m es) σ H Q → tMethR X m k (sE X cl G C false eo) t σ H Q := fun σ H Q ⟨ρ, φ, F, st, r, st', rel, h, w⟩ => by
  obtain ⟨x, st1, h1, h2⟩ := M.bind_eq (show M.bind (denE G C false eo ρ) (fun x => M.bind (denEs G C es ρ) fun ts => match x.val with
    | .obj c fs us => (if fs.all (fun f => decide (f ≠ m)) then (match G.meth c m with
      | some f => C f (.obj c fs us :: ts)
      | none => M.fail) else M.fail)
    | _ => M.fail) st = some (r, st') from h)
  obtain ⟨ts, st2, h3, h4⟩ := M.bind_eq h2
  refine ⟨ρ, φ, F, st, x, st1, rel, h1, fun vx φ1 F1 H1 n1 g1 => ?_⟩
  obtain ⟨F1', n1', s1, i1⟩ := Res.freeze n1 rel.sub g1
  cases q : x.val with
  | obj c fs us =>
    rw [q] at h4 i1
    have h4 : (if fs.all (fun f => decide (f ≠ m)) = true then (match G.meth c m with
      | some f => C f (.obj c fs us :: ts)
      | none => M.fail) else M.fail) st2 = some (r, st') := h4
    by_cases hn : fs.all (fun f => decide (f ≠ m)) = true
    · rw [if_pos hn] at h4
      cases e : G.meth c m with
      | none => rw [e] at h4; cases h4
      | some f =>
        rw [e] at h4
        obtain ⟨g, c1, c2, c3⟩ := ho c f e
        obtain ⟨l, dx, kvs, rfl, k1, k2, r1⟩ := i1
        refine ⟨l, cl c, dx, kvs, g, _, rfl, n1'.sub _ _ k1, c1, c2, c3, nolook k2 hn, ht _ _ _ ⟨ρ, φ1, F1', st1, ts, st2, rel.nx n1', h3, fun vs φ2 F2 H2 n2 g2 => ?_⟩⟩
        have i2 : Is (pk X cl) φ2 F2 (.obj c fs us) (.ref l) := Is.mono n2.pre n2.le (.obj c fs us) _ ⟨l, dx, kvs, rfl, k1, k2, r1⟩
        exact ⟨φ2, F2, st2, _, r, st', n2.sub, n2.sto, .cons i2 g2, h4, w.post rel.sub (Nx.trans rel.sub n1' n2)⟩
    · rw [if_neg hn] at h4; cases h4
  | _ => rw [q] at h4; cases h4
theorem j_meth {m : Str} {pl : Sem Bool} (hm : ∀ c f, G.meth c m = some f → ∃ g, Cls X.K (cl c) ∧ Meth X.K (cl c) m g ∧ Callee X k g (spF (pk X cl) C f)) (hr : Room k X.A) (ho : JE X cl G C false o eo) (ha : JA X cl G C (x :: xs) es)
    (hst : starEach (x :: xs) X.env = (false, eval x X.env) :: starEach xs X.env) (hpl : (backTo pos (starEach xs X.env)).any (·.1) = false)
    (ht : eval (.Call (.Attribute o m apos) (x :: xs) [] pos) X.env = (do
      let ov ← eval o X.env
      standAt apos.atName
      let (f, first) ← holding [ov] (getMethod ov m pl)
      callWith pos f first (backTo pos (starEach (x :: xs) X.env)) (backToKw pos (keywordEach [] X.env)))) : JE X cl G C pk' (.Call (.Attribute o m apos) (x :: xs) [] pos) (.meth eo m es) :=
  PE.imp (pe_methR (k := k) ho hr ha hst hpl ht) (meth_go hm fun _ _ _ q => q)
theorem j_meth0 {m : Str} {pl : Sem Bool} (hm : ∀ c f, G.meth c m = some f → ∃ g, Cls X.K (cl c) ∧ Meth X.K (cl c) m g ∧ Callee X k g (spF (pk X cl) C f)) (hr : Room k X.A) (ho : JE X cl G C false o eo)
    (ht : eval (.Call (.Attribute o m apos) [] [] pos) X.env = (do
      let ov ← eval o X.env
      standAt apos.atName
      let (f, first) ← holding [ov] (getMethod ov m pl)
      callWith pos f first (backTo pos (starEach [] X.env)) (backToKw pos (keywordEach [] X.env)))) : JE X cl G C pk' (.Call (.Attribute o m apos) [] [] pos) (.meth eo m .nil) :=
  PE.imp (pe_methR0 (k := k) ho hr ht) (meth_go hm fun σ H Q ⟨ρ, φ, F, st, ts, st', rel, h, w⟩ => by
    obtain ⟨rfl, rfl⟩ := M.ret_eq (show M.ret _ _ = _ from h)
    exact w [] φ F H rel.self .nil)
/-- C(..) -/
theorem j_mk {c : Nat} {fi : Nat} (hi : G.init c = some fi) (hf : Callee X k g (spI (pk X cl) C fi)) (mk : Mk X.K (cl c) g) (hr : Room (k + 1) X.A) (hg : Gl X n) (hm : X.mg n = some (.ref (cl c))) (hd : (n == ("__debug__" : Str)) = false) (ha : JA X cl G C (x :: xs) es)
    (he : starEach (x :: xs) X.env = (false, eval x X.env) :: starEach xs X.env) (hpl : (backTo pos (starEach xs X.env)).any (·.1) = false) : JE X cl G C pk' (.Call (.Name n p) (x :: xs) [] pos) (.mk c es) := by
  obtain ⟨fd, ps, F, hk, hb⟩ := hf.ex
  refine PE.imp (pe_make mk F hr hg hm hb .nil pass0 ha hd he hpl) fun σ H Q ⟨ρ, φ, F, st, r, st', rel, h, w⟩ => ?_
  obtain ⟨ts, st1, h1, h2⟩ := M.bind_eq (show M.bind (denEs G C es ρ) (fun ts => match G.init c with
    | some f => C f (.obj c [] [] :: ts)
    | none => M.fail) st = some (r, st') from h)
  rw [hi] at h2
  refine ⟨ρ, φ, F, st, ts, st1, rel, h1, fun vs φ1 F1 H1 n1 g1 l dx hl hdx hne => ?_⟩
  refine ⟨φ1, F1, H1, st1, l, dx, ts, vs, c, r, st', rfl, hl, hdx, hne, by rw [List.append_nil], n1.sub, n1.sto, g1, h2, fun φ2 F2 H2 n2 q2 => ⟨rfl, ?_⟩⟩
  exact w.post rel.sub n1 (.ref l) φ2 F2 H2 n2 q2

/-! ### tests -/
/-- what 'if' and 'while' ask, of anything but and, or, not, comparisons -/
theorem jt_val (h : JE X cl G C false x e) (he : ∀ whole, isTrue x X.env whole = (do let v ← whole; standAt x.pos; holding [v] (truthy v))) : JT X cl G C x e :=
  PT.imp (pt_val h he) fun σ H Q ⟨ρ, φ, F, st, r, st', b, rel, h, hb, w⟩ => ⟨ρ, φ, F, st, r, st', rel, h, fun v φ' F' H' n g => ⟨b, truth_is g hb, w φ' F' H' n⟩⟩
theorem jt_cmp {op : CmpOp} {r2 : R2} (hp : PT X (.Compare a [op] [b] pos) (tTest (sE X cl G C false e))) : JT X cl G C (.Compare a [op] [b] pos) e :=
  PT.imp hp fun σ H Q ⟨ρ, φ, F, st, r, st', bb, rel, h, hb, w⟩ => ⟨ρ, φ, F, st, r, st', rel, h, fun v φ' F' H' n g => ⟨bb, truth_is g hb, w φ' F' H' n⟩⟩
theorem jt_not (h : JT X cl G C a ea) : JT X cl G C (.UnaryOp .Not a pos) (.not ea) :=
  PT.imp (pt_not h) fun σ H Q ⟨ρ, φ, F, st, r, st', b, rel, h, hb, w⟩ => by
    obtain ⟨x, st1, h1, h2⟩ := M.bind_eq (show M.bind (denE G C false ea ρ) (fun x => M.of ((truth x).map fun b => R.fro (.bl (!b)))) st = some (r, st') from h)
    obtain ⟨h3, rfl⟩ := M.of_eq h2
    obtain ⟨b', h4, rfl⟩ := Option.map_eq_some_iff.mp h3
    cases hb
    exact ⟨ρ, φ, F, st, x, _, b', rel, h1, h4, w⟩
/-- a test of several, whatever its whole is -/
def JW (X : Cx) (cl : Nat → Addr) (G : Cfg) (C : Calls) (x : Expr) (e : E) : Prop := PW X x (sT X cl G C e)
theorem jw_and1 (h : JT X cl G C a ea) : JW X cl G C (.BoolOp .And [a] pos) ea := pw_and1 h
theorem jw_or1 (h : JT X cl G C a ea) : JW X cl G C (.BoolOp .Or [a] pos) ea := pw_or1 h
theorem jw_and {rest : List Expr} (ha : JT X cl G C a ea) (hb : JW X cl G C (.BoolOp .And (b :: rest) pos) eb) : JW X cl G C (.BoolOp .And (a :: b :: rest) pos) (.and ea eb) :=
  PW.imp (pw_and ha hb) fun σ H Q ⟨ρ, φ, F, st, r, st', bb, rel, h, hb, w⟩ => by
    obtain ⟨x, st1, h1, h2⟩ := M.bind_eq (show M.bind (denE G C false ea ρ) (fun x => match truth x with
      | some true => denE G C false eb ρ
      | some false => M.ret (.fro (.bl false))
      | none => M.fail) st = some (r, st') from h)
    cases e : truth x with
    | none => rw [e] at h2; cases h2
    | some c =>
      rw [e] at h2
      refine ⟨ρ, φ, F, st, x, st1, c, rel, h1, e, fun φ1 F1 H1 n1 => ?_⟩
      cases c with
      | true =>
        rw [if_pos rfl]
        exact ⟨ρ, φ1, F1, st1, r, st', bb, rel.nx n1, h2, hb, fun φ2 F2 H2 n2 => w φ2 F2 H2 (Nx.trans rel.sub n1 n2)⟩
      | false =>
        obtain ⟨rfl, rfl⟩ := M.ret_eq h2
        cases hb
        rw [if_neg Bool.false_ne_true]
        exact w φ1 F1 H1 n1
theorem jw_or {rest : List Expr} (ha : JT X cl G C a ea) (hb : JW X cl G C (.BoolOp .Or (b :: rest) pos) eb) : JW X cl G C (.BoolOp .Or (a :: b :: rest) pos) (.or ea eb) :=
  PW.imp (pw_or ha hb) fun σ H Q ⟨ρ, φ, F, st, r, st', bb, rel, h, hb, w⟩ => by
    obtain ⟨x, st1, h1, h2⟩ := M.bind_eq (show M.bind (denE G C false ea ρ) (fun x => match truth x with
      | some true => M.ret (.fro (.bl true))
      | some false => denE G C false eb ρ
      | none => M.fail) st = some (r, st') from h)
    cases e : truth x with
    | none => rw [e] at h2; cases h2
    | some c =>
      rw [e] at h2
      refine ⟨ρ, φ, F, st, x, st1, c, rel, h1, e, fun φ1 F1 H1 n1 => ?_⟩
      cases c with
      | false =>
        rw [if_neg Bool.false_ne_true]
        exact ⟨ρ, φ1, F1, st1, r, st', bb, rel.nx n1, h2, hb, fun φ2 F2 H2 n2 => w φ2 F2 H2 (Nx.trans rel.sub n1 n2)⟩
      | true =>
        obtain ⟨rfl, rfl⟩ := M.ret_eq h2
        cases hb
        rw [if_pos rfl]
        exact w φ1 F1 H1 n1
theorem JW.jt (h : JW X cl G C x e) : JT X cl G C x e := h.pt
end
end TL
end

section
set_option Elab.async false
set_option linter.all false
set_option maxRecDepth 100000
set_option maxHeartbeats 4000000
/-! Tests of comparisons; targets; what a loop goes through. -/
namespace TL
open PySem PySem.Spec PyProof.Rows L2

section
variable {X : Cx} {cl : Nat → Addr} {G : Cfg} {C : Calls} {pk' : Bool} {pos pos2 p p2 apos : Pos} {x a b d o : Expr} {e ea eb ed eo : E}
theorem sT_sE {σ : L2.St} {H : Hp} {Q : Bool → Hp → Prop} (h : sT X cl G C e σ H Q) : sE X cl G C false e σ H fun v H1 => ∃ c, v = .bl c ∧ Q c H1 := by
  obtain ⟨ρ, φ, F, st, r, st', b, rel, h, hb, w⟩ := h
  exact ⟨ρ, φ, F, st, r, st', rel, h, fun v φ' F' H' n g => ⟨b, truth_is g hb, w φ' F' H' n⟩⟩
theorem cmp_go {op : Cop} {r2 : R2} (hok : ∀ φ F H st a b res x y Q, Sub F H → StoOk (pk X cl) φ F H st → Seen (pk X cl) φ F H a x → Seen (pk X cl) φ F H b y → cmpD op a b = some res → Q (.bl res) H → r2 x y H Q) :
    ∀ σ H Q, sE X cl G C pk' (.cmp op ea eb) σ H Q → tOp r2 (sE X cl G C true ea) (sE X cl G C true eb) σ H Q := fun σ H Q ⟨ρ, φ, F, st, r, st', rel, h, w⟩ => by
  obtain ⟨x, st1, h1, h2⟩ := M.bind_eq (show M.bind (denE G C true ea ρ) (fun x => M.bind (denE G C true eb ρ) fun y => M.of ((cmpD op x.val y.val).map fun b => R.fro (.bl b))) st = some (r, st') from h)
  obtain ⟨y, st2, h3, h4⟩ := M.bind_eq h2
  obtain ⟨h5, rfl⟩ := M.of_eq h4
  obtain ⟨bb, h6, rfl⟩ := Option.map_eq_some_iff.mp h5
  refine ⟨ρ, φ, F, st, x, st1, rel, h1, fun vx φ1 F1 H1 n1 g1 => ⟨ρ, φ1, F1, st1, y, st', rel.nx n1, h3, fun vy φ2 F2 H2 n2 g2 => ?_⟩⟩
  exact hok φ2 F2 H2 st' x.val y.val bb vx vy Q n2.sub n2.sto (Seen.nx n2 g1) g2 h6 ((w.post rel.sub (Nx.trans rel.sub n1 n2)).bl n2.sub n2.sto)
theorem jt_cmp' {op : Cop} (hu : X.A.units + 64 < cLine) (ha : JE X cl G C true a ea) (hb : JE X cl G C true b eb) (hm : behindInMarks (copOf op) b = false) : JT X cl G C (.Compare a [copOf op] [b] pos) (.cmp op ea eb) := by
  obtain ⟨r2, hr, hok⟩ := ok_cmp (X := X) (cl := cl) hu op
  exact PT.imp (pt_cmpR hr ha hb hm) fun σ H Q h => cmp_go hok σ H _ (sT_sE h)
theorem isN_go (σ : L2.St) (H : Hp) (Q : VK) (h : sE X cl G C pk' (.isN ea) σ H Q) : tIsN (sE X cl G C false ea) σ H Q := by
  obtain ⟨ρ, φ, F, st, r, st', rel, h, w⟩ := h
  obtain ⟨x, st1, h1, h2⟩ := M.bind_eq (show M.bind (denE G C false ea ρ) (fun x => M.ret (R.fro (.bl (isNon x.val)))) st = some (r, st') from h)
  obtain ⟨rfl, rfl⟩ := M.ret_eq h2
  refine ⟨ρ, φ, F, st, x, _, rel, h1, fun vx φ1 F1 H1 n1 g1 => ?_⟩
  show Q (.bl (decide (vx = .non))) H1
  rw [non_iff (Got.saw g1)]
  exact (w.post rel.sub n1).bl n1.sub n1.sto
theorem notN_go (σ : L2.St) (H : Hp) (Q : VK) (h : sE X cl G C pk' (.notN ea) σ H Q) : tNotN (sE X cl G C false ea) σ H Q := by
  obtain ⟨ρ, φ, F, st, r, st', rel, h, w⟩ := h
  obtain ⟨x, st1, h1, h2⟩ := M.bind_eq (show M.bind (denE G C false ea ρ) (fun x => M.ret (R.fro (.bl (!isNon x.val)))) st = some (r, st') from h)
  obtain ⟨rfl, rfl⟩ := M.ret_eq h2
  refine ⟨ρ, φ, F, st, x, _, rel, h1, fun vx φ1 F1 H1 n1 g1 => ?_⟩
  show Q (.bl (!decide (vx = .non))) H1
  rw [non_iff (Got.saw g1)]
  exact (w.post rel.sub n1).bl n1.sub n1.sto
theorem jt_isN {j pos'} (ha : JE X cl G C false a ea) : JT X cl G C (.Compare a [.Is] [.Constant .none j pos'] pos) (.isN ea) :=
  PT.imp (pt_cmp (pc_isN ha) (nobehind _ (by decide) (by decide))) fun σ H Q h => isN_go σ H _ (sT_sE h)
theorem jt_notN {j pos'} (ha : JE X cl G C false a ea) : JT X cl G C (.Compare a [.IsNot] [.Constant .none j pos'] pos) (.notN ea) :=
  PT.imp (pt_cmp (pc_notN ha) (nobehind _ (by decide) (by decide))) fun σ H Q h => notN_go σ H _ (sT_sE h)

/-! ### a thing of one's own is written -/
theorem Nx.updO {p : Pk} {φ φ1 : List Addr} {F F1 H H1 : Hp} {st : Sto} {l : Addr} (n : Nx p φ F H φ1 F1 H1 st) (h0 : H l = none) (h1 : F1 l = none) (h2 : l ∉ φ1) (ob : HO) : Nx p φ F H φ1 F1 (upd H1 l ob) st := by
  refine ⟨n.le, fun c u e hf hp => ?_, n.new, n.pre, n.ext, fun c u e => ?_, ⟨n.sto.1, n.sto.2.1, n.sto.2.2.1, fun k c ts e1 e2 => ?_⟩⟩
  · rw [upd_ne (ne_of_none e h0)]
    exact n.keep c u e hf hp
  · rw [upd_ne (fun q => by rw [q, h1] at e; cases e)]
    exact n.sub c u e
  · obtain ⟨xs, e3, q⟩ := n.sto.2.2.2 k c ts e1 e2
    exact ⟨xs, by rw [upd_ne (fun q => h2 (by rw [← q]; exact List.mem_of_getElem? e1))]; exact e3, q⟩
/-- a dict is locked -/
theorem Nx.lock {p : Pk} {φ φ1 : List Addr} {F F1 H H1 : Hp} {st : Sto} {l : Addr} {kvs : List (Key × V)} (hs : Sub F H) (n : Nx p φ F H φ1 F1 H1 st) (h1 : F1 l = some (.dK kvs)) (ob : Obj) : Nx p φ F H φ1 (upd F1 l (.frz ob (.dK kvs))) (upd H1 l (.frz ob (.dK kvs))) st := by
  have m : Le F1 (upd F1 l (.frz ob (.dK kvs))) := fun c u e => by
    by_cases q : c = l
    · subst q
      rw [h1] at e
      cases e
      exact .inr ⟨trivial, (fun C dx fs z => by cases z), ob, upd_same⟩
    · exact .inl (by rw [upd_ne q]; exact e)
  refine ⟨n.le.trans m, fun c u e hf hp => ?_, fun c hc hf => ?_, n.pre, n.ext, fun c u e => ?_, ⟨n.sto.1, n.sto.2.1, fun c hc => ?_, fun k c ts e1 e2 => ?_⟩⟩
  · have : c ≠ l := fun q => by
      subst q
      have := n.new c (by rw [h1]; simp) hf
      rw [this] at e; cases e
    rw [upd_ne this]
    exact n.keep c u e hf hp
  · by_cases q : c = l
    · subst q
      exact n.new c (by rw [h1]; simp) hf
    · rw [upd_ne q] at hc
      exact n.new c hc hf
  · by_cases q : c = l
    · subst q
      rw [upd_same] at e ⊢
      exact e
    · rw [upd_ne q] at e ⊢
      exact n.sub c u e
  · have : c ≠ l := fun q => by
      subst q
      have := n.sto.2.2.1 c hc
      rw [h1] at this; cases this
    rw [upd_ne this]
    exact n.sto.2.2.1 c hc
  · obtain ⟨xs, e3, q⟩ := n.sto.2.2.2 k c ts e1 e2
    have : c ≠ l := fun q => by
      subst q
      have := n.sub c _ h1
      rw [this] at e3; cases e3
    exact ⟨xs, by rw [upd_ne this]; exact e3, IsL.mono (Pre.refl _) m _ _ q⟩

/-! ### targets -/
/-- a name that may be stored -/
def Sto1 (X : Cx) (n : Str) : Prop := Loc X.env.scope n ∧ (X.fn n = true ∨ X.env.scope.names.lookup n = some .local)
theorem PG.or {tg : Expr} {t u : TG} (h1 : PG X tg t) (h2 : PG X tg u) : PG X tg (fun v σ H Q => t v σ H Q ∨ u v σ H Q) := ⟨fun pins s σ H v w Q I r q => q.elim (h1.run pins s σ H v w Q I r) (h2.run pins s σ H v w Q I r)⟩
/-- the names set, one after the other -/
def setV : L2.St → List Nat → List V → L2.St
  | σ, i :: is, v :: vs => setV (σ.set i (some v)) is vs
  | σ, _, _ => σ
def gNames (is : List Nat) : TGs := fun vs σ H Q => vs.length = is.length ∧ Q (setV σ is vs) H
theorem pgs_names (hN : X.N.Nodup) : ∀ {es : List Expr} {is : List Nat}, (∀ q ∈ es, ∃ x p, q = .Name x p) → es.length = is.length → (∀ (j : Nat) (x : Str) (p : Pos) (i : Nat), es[j]? = some (.Name x p) → is[j]? = some i → X.N[i]? = some x ∧ Sto1 X x) → PGs X es (gNames is)
  | [], [], _, _, _ => ⟨fun pins s σ H vs us Q I r h => pgs_nil.run pins s σ H vs us Q I r ⟨List.eq_nil_of_length_eq_zero h.1, by
      have e := List.eq_nil_of_length_eq_zero h.1
      subst e
      exact h.2⟩⟩
  | [], _ :: _, _, hl, _ => by cases hl
  | _ :: _, [], _, hl, _ => by cases hl
  | e :: es, i :: is, hn, hl, hi => by
    obtain ⟨x, p, rfl⟩ := hn e List.mem_cons_self
    obtain ⟨h1, h2⟩ := hi 0 x p i rfl rfl
    have ih := pgs_names hN (es := es) (is := is) (fun q hq => hn q (List.mem_cons_of_mem _ hq)) (Nat.succ.inj hl) fun j x p i e1 e2 => hi (j + 1) x p i (by simpa using e1) (by simpa using e2)
    have g := pgs_cons (pg_name (pos := p) hN h1 h2.1 h2.2) ih
    refine ⟨fun pins s σ H vs us Q I r h => g.run pins s σ H vs us Q I r ?_⟩
    cases vs with
    | nil => cases h.1
    | cons v vs => exact ⟨v, vs, rfl, Nat.succ.inj h.1, h.2⟩
theorem assign_names : ∀ {es : List Expr}, (∀ q ∈ es, ∃ x p, q = .Name x p) → (assignEach es X.env).length = es.length ∧ (assignEach es X.env).findIdx? (·.1) = none
  | [], _ => ⟨rfl, rfl⟩
  | e :: es, h => by
    obtain ⟨x, p, rfl⟩ := h e List.mem_cons_self
    obtain ⟨h1, h2⟩ := assign_names (es := es) fun q hq => h q (List.mem_cons_of_mem _ hq)
    have e1 : assignEach (.Name x p :: es) X.env = (false, assign (.Name x p) X.env) :: assignEach es X.env := rfl
    rw [e1]
    exact ⟨by rw [List.length_cons, List.length_cons, h1], by rw [List.findIdx?_cons, h2]; rfl⟩
/-- unpacking a list or a tuple into names -/
def gUnp (K : PySem.W.Frag) (is : List Nat) : TG := fun v σ H Q => ∃ a xs, v = .ref a ∧ (SqT K H a xs ∨ SqL K H a xs) ∧ xs.length = is.length ∧ Q (setV σ is xs) H
theorem pg_unp {es : List Expr} {is : List Nat} {kk : Nat} (hc : X.calm = true) (hN : X.N.Nodup) (hn : ∀ q ∈ es, ∃ x p, q = .Name x p) (hl : es.length = is.length)
    (hi : ∀ (j : Nat) (x : Str) (p : Pos) (i : Nat), es[j]? = some (.Name x p) → is[j]? = some i → X.N[i]? = some x ∧ Sto1 X x) : PG X (.Tuple es kk pos) (gUnp X.K is) := by
  obtain ⟨a1, a2⟩ := assign_names (X := X) hn
  have g := PG.or (pg_tup (k := kk) (pos := pos) hc (pgs_names hN hn hl hi) a1 a2) (pg_unl (k := kk) (pos := pos) hc (pgs_names hN hn hl hi) a1 a2)
  refine ⟨fun pins s σ H v u Q I r h => g.run pins s σ H v u Q I r ?_⟩
  obtain ⟨a, xs, e, hq, hlen, q⟩ := h
  rcases hq with hq | hq
  · exact .inl ⟨a, xs, e, hq, hlen.trans hl.symm, hlen, q⟩
  · exact .inr ⟨a, xs, e, hq, hlen.trans hl.symm, hlen, q⟩

/-! ### a slot is set -/
theorem Rel.set {p : Pk} {φ : List Addr} {F H : Hp} {ρ : Env} {σ : L2.St} {st : Sto} {i : Nat} {s : Slot} {v : Option V} (rel : Rel p φ F H ρ σ st) (h : SlotOk p φ F H s v) (ha : ∀ t, s = .own t → ∀ (j : Nat) (u : T) (a : Addr), j ≠ i → ρ[j]? = some (.own u) → v = some (.ref a) → σ[j]? = some (some (.ref a)) → False) :
    Rel p φ F H (ρ.set i s) (σ.set i v) st where
  sub := rel.sub
  sto := rel.sto
  len := by rw [List.length_set, List.length_set]; exact rel.len
  slot := fun j s' v' h1 h2 => by
    by_cases e : i = j
    · subst e
      have l1 : i < ρ.length := by have := (List.getElem?_eq_some_iff.mp h1).1; rwa [List.length_set] at this
      have l2 : i < σ.length := by rw [← rel.len]; exact l1
      rw [List.getElem?_set_self l1] at h1
      rw [List.getElem?_set_self l2] at h2
      cases h1
      cases h2
      exact h
    · rw [List.getElem?_set_ne e] at h1 h2
      exact rel.slot j s' v' h1 h2
  apart := fun j k t u a hjk h1 h2 h3 h4 => by
    by_cases ej : i = j
    · subst ej
      have l1 : i < ρ.length := by have := (List.getElem?_eq_some_iff.mp h1).1; rwa [List.length_set] at this
      have l2 : i < σ.length := by rw [← rel.len]; exact l1
      rw [List.getElem?_set_self l1] at h1
      rw [List.getElem?_set_self l2] at h3
      rw [List.getElem?_set_ne hjk] at h2 h4
      cases h1
      exact ha t rfl k u a (Ne.symm hjk) h2 (Option.some.inj h3) h4
    · rw [List.getElem?_set_ne ej] at h1 h3
      by_cases ek : i = k
      · subst ek
        have l1 : i < ρ.length := by have := (List.getElem?_eq_some_iff.mp h2).1; rwa [List.length_set] at this
        have l2 : i < σ.length := by rw [← rel.len]; exact l1
        rw [List.getElem?_set_self l1] at h2
        rw [List.getElem?_set_self l2] at h4
        cases h2
        exact ha u rfl j t a hjk h1 (Option.some.inj h4) h3
      · rw [List.getElem?_set_ne ek] at h2 h4
        exact rel.apart j k t u a hjk h1 h2 h3 h4
theorem Rel.setF {p : Pk} {φ : List Addr} {F H : Hp} {ρ : Env} {σ : L2.St} {st : Sto} {i : Nat} {t : T} {v : V} (rel : Rel p φ F H ρ σ st) (h : Is p φ F t v) : Rel p φ F H (ρ.set i (.fro t)) (σ.set i (some v)) st :=
  rel.set ⟨v, rfl, h⟩ fun t e => by cases e
theorem Rel.setN {p : Pk} {φ : List Addr} {F H : Hp} {ρ : Env} {σ : L2.St} {st : Sto} {i : Nat} (rel : Rel p φ F H ρ σ st) : Rel p φ F H (ρ.set i .non) (σ.set i none) st :=
  rel.set trivial fun t e => by cases e
theorem Rel.setV {p : Pk} {φ : List Addr} {F H : Hp} {st : Sto} : ∀ {is : List Nat} {ts : List T} {vs : List V} {ρ ρ' : Env} {σ : L2.St}, Rel p φ F H ρ σ st → IsL p φ F ts vs → setMany ρ is ts = some ρ' → Rel p φ F H ρ' (setV σ is vs) st ∧ vs.length = is.length
  | [], [], vs, ρ, ρ', σ, rel, h, e => by
    cases e
    rw [show vs = [] from h]
    exact ⟨rel, rfl⟩
  | [], _ :: _, _, _, _, _, _, _, e => by cases e
  | _ :: _, [], _, _, _, _, _, _, e => by cases e
  | i :: is, t :: ts, _, ρ, ρ', σ, rel, h, e => by
    obtain ⟨x, r, rfl, h1, h2⟩ := h
    obtain ⟨q1, q2⟩ := Rel.setV (is := is) (rel.setF (i := i) h1) h2 e
    exact ⟨q1, by rw [List.length_cons, List.length_cons, q2]⟩
theorem Rel.wipe {p : Pk} {φ : List Addr} {F H : Hp} {ρ : Env} {σ : L2.St} {st : Sto} (rel : Rel p φ F H ρ σ st) : ∀ vs : List Nat, Rel p φ F H (TL.wipe ρ vs) (L2.wipe σ vs) st
  | [] => rel
  | v :: vs => (Rel.wipe rel vs).setN
end
end TL
end

section
set_option Elab.async false
set_option linter.all false
set_option maxRecDepth 100000
set_option maxHeartbeats 4000000
/-! What a loop goes through, on trees. -/
namespace TL
open PySem PySem.Spec PyProof.Rows L2

/-- an item: as a tree; for a target of several names its parts -/
def Yd (b : Bool) (p : Pk) (φ : List Addr) (F H : Hp) (t : T) (v : V) : Prop := if b then ∀ ts, seqOf t = some ts → ∃ a xs, v = .ref a ∧ (SqT p.K H a xs ∨ SqL p.K H a xs) ∧ IsL p φ F ts xs else Is p φ F t v
theorem Yd.of {b : Bool} {p : Pk} {φ : List Addr} {F H : Hp} {t : T} {v : V} (hs : Sub F H) (h : Is p φ F t v) : Yd b p φ F H t v := by
  cases b with
  | false => exact h
  | true =>
    intro ts e
    obtain ⟨a, xs, e1, q, r⟩ := Seen.seq (H := H) hs (.inl h) e
    exact ⟨a, xs, e1, q.symm, r⟩
def IterOk (p : Pk) (b : Bool) (J : It) (ts : List T) (φ : List Addr) (F : Hp) : Prop := ∀ φ1 F1 H1 st1 i, Pre φ φ1 → Le F F1 → Sub F1 H1 → StoOk p φ1 F1 H1 st1 →
  (∀ t, ts[i]? = some t → J.go i H1 ∧ ∀ v H2, J.yld i H1 v H2 → ∃ F2, Nx p φ1 F1 H1 φ1 F2 H2 st1 ∧ Yd b p φ1 F2 H2 t v) ∧ (i = ts.length → J.stop i H1)
section
variable (X : Cx) (cl : Nat → Addr) (G : Cfg) (C : Calls)
def sI (b : Bool) (it : I) : TI := fun σ H R => ∃ ρ φ F st ts st', Rel (pk X cl) φ F H ρ σ st ∧ denI G C it ρ st = some (ts, st') ∧ ∀ J φ' F' H', Nx (pk X cl) φ F H φ' F' H' st' → IterOk (pk X cl) b J ts φ' F' → ts.length ≤ sizeLine → R J H'
def JI (b : Bool) (tg x : Expr) (it : I) : Prop := PI X tg x (sI X cl G C b it)
end
section
variable {X : Cx} {cl : Nat → Addr} {G : Cfg} {C : Calls} {b : Bool} {pos p tpos apos : Pos} {tg x y : Expr} {e e2 : E} {elts : List Expr} {kk : Nat}
theorem PI.imp {tg x : Expr} {t t' : TI} (h : PI X tg x t) (k : ∀ σ H R, t' σ H R → t σ H R) : PI X tg x t' := ⟨fun pins s σ H R I q => h.run pins s σ H R I (k σ H R q)⟩
/-- no more items than a list may have -/
def Sm (H : Hp) : Prop := (∀ a xs, Rd H a (.lst xs) → xs.length ≤ sizeLine) ∧ (∀ a xs, Rd H a (.tup xs) → xs.length ≤ sizeLine) ∧ ∀ a (kvs : List (Key × V)), Rd H a (.dK kvs) → kvs.length ≤ sizeLine
theorem sm_of {pins : List (Addr × Obj)} {σ : L2.St} {H : Hp} {s : Shared} (I : Inv X pins σ H s) : Sm H :=
  ⟨fun a xs h => (h.ok I.hok).1, fun a xs h => (h.ok I.hok).1, fun a kvs h => (h.ok I.hok).1⟩
theorem Sm.tupN {K : PySem.W.Frag} {H : Hp} {a : Addr} {xs : List V} (m : Sm H) (h : TupN K H a xs) : xs.length ≤ sizeLine := by
  rcases h with ⟨o, h, _⟩ | ⟨o, its, n, _, _, _, _, hz, r⟩
  · exact m.2.1 a xs (.inr ⟨o, h⟩)
  · have := r.length
    simp only [Array.length_toList] at this
    omega
def tG (te : TE) : TE := fun σ H Q => te σ H fun x H1 => Sm H1 → Q x H1
theorem pe_g {te : TE} (he : PE X x te) : PE X x (tG te) := ⟨fun pins s σ H Q I h => thn (he.run pins s σ H _ I h) fun u s1 ⟨v, H1, I1, r1, q1⟩ => ⟨v, H1, I1, r1, q1 (sm_of I1)⟩⟩
theorem getL {p : Pk} {φ φ1 : List Addr} {F F1 : Hp} {ts : List T} {xs : List V} {t : T} {i : Nat} (r : IsL p φ F ts xs) (hp : Pre φ φ1) (hl : Le F F1) (e : ts[i]? = some t) : ∃ v, xs[i]? = some v ∧ Is p φ1 F1 t v := by
  obtain ⟨v, e1, q⟩ := r.get e
  exact ⟨v, e1, Is.mono hp hl _ _ q⟩
theorem iter_lst {φ : List Addr} {F : Hp} {ts : List T} {xs : List V} {a : Addr} (q : Rd F a (.lst xs)) (r : IsL (pk X cl) φ F ts xs) : IterOk (pk X cl) b (Itl X.K a) ts φ F := fun φ1 F1 H1 st1 i hp hl hs ho => by
  have sq : SqL X.K H1 a xs := .inl ((Le.of hs).rd (hl.rd q))
  refine ⟨fun t e => ?_, fun e => ⟨xs, sq, by rw [e, r.length]; exact Nat.le_refl _⟩⟩
  obtain ⟨v, e1, i1⟩ := getL r hp hl e
  refine ⟨⟨xs, v, sq, e1⟩, fun v' H2 y => ?_⟩
  obtain ⟨rfl, y⟩ := y
  have := y xs sq
  rw [e1] at this
  cases this
  exact ⟨F1, Nx.refl hs ho, Yd.of hs i1⟩
theorem iter_tup {φ : List Addr} {F : Hp} {ts : List T} {xs : List V} {a : Addr} (q : TupN X.K F a xs) (r : IsL (pk X cl) φ F ts xs) : IterOk (pk X cl) b (Itt X.K a) ts φ F := fun φ1 F1 H1 st1 i hp hl hs ho => by
  have sq : SqT X.K H1 a xs := ((Le.of hs).tupN (hl.tupN q)).sqT
  refine ⟨fun t e => ?_, fun e => ⟨xs, sq, by rw [e, r.length]; exact Nat.le_refl _⟩⟩
  obtain ⟨v, e1, i1⟩ := getL r hp hl e
  refine ⟨⟨xs, v, sq, e1⟩, fun v' H2 y => ?_⟩
  obtain ⟨rfl, y⟩ := y
  have := y xs sq
  rw [e1] at this
  cases this
  exact ⟨F1, Nx.refl hs ho, Yd.of hs i1⟩
theorem iter_str {φ : List Addr} {F : Hp} {z : Str} : IterOk (pk X cl) b (Its z) (z.cps.toList.map fun c => .str ⟨#[c]⟩) φ F := fun φ1 F1 H1 st1 i hp hl hs ho => by
  refine ⟨fun t e => ?_, fun e => ?_⟩
  · rw [List.getElem?_map] at e
    obtain ⟨c, e1, rfl⟩ := Option.map_eq_some_iff.mp e
    have e2 : z.cps[i]? = some c := by rw [← Array.getElem?_toList]; exact e1
    refine ⟨(Array.getElem?_eq_some_iff.mp e2).1, fun v' H2 y => ?_⟩
    obtain ⟨rfl, c', y1, rfl⟩ := y
    rw [e2] at y1
    cases y1
    exact ⟨F1, Nx.refl hs ho, Yd.of hs rfl⟩
  · show z.cps.size ≤ i
    rw [e, List.length_map, Array.length_toList]
    exact Nat.le_refl _
theorem iter_key {φ : List Addr} {F : Hp} {kvs : List (Key × V)} {d : Addr} {o : Obj} (q : F d = some (.frz o (.dK kvs))) : IterOk (pk X cl) b (Itk d o kvs) ((kvs.map (·.1)).map ofKey) φ F := fun φ1 F1 H1 st1 i hp hl hs ho => by
  have sq : H1 d = some (.frz o (.dK kvs)) := by
    rcases hl d _ q with e | ⟨m, _⟩
    · exact hs _ _ e
    · exact m.elim
  refine ⟨fun t e => ?_, fun e => ⟨sq, by rw [e, List.length_map, List.length_map]; exact Nat.le_refl _⟩⟩
  rw [List.getElem?_map, List.getElem?_map] at e
  obtain ⟨k, e1, rfl⟩ := Option.map_eq_some_iff.mp e
  obtain ⟨kv, e2, rfl⟩ := Option.map_eq_some_iff.mp e1
  refine ⟨⟨sq, (List.getElem?_eq_some_iff.mp e2).1⟩, fun v' H2 y => ?_⟩
  obtain ⟨rfl, k', v, y1, rfl⟩ := y
  rw [e2] at y1
  cases y1
  exact ⟨F1, Nx.refl hs ho, Yd.of hs (by cases k' <;> rfl)⟩
theorem ji_plain (he : JE X cl G C false x e) : JI X cl G C b tg x (.plain e) :=
  PI.imp (pi_plain (pe_lk (pe_g he))) fun σ H R' ⟨ρ, φ, F, st, ts, st', rel, h, w⟩ => by
    obtain ⟨r, st1, h1, h2⟩ := M.bind_eq (show M.bind (denE G C false e ρ) (fun x => M.of (iterD x.val)) st = some (ts, st') from h)
    obtain ⟨h3, rfl⟩ := M.of_eq h2
    refine ⟨ρ, φ, F, st, r, _, rel, h1, fun v φ1 F1 H1 n1 g1 sm => ?_⟩
    obtain ⟨F2, n2, _, i2⟩ := Res.freeze n1 rel.sub g1
    cases q : r.val with
    | lst us =>
      rw [q] at h3 i2
      cases h3
      obtain ⟨a, xs, rfl, q1, r1⟩ := i2
      exact .inl (.inl ⟨a, xs, rfl, .inl ((Le.of n2.sub).rd q1), w _ _ _ _ n2 (iter_lst q1 r1) (by rw [r1.length]; exact sm.1 a xs ((Le.of n2.sub).rd q1))⟩)
    | tup us =>
      rw [q] at h3 i2
      cases h3
      obtain ⟨a, xs, rfl, q1, r1⟩ := i2
      exact .inl (.inr (.inl ⟨a, xs, rfl, ((Le.of n2.sub).tupN q1).sqT, w _ _ _ _ n2 (iter_tup q1 r1) (by rw [r1.length]; exact sm.tupN ((Le.of n2.sub).tupN q1))⟩))
    | str z =>
      rw [q] at h3 i2
      have h3 : (if szOk z.length then some (z.cps.toList.map fun c => T.str ⟨#[c]⟩) else none) = some ts := h3
      split at h3 <;> (try contradiction)
      rename_i hz
      cases h3
      exact .inl (.inr (.inr (.inl ⟨z, i2, w _ _ _ _ n2 iter_str (by rw [List.length_map, Array.length_toList]; exact szOk_le hz)⟩)))
    | dct ks us =>
      rw [q] at h3 i2
      cases h3
      obtain ⟨d, kvs, rfl, q1, q2, r1⟩ := i2
      subst q2
      rcases q1 with q1 | ⟨o, q1⟩
      · refine .inr ⟨d, kvs, rfl, n2.sub _ _ q1, fun o => .inr (.inr (.inr ⟨d, o, kvs, rfl, upd_same, w _ _ _ _ (n2.lock rel.sub q1 o) (iter_key upd_same) (by rw [List.length_map, List.length_map]; exact sm.2.2 d kvs (.inl (n2.sub _ _ q1)))⟩))⟩
      · exact .inl (.inr (.inr (.inr ⟨d, o, kvs, rfl, n2.sub _ _ q1, w _ _ _ _ n2 (iter_key q1) (by rw [List.length_map, List.length_map]; exact sm.2.2 d kvs (.inr ⟨o, n2.sub _ _ q1⟩))⟩)))
    | _ => rw [q] at h3; cases h3
/-- a new pair given out -/
theorem pair_out {p : Pk} {φ : List Addr} {F H : Hp} {st : Sto} {T0 : Addr} {u v : V} {s t : T} (hs : Sub F H) (ho : StoOk p φ F H st) (hT : H T0 = none) (hu : Is p φ F s u) (hv : Is p φ F t v) : ∃ F2, Nx p φ F H φ F2 (upd H T0 (.tup [u, v])) st ∧ Yd true p φ F2 (upd H T0 (.tup [u, v])) (.tup [s, t]) (.ref T0) :=
  ⟨F, nx_own hs ho hT _, fun ts e => by
    cases e
    exact ⟨T0, [u, v], rfl, .inl (.inl (.inl upd_same)), .cons hu (.cons hv .nil)⟩⟩
theorem iter_item {φ : List Addr} {F : Hp} {kvs : List (Key × V)} {us : List T} {d : Addr} {o : Obj} (q : F d = some (.frz o (.dK kvs))) (r : IsL (pk X cl) φ F us (kvs.map (·.2))) : IterOk (pk X cl) true (Iti d o kvs) (((kvs.map (·.1)).zip us).map fun p => .tup [ofKey p.1, p.2]) φ F := fun φ1 F1 H1 st1 i hp hl hs ho => by
  have sq : H1 d = some (.frz o (.dK kvs)) := by
    rcases hl d _ q with e | ⟨m, _⟩
    · exact hs _ _ e
    · exact m.elim
  have rl := r.length
  rw [List.length_map] at rl
  refine ⟨fun t e => ?_, fun e => ⟨sq, by rw [e, List.length_map, List.length_zip, List.length_map]; omega⟩⟩
  rw [List.getElem?_map] at e
  obtain ⟨⟨k, t'⟩, e1, rfl⟩ := Option.map_eq_some_iff.mp e
  rw [List.getElem?_zip_eq_some] at e1
  obtain ⟨e2, e3⟩ := e1
  rw [List.getElem?_map] at e2
  obtain ⟨kv, e4, e5⟩ := Option.map_eq_some_iff.mp e2
  obtain ⟨v, e6, i1⟩ := getL r hp hl e3
  rw [List.getElem?_map, e4] at e6
  cases e6
  cases e5
  refine ⟨⟨sq, (List.getElem?_eq_some_iff.mp e4).1⟩, fun v' H2 y => ?_⟩
  obtain ⟨T0, k', v, y1, rfl, y2, rfl⟩ := y
  rw [e4] at y1
  cases y1
  exact pair_out hs ho y2 (by cases k' <;> rfl) i1
theorem ji_items (he : JE X cl G C false x e) (hbase : attributeBase x "items" X.env (eval x X.env) = eval x X.env) (hline : (apos.endLine == pos.line) = true) : JI X cl G C true (.Tuple elts kk tpos) (.Call (.Attribute x "items" apos) [] [] pos) (.items e) :=
  PI.imp (pi_items (pe_lk (pe_g he)) hbase hline) fun σ H R' ⟨ρ, φ, F, st, ts, st', rel, h, w⟩ => by
    obtain ⟨r, st1, h1, h2⟩ := M.bind_eq (show M.bind (denE G C false e ρ) (fun x => M.of (itemsD x.val)) st = some (ts, st') from h)
    obtain ⟨h3, rfl⟩ := M.of_eq h2
    refine ⟨ρ, φ, F, st, r, _, rel, h1, fun v φ1 F1 H1 n1 g1 sm => ?_⟩
    obtain ⟨F2, n2, _, i2⟩ := Res.freeze n1 rel.sub g1
    cases q : r.val with
    | dct ks us =>
      rw [q] at h3 i2
      cases h3
      obtain ⟨d, kvs, rfl, q1, q2, r1⟩ := i2
      subst q2
      rcases q1 with q1 | ⟨o, q1⟩
      · refine .inr ⟨d, kvs, rfl, n2.sub _ _ q1, fun o => ⟨d, o, kvs, rfl, upd_same, w _ _ _ _ (n2.lock rel.sub q1 o) (iter_item upd_same (IsL.mono (Pre.refl _) ?_ _ _ r1)) (by rw [List.length_map, List.length_zip, List.length_map]; have := sm.2.2 d kvs (.inl (n2.sub _ _ q1)); omega)⟩⟩
        intro c u e
        by_cases z : c = d
        · subst z
          rw [q1] at e
          cases e
          exact .inr ⟨trivial, (fun C dx fs z => by cases z), o, upd_same⟩
        · exact .inl (by rw [upd_ne z]; exact e)
      · exact .inl ⟨d, o, kvs, rfl, n2.sub _ _ q1, w _ _ _ _ n2 (iter_item q1 r1) (by rw [List.length_map, List.length_zip, List.length_map]; have := sm.2.2 d kvs (.inr ⟨o, n2.sub _ _ q1⟩); omega)⟩
    | _ => rw [q] at h3; cases h3
/-- a sequence that stays -/
def SeqF (p : Pk) (φ : List Addr) (F : Hp) (k : Kd) (a : Addr) (xs : List V) : Prop := match k with
  | .l => Rd F a (.lst xs)
  | .t => TupN p.K F a xs
theorem seqF_of {p : Pk} {φ : List Addr} {F : Hp} {t : T} {ts : List T} {v : V} (h : Is p φ F t v) (e : seqOf t = some ts) : ∃ a k xs, v = .ref a ∧ SeqF p φ F k a xs ∧ IsL p φ F ts xs := by
  cases t with
  | lst us => cases e; obtain ⟨a, xs, e, q, r⟩ := h; exact ⟨a, .l, xs, e, q, r⟩
  | tup us => cases e; obtain ⟨a, xs, e, q, r⟩ := h; exact ⟨a, .t, xs, e, q, r⟩
  | _ => cases e
theorem SeqF.sq {p : Pk} {φ φ1 : List Addr} {F F1 H : Hp} {k : Kd} {a : Addr} {xs : List V} (h : SeqF p φ F k a xs) (hl : Le F F1) (hs : Sub F1 H) : k.SQ p.K H a xs := by
  cases k with
  | l => exact .inl ((Le.of hs).rd (hl.rd h))
  | t => exact ((Le.of hs).tupN (hl.tupN h)).sqT
theorem SeqF.sm {p : Pk} {φ : List Addr} {F H : Hp} {k : Kd} {a : Addr} {xs : List V} (h : SeqF p φ F k a xs) (hs : Sub F H) (sm : Sm H) : xs.length ≤ sizeLine := by
  cases k with
  | l => exact sm.1 a xs ((Le.of hs).rd h)
  | t => exact sm.tupN ((Le.of hs).tupN h)
theorem iter_enum {φ : List Addr} {F : Hp} {us : List T} {xs : List V} {k : Kd} {a : Addr} (q : SeqF (pk X cl) φ F k a xs) (r : IsL (pk X cl) φ F us xs) :
    IterOk (pk X cl) true (IteM X.K k a) ((List.range us.length).zip us |>.map fun p => .tup [.int (p.1 : Nat), p.2]) φ F := fun φ1 F1 H1 st1 i hp hl hs ho => by
  have sq := q.sq (φ1 := φ1) hl hs
  have rl := r.length
  refine ⟨fun t e => ?_, fun e => ⟨xs, sq, by rw [e, List.length_map, List.length_zip, List.length_range]; omega⟩⟩
  rw [List.getElem?_map] at e
  obtain ⟨⟨j, t'⟩, e1, rfl⟩ := Option.map_eq_some_iff.mp e
  rw [List.getElem?_zip_eq_some] at e1
  obtain ⟨e2, e3⟩ := e1
  have ej : i = j := by
    rw [List.getElem?_eq_some_iff] at e2
    obtain ⟨_, e2⟩ := e2
    rw [List.getElem_range] at e2
    exact e2
  subst ej
  obtain ⟨v, e6, i1⟩ := getL r hp hl e3
  refine ⟨⟨xs, v, sq, e6⟩, fun v' H2 y => ?_⟩
  obtain ⟨T0, v, rfl, y2, rfl, y3⟩ := y
  have := y3 xs sq
  rw [e6] at this
  cases this
  exact pair_out hs ho y2 rfl i1
theorem ji_enum (hg : Gl X "enumerate") (hm : X.mg "enumerate" = none) (he : JE X cl G C false x e) (hs : starEach [x] X.env = (false, eval x X.env) :: starEach [] X.env) : JI X cl G C true (.Tuple elts kk tpos) (.Call (.Name "enumerate" p) [x] [] pos) (.enum e) :=
  PI.imp (pi_enumM hg hm (pa_cons (pe_g he) pa_nil hs) hs) fun σ H R' ⟨ρ, φ, F, st, ts, st', rel, h, w⟩ => by
    obtain ⟨r, st1, h1, h2⟩ := M.bind_eq (show M.bind (denE G C false e ρ) (fun x => M.of (enumD x.val)) st = some (ts, st') from h)
    obtain ⟨h3, rfl⟩ := M.of_eq h2
    refine ⟨ρ, φ, F, st, r, _, rel, h1, fun v φ1 F1 H1 n1 g1 sm => ?_⟩
    obtain ⟨F2, n2, _, i2⟩ := Res.freeze n1 rel.sub g1
    obtain ⟨us, h4, rfl⟩ := Option.map_eq_some_iff.mp h3
    obtain ⟨a, k, xs, rfl, q, r1⟩ := seqF_of i2 h4
    exact ⟨a, k, xs, rfl, q.sq (φ1 := φ1) (Le.refl _) n2.sub, w _ _ _ _ n2 (iter_enum q r1) (by rw [List.length_map, List.length_zip, List.length_range, r1.length]; have := q.sm n2.sub sm; omega)⟩
theorem iter_zip {φ : List Addr} {F : Hp} {us ws : List T} {xs ys : List V} {k1 k2 : Kd} {a c : Addr} (q : SeqF (pk X cl) φ F k1 a xs) (r : IsL (pk X cl) φ F us xs) (q' : SeqF (pk X cl) φ F k2 c ys) (r' : IsL (pk X cl) φ F ws ys) :
    IterOk (pk X cl) true (Itm X.K k1 k2 a c) ((us.zip ws).map pairT) φ F := fun φ1 F1 H1 st1 i hp hl hs ho => by
  have sq := q.sq (φ1 := φ1) hl hs
  have sq' := q'.sq (φ1 := φ1) hl hs
  have rl := r.length
  have rl' := r'.length
  refine ⟨fun t e => ?_, fun e => ⟨xs, ys, sq, sq', ?_⟩⟩
  · rw [List.getElem?_map] at e
    obtain ⟨⟨s, t'⟩, e1, rfl⟩ := Option.map_eq_some_iff.mp e
    rw [List.getElem?_zip_eq_some] at e1
    obtain ⟨e2, e3⟩ := e1
    obtain ⟨u, e5, i0⟩ := getL r hp hl e2
    obtain ⟨v, e6, i1⟩ := getL r' hp hl e3
    refine ⟨⟨xs, ys, u, v, sq, sq', e5, e6⟩, fun v' H2 y => ?_⟩
    obtain ⟨T0, u', v, rfl, y2, rfl, y3, y4⟩ := y
    have := y3 xs sq
    rw [e5] at this
    cases this
    have := y4 ys sq'
    rw [e6] at this
    cases this
    exact pair_out hs ho y2 i0 i1
  · rw [List.length_map, List.length_zip] at e
    omega
theorem ji_zip (hg : Gl X "zip") (hm : X.mg "zip" = none) (he : JE X cl G C false x e) (he2 : JE X cl G C false y e2) (hs : starEach [x, y] X.env = (false, eval x X.env) :: starEach [y] X.env) (hs1 : starEach [y] X.env = (false, eval y X.env) :: starEach [] X.env)
    (hpl : (backTo pos (starEach [y] X.env)).any (·.1) = false) : JI X cl G C true (.Tuple elts kk tpos) (.Call (.Name "zip" p) [x, y] [] pos) (.zip e e2) :=
  PI.imp (pi_zipM hg hm (pa_cons (pe_g he) (pa_cons he2 pa_nil hs1) hs) hs hpl) fun σ H R' ⟨ρ, φ, F, st, ts, st', rel, h, w⟩ => by
    obtain ⟨r, st1, h1, h2⟩ := M.bind_eq (show M.bind (denE G C false e ρ) (fun x => M.bind (denE G C false e2 ρ) fun y => M.of ((zipD x.val y.val).map fun ps => ps.map pairT)) st = some (ts, st') from h)
    obtain ⟨r2, st2, h3, h4⟩ := M.bind_eq h2
    obtain ⟨h5, rfl⟩ := M.of_eq h4
    obtain ⟨ps, h6, rfl⟩ := Option.map_eq_some_iff.mp h5
    refine ⟨ρ, φ, F, st, r, _, rel, h1, fun v φ1 F1 H1 n1 g1 sm => ?_⟩
    obtain ⟨F1', n1', _, i1⟩ := Res.freeze n1 rel.sub g1
    refine ⟨ρ, φ1, F1', st1, r2, _, rel.nx n1', h3, fun v2 φ2 F2 H2 n2 g2 => ?_⟩
    obtain ⟨F2', n2', _, i2⟩ := Res.freeze n2 n1'.sub g2
    unfold zipD at h6
    split at h6 <;> (try contradiction)
    rename_i us ws q1 q2
    cases h6
    obtain ⟨a, k1, xs, rfl, c1, d1⟩ := seqF_of (Is.mono n2'.pre n2'.le _ _ i1) q1
    have zl : us.length ≤ sizeLine := by
      obtain ⟨a', k1', xs', _, c1', d1'⟩ := seqF_of i1 q1
      rw [d1'.length]
      exact c1'.sm n1'.sub sm
    obtain ⟨c, k2, ys, rfl, c2, d2⟩ := seqF_of i2 q2
    exact ⟨a, c, k1, k2, xs, ys, rfl, c1.sq (φ1 := φ1) (Le.refl _) n2'.sub, c2.sq (φ1 := φ1) (Le.refl _) n2'.sub, w _ _ _ _ (Nx.trans rel.sub n1' n2') (iter_zip c1 d1 c2 d2) (by rw [List.length_map, List.length_zip]; omega)⟩
theorem ji_rng (hg : Gl X "range") (hm : X.mg "range" = none) (he : JE X cl G C false x e) (hs : starEach [x] X.env = [(false, eval x X.env)]) : JI X cl G C b tg (.Call (.Name "range" p) [x] [] pos) (.rng e) :=
  PI.imp (pi_range1 hg hm (pa_cons he pa_nil hs) hs) fun σ H R' ⟨ρ, φ, F, st, ts, st', rel, h, w⟩ => by
    obtain ⟨r, st1, h1, h2⟩ := M.bind_eq (show M.bind (denE G C false e ρ) (fun x => M.of (rngD x.val)) st = some (ts, st') from h)
    obtain ⟨h3, rfl⟩ := M.of_eq h2
    refine ⟨ρ, φ, F, st, r, _, rel, h1, fun v φ1 F1 H1 n1 g1 => ?_⟩
    cases q : r.val with
    | int n =>
      have g2 := Got.saw g1
      rw [q] at h3 g2
      have h3 : (if -(2 ^ 62) ≤ n ∧ n ≤ 1000000 then some ((List.range n.toNat).map fun (k : Nat) => T.int (k : Int)) else none) = some ts := h3
      split at h3 <;> (try contradiction)
      rename_i hb
      cases h3
      refine ⟨n, by rw [g2.int], hb.1, by omega, w _ _ _ _ n1 (fun φ2 F2 H2 st2 i hp hl hs ho => ⟨fun t e => ?_, fun e => by rw [List.length_map, List.length_range] at e; exact Nat.le_of_eq e.symm⟩) (by rw [List.length_map, List.length_range, sizeLine_eq]; omega)⟩
      rw [List.getElem?_map] at e
      obtain ⟨j, e1, rfl⟩ := Option.map_eq_some_iff.mp e
      obtain ⟨hj, e1⟩ := List.getElem?_eq_some_iff.mp e1
      rw [List.getElem_range] at e1
      subst e1
      rw [List.length_range] at hj
      refine ⟨hj, fun v' H3 y => ?_⟩
      obtain ⟨rfl, rfl⟩ := y
      refine ⟨F2, Nx.refl hs ho, Yd.of hs ?_⟩
      show V.int (0 + (i : Int)) = V.int i
      rw [Int.zero_add]
    | _ => rw [q] at h3; cases h3
end
end TL
end

section
set_option Elab.async false
set_option linter.all false
set_option maxRecDepth 100000
set_option maxHeartbeats 4000000
/-! Comprehensions. -/
namespace TL
open PySem PySem.Spec PyProof.Rows L2

/-- what a target's text does -/
def gT (K : PySem.W.Frag) : Tg → TG
  | .var i => gName i
  | .tup is => gUnp K is
def Tg.isTup : Tg → Bool
  | .var _ => false
  | .tup _ => true
def Tg.slots : Tg → List Nat
  | .var i => [i]
  | .tup is => is
section
variable {X : Cx} {cl : Nat → Addr} {G : Cfg} {C : Calls}
/-- an item is put where the target says -/
theorem put_go {φ : List Addr} {F H : Hp} {ρ ρ' : Env} {σ : L2.St} {st : Sto} {tg : Tg} {t : T} {v : V} {Q : L2.St → Hp → Prop} (rel : Rel (pk X cl) φ F H ρ σ st) (y : Yd tg.isTup (pk X cl) φ F H t v) (e : tg.put ρ t = some ρ') (q : ∀ σ', Rel (pk X cl) φ F H ρ' σ' st → (∃ f : L2.St → L2.St, True) → Q σ' H) : gT X.K tg v σ H Q := by
  cases tg with
  | var i =>
    cases e
    exact q _ (rel.setF y) ⟨id, trivial⟩
  | tup is =>
    have e : (match seqOf t with
      | some ts => setMany ρ is ts
      | none => none) = some ρ' := e
    cases h : seqOf t with
    | none => rw [h] at e; cases e
    | some ts =>
      rw [h] at e
      obtain ⟨a, xs, rfl, sq, r⟩ := y ts h
      obtain ⟨r1, r2⟩ := rel.setV r e
      exact ⟨a, xs, rfl, sq, r2, q _ r1 ⟨id, trivial⟩⟩
theorem wipe_set {σ : L2.St} {i : Nat} {v : Option V} : ∀ {vs : List Nat}, i ∈ vs → L2.wipe (σ.set i v) vs = L2.wipe σ vs
  | w :: vs, h => by
    show (L2.wipe (σ.set i v) vs).set w none = (L2.wipe σ vs).set w none
    by_cases hm : i ∈ vs
    · rw [wipe_set hm]
    · have e : i = w := by rcases List.mem_cons.mp h with e | e; exact e; exact absurd e hm
      subst e
      have q : ∀ {us : List Nat} {σ : L2.St}, i ∉ us → L2.wipe (σ.set i v) us = (L2.wipe σ us).set i v := fun {us} => by
        induction us with
        | nil => intro σ _; rfl
        | cons u us ih =>
          intro σ hu
          rw [List.mem_cons, not_or] at hu
          show (L2.wipe (σ.set i v) us).set u none = ((L2.wipe σ us).set u none).set i v
          rw [ih hu.2, List.set_comm _ _ hu.1]
      rw [q hm, List.set_set]
theorem wipe_setV {σ : L2.St} : ∀ {is : List Nat} {us : List V} {σ : L2.St} {vs : List Nat}, (∀ i ∈ is, i ∈ vs) → L2.wipe (setV σ is us) vs = L2.wipe σ vs
  | [], us, σ, vs, _ => by cases us <;> rfl
  | i :: is, [], σ, vs, _ => rfl
  | i :: is, u :: us, σ, vs, h => by
    show L2.wipe (setV (σ.set i (some u)) is us) vs = _
    rw [wipe_setV (σ := σ) (fun j hj => h j (List.mem_cons_of_mem _ hj)), wipe_set (h i List.mem_cons_self)]
theorem wipe_wipe {σ : L2.St} : ∀ {us vs : List Nat}, (∀ i ∈ us, i ∈ vs) → L2.wipe (L2.wipe σ us) vs = L2.wipe σ vs
  | [], vs, _ => rfl
  | u :: us, vs, h => by
    show L2.wipe ((L2.wipe σ us).set u none) vs = _
    rw [wipe_set (h u List.mem_cons_self), wipe_wipe fun i hi => h i (List.mem_cons_of_mem _ hi)]
/-- .. and the slots beside it stay -/
theorem put_go2 {φ : List Addr} {F H : Hp} {ρ ρ' : Env} {σ : L2.St} {st : Sto} {tg : Tg} {t : T} {v : V} {vs : List Nat} {Q : L2.St → Hp → Prop} (rel : Rel (pk X cl) φ F H ρ (L2.wipe σ vs) st) (hv : ∀ i ∈ tg.slots, i ∈ vs) (y : Yd tg.isTup (pk X cl) φ F H t v) (e : tg.put ρ t = some ρ')
    (q : ∀ σ', Rel (pk X cl) φ F H ρ' σ' st → L2.wipe σ' vs = L2.wipe σ vs → Q σ' H) : gT X.K tg v (L2.wipe σ vs) H Q := by
  have ww : L2.wipe (L2.wipe σ vs) vs = L2.wipe σ vs := wipe_wipe fun i hi => hi
  cases tg with
  | var i =>
    cases e
    exact q _ (rel.setF y) (by rw [wipe_set (hv i (by simp [Tg.slots]))]; exact ww)
  | tup is =>
    have e : (match seqOf t with
      | some ts => setMany ρ is ts
      | none => none) = some ρ' := e
    cases h : seqOf t with
    | none => rw [h] at e; cases e
    | some ts =>
      rw [h] at e
      obtain ⟨a, xs, rfl, sq, r⟩ := y ts h
      obtain ⟨r1, r2⟩ := rel.setV r e
      have hv' : ∀ i ∈ is, i ∈ vs := hv
      exact ⟨a, xs, rfl, sq, r2, q _ r1 (by rw [wipe_setV (σ := σ) hv']; exact ww)⟩
end

/-! ### the tests of a comprehension -/
section
variable (X : Cx) (cl : Nat → Addr) (G : Cfg) (C : Calls)
def sTs (es : Es) : TT := fun σ H Q => ∃ ρ φ F st b st', Rel (pk X cl) φ F H ρ σ st ∧ denIfs G C es ρ st = some (b, st') ∧ ∀ φ' F' H', Nx (pk X cl) φ F H φ' F' H' st' → Q b H'
def JTs (xs : List Expr) (es : Es) : Prop := PTs X xs (sTs X cl G C es)
end
section
variable {X : Cx} {cl : Nat → Addr} {G : Cfg} {C : Calls} {e : E} {x : Expr}
theorem PTs.imp {xs : List Expr} {t t' : TT} (h : PTs X xs t) (k : ∀ σ H Q, t' σ H Q → t σ H Q) : PTs X xs t' := ⟨fun pins s σ H Q I q => h.run pins s σ H Q I (k σ H Q q)⟩
theorem jts_nil : JTs X cl G C [] .nil := PTs.imp pts_nil fun σ H Q ⟨ρ, φ, F, st, b, st', rel, h, w⟩ => by
  obtain ⟨rfl, rfl⟩ := M.ret_eq (show M.ret _ _ = _ from h)
  exact w φ F H rel.self
theorem jts_one (h : JT X cl G C x e) : JTs X cl G C [x] (.cons e .nil) := PTs.imp (pts_one h) fun σ H Q ⟨ρ, φ, F, st, b, st', rel, h, w⟩ => by
  obtain ⟨r, st1, h1, h2⟩ := M.bind_eq (show M.bind (denE G C false e ρ) (fun x => match truth x with
    | some true => M.ret true
    | some false => M.ret false
    | none => M.fail) st = some (b, st') from h)
  cases q : truth r with
  | none => rw [q] at h2; cases h2
  | some c =>
    rw [q] at h2
    have : b = c ∧ st' = st1 := by
      cases c with
      | true => exact M.ret_eq h2
      | false => exact M.ret_eq h2
    obtain ⟨rfl, rfl⟩ := this
    exact ⟨ρ, φ, F, st, r, _, b, rel, h1, q, w⟩

/-! ### the comprehension -/
/-- one turn -/
def lcBody (G : Cfg) (C : Calls) (elt : E) (tg : Tg) (ifs : Es) (own : List Nat) (ρ : Env) (v : T) : M (Option T) := match tg.put (TL.wipe ρ own) v with
  | some ρ' => M.bind (denIfs G C ifs ρ') fun b => if b then M.bind (denE G C false elt ρ') fun x => M.ret (some x.val) else M.ret none
  | none => M.fail
theorem listM_cons {α : Type} {f : T → M (Option α)} {t : T} {ts : List T} {s s' : Sto} {r : List α} (h : listM f (t :: ts) s = some (r, s')) : ∃ o s1 r1, f t s = some (o, s1) ∧ listM f ts s1 = some (r1, s') ∧ r = o.toList ++ r1 := by
  unfold listM at h
  obtain ⟨o, s1, h1, h2⟩ := M.bind_eq h
  obtain ⟨r1, s2, h3, h4⟩ := M.bind_eq h2
  obtain ⟨rfl, rfl⟩ := M.ret_eq h4
  refine ⟨o, s1, r1, h1, h3, ?_⟩
  cases o <;> rfl
theorem lc_go {elt : E} {tg : Tg} {it : I} {ifs : Es} {own : List Nat} {pk' : Bool} (hv : ∀ i ∈ tg.slots, i ∈ own) (σ : L2.St) (H : Hp) (Q : VK) (h : sE X cl G C pk' (.lc elt tg it ifs own) σ H Q) :
    tLc (sI X cl G C tg.isTup it) (gT X.K tg) (sTs X cl G C ifs) (sE X cl G C false elt) own σ H Q := by
  obtain ⟨ρ, φ, F, st, r, st', rel, h, w⟩ := h
  obtain ⟨ts, st1, h1, h2⟩ := M.bind_eq (show M.bind (denI G C it ρ) (fun xs => M.bind (listM (lcBody G C elt tg ifs own ρ) xs) fun ys => M.ret (.own (.lst ys))) st = some (r, st') from h)
  obtain ⟨tot, st2, h3, h4⟩ := M.bind_eq h2
  obtain ⟨rfl, rfl⟩ := M.ret_eq h4
  refine ⟨ρ, φ, F, st, ts, st1, rel, h1, fun J φ' F' H' n it tl D hD => ?_⟩
  let Pv : Nat → Hp → Prop := fun i H1 => ∃ φ1 F1 st2 acc ys rest, Nx (pk X cl) φ' F' H' φ1 F1 H1 st2 ∧ H1 D = some (.lst acc) ∧ F1 D = none ∧ D ∉ φ1 ∧ IsL (pk X cl) φ1 F1 ys acc ∧ acc.length ≤ i ∧ listM (lcBody G C elt tg ifs own ρ) (ts.drop i) st2 = some (rest, st') ∧ ys ++ rest = tot
  have h0 : Pv 0 (upd H' D (.lst [])) := ⟨φ', F', st1, [], [], tot, nx_own n.sub n.sto hD _, upd_same, fresh_sub n.sub hD, fresh_sto n.sto hD, .nil, Nat.le_refl _, h3, rfl⟩
  refine ⟨fun i m H1 => m = ts.length - i ∧ i ≤ ts.length ∧ Pv i H1, ⟨_, rfl, Nat.zero_le _, h0⟩, ?_⟩
  rintro i m H1 ⟨rfl, hi, φ1, F1, st2, acc, ys, rest, n1, hl, hf, hp, r1, hz, hm, ht⟩
  obtain ⟨go, stop⟩ := it φ1 F1 H1 st2 i n1.pre n1.le n1.sub n1.sto
  by_cases hlt : i < ts.length
  · obtain ⟨g, yl⟩ := go ts[i] (List.getElem?_eq_getElem hlt)
    rw [List.drop_eq_getElem_cons hlt] at hm
    obtain ⟨o, st3, rest', hm1, hm3, erest⟩ := listM_cons hm
    refine .inr ⟨g, Pv (i + 1), fun H2 p2 => ⟨_, by omega, rfl, hlt, p2⟩, fun v H2 y => ?_⟩
    obtain ⟨F2, n2, yd⟩ := yl v H2 y
    have n12 := Nx.trans n.sub n1 n2
    have dl : H2 D = some (.lst acc) := n2.keep _ _ hl hf hp
    have df : F2 D = none := by
      cases e : F2 D with
      | none => rfl
      | some u =>
        have := n2.new D (by rw [e]; simp) hf
        rw [hl] at this; cases this
    unfold lcBody at hm1
    cases ep : tg.put (TL.wipe ρ own) ts[i] with
    | none => rw [ep] at hm1; cases hm1
    | some ρ' =>
      rw [ep] at hm1
      obtain ⟨bb, st5, hb1, hb2⟩ := M.bind_eq hm1
      have rel2 : Rel (pk X cl) φ1 F2 H2 (TL.wipe ρ own) (L2.wipe σ own) st2 := ((((rel.nx n).nx n1).nx n2)).wipe own
      refine put_go2 rel2 hv yd ep fun σ' rel3 hw => ⟨hw, ρ', φ1, F2, st2, bb, st5, rel3, hb1, fun φ3 F3 H3 n3 => ?_⟩
      have n13 := Nx.trans n.sub n12 n3
      have dl3 : H3 D = some (.lst acc) := n3.keep _ _ dl df hp
      have df3 : F3 D = none := by
        cases e : F3 D with
        | none => rfl
        | some u =>
          have := n3.new D (by rw [e]; simp) df
          rw [dl] at this; cases this
      have dp3 : D ∉ φ3 := fun hm => by
        have := n3.ext D hm hp
        rw [dl] at this; cases this
      cases bb with
      | false =>
        obtain ⟨rfl, rfl⟩ := M.ret_eq (show M.ret none st5 = some (o, st3) from hb2)
        show Pv (i + 1) H3
        exact ⟨φ3, F3, _, acc, ys, rest', n13, dl3, df3, dp3, IsL.mono (n2.pre.trans n3.pre) (n2.le.trans n3.le) _ _ r1, Nat.le_succ_of_le hz, hm3, by rw [← ht, erest]; rfl⟩
      | true =>
        obtain ⟨x, st6, hx1, hx2⟩ := M.bind_eq (show M.bind (denE G C false elt ρ') (fun x => M.ret (some x.val)) st5 = some (o, st3) from hb2)
        obtain ⟨rfl, rfl⟩ := M.ret_eq hx2
        refine ⟨ρ', φ3, F3, st5, x, _, rel3.nx n3, hx1, fun vx φ4 F4 H4 n4 g4 => ?_⟩
        obtain ⟨F4', n4', s4, i4⟩ := Res.freeze n4 n3.sub g4
        have dl4 : H4 D = some (.lst acc) := n4'.keep _ _ dl3 df3 dp3
        have df4 : F4' D = none := by
          cases e : F4' D with
          | none => rfl
          | some u =>
            have := n4'.new D (by rw [e]; simp) df3
            rw [dl3] at this; cases this
        have dp4 : D ∉ φ4 := fun hm => by
          have := n4'.ext D hm dp3
          rw [dl3] at this; cases this
        have n14 := Nx.trans n.sub n13 n4'
        refine ⟨acc, dl4, by omega, φ4, F4', _, acc ++ [vx], ys ++ [x.val], rest', n14.updO hD df4 dp4 _, upd_same, df4, dp4, ?_, ?_, hm3, ?_⟩
        · exact (IsL.mono ((n2.pre.trans n3.pre).trans n4'.pre) ((n2.le.trans n3.le).trans n4'.le) _ _ r1).append (.cons i4 .nil)
        · rw [List.length_append, List.length_singleton]
          omega
        · rw [← ht, erest, List.append_assoc]
          rfl
  · have hi' : i = ts.length := by omega
    refine .inl ⟨stop hi', ?_⟩
    rw [hi', List.drop_length] at hm
    obtain ⟨rfl, rfl⟩ := M.ret_eq (show M.ret [] st2 = some (rest, _) from hm)
    rw [List.append_nil] at ht
    subst ht
    have nn := Nx.trans rel.sub n n1
    exact w _ _ _ _ nn (Got.of_res (r := .own (.lst ys)) ⟨D, rfl, ⟨hf, hp, acc, hl, r1⟩, n.there rel.sub hD⟩)
end
end TL
end

section
set_option Elab.async false
set_option linter.all false
set_option maxRecDepth 100000
set_option maxHeartbeats 4000000
/-! Statements. -/
namespace TL
open PySem PySem.Spec PyProof.Rows L2

/-- a state within a def's body, since its entry -/
structure SI (p : Pk) (φ0 : List Addr) (F0 H0 : Hp) (ρ : Env) (φ : List Addr) (F : Hp) (st : Sto) (σ : L2.St) (H : Hp) : Prop where
  rel : Rel p φ F H ρ σ st
  nx : Nx p φ0 F0 H0 φ F H st
  new : ∀ (i : Nat) (t : T) (a : Addr), ρ[i]? = some (.own t) → σ[i]? = some (some (.ref a)) → H0 a = none
/-- what is wanted behind a statement -/
def WtS (p : Pk) (φ0 : List Addr) (F0 H0 : Hp) (φ : List Addr) (F : Hp) (st' : Sto) (fl : Fl) (D : Ends) : Prop := match fl with
  | .nx ρ' => ∀ σ' φ' F' H', SI p φ0 F0 H0 ρ' φ' F' st' σ' H' → Pre φ φ' → Le F F' → D.nx σ' H'
  | .rt r => ∀ v φ' F' H', Nx p φ0 F0 H0 φ' F' H' st' → Res p φ' F' H' H0 r v → D.rt v H'
section
variable {p : Pk} {φ0 φ φ' : List Addr} {F0 H0 F F' H H' : Hp} {ρ : Env} {σ : L2.St} {st st' : Sto}
theorem SI.go (h : SI p φ0 F0 H0 ρ φ F st σ H) (hs : Sub F0 H0) (n : Nx p φ F H φ' F' H' st') : SI p φ0 F0 H0 ρ φ' F' st' σ H' := ⟨h.rel.nx n, Nx.trans hs h.nx n, h.new⟩
theorem WtS.go {fl : Fl} {D : Ends} {st2 : Sto} (w : WtS p φ0 F0 H0 φ F st2 fl D) (hp : Pre φ φ') (hl : Le F F') : WtS p φ0 F0 H0 φ' F' st2 fl D := by
  cases fl with
  | nx ρ' => exact fun σ' φ2 F2 H2 s h1 h2 => w σ' φ2 F2 H2 s (hp.trans h1) (hl.trans h2)
  | rt r => exact w
theorem Own.there {t : T} {a : Addr} (h : Own p φ F H t a) : ∃ o, H a = some o := by
  obtain ⟨_, _, h3⟩ := h
  cases t with
  | lst ts => obtain ⟨xs, e, _⟩ := h3; exact ⟨_, e⟩
  | dct ks ts => obtain ⟨xs, e, _⟩ := h3; exact ⟨_, e⟩
  | obj c fs ts => obtain ⟨dx, xs, e, _⟩ := h3; exact ⟨_, e⟩
  | _ => exact h3.elim
/-- an own slot's place -/
theorem SI.at_ (h : SI p φ0 F0 H0 ρ φ F st σ H) {i : Nat} {t : T} (e : ρ[i]? = some (.own t)) : ∃ a, σ[i]? = some (some (.ref a)) ∧ Own p φ F H t a ∧ H0 a = none := by
  have hlt : i < σ.length := by rw [← h.rel.len]; exact (List.getElem?_eq_some_iff.mp e).1
  have e2 := List.getElem?_eq_getElem hlt
  obtain ⟨a, e3, o⟩ := h.rel.slot i _ _ e e2
  rw [e3] at e2
  exact ⟨a, e2, o, h.new i t a e e2⟩
/-- a result is put into a slot -/
theorem SI.asg (h : SI p φ0 F0 H0 ρ φ F st σ H) (hs : Sub F0 H0) {i : Nat} {r : R} {v : V} (n : Nx p φ F H φ' F' H' st') (g : Res p φ' F' H' H r v) : SI p φ0 F0 H0 (ρ.set i (slotOf r)) φ' F' st' (σ.set i (some v)) H' := by
  have s1 := h.go hs n
  have back : ∀ {a}, H a = none → H0 a = none := fun {a} e => h.nx.there hs e
  have newset : ∀ {s : Slot} {w : Option V}, (∀ t, s = .own t → ∀ a, w = some (.ref a) → H0 a = none) → ∀ (j : Nat) (t : T) (a : Addr), (ρ.set i s)[j]? = some (.own t) → (σ.set i w)[j]? = some (some (.ref a)) → H0 a = none := fun {s w} k j t a e1 e2 => by
    by_cases q : i = j
    · subst q
      have l1 : i < ρ.length := by have := (List.getElem?_eq_some_iff.mp e1).1; rwa [List.length_set] at this
      have l2 : i < σ.length := by rw [← h.rel.len]; exact l1
      rw [List.getElem?_set_self l1] at e1
      rw [List.getElem?_set_self l2] at e2
      exact k t (Option.some.inj e1) a (Option.some.inj e2)
    · rw [List.getElem?_set_ne q] at e1 e2
      exact h.new j t a e1 e2
  cases r with
  | fro t => exact ⟨s1.rel.setF g, s1.nx, newset fun t e => by cases e⟩
  | own t =>
    obtain ⟨a, rfl, o, h0⟩ := g
    refine ⟨s1.rel.set (s := .own t) ⟨a, rfl, o⟩ fun t' _ j u b hj e1 e2 e3 => ?_, s1.nx, newset fun t' e b e2 => ?_⟩
    · cases e2
      obtain ⟨a', e4, o', _⟩ := h.at_ e1
      rw [e3] at e4
      cases e4
      obtain ⟨ob, e5⟩ := o'.there
      rw [h0] at e5; cases e5
    · cases e2
      exact back h0
/-- an own thing is changed in place -/
theorem SI.chg (h : SI p φ0 F0 H0 ρ φ F st σ H) {i : Nat} {t t' : T} {a : Addr} {ob : HO} (e : ρ[i]? = some (.own t)) (e2 : σ[i]? = some (some (.ref a))) (o : Own p φ F (upd H a ob) t' a) : SI p φ0 F0 H0 (ρ.set i (.own t')) φ F st σ (upd H a ob) := by
  obtain ⟨a', e3, oo, h0⟩ := h.at_ e
  rw [e2] at e3
  cases e3
  have hf : F a = none := oo.1
  have hp : a ∉ φ := oo.2.1
  have n := h.nx.updO h0 hf hp ob
  have li : i < ρ.length := (List.getElem?_eq_some_iff.mp e).1
  refine ⟨⟨n.sub, n.sto, by rw [List.length_set]; exact h.rel.len, fun j s v e4 e5 => ?_, fun j k u w b hjk e4 e5 e6 e7 => ?_⟩, n, fun j u b e4 e5 => ?_⟩
  · by_cases q : i = j
    · subst q
      rw [List.getElem?_set_self li] at e4
      cases e4
      rw [e2] at e5
      cases e5
      exact ⟨a, rfl, o⟩
    · rw [List.getElem?_set_ne q] at e4
      have sl := h.rel.slot j s v e4 e5
      cases s with
      | non => trivial
      | fro u => exact sl
      | own u =>
        obtain ⟨b, rfl, ob'⟩ := sl
        have hab : b ≠ a := fun z => by
          subst z
          exact h.rel.apart i j t u b q e e4 e2 e5
        refine ⟨b, rfl, ob'.1, ob'.2.1, ?_⟩
        have o3 := ob'.2.2
        cases u with
        | lst ts => obtain ⟨xs, e6, r⟩ := o3; exact ⟨xs, by rw [upd_ne hab]; exact e6, r⟩
        | dct ks ts => obtain ⟨xs, e6, r⟩ := o3; exact ⟨xs, by rw [upd_ne hab]; exact e6, r⟩
        | obj c fs ts => obtain ⟨dx, xs, e6, r⟩ := o3; exact ⟨dx, xs, by rw [upd_ne hab]; exact e6, r⟩
        | _ => exact o3.elim
  · have f : ∀ {j : Nat} {u : T}, (ρ.set i (.own t'))[j]? = some (.own u) → ∃ u', ρ[j]? = some (.own u') := fun {j u} e => by
      by_cases q : i = j
      · subst q; exact ⟨t, ‹_›⟩
      · rw [List.getElem?_set_ne q] at e; exact ⟨u, e⟩
    obtain ⟨u', e8⟩ := f e4
    obtain ⟨w', e9⟩ := f e5
    exact h.rel.apart j k u' w' b hjk e8 e9 e6 e7
  · by_cases q : i = j
    · subst q
      rw [e2] at e5
      cases e5
      exact h0
    · rw [List.getElem?_set_ne q] at e4
      exact h.new j u b e4 e5
/-- an own thing is given out -/
theorem SI.frz (h : SI p φ0 F0 H0 ρ φ F st σ H) {i : Nat} {t : T} (e : ρ[i]? = some (.own t)) : ∃ F', SI p φ0 F0 H0 (ρ.set i (.fro t)) φ F' st σ H ∧ Le F F' := by
  obtain ⟨a, e2, o, h0⟩ := h.at_ e
  obtain ⟨ob, hob⟩ := o.there
  have li : i < ρ.length := (List.getElem?_eq_some_iff.mp e).1
  have sb : Sub F (upd F a ob) := fun b u e => by rw [upd_ne (ne_of_none e o.1)]; exact e
  have m := Le.of sb
  have n : Nx p φ0 F0 H0 φ (upd F a ob) H st := ⟨h.nx.le.trans m, h.nx.keep, fun b hb hf => by
      by_cases q : b = a
      · rw [q]; exact h0
      · rw [upd_ne q] at hb; exact h.nx.new b hb hf, h.nx.pre, h.nx.ext, fun b u e => by
      by_cases q : b = a
      · rw [q, upd_same] at e; cases e; rw [q]; exact hob
      · rw [upd_ne q] at e; exact h.nx.sub b u e, ⟨h.nx.sto.1, h.nx.sto.2.1, fun b hb => by
      have : b ≠ a := fun q => o.2.1 (q ▸ hb)
      rw [upd_ne this]; exact h.nx.sto.2.2.1 b hb, fun k b ts e1 e2 => by
      obtain ⟨xs, e3, q⟩ := h.nx.sto.2.2.2 k b ts e1 e2
      exact ⟨xs, e3, IsL.mono (Pre.refl _) m _ _ q⟩⟩⟩
  have isA : Is p φ (upd F a ob) t (.ref a) := by
    obtain ⟨_, _, h3⟩ := o
    cases t with
    | lst ts => obtain ⟨xs, e, q⟩ := h3; rw [hob] at e; cases e; exact ⟨a, xs, rfl, .inl upd_same, IsL.mono (Pre.refl _) m _ _ q⟩
    | dct ks ts => obtain ⟨xs, e, e2, q⟩ := h3; rw [hob] at e; cases e; exact ⟨a, xs, rfl, .inl upd_same, e2, IsL.mono (Pre.refl _) m _ _ q⟩
    | obj c fs ts => obtain ⟨dx, xs, e, e2, q⟩ := h3; rw [hob] at e; cases e; exact ⟨a, dx, xs, rfl, upd_same, e2, IsL.mono (Pre.refl _) m _ _ q⟩
    | _ => exact h3.elim
  refine ⟨upd F a ob, ⟨⟨n.sub, n.sto, by rw [List.length_set]; exact h.rel.len, fun j s v e4 e5 => ?_, fun j k u w b hjk e4 e5 e6 e7 => ?_⟩, n, fun j u b e4 e5 => ?_⟩, m⟩
  · by_cases q : i = j
    · subst q
      rw [List.getElem?_set_self li] at e4
      cases e4
      rw [e2] at e5
      cases e5
      exact ⟨_, rfl, isA⟩
    · rw [List.getElem?_set_ne q] at e4
      have sl := h.rel.slot j s v e4 e5
      cases s with
      | non => trivial
      | fro u => obtain ⟨x, e6, r⟩ := sl; exact ⟨x, e6, Is.mono (Pre.refl _) m _ _ r⟩
      | own u =>
        obtain ⟨b, rfl, ob'⟩ := sl
        have hab : b ≠ a := fun z => by
          subst z
          exact h.rel.apart i j t u b q e e4 e2 e5
        refine ⟨b, rfl, by rw [upd_ne hab]; exact ob'.1, ob'.2.1, ?_⟩
        have o3 := ob'.2.2
        cases u with
        | lst ts => obtain ⟨xs, e6, r⟩ := o3; exact ⟨xs, e6, IsL.mono (Pre.refl _) m _ _ r⟩
        | dct ks ts => obtain ⟨xs, e6, e7, r⟩ := o3; exact ⟨xs, e6, e7, IsL.mono (Pre.refl _) m _ _ r⟩
        | obj c fs ts => obtain ⟨dx, xs, e6, e7, r⟩ := o3; exact ⟨dx, xs, e6, e7, IsL.mono (Pre.refl _) m _ _ r⟩
        | _ => exact o3.elim
  · have f : ∀ {j : Nat} {u : T}, (ρ.set i (.fro t))[j]? = some (.own u) → ρ[j]? = some (.own u) := fun {j u} e => by
      by_cases q : i = j
      · subst q; rw [List.getElem?_set_self li] at e; cases e
      · rw [List.getElem?_set_ne q] at e; exact e
    exact h.rel.apart j k u w b hjk (f e4) (f e5) e6 e7
  · by_cases q : i = j
    · subst q; rw [List.getElem?_set_self li] at e4; cases e4
    · rw [List.getElem?_set_ne q] at e4; exact h.new j u b e4 e5
/-- an own list is shared from then on -/
theorem SI.shr (h : SI p φ0 F0 H0 ρ φ F st σ H) {i : Nat} {ts : List T} (e : ρ[i]? = some (.own (.lst ts))) : ∃ φ', SI p φ0 F0 H0 (ρ.set i (.fro (.ref st.length))) φ' F (st ++ [ts]) σ H ∧ Pre φ φ' := by
  obtain ⟨a, e2, o, h0⟩ := h.at_ e
  obtain ⟨o1, o2, xs, o3, o4⟩ := o
  have li : i < ρ.length := (List.getElem?_eq_some_iff.mp e).1
  have pr : Pre φ (φ ++ [a]) := ⟨[a], rfl⟩
  have sl := h.nx.sto.1
  have n : Nx p φ0 F0 H0 (φ ++ [a]) F H (st ++ [ts]) := ⟨h.nx.le, h.nx.keep, h.nx.new, h.nx.pre.trans pr, fun b hb hp => by
      rcases List.mem_append.mp hb with hb | hb
      · exact h.nx.ext b hb hp
      · rw [List.mem_singleton.mp hb]; exact h0, h.nx.sub, ⟨by rw [List.length_append, List.length_append, sl]; rfl, ?_, fun b hb => by
      rcases List.mem_append.mp hb with hb | hb
      · exact h.nx.sto.2.2.1 b hb
      · rw [List.mem_singleton.mp hb]; exact o1, fun k b us e1 e3 => ?_⟩⟩
  · refine ⟨φ ++ [a], ⟨⟨n.sub, n.sto, by rw [List.length_set]; exact h.rel.len, fun j s v e4 e5 => ?_, fun j k u w b hjk e4 e5 e6 e7 => ?_⟩, n, fun j u b e4 e5 => ?_⟩, pr⟩
    · by_cases q : i = j
      · subst q
        rw [List.getElem?_set_self li] at e4
        cases e4
        rw [e2] at e5
        cases e5
        exact ⟨_, rfl, a, rfl, by rw [← sl, List.getElem?_append_right (Nat.le_refl _), Nat.sub_self]; rfl⟩
      · rw [List.getElem?_set_ne q] at e4
        have sl := h.rel.slot j s v e4 e5
        cases s with
        | non => trivial
        | fro u => obtain ⟨x, e6, r⟩ := sl; exact ⟨x, e6, Is.mono pr (Le.refl _) _ _ r⟩
        | own u =>
          obtain ⟨b, rfl, ob'⟩ := sl
          have hab : b ≠ a := fun z => by
            subst z
            exact h.rel.apart i j _ u b q e e4 e2 e5
          refine ⟨b, rfl, ob'.1, fun hm => ?_, ?_⟩
          · rcases List.mem_append.mp hm with hm | hm
            · exact ob'.2.1 hm
            · exact hab (List.mem_singleton.mp hm)
          have o3 := ob'.2.2
          cases u with
          | lst ts => obtain ⟨xs, e6, r⟩ := o3; exact ⟨xs, e6, IsL.mono pr (Le.refl _) _ _ r⟩
          | dct ks ts => obtain ⟨xs, e6, e7, r⟩ := o3; exact ⟨xs, e6, e7, IsL.mono pr (Le.refl _) _ _ r⟩
          | obj c fs ts => obtain ⟨dx, xs, e6, e7, r⟩ := o3; exact ⟨dx, xs, e6, e7, IsL.mono pr (Le.refl _) _ _ r⟩
          | _ => exact o3.elim
    · have f : ∀ {j : Nat} {u : T}, (ρ.set i (.fro (.ref st.length)))[j]? = some (.own u) → ρ[j]? = some (.own u) := fun {j u} e => by
        by_cases q : i = j
        · subst q; rw [List.getElem?_set_self li] at e; cases e
        · rw [List.getElem?_set_ne q] at e; exact e
      exact h.rel.apart j k u w b hjk (f e4) (f e5) e6 e7
    · by_cases q : i = j
      · subst q; rw [List.getElem?_set_self li] at e4; cases e4
      · rw [List.getElem?_set_ne q] at e4; exact h.new j u b e4 e5
  · rw [List.nodup_append]
    exact ⟨h.nx.sto.2.1, by simp, fun b hb c hc z => by
      rw [List.mem_singleton.mp hc] at z
      subst z
      exact o2 hb⟩
  · have lk : k < φ.length ∨ k = φ.length := by
      have := (List.getElem?_eq_some_iff.mp e1).1
      rw [List.length_append, List.length_singleton] at this
      omega
    rcases lk with lk | lk
    · rw [List.getElem?_append_left lk] at e1
      rw [List.getElem?_append_left (by rw [← sl]; exact lk)] at e3
      obtain ⟨xs, e4, q⟩ := h.nx.sto.2.2.2 k b us e1 e3
      exact ⟨xs, e4, IsL.mono pr (Le.refl _) _ _ q⟩
    · subst lk
      rw [List.getElem?_append_right (Nat.le_refl _), Nat.sub_self] at e1
      rw [sl, List.getElem?_append_right (Nat.le_refl _), Nat.sub_self] at e3
      cases e1
      cases e3
      exact ⟨xs, o3, IsL.mono pr (Le.refl _) _ _ o4⟩
/-- a shared list's item is set -/
theorem SI.shset (h : SI p φ0 F0 H0 ρ φ F st σ H) {n j : Nat} {a : Addr} {ts : List T} {xs : List V} {t : T} {v : V} (e : φ[n]? = some a) (es : st[n]? = some ts) (hx : H a = some (.lst xs)) (hi : IsL p φ F ts xs) (hv : Is p φ F t v) :
    SI p φ0 F0 H0 ρ φ F (st.set n (ts.set j t)) σ (L2.upd H a (.lst (xs.set j v))) := by
  obtain ⟨s1, s2, s3, s4⟩ := h.nx.sto
  have inj : ∀ {k : Nat}, φ[k]? = some a → k = n := fun {k} e1 => by
    obtain ⟨l1, e3⟩ := List.getElem?_eq_some_iff.mp e1
    obtain ⟨l2, e4⟩ := List.getElem?_eq_some_iff.mp e
    rcases Nat.lt_trichotomy k n with q | q | q
    · exact absurd (e3.trans e4.symm) (List.pairwise_iff_getElem.mp s2 k n l1 l2 q)
    · exact q
    · exact absurd (e4.trans e3.symm) (List.pairwise_iff_getElem.mp s2 n k l2 l1 q)
  have am : a ∈ φ := List.mem_of_getElem? e
  have ln : n < st.length := (List.getElem?_eq_some_iff.mp es).1
  have nn : Nx p φ0 F0 H0 φ F (L2.upd H a (.lst (xs.set j v))) (st.set n (ts.set j t)) := ⟨h.nx.le, fun b o e1 hf hp => by
      have : b ≠ a := fun z => by
        subst z
        have := h.nx.ext b am hp
        rw [this] at e1; cases e1
      rw [upd_ne this]
      exact h.nx.keep b o e1 hf hp, h.nx.new, h.nx.pre, h.nx.ext, fun b u e1 => by
      have : b ≠ a := fun z => by
        subst z
        have := s3 b am
        rw [this] at e1; cases e1
      rw [upd_ne this]
      exact h.nx.sub b u e1, ⟨by rw [List.length_set]; exact s1, s2, s3, fun k b us e1 e3 => by
      by_cases q : k = n
      · subst q
        rw [List.getElem?_set_self ln] at e3
        cases e3
        rw [e] at e1
        cases e1
        exact ⟨_, upd_same, hi.set hv j⟩
      · rw [List.getElem?_set_ne (Ne.symm q)] at e3
        obtain ⟨ys, e4, r⟩ := s4 k b us e1 e3
        have : b ≠ a := fun z => by
          subst z
          exact q (inj e1)
        exact ⟨ys, by rw [upd_ne this]; exact e4, r⟩⟩⟩
  refine ⟨⟨nn.sub, nn.sto, h.rel.len, fun i s w e4 e5 => ?_, h.rel.apart⟩, nn, h.new⟩
  have sl := h.rel.slot i s w e4 e5
  cases s with
  | non => trivial
  | fro u => exact sl
  | own u =>
    obtain ⟨b, rfl, o⟩ := sl
    have hab : b ≠ a := fun z => o.2.1 (z ▸ am)
    refine ⟨b, rfl, o.1, o.2.1, ?_⟩
    have o3 := o.2.2
    cases u with
    | lst ts => obtain ⟨xs, e6, r⟩ := o3; exact ⟨xs, by rw [upd_ne hab]; exact e6, r⟩
    | dct ks ts => obtain ⟨xs, e6, r⟩ := o3; exact ⟨xs, by rw [upd_ne hab]; exact e6, r⟩
    | obj c fs ts => obtain ⟨dx, xs, e6, r⟩ := o3; exact ⟨dx, xs, by rw [upd_ne hab]; exact e6, r⟩
    | _ => exact o3.elim
end
end TL
end

section
set_option Elab.async false
set_option linter.all false
set_option maxRecDepth 100000
set_option maxHeartbeats 4000000
/-! Statements: the text does what the small language says. -/
namespace TL
open PySem PySem.Spec PyProof.Rows L2

section
variable (X : Cx) (cl : Nat → Addr) (G : Cfg) (C : Calls)
def sS (s : S) : TS := fun D σ H => ∃ φ0 F0 H0 ρ φ F st fl st', Sub F0 H0 ∧ SI (pk X cl) φ0 F0 H0 ρ φ F st σ H ∧ denS G C s ρ st = some (fl, st') ∧ WtS (pk X cl) φ0 F0 H0 φ F st' fl D
def sSs (ss : Ss) : TS := fun D σ H => ∃ φ0 F0 H0 ρ φ F st fl st', Sub F0 H0 ∧ SI (pk X cl) φ0 F0 H0 ρ φ F st σ H ∧ denSs G C ss ρ st = some (fl, st') ∧ WtS (pk X cl) φ0 F0 H0 φ F st' fl D
def JS (x : Stmt) (s : S) : Prop := PS X x (sS X cl G C s)
def JSs (xs : List Stmt) (ss : Ss) : Prop := PSs X xs (sSs X cl G C ss)
end
section
variable {X : Cx} {cl : Nat → Addr} {G : Cfg} {C : Calls} {pos pos' p p2 apos : Pos} {x y o : Expr} {e ei : E} {ss ta tb : Ss} {st : Stmt} {s : S} {xs : List Stmt} {n : Str} {i : Nat}
theorem PS.imp {x : Stmt} {t t' : TS} (h : PS X x t) (k : ∀ D σ H, t' D σ H → t D σ H) : PS X x t' := ⟨fun pins s σ H D I q => h.run pins s σ H D I (k D σ H q)⟩
theorem PSs.imp {x : List Stmt} {t t' : TS} (h : PSs X x t) (k : ∀ D σ H, t' D σ H → t D σ H) : PSs X x t' := ⟨fun pins s σ H D I q => h.run pins s σ H D I (k D σ H q)⟩

/-! ### blocks -/
theorem jss_nil : JSs X cl G C [] .nil := PSs.imp pss_nil fun D σ H ⟨φ0, F0, H0, ρ, φ, F, st, fl, st', hs, h, hd, w⟩ => by
  obtain ⟨rfl, rfl⟩ := M.ret_eq (show M.ret _ _ = _ from hd)
  exact w σ φ F H h (Pre.refl _) (Le.refl _)
theorem ends_eta (D : Ends) : ({ D with nx := D.nx } : Ends) = D := rfl
theorem jss_cons (h1 : JS X cl G C st s) (h2 : JSs X cl G C xs ss) : JSs X cl G C (st :: xs) (.cons s ss) := PSs.imp (pss_cons h1 h2) fun D σ H ⟨φ0, F0, H0, ρ, φ, F, sto, fl, st', hs, h, hd, w⟩ => by
  obtain ⟨f1, st1, h3, h4⟩ := M.bind_eq (show M.bind (denS G C s ρ) (fun fl => match fl with
    | .nx ρ' => denSs G C ss ρ'
    | .rt r => M.ret (.rt r)) sto = some (fl, st') from hd)
  refine ⟨φ0, F0, H0, ρ, φ, F, sto, f1, st1, hs, h, h3, ?_⟩
  cases f1 with
  | nx ρ' => exact fun σ' φ' F' H' h' hp hl => ⟨φ0, F0, H0, ρ', φ', F', st1, fl, st', hs, h', h4, w.go hp hl⟩
  | rt r =>
    obtain ⟨rfl, rfl⟩ := M.ret_eq (show M.ret _ _ = _ from h4)
    exact w
theorem jss_frz (h2 : JSs X cl G C xs ss) : JSs X cl G C xs (.cons (.frz i) ss) := PSs.imp h2 fun D σ H ⟨φ0, F0, H0, ρ, φ, F, sto, fl, st', hs, h, hd, w⟩ => by
  obtain ⟨f1, st1, h3, h4⟩ := M.bind_eq (show M.bind (denS G C (.frz i) ρ) (fun fl => match fl with
    | .nx ρ' => denSs G C ss ρ'
    | .rt r => M.ret (.rt r)) sto = some (fl, st') from hd)
  have h3 : (match ρ[i]? with
    | some (.own t) => M.ret (.nx (ρ.set i (.fro t)))
    | _ => M.ret (.nx ρ) : M Fl) sto = some (f1, st1) := h3
  have stay : (M.ret (.nx ρ) : M Fl) sto = some (f1, st1) → sSs X cl G C ss D σ H := fun h3 => by
    obtain ⟨rfl, rfl⟩ := M.ret_eq h3
    exact ⟨φ0, F0, H0, _, φ, F, _, fl, st', hs, h, h4, w⟩
  cases e : ρ[i]? with
  | none => rw [e] at h3; exact stay h3
  | some sl =>
    rw [e] at h3
    cases sl with
    | own t =>
      obtain ⟨rfl, rfl⟩ := M.ret_eq h3
      obtain ⟨F', h', l⟩ := h.frz e
      exact ⟨φ0, F0, H0, _, φ, F', _, fl, st', hs, h', h4, w.go (Pre.refl _) l⟩
    | non => exact stay h3
    | fro t => exact stay h3
theorem jss_shr (h2 : JSs X cl G C xs ss) : JSs X cl G C xs (.cons (.shr i) ss) := PSs.imp h2 fun D σ H ⟨φ0, F0, H0, ρ, φ, F, sto, fl, st', hs, h, hd, w⟩ => by
  obtain ⟨f1, st1, h3, h4⟩ := M.bind_eq (show M.bind (denS G C (.shr i) ρ) (fun fl => match fl with
    | .nx ρ' => denSs G C ss ρ'
    | .rt r => M.ret (.rt r)) sto = some (fl, st') from hd)
  have h3 : (match ρ[i]? with
    | some (.own (.lst ts)) => fun s => some (.nx (ρ.set i (.fro (.ref s.length))), s ++ [ts])
    | _ => M.fail : M Fl) sto = some (f1, st1) := h3
  cases e : ρ[i]? with
  | none => rw [e] at h3; cases h3
  | some sl =>
    rw [e] at h3
    cases sl with
    | own t =>
      cases t with
      | lst ts =>
        cases h3
        obtain ⟨φ', h', l⟩ := h.shr e
        exact ⟨φ0, F0, H0, _, φ', F, _, fl, st', hs, h', h4, w.go l (Le.refl _)⟩
      | _ => cases h3
    | _ => cases h3

/-! ### small statements -/
theorem js_pass : JS X cl G C (.Pass pos) .pass := PS.imp ps_pass fun D σ H ⟨φ0, F0, H0, ρ, φ, F, st, fl, st', hs, h, hd, w⟩ => by
  obtain ⟨rfl, rfl⟩ := M.ret_eq (show M.ret _ _ = _ from hd)
  exact w σ φ F H h (Pre.refl _) (Le.refl _)
theorem asg_go (hs' : True) : ∀ (D : Ends) (σ : L2.St) (H : Hp), sS X cl G C (.asg i e) D σ H → tAsg (sE X cl G C false e) (gName i) D σ H := fun D σ H ⟨φ0, F0, H0, ρ, φ, F, sto, fl, st', hs, h, hd, w⟩ => by
  obtain ⟨r, st1, h1, h2⟩ := M.bind_eq (show M.bind (denE G C false e ρ) (fun r => M.ret (.nx (ρ.set i (slotOf r)))) sto = some (fl, st') from hd)
  obtain ⟨rfl, rfl⟩ := M.ret_eq h2
  exact ⟨ρ, φ, F, sto, r, _, h.rel, h1, fun v φ' F' H' n g => w _ φ' F' H' (h.asg hs n g) n.pre n.le⟩
theorem js_asg (hN : X.N.Nodup) (hi : X.N[i]? = some n) (hx : Sto1 X n) (he : JE X cl G C false x e) (hsw : swapsWith x (some (.Name n p)) pos.line X.env = pure false) : JS X cl G C (.Assign [.Name n p] x pos) (.asg i e) :=
  PS.imp (ps_set hN hi hx.1 he hsw hx.2) (asg_go trivial)
theorem js_asgT {es : List Expr} {is : List Nat} {kk : Nat} (hc : X.calm = true) (hN : X.N.Nodup) (hn : ∀ q ∈ es, ∃ x p, q = .Name x p) (hl : es.length = is.length)
    (hi : ∀ (j : Nat) (x : Str) (p : Pos) (i : Nat), es[j]? = some (.Name x p) → is[j]? = some i → X.N[i]? = some x ∧ Sto1 X x)
    (he : JE X cl G C false x e) (h1 : swapsWithSole [.Tuple es kk p] x pos.line X.env = pure false) (h2 : swappedStores [.Tuple es kk p] x X.env = pure none) : JS X cl G C (.Assign [.Tuple es kk p] x pos) (.asgT is e) :=
  PS.imp (ps_asg he (pg_unp (kk := kk) (pos := p) hc hN hn hl hi) h1 h2) fun D σ H ⟨φ0, F0, H0, ρ, φ, F, sto, fl, st', hs, h, hd, w⟩ => by
    obtain ⟨r, st1, h3, h4⟩ := M.bind_eq (show M.bind (denE G C false e ρ) (fun r => match seqOf r.val with
      | some ts => M.of ((setMany ρ is ts).map .nx)
      | none => M.fail) sto = some (fl, st') from hd)
    refine ⟨ρ, φ, F, sto, r, _, h.rel, h3, fun v φ' F' H' n g => ?_⟩
    obtain ⟨F2, n2, _, i2⟩ := Res.freeze n h.rel.sub g
    cases q : seqOf r.val with
    | none => rw [q] at h4; cases h4
    | some ts =>
      rw [q] at h4
      obtain ⟨h5, rfl⟩ := M.of_eq h4
      obtain ⟨ρ', h6, rfl⟩ := Option.map_eq_some_iff.mp h5
      obtain ⟨a, xs, rfl, sq, r1⟩ := Seen.seq (H := H') n2.sub (.inl i2) q
      have s2 := h.go hs n2
      obtain ⟨rel', hlen⟩ := s2.rel.setV r1 h6
      refine ⟨a, xs, rfl, sq.symm, hlen, w _ φ' F2 H' ⟨rel', s2.nx, ?_⟩ n2.pre n2.le⟩
      -- own slots: those from before
      have key : ∀ {is : List Nat} {ts : List T} {vs : List V} {ρ ρ' : Env} {σ : L2.St}, setMany ρ is ts = some ρ' → vs.length = is.length → ρ.length = σ.length → (∀ (i : Nat) (t : T) (a : Addr), ρ[i]? = some (.own t) → σ[i]? = some (some (.ref a)) → H0 a = none) →
          ∀ (i : Nat) (t : T) (a : Addr), ρ'[i]? = some (.own t) → (setV σ is vs)[i]? = some (some (.ref a)) → H0 a = none := fun {is} => by
        induction is with
        | nil =>
          intro ts vs ρ ρ' σ e1 e2 e3 k
          cases ts with
          | nil => cases e1; cases vs <;> exact k
          | cons t ts => cases e1
        | cons j is ih =>
          intro ts vs ρ ρ' σ e1 e2 e3 k
          cases ts with
          | nil => cases e1
          | cons t ts =>
            cases vs with
            | nil => cases e2
            | cons v vs =>
              refine ih (ρ := ρ.set j (.fro t)) (σ := σ.set j (some v)) e1 (Nat.succ.inj e2) (by rw [List.length_set, List.length_set, e3]) fun i u a h1 h2 => ?_
              by_cases q : j = i
              · subst q
                have l1 : j < ρ.length := by have := (List.getElem?_eq_some_iff.mp h1).1; rwa [List.length_set] at this
                rw [List.getElem?_set_self l1] at h1
                cases h1
              · rw [List.getElem?_set_ne q] at h1 h2
                exact k i u a h1 h2
      exact key h6 hlen s2.rel.len s2.new
theorem js_ret (he : JE X cl G C false x e) : JS X cl G C (.Return (some x) pos) (.ret e) := PS.imp (ps_ret he) fun D σ H ⟨φ0, F0, H0, ρ, φ, F, sto, fl, st', hs, h, hd, w⟩ => by
  obtain ⟨r, st1, h1, h2⟩ := M.bind_eq (show M.bind (denE G C false e ρ) (fun r => M.ret (.rt r)) sto = some (fl, st') from hd)
  obtain ⟨rfl, rfl⟩ := M.ret_eq h2
  exact ⟨ρ, φ, F, sto, r, _, h.rel, h1, fun v φ' F' H' n g => w v φ' F' H' (Nx.trans hs h.nx n) (Res.back g fun a q => h.nx.there hs q)⟩
theorem js_retO (hi : X.N[i]? = some n) (hv : Vis X.env.scope n) (hd : (n == ("__debug__" : Str)) = false) (hcd : (n == ("__classdict__" : Str)) = false) : JS X cl G C (.Return (some (.Name n p)) pos) (.retO i) :=
  PS.imp (ps_ret (pe_var hi hv hd hcd)) fun D σ H ⟨φ0, F0, H0, ρ, φ, F, sto, fl, st', hs, h, hd, w⟩ => by
    have hd : (match ρ[i]? with
      | some (.own t) => M.ret (.rt (.own t))
      | _ => M.fail : M Fl) sto = some (fl, st') := hd
    cases e : ρ[i]? with
    | none => rw [e] at hd; cases hd
    | some sl =>
      rw [e] at hd
      cases sl with
      | own t =>
        obtain ⟨rfl, rfl⟩ := M.ret_eq hd
        obtain ⟨a, e2, o, h0⟩ := h.at_ e
        exact ⟨.ref a, e2, w _ φ F H h.nx ⟨a, rfl, o, h0⟩⟩
      | _ => cases hd

/-! ### if, while, for -/
theorem js_if {c : Expr} {ec : E} {a b : List Stmt} (hc : JT X cl G C c ec) (ha : JSs X cl G C a ta) (hb : JSs X cl G C b tb) : JS X cl G C (.If c a b pos) (.ifs ec ta tb) :=
  PS.imp (ps_if hc ha hb) fun D σ H ⟨φ0, F0, H0, ρ, φ, F, sto, fl, st', hs, h, hd, w⟩ => by
    obtain ⟨r, st1, h1, h2⟩ := M.bind_eq (show M.bind (denE G C false ec ρ) (fun r => match truth r with
      | some true => denSs G C ta ρ
      | some false => denSs G C tb ρ
      | none => M.fail) sto = some (fl, st') from hd)
    cases q : truth r with
    | none => rw [q] at h2; cases h2
    | some bb =>
      rw [q] at h2
      refine ⟨ρ, φ, F, sto, r, st1, bb, h.rel, h1, q, fun φ' F' H' n => ?_⟩
      cases bb with
      | true => exact ⟨φ0, F0, H0, ρ, φ', F', st1, fl, st', hs, h.go hs n, h2, w.go n.pre n.le⟩
      | false => exact ⟨φ0, F0, H0, ρ, φ', F', st1, fl, st', hs, h.go hs n, h2, w.go n.pre n.le⟩
theorem js_whl {c : Expr} {ec : E} {a : List Stmt} {k : Nat} (hp : PassesOwn (model X.prog X.w) X.A X.env X.xe) (hc : JT X cl G C c ec) (ha : JSs X cl G C a ta) : JS X cl G C (.While c a [] pos) (.whl k ec ta) :=
  PS.imp (ps_while hp hc ha) fun D σ H ⟨φ0, F0, H0, ρ, φ, F, sto, fl, st', hs, h, hd, w⟩ => by
    have hd : loopW (denE G C false ec) (denSs G C ta) k ρ sto = some (fl, st') := hd
    refine ⟨fun m σ1 H1 => ∃ ρ1 φ1 F1 st1, SI (pk X cl) φ0 F0 H0 ρ1 φ1 F1 st1 σ1 H1 ∧ Pre φ φ1 ∧ Le F F1 ∧ loopW (denE G C false ec) (denSs G C ta) m ρ1 st1 = some (fl, st'), ⟨k, ρ, φ, F, sto, h, Pre.refl _, Le.refl _, hd⟩, ?_⟩
    rintro m σ1 H1 ⟨ρ1, φ1, F1, st1, h1, hp1, hl1, hd1⟩
    cases m with
    | zero => cases hd1
    | succ m =>
      obtain ⟨r, st2, h3, h4⟩ := M.bind_eq (show M.bind (denE G C false ec ρ1) (fun t => match truth t with
        | some true => M.bind (denSs G C ta ρ1) fun fl => match fl with
          | .nx ρ' => loopW (denE G C false ec) (denSs G C ta) m ρ'
          | .rt r => M.ret (.rt r)
        | some false => M.ret (.nx ρ1)
        | none => M.fail) st1 = some (fl, st') from hd1)
      cases q : truth r with
      | none => rw [q] at h4; cases h4
      | some bb =>
        rw [q] at h4
        refine ⟨ρ1, φ1, F1, st1, r, st2, bb, h1.rel, h3, q, fun φ' F' H' n => ?_⟩
        cases bb with
        | true =>
          obtain ⟨f1, st3, h5, h6⟩ := M.bind_eq h4
          refine ⟨_, fun σ2 H2 q2 => ⟨m, Nat.lt_succ_self _, q2⟩, φ0, F0, H0, ρ1, φ', F', st2, f1, st3, hs, h1.go hs n, h5, ?_⟩
          cases f1 with
          | nx ρ' => exact fun σ2 φ2 F2 H2 h7 hp2 hl2 => ⟨ρ', φ2, F2, st3, h7, (hp1.trans n.pre).trans hp2, (hl1.trans n.le).trans hl2, h6⟩
          | rt r =>
            obtain ⟨rfl, rfl⟩ := M.ret_eq (show M.ret _ _ = _ from h6)
            exact w
        | false =>
          obtain ⟨rfl, rfl⟩ := M.ret_eq (show M.ret _ _ = _ from h4)
          exact w _ φ' F' H' (h1.go hs n) (hp1.trans n.pre) (hl1.trans n.le)
/-- an item is put, the state told -/
theorem put_si {φ0 φ : List Addr} {F0 H0 F H : Hp} {ρ ρ' : Env} {σ : L2.St} {st : Sto} {tg : Tg} {t : T} {v : V} {Q : L2.St → Hp → Prop} (h : SI (pk X cl) φ0 F0 H0 ρ φ F st σ H) (y : Yd tg.isTup (pk X cl) φ F H t v) (e : tg.put ρ t = some ρ')
    (q : ∀ σ', SI (pk X cl) φ0 F0 H0 ρ' φ F st σ' H → Q σ' H) : gT X.K tg v σ H Q := by
  have one : ∀ {ρ : Env} {σ : L2.St} {i : Nat} {t : T} {v : V}, ρ.length = σ.length → (∀ (i : Nat) (t : T) (a : Addr), ρ[i]? = some (.own t) → σ[i]? = some (some (.ref a)) → H0 a = none) →
      ∀ (j : Nat) (u : T) (a : Addr), (ρ.set i (.fro t))[j]? = some (.own u) → (σ.set i (some v))[j]? = some (some (.ref a)) → H0 a = none := fun {ρ σ i t v} hl k j u a h1 h2 => by
    by_cases q : i = j
    · subst q
      have l1 : i < ρ.length := by have := (List.getElem?_eq_some_iff.mp h1).1; rwa [List.length_set] at this
      rw [List.getElem?_set_self l1] at h1
      cases h1
    · rw [List.getElem?_set_ne q] at h1 h2
      exact k j u a h1 h2
  cases tg with
  | var i =>
    cases e
    exact q _ ⟨h.rel.setF y, h.nx, one h.rel.len h.new⟩
  | tup is =>
    have e : (match seqOf t with
      | some ts => setMany ρ is ts
      | none => none) = some ρ' := e
    cases hq : seqOf t with
    | none => rw [hq] at e; cases e
    | some ts =>
      rw [hq] at e
      obtain ⟨a, xs, rfl, sq, r⟩ := y ts hq
      obtain ⟨r1, r2⟩ := h.rel.setV r e
      refine ⟨a, xs, rfl, sq, r2, q _ ⟨r1, h.nx, ?_⟩⟩
      have key : ∀ {is : List Nat} {ts : List T} {vs : List V} {ρ ρ' : Env} {σ : L2.St}, setMany ρ is ts = some ρ' → vs.length = is.length → ρ.length = σ.length → (∀ (i : Nat) (t : T) (a : Addr), ρ[i]? = some (.own t) → σ[i]? = some (some (.ref a)) → H0 a = none) →
          ∀ (i : Nat) (t : T) (a : Addr), ρ'[i]? = some (.own t) → (setV σ is vs)[i]? = some (some (.ref a)) → H0 a = none := fun {is} => by
        induction is with
        | nil =>
          intro ts vs ρ ρ' σ e1 e2 e3 k
          cases ts with
          | nil => cases e1; cases vs <;> exact k
          | cons t ts => cases e1
        | cons j is ih =>
          intro ts vs ρ ρ' σ e1 e2 e3 k
          cases ts with
          | nil => cases e1
          | cons t ts =>
            cases vs with
            | nil => cases e2
            | cons v vs => exact ih (ρ := ρ.set j (.fro t)) (σ := σ.set j (some v)) e1 (Nat.succ.inj e2) (by rw [List.length_set, List.length_set, e3]) (one e3 k)
      exact key e r2 h.rel.len h.new
theorem js_for {iter tgx : Expr} {it : I} {tg : Tg} {a : List Stmt} (hp : PassesOwn (model X.prog X.w) X.A X.env X.xe) (hc : X.calm = true) (hi : JI X cl G C tg.isTup tgx iter it) (hg : PG X tgx (gT X.K tg)) (ha : JSs X cl G C a ta)
    (hfs : ∀ x, foldedSetIterable iter X.env x = pure x) : JS X cl G C (.For tgx iter a [] pos) (.fors tg it ta) :=
  PS.imp (ps_for hp hc hi hg ha hfs) fun D σ H ⟨φ0, F0, H0, ρ, φ, F, sto, fl, st', hs, h, hd, w⟩ => by
    let body : T → Env → M Fl := fun v ρ => match tg.put ρ v with
      | some ρ' => denSs G C ta ρ'
      | none => M.fail
    obtain ⟨ts, st1, h1, h2⟩ := M.bind_eq (show M.bind (denI G C it ρ) (fun xs => loopF body xs ρ) sto = some (fl, st') from hd)
    refine ⟨ρ, φ, F, sto, ts, st1, h.rel, h1, fun J φ' F' H' n itk tl => ?_⟩
    refine ⟨fun i m σ1 H1 => m = ts.length - i ∧ i ≤ ts.length ∧ ∃ ρ1 φ1 F1 st2, SI (pk X cl) φ0 F0 H0 ρ1 φ1 F1 st2 σ1 H1 ∧ Pre φ' φ1 ∧ Le F' F1 ∧ loopF body (ts.drop i) ρ1 st2 = some (fl, st'), ⟨_, rfl, Nat.zero_le _, ρ, φ', F', st1, h.go hs n, Pre.refl _, Le.refl _, h2⟩, ?_⟩
    rintro i m σ1 H1 ⟨rfl, hi, ρ1, φ1, F1, st2, s1, hp1, hl1, hd1⟩
    obtain ⟨go, stop⟩ := itk φ1 F1 H1 st2 i hp1 hl1 s1.nx.sub s1.nx.sto
    by_cases hlt : i < ts.length
    · obtain ⟨g, yl⟩ := go ts[i] (List.getElem?_eq_getElem hlt)
      rw [List.drop_eq_getElem_cons hlt] at hd1
      obtain ⟨f1, st3, h3, h4⟩ := M.bind_eq (show M.bind (body ts[i] ρ1) (fun fl => match fl with
        | .nx ρ' => loopF body (ts.drop (i + 1)) ρ'
        | .rt r => M.ret (.rt r)) st2 = some (fl, st') from hd1)
      refine .inr ⟨g, _, fun σ2 H2 q2 => ⟨_, (show ts.length - (i + 1) < ts.length - i by omega), rfl, hlt, q2⟩, fun v H2 y => ?_⟩
      obtain ⟨F2, n2, yd⟩ := yl v H2 y
      cases ep : tg.put ρ1 ts[i] with
      | none =>
        have h3 : (match tg.put ρ1 ts[i] with
          | some ρ' => denSs G C ta ρ'
          | none => M.fail : M Fl) st2 = some (f1, st3) := h3
        rw [ep] at h3; cases h3
      | some ρ' =>
        have h3 : (match tg.put ρ1 ts[i] with
          | some ρ' => denSs G C ta ρ'
          | none => M.fail : M Fl) st2 = some (f1, st3) := h3
        rw [ep] at h3
        have s2 := s1.go hs n2
        refine put_si s2 yd ep fun σ' s3 => ⟨φ0, F0, H0, ρ', φ1, F2, st2, f1, st3, hs, s3, h3, ?_⟩
        cases f1 with
        | nx ρ2 => exact fun σ2 φ2 F3 H3 s4 hp2 hl2 => ⟨ρ2, φ2, F3, st3, s4, (hp1.trans n2.pre).trans hp2, (hl1.trans n2.le).trans hl2, h4⟩
        | rt r =>
          obtain ⟨rfl, rfl⟩ := M.ret_eq (show M.ret _ _ = _ from h4)
          exact w
    · have hi' : i = ts.length := by omega
      rw [hi', List.drop_length] at hd1
      obtain ⟨rfl, rfl⟩ := M.ret_eq (show M.ret _ _ = _ from hd1)
      exact .inl ⟨stop hi', w _ φ1 F1 H1 s1 (n.pre.trans hp1) (n.le.trans hl1)⟩
end
end TL
end

section
set_option Elab.async false
set_option linter.all false
set_option maxRecDepth 100000
set_option maxHeartbeats 4000000
/-! Statements that change a thing of one's own. -/
namespace TL
open PySem PySem.Spec PyProof.Rows L2

section
variable {X : Cx} {cl : Nat → Addr} {G : Cfg} {C : Calls} {pos pos' p p2 apos cpos : Pos} {x y o : Expr} {e ei : E} {n : Str} {i : Nat}
theorem put_is {p : Pk} {φ : List Addr} {F : Hp} {acc : List (Key × V)} {ts : List T} {k : Key} {t : T} {v : V} (h : IsL p φ F ts (acc.map (·.2))) (hv : Is p φ F t v) : (putK acc k v).map (·.1) = putKs (acc.map (·.1)) k ∧ IsL p φ F (putTs (acc.map (·.1)) ts k t) ((putK acc k v).map (·.2)) :=
  pairsIn_is (ps := [(k, t)]) (kvs := [(k, v)]) (acc := acc) (ts := ts) rfl (.cons hv .nil) h
def rSetA : V → V → V → Hp → (Hp → Prop) → Prop := fun o i v H Q => rSetL o i v H Q ∨ ∃ a H', o = .ref a ∧ DPut H a i v H' ∧ Q H'
theorem set_any (hu : X.A.units + 1 < cLine) : PSet X rSetA := by
  intro pins s σ H o i v ov iv u Q I ro ri rv h
  rcases h with h | ⟨a, H', rfl, g, q⟩
  · exact set_list pins s σ H o i v ov iv u Q I ro ri rv h
  · cases ro
    exact d_setItem hu I g ri rv fun s' I' => ⟨H', I', q⟩
theorem js_setI {xp : Expr} (hu : X.A.units + 1 < cLine) (hN : X.N[i]? = some n) (hv : Vis X.env.scope n) (hd : (n == ("__debug__" : Str)) = false) (hcd : (n == ("__classdict__" : Str)) = false) (he : JE X cl G C false x e) (hi : JE X cl G C false y ei)
    (h1 : swapsWithSole [.Subscript (.Name n p) y p2] x pos.line X.env = pure false) (h2 : swappedStores [.Subscript (.Name n p) y p2] x X.env = pure none)
    (ha : ∀ v, assign (.Subscript (.Name n p) y p2) X.env v = (do
      let ov ← holding [v] (eval (.Name n p) X.env)
      let iv ← holding [v, ov] (eval y X.env)
      standAt p2
      holding [v, ov, iv] (setItem ov iv v)
      release [v, ov, iv] [])) : JS X cl G C (.Assign [.Subscript (.Name n p) y p2] x pos) (.setI i ei e) :=
  PS.imp (ps_asg he (pg_sub (pe_var hN hv hd hcd) hi (set_any hu) ha) h1 h2) fun D σ H ⟨φ0, F0, H0, ρ, φ, F, sto, fl, st', hs, h, hd, w⟩ => by
    obtain ⟨rv, st1, h3, h4⟩ := M.bind_eq (show M.bind (denE G C false e ρ) (fun v => M.bind (denE G C false ei ρ) fun k => fun s => match (ρ[i]?).bind fun sl => setD s sl k.val v.val with
      | some (sl, s') => some (.nx (ρ.set i sl), s')
      | none => none) sto = some (fl, st') from hd)
    obtain ⟨rk, st2, h5, h6⟩ := M.bind_eq h4
    have h6 : (match (ρ[i]?).bind fun sl => setD st2 sl rk.val rv.val with
      | some (sl, s') => some (Fl.nx (ρ.set i sl), s')
      | none => none) = some (fl, st') := h6
    cases q : (ρ[i]?).bind fun sl => setD st2 sl rk.val rv.val with
    | none => rw [q] at h6; cases h6
    | some ss =>
      obtain ⟨sl', s'⟩ := ss
      rw [q] at h6
      cases h6
      obtain ⟨sl, e1, e2⟩ := Option.bind_eq_some_iff.mp q
      refine ⟨ρ, φ, F, sto, rv, st1, h.rel, h3, fun v φ1 F1 H1 n1 g1 => ?_⟩
      obtain ⟨F1', n1', _, i1⟩ := Res.freeze n1 h.rel.sub g1
      have s1 := h.go hs n1'
      have hlt : i < σ.length := by rw [← h.rel.len]; exact (List.getElem?_eq_some_iff.mp e1).1
      have get := List.getElem?_eq_getElem hlt
      -- the slot's value
      have vs : ∃ l, σ[i]? = some (some (.ref l)) := by
        have so := h.rel.slot i sl _ e1 get
        cases sl with
        | non => cases e2
        | own t => obtain ⟨a, e3, _⟩ := so; exact ⟨a, by rw [get, e3]⟩
        | fro t =>
          cases t with
          | ref k => obtain ⟨x, e3, a, rfl, _⟩ := so; exact ⟨a, by rw [get, e3]⟩
          | _ => cases e2
      obtain ⟨l, el⟩ := vs
      refine ⟨.ref l, el, ρ, φ1, F1', st1, rk, st2, h.rel.nx n1', h5, fun vk φ2 F2 H2 n2 g2 => ?_⟩
      have s2 := s1.go hs n2
      have i2 := Is.mono n2.pre n2.le _ _ i1
      have sk := Got.saw g2
      have fin : ∀ {σ' : L2.St} {F' : Hp} {H' : Hp} {st' : Sto} {ρ' : Env}, SI (pk X cl) φ0 F0 H0 ρ' φ2 F2 st' σ H' → WtS (pk X cl) φ0 F0 H0 φ F st' (.nx ρ') D → D.nx σ H' := fun {σ' F' H' st' ρ'} a b => b σ φ2 F2 H' a (n1'.pre.trans n2.pre) (n1'.le.trans n2.le)
      cases sl with
      | non => cases e2
      | own t =>
        obtain ⟨a, e4, o, h0⟩ := s2.at_ e1
        rw [el] at e4
        cases e4
        cases t with
        | lst ts =>
          obtain ⟨k, e5, e6⟩ := Option.bind_eq_some_iff.mp (show (asInt rk.val).bind (fun i => (TL.ixN ts.length i).map fun j => (Slot.own (.lst (ts.set j rv.val)), st2)) = some (sl', st') from e2)
          obtain ⟨j, e7, e8⟩ := Option.map_eq_some_iff.mp e6
          cases e8
          obtain ⟨o1, o2, xs, o3, o4⟩ := o
          rw [o4.length] at e7
          refine .inl ⟨l, xs, k, j, rfl, asInt_is sk e5, o3, e7, ?_⟩
          exact fin (σ' := σ) (F' := F2) (s2.chg (t' := .lst (ts.set j rv.val)) e1 el ⟨o1, o2, _, upd_same, o4.set i2 j⟩) w
        | dct ks ts =>
          obtain ⟨k, e5, e6⟩ := Option.bind_eq_some_iff.mp (show (keyOf rk.val).bind (fun x => if ks.length < lim then some (Slot.own (.dct (putKs ks x) (putTs ks ts x rv.val)), st2) else none) = some (sl', st') from e2)
          split at e6 <;> (try contradiction)
          rename_i hl
          cases e6
          obtain ⟨o1, o2, kvs, o3, o4, o5⟩ := o
          subst o4
          obtain ⟨q1, q2⟩ := put_is (k := k) o5 i2
          refine .inr ⟨l, _, rfl, .inl ⟨kvs, k, o3, key_is sk e5, ?_, rfl⟩, ?_⟩
          · rw [List.length_map] at hl
            rw [sizeLine_eq]
            exact hl
          · exact fin (σ' := σ) (F' := F2) (s2.chg (t' := .dct _ _) e1 el ⟨o1, o2, _, upd_same, q1, q2⟩) w
        | _ => cases e2
      | fro t =>
        cases t with
        | ref k =>
          obtain ⟨ts, e5, e6⟩ := Option.bind_eq_some_iff.mp (show (st2[k]?).bind (fun ts => (asInt rk.val).bind fun i => (TL.ixN ts.length i).map fun j => (Slot.fro (.ref k), st2.set k (ts.set j rv.val))) = some (sl', st') from e2)
          obtain ⟨m, e7, e8⟩ := Option.bind_eq_some_iff.mp e6
          obtain ⟨j, e9, e10⟩ := Option.map_eq_some_iff.mp e8
          cases e10
          obtain ⟨x, e11, a, e12, e13⟩ := s2.rel.slot i _ _ e1 el
          cases e11
          cases e12
          obtain ⟨xs, e14, r⟩ := s2.nx.sto.2.2.2 k l ts e13 e5
          rw [r.length] at e9
          refine .inl ⟨l, xs, m, j, rfl, asInt_is sk e7, e14, e9, ?_⟩
          have s3 := s2.shset (j := j) e13 e5 e14 r i2
          have er : ρ.set i (.fro (.ref k)) = ρ := by
            apply List.ext_getElem?
            intro a
            by_cases z : i = a
            · subst z
              rw [List.getElem?_set_self (List.getElem?_eq_some_iff.mp e1).1, e1]
            · rw [List.getElem?_set_ne z]
          rw [er] at w
          exact fin (σ' := σ) (F' := F2) s3 w
        | _ => cases e2

/-! ### a list's methods -/
theorem few_one {x : Expr} (hs : starEach [x] X.env = (false, eval x X.env) :: starEach [] X.env) : ((backTo cpos (starEach [x] X.env)).all (fun x => !x.1) && (backToKw cpos (keywordEach [] X.env)).all (fun x => x.1.isSome)
      && decide (([x] : List Expr).length + ([] : List Keyword).length + (if ([] : List Keyword).isEmpty then 0 else 1) < 30)) = true := by
  rw [hs]
  rfl
theorem few_two {x y : Expr} (hs : starEach [x, y] X.env = (false, eval x X.env) :: starEach [y] X.env) (hs1 : starEach [y] X.env = (false, eval y X.env) :: starEach [] X.env) : ((backTo cpos (starEach [x, y] X.env)).all (fun x => !x.1) && (backToKw cpos (keywordEach [] X.env)).all (fun x => x.1.isSome)
      && decide (([x, y] : List Expr).length + ([] : List Keyword).length + (if ([] : List Keyword).isEmpty then 0 else 1) < 30)) = true := by
  rw [hs, hs1]
  rfl
/-- the state with an own list at slot i, and the value of an expression -/
theorem own_val {φ0 φ : List Addr} {F0 H0 F H : Hp} {ρ : Env} {σ : L2.St} {st st1 : Sto} {ts : List T} {r : R} {Q : VK} (hs : Sub F0 H0) (h : SI (pk X cl) φ0 F0 H0 ρ φ F st σ H) (he : denE G C false e ρ st = some (r, st1)) (e1 : ρ[i]? = some (.own (.lst ts)))
    (k : ∀ l xs, σ[i]? = some (some (.ref l)) → H l = some (.lst xs) → ∀ v φ' F' H', SI (pk X cl) φ0 F0 H0 ρ φ' F' st1 σ H' → Pre φ φ' → Le F F' → Is (pk X cl) φ' F' r.val v → H' l = some (.lst xs) → IsL (pk X cl) φ' F' ts xs → F' l = none → l ∉ φ' → Q v H') :
    ∃ l xs, σ[i]? = some (some (.ref l)) ∧ H l = some (.lst xs) ∧ sE X cl G C false e σ H Q := by
  obtain ⟨l, e2, ⟨o1, o2, xs, o3, o4⟩, h0⟩ := h.at_ e1
  refine ⟨l, xs, e2, o3, ρ, φ, F, st, r, st1, h.rel, he, fun v φ1 F1 H1 n1 g1 => ?_⟩
  obtain ⟨F2, n2, _, i2⟩ := Res.freeze n1 h.rel.sub g1
  have s2 := h.go hs n2
  obtain ⟨l', e3, ⟨q1, q2, ys, q3, q4⟩, _⟩ := s2.at_ e1
  rw [e2] at e3
  cases e3
  have := n2.keep l _ o3 o1 o2
  rw [q3] at this
  cases this
  exact k l xs e2 o3 v φ1 F2 H1 s2 n2.pre n2.le i2 q3 q4 q1 q2
theorem js_app (hN : X.N[i]? = some n) (hv : Vis X.env.scope n) (hd : (n == ("__debug__" : Str)) = false) (hcd : (n == ("__classdict__" : Str)) = false) (he : JE X cl G C false x e) (hs1 : starEach [x] X.env = (false, eval x X.env) :: starEach [] X.env) (hline : (apos.endLine == cpos.line) = true) :
    JS X cl G C (.Expr (.Call (.Attribute (.Name n p) "append" apos) [x] [] cpos) pos) (.app i e) :=
  PS.imp (ps_expr (pe_bm (T := "list") F.plainAttrs_list F.slot_list_append F.type_list_append (show MtR X "list.append" rAppend from mt_append) (pe_var hN hv hd hcd) (pa_cons he pa_nil hs1) rfl (few_one hs1) hline hs1 rfl) rfl) fun D σ H ⟨φ0, F0, H0, ρ, φ, F, sto, fl, st', hs, h, hd, w⟩ => by
    obtain ⟨r, st1, h1, h2⟩ := M.bind_eq (show M.bind (denE G C false e ρ) (fun v => match ρ[i]? with
      | some (.own (.lst ts)) => if ts.length < lim then M.ret (.nx (ρ.set i (.own (.lst (ts ++ [v.val]))))) else M.fail
      | _ => M.fail) sto = some (fl, st') from hd)
    have key : ∃ ts, ρ[i]? = some (.own (.lst ts)) := by
      cases q : ρ[i]? with
      | none => rw [q] at h2; cases h2
      | some sl =>
        rw [q] at h2
        cases sl with
        | own t => cases t with
          | lst ts => exact ⟨ts, rfl⟩
          | _ => cases h2
        | _ => cases h2
    obtain ⟨ts, e1⟩ := key
    rw [e1] at h2
    have h2 : (if ts.length < lim then M.ret (Fl.nx (ρ.set i (.own (.lst (ts ++ [r.val]))))) else M.fail) st1 = some (fl, st') := h2
    by_cases hl : ts.length < lim
    · rw [if_pos hl] at h2
      obtain ⟨rfl, rfl⟩ := M.ret_eq h2
      obtain ⟨l, xs, e2, e3, hE⟩ := own_val (Q := fun v H' => ∃ xs' : List V, H' (match σ[i]? with | some (some (.ref l)) => l | _ => 0) = some (.lst xs') ∧ xs'.length < sizeLine ∧ D.nx σ (L2.upd H' (match σ[i]? with | some (some (.ref l)) => l | _ => 0) (.lst (xs' ++ [v])))) hs h h1 e1
        fun l xs e2 e3 v φ' F' H' s2 hp hl' i2 q3 q4 q1 q2 => by
          rw [e2]
          refine ⟨xs, q3, ?_, w σ φ' F' _ (s2.chg e1 e2 ⟨q1, q2, _, upd_same, q4.append (.cons i2 .nil)⟩) hp hl'⟩
          rw [← q4.length, sizeLine_eq]
          exact hl
      refine ⟨.ref l, e2, .inl ⟨rfl, xs, .inl (.inl e3)⟩, ?_⟩
      obtain ⟨ρ2, φ2, F2, s2, r2, st2, a1, a2, a3⟩ := hE
      refine ⟨ρ2, φ2, F2, s2, r2, st2, a1, a2, fun v φ' F' H' n' g' => ?_⟩
      obtain ⟨xs', b1, b2, b3⟩ := a3 v φ' F' H' n' g'
      rw [e2] at b1 b3
      exact ⟨l, xs', v, rfl, rfl, b1, b2, b3⟩
    · rw [if_neg hl] at h2; cases h2
end
end TL
end

section
set_option Elab.async false
set_option linter.all false
set_option maxRecDepth 100000
set_option maxHeartbeats 4000000
/-! extend, insert; an instance's fields. -/
namespace TL
open PySem PySem.Spec PyProof.Rows L2

section
variable {X : Cx} {cl : Nat → Addr} {G : Cfg} {C : Calls} {pos pos' p p2 apos cpos : Pos} {x y o : Expr} {e ei : E} {n : Str} {i : Nat}
def rExtS (K : PySem.W.Frag) : V → List V → Hp → VK → Prop := fun x vs H Q => ∃ l b xs zs, x = .ref l ∧ vs = [.ref b] ∧ H l = some (.lst xs) ∧ (Rd H b (.lst zs) ∨ TupN K H b zs) ∧ xs.length + zs.length ≤ sizeLine ∧ Q .non (upd H l (.lst (xs ++ zs)))
theorem mt_extS : MtR X "list.extend" (rExtS X.K) := by
  intro pins s σ H x vs v us Q I rx rv h
  obtain ⟨l, b, xs, zs, rfl, rfl, hH, hB, hz, q⟩ := h
  cases rx
  obtain ⟨u, rfl, ru⟩ := rv.one
  cases ru
  obtain ⟨z, its, n, r, hl, e⟩ := I.lstM hH
  have go : ∀ (its2 : List Value), Vals zs its2 → (∀ (hlong : ¬ (!its.toArray.isEmpty && Builtin.List.listTooLong (its.toArray.size + its2.toArray.size)) = true), its.toArray.size + its2.toArray.size ≤ sizeLine →
      wpAny (model X.prog X.w) X.A (call (.builtin "list.extend") [.ref l, .ref b]) (EP X pins σ Q) X.xe s) → wpAny (model X.prog X.w) X.A (call (.builtin "list.extend") [.ref l, .ref b]) (EP X pins σ Q) X.xe s := fun its2 r2 k => by
    have hsz : its.toArray.size + its2.toArray.size ≤ sizeLine := by
      rw [List.size_toArray, List.size_toArray, ← r.length, ← r2.length]
      exact hz
    exact k (by rw [notLongL hsz, Bool.and_false]; exact Bool.false_ne_true) hsz
  have fin : ∀ (its2 : List Value), Vals zs its2 → EP X pins σ Q .none { s with heap := s.heap.update l (Obj.mapSeq fun x => x ++ its2.toArray), toks := s.toks } := fun its2 r2 =>
    ⟨.non, _, I.lset (its' := its ++ its2) hH e (by simp) (r.append r2) (by rw [List.length_append]; exact hz), rfl, q⟩
  rcases hB with hB | hB
  · obtain ⟨its2, n2, r2, e2, z2⟩ := lstO I hB
    refine go its2 r2 fun hlong hsz => call_meets F.slot_list_extend ⟨_, e, rfl⟩ F.entry_list_extend (F.args_list_extend_2 _ _) (AutoSeq1.list_extend_list_list_0 l its.toArray n b its2.toArray n2 hlong (by omega) (by omega)) ⟨e, e2, fin its2 r2⟩
  · obtain ⟨its2, n2, r2, e2, z2⟩ := tupO I hB
    refine go its2 r2 fun hlong hsz => call_meets F.slot_list_extend ⟨_, e, rfl⟩ F.entry_list_extend (F.args_list_extend_2 _ _) (AutoSeq1.list_extend_list_tuple_0 l its.toArray n b its2.toArray n2 hlong (by omega) (by omega)) ⟨e, e2, fin its2 r2⟩
/-- where an own list stands -/
def place (σ : L2.St) (i : Nat) : Addr := match σ[i]? with
  | some (some (.ref l)) => l
  | _ => 0
theorem js_ext (hN : X.N[i]? = some n) (hv : Vis X.env.scope n) (hd : (n == ("__debug__" : Str)) = false) (hcd : (n == ("__classdict__" : Str)) = false) (he : JE X cl G C false x e) (hs1 : starEach [x] X.env = (false, eval x X.env) :: starEach [] X.env) (hline : (apos.endLine == cpos.line) = true) :
    JS X cl G C (.Expr (.Call (.Attribute (.Name n p) "extend" apos) [x] [] cpos) pos) (.ext i e) :=
  PS.imp (ps_expr (pe_bm (T := "list") F.plainAttrs_list F.slot_list_extend F.type_list_extend mt_extS (pe_var hN hv hd hcd) (pa_cons he pa_nil hs1) rfl (few_one hs1) hline hs1 rfl) rfl) fun D σ H ⟨φ0, F0, H0, ρ, φ, F, sto, fl, st', hs, h, hd, w⟩ => by
    obtain ⟨r, st1, h1, h2⟩ := M.bind_eq (show M.bind (denE G C false e ρ) (fun v => match ρ[i]?, seqOf v.val with
      | some (.own (.lst ts)), some us => if szOk (ts.length + us.length) then M.ret (.nx (ρ.set i (.own (.lst (ts ++ us))))) else M.fail
      | _, _ => M.fail) sto = some (fl, st') from hd)
    have key : ∃ ts us, ρ[i]? = some (.own (.lst ts)) ∧ seqOf r.val = some us := by
      cases q : ρ[i]? with
      | none => rw [q] at h2; cases h2
      | some sl =>
        rw [q] at h2
        cases sl with
        | own t => cases t with
          | lst ts =>
            cases q2 : seqOf r.val with
            | none => rw [q2] at h2; cases h2
            | some us => exact ⟨ts, us, rfl, rfl⟩
          | _ => cases h2
        | _ => cases h2
    obtain ⟨ts, us, e1, eu⟩ := key
    rw [e1, eu] at h2
    have h2 : (if szOk (ts.length + us.length) = true then M.ret (Fl.nx (ρ.set i (.own (.lst (ts ++ us))))) else M.fail) st1 = some (fl, st') := h2
    by_cases hl : szOk (ts.length + us.length) = true
    · rw [if_pos hl] at h2
      obtain ⟨rfl, rfl⟩ := M.ret_eq h2
      obtain ⟨l, xs, e2, e3, hE⟩ := own_val (Q := fun v H' => ∃ (xs' zs : List V) (b : Addr), v = .ref b ∧ H' (place σ i) = some (.lst xs') ∧ (Rd H' b (.lst zs) ∨ TupN X.K H' b zs) ∧ xs'.length + zs.length ≤ sizeLine ∧ D.nx σ (L2.upd H' (place σ i) (.lst (xs' ++ zs)))) hs h h1 e1
        fun l xs e2 e3 v φ' F' H' s2 hp hl' i2 q3 q4 q1 q2 => by
          have pl : place σ i = l := by unfold place; rw [e2]
          rw [pl]
          have sz : ∀ zs, IsL (pk X cl) φ' F' us zs → xs.length + zs.length ≤ sizeLine := fun zs r => by
            rw [← q4.length, ← r.length]
            exact szOk_le hl
          have fin : ∀ zs, IsL (pk X cl) φ' F' us zs → D.nx σ (L2.upd H' l (.lst (xs ++ zs))) := fun zs r =>
            w σ φ' F' _ (s2.chg (t' := .lst (ts ++ us)) e1 e2 ⟨q1, q2, _, upd_same, q4.append r⟩) hp hl'
          cases q : r.val with
          | lst vs =>
            rw [q] at eu i2
            cases eu
            obtain ⟨b, zs, rfl, c1, c2⟩ := i2
            exact ⟨xs, zs, b, rfl, q3, .inl ((Le.of s2.nx.sub).rd c1), sz zs c2, fin zs c2⟩
          | tup vs =>
            rw [q] at eu i2
            cases eu
            obtain ⟨b, zs, rfl, c1, c2⟩ := i2
            exact ⟨xs, zs, b, rfl, q3, .inr ((Le.of s2.nx.sub).tupN c1), sz zs c2, fin zs c2⟩
          | _ => rw [q] at eu; cases eu
      have pl : place σ i = l := by unfold place; rw [e2]
      refine ⟨.ref l, e2, .inl ⟨rfl, xs, .inl (.inl e3)⟩, ?_⟩
      obtain ⟨ρ2, φ2, F2, s2, r2, st2, a1, a2, a3⟩ := hE
      refine ⟨ρ2, φ2, F2, s2, r2, st2, a1, a2, fun v φ' F' H' n' g' => ?_⟩
      obtain ⟨xs', zs, b, rfl, b1, b2, b3, b4⟩ := a3 v φ' F' H' n' g'
      rw [pl] at b1 b4
      exact ⟨l, b, xs', zs, rfl, rfl, b1, b2, b3, b4⟩
    · rw [if_neg hl] at h2; cases h2
theorem js_ins (hN : X.N[i]? = some n) (hv : Vis X.env.scope n) (hd : (n == ("__debug__" : Str)) = false) (hcd : (n == ("__classdict__" : Str)) = false) (hi : JE X cl G C false y ei) (he : JE X cl G C false x e) (hs1 : starEach [y, x] X.env = (false, eval y X.env) :: starEach [x] X.env)
    (hs2 : starEach [x] X.env = (false, eval x X.env) :: starEach [] X.env) (hpl : (backTo cpos (starEach [x] X.env)).any (·.1) = false) (hline : (apos.endLine == cpos.line) = true) :
    JS X cl G C (.Expr (.Call (.Attribute (.Name n p) "insert" apos) [y, x] [] cpos) pos) (.ins i ei e) :=
  PS.imp (ps_expr (pe_bm (T := "list") F.plainAttrs_list F.slot_list_insert F.type_list_insert mt_insert (pe_var hN hv hd hcd) (pa_cons hi (pa_cons he pa_nil hs2) hs1) rfl (few_two hs1 hs2) hline hs1 hpl) rfl) fun D σ H ⟨φ0, F0, H0, ρ, φ, F, sto, fl, st', hs, h, hd, w⟩ => by
    obtain ⟨rk, st1, h1, h2⟩ := M.bind_eq (show M.bind (denE G C false ei ρ) (fun k => M.bind (denE G C false e ρ) fun v => match ρ[i]?, k.val with
      | some (.own (.lst ts)), .int j => if ts.length < lim ∧ 0 ≤ j ∧ j < 2 ^ 62 then M.ret (.nx (ρ.set i (.own (.lst (ts.take j.toNat ++ v.val :: ts.drop j.toNat))))) else M.fail
      | _, _ => M.fail) sto = some (fl, st') from hd)
    obtain ⟨rv, st2, h3, h4⟩ := M.bind_eq h2
    have key : ∃ ts j, ρ[i]? = some (.own (.lst ts)) ∧ rk.val = .int j := by
      cases q : ρ[i]? with
      | none => rw [q] at h4; cases h4
      | some sl =>
        rw [q] at h4
        cases sl with
        | own t => cases t with
          | lst ts =>
            cases q2 : rk.val with
            | int j => exact ⟨ts, j, rfl, rfl⟩
            | _ => rw [q2] at h4; cases h4
          | _ => cases h4
        | _ => cases h4
    obtain ⟨ts, j, e1, ej⟩ := key
    rw [e1, ej] at h4
    have h4 : (if ts.length < lim ∧ 0 ≤ j ∧ j < 2 ^ 62 then M.ret (Fl.nx (ρ.set i (.own (.lst (ts.take j.toNat ++ rv.val :: ts.drop j.toNat))))) else M.fail) st2 = some (fl, st') := h4
    by_cases hl : ts.length < lim ∧ 0 ≤ j ∧ j < 2 ^ 62
    · rw [if_pos hl] at h4
      obtain ⟨rfl, rfl⟩ := M.ret_eq h4
      obtain ⟨l, e2, ⟨o1, o2, xs, o3, o4⟩, h0⟩ := h.at_ e1
      refine ⟨.ref l, e2, .inl ⟨rfl, xs, .inl (.inl o3)⟩, ρ, φ, F, sto, rk, st1, h.rel, h1, fun vk φ1 F1 H1 n1 g1 => ?_⟩
      have sk := Got.saw g1
      rw [ej] at sk
      have ek := sk.int
      subst ek
      have s1 := h.go hs n1
      refine ⟨ρ, φ1, F1, st1, rv, _, s1.rel, h3, fun v φ2 F2 H2 n2 g2 => ?_⟩
      obtain ⟨F3, n3, _, i2⟩ := Res.freeze n2 s1.rel.sub g2
      have s2 := s1.go hs n3
      have q3 : H2 l = some (.lst xs) := (Nx.trans h.rel.sub n1 n3).keep _ _ o3 o1 o2
      obtain ⟨l', e3, ⟨q1, q2, ys, q5, q4⟩, _⟩ := s2.at_ e1
      rw [e2] at e3
      cases e3
      rw [q3] at q5
      cases q5
      refine ⟨l, xs, j, v, rfl, rfl, q3, by rw [← q4.length, sizeLine_eq]; exact hl.1, hl.2.1, by omega, ?_⟩
      refine w σ φ2 F3 _ (s2.chg (t' := .lst _) e1 e2 ⟨q1, q2, _, upd_same, ?_⟩) (n1.pre.trans n3.pre) (n1.le.trans n3.le)
      rw [List.append_assoc]
      exact (q4.take _).append (.cons i2 (q4.drop _))
    · rw [if_neg hl] at h4; cases h4

/-! ### an __init__ -/
theorem putF_is {p : Pk} {φ : List Addr} {F : Hp} {f : Str} {t : T} {v : V} (hv : Is p φ F t v) : ∀ {kvs : List (Str × V)} {ts : List T}, IsL p φ F ts (kvs.map (·.2)) → (putF f v kvs).map (·.1) = putFs (kvs.map (·.1)) f ∧ IsL p φ F (putUs (kvs.map (·.1)) ts f t) ((putF f v kvs).map (·.2))
  | [], ts, h => by
    have : ts = [] := by
      cases ts with
      | nil => rfl
      | cons a b => obtain ⟨_, _, e, _⟩ := h; cases e
    subst this
    exact ⟨rfl, .cons hv .nil⟩
  | (k, u) :: kvs, [], h => by cases h
  | (k, u) :: kvs, t' :: ts, h => by
    obtain ⟨x, r, e, h1, h2⟩ := h
    have e1 : u = x := (List.cons.inj e).1
    have e2 : kvs.map (·.2) = r := (List.cons.inj e).2
    subst e1 e2
    obtain ⟨q1, q2⟩ := putF_is hv h2
    show ((if k = f then (k, v) :: kvs else (k, u) :: putF f v kvs).map (·.1)) = (if k = f then k :: kvs.map (·.1) else k :: putFs (kvs.map (·.1)) f) ∧ IsL p φ F (if k = f then t :: ts else t' :: putUs (kvs.map (·.1)) ts f t) ((if k = f then (k, v) :: kvs else (k, u) :: putF f v kvs).map (·.2))
    by_cases hk : k = f
    · rw [if_pos hk, if_pos hk, if_pos hk]
      exact ⟨rfl, .cons hv h2⟩
    · rw [if_neg hk, if_neg hk, if_neg hk]
      exact ⟨by rw [List.map_cons, q1], .cons h1 q2⟩
/-- what is wanted behind a statement of an __init__: the names stay -/
def sN (X : Cx) (cl : Nat → Addr) (G : Cfg) (C : Calls) (ss : Ss) : TS := fun D σ H => ∃ φ0 F0 H0 ρ φ F st ρ' st', Sub F0 H0 ∧ SI (pk X cl) φ0 F0 H0 ρ φ F st σ H ∧ denSs G C ss ρ st = some (.nx ρ', st') ∧ ∀ φ' F' H', SI (pk X cl) φ0 F0 H0 ρ' φ' F' st' σ H' → D.nx σ H'
def JNs (X : Cx) (cl : Nat → Addr) (G : Cfg) (C : Calls) (xs : List Stmt) (ss : Ss) : Prop := PSs X xs (sN X cl G C ss)
theorem jns_nil : JNs X cl G C [] .nil := PSs.imp pss_nil fun D σ H ⟨φ0, F0, H0, ρ, φ, F, st, ρ', st', hs, h, hd, w⟩ => by
  obtain ⟨e, rfl⟩ := M.ret_eq (show M.ret _ _ = _ from hd)
  cases e
  exact w φ F H h
theorem jns_pass {xs : List Stmt} {ss : Ss} (h2 : JNs X cl G C xs ss) : JNs X cl G C (.Pass pos :: xs) (.cons .pass ss) := PSs.imp (pss_cons ps_pass h2) fun D σ H ⟨φ0, F0, H0, ρ, φ, F, st, ρ', st', hs, h, hd, w⟩ => by
  obtain ⟨f1, st1, h3, h4⟩ := M.bind_eq (show M.bind (M.ret (Fl.nx ρ)) (fun fl => match fl with
    | .nx ρ' => denSs G C ss ρ'
    | .rt r => M.ret (.rt r)) st = some (Fl.nx ρ', st') from hd)
  obtain ⟨rfl, rfl⟩ := M.ret_eq h3
  exact ⟨φ0, F0, H0, ρ, φ, F, _, ρ', st', hs, h, h4, w⟩
theorem jns_fld {xs : List Stmt} {ss : Ss} {f : Str} (hN : X.N[0]? = some n) (hv : Vis X.env.scope n) (hd : (n == ("__debug__" : Str)) = false) (hcd : (n == ("__classdict__" : Str)) = false) (hc : ∀ c, Cls X.K (cl c) ∧ NoAttr X.K (cl c) f) (he : JE X cl G C false x e)
    (hsw : swapsWith x (some (.Attribute (.Name n p) f p2)) pos.line X.env = pure false) (h2 : JNs X cl G C xs ss) : JNs X cl G C (.Assign [.Attribute (.Name n p) f p2] x pos :: xs) (.cons (.fldS f e) ss) :=
  PSs.imp (pss_cons (ps_fld (pe_var hN hv hd hcd) he hsw) h2) fun D σ H ⟨φ0, F0, H0, ρ, φ, F, st, ρ', st', hs, h, hd, w⟩ => by
    obtain ⟨f1, st1, h3, h4⟩ := M.bind_eq (show M.bind (denS G C (.fldS f e) ρ) (fun fl => match fl with
      | .nx ρ' => denSs G C ss ρ'
      | .rt r => M.ret (.rt r)) st = some (.nx ρ', st') from hd)
    obtain ⟨rv, st2, h5, h6⟩ := M.bind_eq (show M.bind (denE G C false e ρ) (fun v => match (ρ[0]? : Option Slot) with
      | some (.own (.obj c fs ts)) => if fs.length < 100 then M.ret (.nx (ρ.set 0 (.own (.obj c (putFs fs f) (putUs fs ts f v.val))))) else M.fail
      | _ => M.fail) st = some (f1, st1) from h3)
    have key : ∃ c fs ts, (ρ[0]? : Option Slot) = some (.own (.obj c fs ts)) := by
      cases q : (ρ[0]? : Option Slot) with
      | none => rw [q] at h6; cases h6
      | some sl =>
        rw [q] at h6
        cases sl with
        | own t => cases t with
          | obj c fs ts => exact ⟨c, fs, ts, rfl⟩
          | _ => cases h6
        | _ => cases h6
    obtain ⟨c, fs, ts, e1⟩ := key
    rw [e1] at h6
    have h6 : (if fs.length < 100 then M.ret (Fl.nx (ρ.set 0 (.own (.obj c (putFs fs f) (putUs fs ts f rv.val))))) else M.fail) st2 = some (f1, st1) := h6
    by_cases hl : fs.length < 100
    · rw [if_pos hl] at h6
      obtain ⟨rfl, rfl⟩ := M.ret_eq h6
      refine ⟨ρ, φ, F, st, rv, _, h.rel, h5, fun v φ1 F1 H1 n1 g1 => ?_⟩
      obtain ⟨F2, n2, _, i2⟩ := Res.freeze n1 h.rel.sub g1
      have s2 := h.go hs n2
      obtain ⟨l, e2, ⟨o1, o2, dx, kvs, o3, o4, o5⟩, h0⟩ := s2.at_ e1
      subst o4
      obtain ⟨q1, q2⟩ := putF_is (f := f) i2 o5
      rw [List.length_map] at hl
      refine ⟨.ref l, e2, l, cl c, dx, kvs, rfl, o3, (hc c).1, (hc c).2, by omega, φ0, F0, H0, _, φ1, F2, _, ρ', st', hs, s2.chg (t' := .obj c _ _) e1 e2 ⟨o1, o2, dx, _, upd_same, q1, q2⟩, h4, w⟩
    · rw [if_neg hl] at h6; cases h6
end
end TL
end

section
set_option Elab.async false
set_option linter.all false
set_option maxRecDepth 100000
set_option maxHeartbeats 4000000
/-! What must be seen of the text beside its meaning. -/
namespace TL
open PySem PySem.Spec PyProof.Rows L2

def okStar : Expr → Bool
  | .Starred .. => false
  | _ => true
def okIx : Expr → Bool
  | .Slice .. => false
  | _ => true
def okBase : Expr → Bool
  | .Call (.Name id _) [] [] _ => !decide (id = ("super" : Str))
  | _ => true
def okSet : Expr → Bool
  | .Set .. => false
  | _ => true
def okTrue : Expr → Bool
  | .UnaryOp .. => false
  | .BoolOp .. => false
  | .IfExp .. => false
  | .Compare .. => false
  | _ => true
def okComp : Expr → Bool
  | .ListComp .. => false
  | .SetComp .. => false
  | .DictComp .. => false
  | _ => true
def okTup : Expr → Bool
  | .Tuple .. => false
  | _ => true
section
variable {env : PySem.Env} {pos p p2 apos : Pos} {x o b : Expr} {xs : List Expr}
theorem star_of (h : okStar x = true) : starEach (x :: xs) env = (false, eval x env) :: starEach xs env := by
  cases x <;> first
    | rfl
    | cases h
theorem plain_of : ∀ {xs : List Expr}, xs.all okStar = true → (backTo pos (starEach xs env)).any (·.1) = false
  | [], _ => rfl
  | x :: xs, h => by
    rw [List.all_cons, Bool.and_eq_true] at h
    rw [star_of h.1]
    show (false || (backTo pos (starEach xs env)).any (·.1)) = false
    rw [plain_of h.2]
    rfl
theorem ix_of (h : okIx b = true) : PlainIx b := by
  intro o i
  cases b <;> first
    | rfl
    | cases h
theorem base_of {f : Str} (whole : Sem Value) (h : okBase o = true) : attributeBase o f env whole = whole := by
  unfold attributeBase
  split
  · rename_i id p pos
    have hid : (id != ("super" : Str)) = true := by
      have h : (!decide (id = ("super" : Str))) = true := h
      rw [Bool.not_eq_true', decide_eq_false_iff_not] at h
      exact bne_iff_ne.mpr h
    simp only [hid, Bool.true_or, if_true]
  · rfl
theorem fset_of (h : okSet x = true) (v : Value) : foldedSetIterable x env v = pure v := by
  cases x <;> first
    | rfl
    | cases h
theorem marks_of {op : CmpOp} (h : okSet x = true) : behindInMarks op x = false := by
  cases x <;> first
    | rfl
    | cases h
theorem true_of (h : okTrue x = true) : ∀ whole, isTrue x env whole = (do let v ← whole; standAt x.pos; holding [v] (truthy v)) := by
  intro whole
  cases x <;> first
    | rfl
    | cases h
theorem assign_sub (h : okIx b = true) : ∀ v, assign (.Subscript o b pos) env v = (do
      let ov ← holding [v] (eval o env)
      let iv ← holding [v, ov] (eval b env)
      standAt pos
      holding [v, ov, iv] (setItem ov iv v)
      release [v, ov, iv] []) := by
  intro v
  cases b <;> first
    | rfl
    | cases h
theorem sw_of {t : Option Expr} {l : Nat} (h : okComp x = true) : swapsWith x t l env = pure false := by
  cases x <;> first
    | rfl
    | cases h
theorem sw_name {elt : Expr} {gs : List Comprehension} {scope : Scope} {n : Str} {l : Nat} (h : (env.blockKind == .function && env.kindOf n == some .local && p.line == pos.line && !(scope.names.any fun (m, k) => m == n && (k == .local || k == .cell))) = false) : swapsWith (.ListComp elt gs scope pos) (some (.Name n p)) l env = pure false := by
  show pure (env.blockKind == .function && env.kindOf n == some .local && p.line == pos.line && !(scope.names.any fun (m, k) => m == n && (k == .local || k == .cell))) = pure false
  rw [h]
theorem sw_not {t : Expr} {l : Nat} (h : match t with | .Name .. => False | _ => True) : swapsWithSole [t] x l env = pure false := by
  show swapsWith x (some t) l env = pure false
  cases t <;> first
    | exact h.elim
    | (cases x <;> rfl)
theorem st_tup {es : List Expr} {kk : Nat} (h : okTup x = true) : swappedStores [.Tuple es kk p] x env = pure none := by
  cases x <;> first
    | rfl
    | cases h
theorem st_sub {o i : Expr} : swappedStores [.Subscript o i p] x env = pure none := by
  cases x <;> rfl
/-- a method's call -/
theorem few_of : ∀ {xs : List Expr}, xs.all okStar = true → (backTo pos (starEach xs env)).all (fun x => !x.1) = true
  | [], _ => rfl
  | x :: xs, h => by
    rw [List.all_cons, Bool.and_eq_true] at h
    rw [star_of h.1]
    show (true && (backTo pos (starEach xs env)).all (fun x => !x.1)) = true
    rw [few_of h.2]
    rfl
theorem meth_tree {m : Str} (hb : okBase o = true) (hl : (apos.endLine == pos.line) = true) (hs : xs.all okStar = true) (hn : xs.length < 30) :
    eval (.Call (.Attribute o m apos) xs [] pos) env = (do
      let ov ← eval o env
      standAt apos.atName
      let (f, first) ← holding [ov] (getMethod ov m (do return (← importBound o env).getD true))
      callWith pos f first (backTo pos (starEach xs env)) (backToKw pos (keywordEach [] env))) := by
  have e1 : eval (.Call (.Attribute o m apos) xs [] pos) env = (do
    let ov ← attributeBase o m env (eval o env)
    standAt apos.atName
    methodCall o m apos pos env ov (xs.length + ([] : List Keyword).length) (backTo pos (starEach xs env)) (backToKw pos (keywordEach [] env))) := by
    exact arm_eval_Call _ _ _ _ _ _ _
  rw [e1, base_of _ hb]
  have few : methodCallForm (xs.length + ([] : List Keyword).length) (backTo pos (starEach xs env)) (backToKw pos (keywordEach [] env)) = true := by
    unfold methodCallForm
    rw [few_of hs]
    simp [backToKw, keywordEach]
    omega
  unfold methodCall
  simp only [few, calleeOf, methodCallPos, hl, Bool.not_true, Bool.false_or, if_true]
  rfl
end
end TL
end

section
set_option Elab.async false
set_option linter.all false
set_option maxRecDepth 100000
set_option maxHeartbeats 4000000
/-! The check: a text is the one that a term of the small language means. -/
namespace TL
open PySem PySem.Spec PyProof.Rows L2

/-- the program's tables: a def's names, its global name, a class's, the module's constants, the fields' names -/
structure Tb where
  N : List Str
  gn : Nat → Option Str
  cn : Nat → Option Str
  cs : List (Str × T)
  fl : List Str
  /-- whether methods may be called -/
  me : Bool
mutual
def sameT : T → T → Bool
  | .non, b => match b with | .non => true | _ => false
  | .bl a, b => match b with | .bl c => a == c | _ => false
  | .int a, b => match b with | .int c => decide (a = c) | _ => false
  | .str a, b => match b with | .str c => decide (a = c) | _ => false
  | .tup xs, b => match b with | .tup ys => sameTs xs ys | _ => false
  | _, _ => false
def sameTs : List T → List T → Bool
  | [], ys => match ys with | [] => true | _ => false
  | x :: xs, ys => match ys with | y :: ys => sameT x y && sameTs xs ys | _ => false
end
mutual
theorem sameT_eq : ∀ a b : T, sameT a b = true → a = b
  | .non, b, h => by cases b <;> first | rfl | cases h
  | .bl x, b, h => by
    cases b with
    | bl c => rw [eq_of_beq (show (x == c) = true from h)]
    | _ => cases h
  | .int x, b, h => by
    cases b with
    | int c => rw [of_decide_eq_true (show decide (x = c) = true from h)]
    | _ => cases h
  | .str x, b, h => by
    cases b with
    | str c => rw [of_decide_eq_true (show decide (x = c) = true from h)]
    | _ => cases h
  | .tup xs, b, h => by
    cases b with
    | tup ys => rw [sameTs_eq xs ys h]
    | _ => cases h
  | .lst _, _, h => by cases h
  | .dct _ _, _, h => by cases h
  | .obj _ _ _, _, h => by cases h
  | .ref _, _, h => by cases h
theorem sameTs_eq : ∀ a b : List T, sameTs a b = true → a = b
  | [], b, h => by cases b <;> first | rfl | cases h
  | x :: xs, [], h => by cases h
  | x :: xs, y :: ys, h => by
    obtain ⟨h1, h2⟩ := Bool.and_eq_true_iff.mp (show (sameT x y && sameTs xs ys) = true from h)
    rw [sameT_eq x y h1, sameTs_eq xs ys h2]
end
def Es.len : Es → Nat
  | .nil => 0
  | .cons _ es => es.len + 1
theorem den_len {G : Cfg} {C : Calls} : ∀ {es : Es} {ρ : Env} {st : Sto} {ts : List T} {st' : Sto}, denEs G C es ρ st = some (ts, st') → ts.length = es.len
  | .nil, ρ, st, ts, st', h => by
    obtain ⟨rfl, rfl⟩ := M.ret_eq (show M.ret _ _ = _ from h)
    rfl
  | .cons e es, ρ, st, ts, st', h => by
    obtain ⟨r, st1, h1, h2⟩ := M.bind_eq (show M.bind (denE G C false e ρ) (fun x => M.bind (denEs G C es ρ) fun r => M.ret (x.val :: r)) st = some (ts, st') from h)
    obtain ⟨ts', st2, h3, h4⟩ := M.bind_eq h2
    obtain ⟨rfl, rfl⟩ := M.ret_eq h4
    rw [List.length_cons, den_len h3]
    rfl

/-! ### names -/
def visB (sc : Scope) (n : Str) : Bool := match sc.names.lookup n with
  | some .local => true
  | some .cell => true
  | some .free => true
  | _ => false
def plainN (n : Str) : Bool := !(n == ("__debug__" : Str)) && !(n == ("__classdict__" : Str)) && !(n == ("__name__" : Str))
def glB (sc : Scope) (n : Str) : Bool := decide (sc.names.lookup n = some .globalImplicit)
def stoB (fl : Bool) (sc : Scope) (n : Str) : Bool := match sc.names.lookup n with
  | some .local => true
  | some .cell => fl
  | _ => false
/-- a target -/
def tgB (N : List Str) (fl : Bool) (sc : Scope) (x : Expr) : Tg → Bool
  | .var i => match x with
    | .Name n _ => decide (N[i]? = some n) && stoB fl sc n
    | _ => false
  | .tup is => match x with
    | .Tuple es _ _ => go es is
    | _ => false
where
  go : List Expr → List Nat → Bool
    | [], [] => true
    | .Name n _ :: es, i :: is => decide (N[i]? = some n) && stoB fl sc n && go es is
    | _, _ => false
/-- a target's names, with their places -/
def ownOf (x : Expr) (tg : Tg) : List (Str × Nat) := match tg with
  | .var i => match x with
    | .Name n _ => [(n, i)]
    | _ => []
  | .tup is => match x with
    | .Tuple es _ _ => (es.filterMap fun e => match e with | .Name n _ => some n | _ => none).zip is
    | _ => []
def bifN : Bif → Str
  | .len => "len"
  | .tuple => "tuple"
  | .list => "list"
  | .dict => "dict"
  | .int => "int"
  | .sum => "sum"
  | .all => "all"
/-- as a value; as a test -/
def dfl (v : Bool) (x : Expr) : Bool × Bool := (v, v && okTrue x)
def lineB (apos pos : Pos) : Bool := apos.endLine == pos.line
/-- only one way of a BoolOp's op -/
def isAnd : BoolOp → Bool
  | .And => true
  | .Or => false
mutual
def ckE (tb : Tb) (sc : Scope) (x : Expr) : E → Bool × Bool
  | .int i => dfl (match x with | .Constant (.int j) _ _ => decide (i = j) | _ => false) x
  | .str s => dfl (match x with | .Constant (.str t) _ _ => decide (s = t) | _ => false) x
  | .bl b => dfl (match x with | .Constant (.bool c) _ _ => b == c | _ => false) x
  | .non => dfl (match x with | .Constant .none _ _ => true | _ => false) x
  | .var i => dfl (match x with | .Name n _ => decide (tb.N[i]? = some n) && visB sc n && plainN n | _ => false) x
  | .cst m t => dfl (match x with
    | .Name n _ => decide (m = n) && glB sc n && plainN n && (match tb.cs.lookup n with | some u => sameT t u | none => false)
    | _ => false) x
  | .tup es => dfl (match x with | .Tuple xs _ _ => ckEs tb sc xs es && decide (es.len ≤ 1000) | _ => false) x
  | .lst es => dfl (match x with | .List xs _ => ckEs tb sc xs es && decide (es.len ≤ 1000) | _ => false) x
  | .dsp es => dfl (match x with
    | .Dict ks vs _ => ckPs tb sc ks vs es && decide (ks.length ≤ 15) && decide (ks.length = vs.length)
    | _ => false) x
  | .bop o a b => dfl (match x with | .BinOp y op z _ => decide (op = bopOf o) && (ckE tb sc y a).1 && (ckE tb sc z b).1 | _ => false) x
  | .neg a => dfl (match x with | .UnaryOp .USub y _ => (ckE tb sc y a).1 | _ => false) x
  | .cmp o a b => let v := match x with
      | .Compare y [op] [z] _ => decide (op = copOf o) && (ckE tb sc y a).1 && (ckE tb sc z b).1 && okSet z
      | _ => false
    (v, v)
  | .isN a => let v := match x with
      | .Compare y [.Is] [.Constant .none _ _] _ => (ckE tb sc y a).1
      | _ => false
    (v, v)
  | .notN a => let v := match x with
      | .Compare y [.IsNot] [.Constant .none _ _] _ => (ckE tb sc y a).1
      | _ => false
    (v, v)
  | .not a => match x with
    | .UnaryOp .Not y _ => ckE tb sc y a
    | _ => (false, false)
  | .and a b => match x with
    | .BoolOp .And (y :: z :: []) _ => ((ckE tb sc y a).1 && (ckE tb sc z b).1, (ckE tb sc y a).2 && (ckE tb sc z b).2)
    | .BoolOp .And (y :: z :: w :: r) p => ((ckE tb sc y a).1 && (ckE tb sc (.BoolOp .And (z :: w :: r) p) b).1, (ckE tb sc y a).2 && (ckE tb sc (.BoolOp .And (z :: w :: r) p) b).2)
    | _ => (false, false)
  | .or a b => match x with
    | .BoolOp .Or (y :: z :: []) _ => ((ckE tb sc y a).1 && (ckE tb sc z b).1, (ckE tb sc y a).2 && (ckE tb sc z b).2)
    | .BoolOp .Or (y :: z :: w :: r) p => ((ckE tb sc y a).1 && (ckE tb sc (.BoolOp .Or (z :: w :: r) p) b).1, (ckE tb sc y a).2 && (ckE tb sc (.BoolOp .Or (z :: w :: r) p) b).2)
    | _ => (false, false)
  | .idx a i => dfl (match x with | .Subscript y z _ => (ckE tb sc y a).1 && (ckE tb sc z i).1 && okIx z | _ => false) x
  | .slcL a l => dfl (match x with | .Subscript y (.Slice (some lo) none none _) _ => (ckE tb sc y a).1 && (ckE tb sc lo l).1 | _ => false) x
  | .slcH a h => dfl (match x with | .Subscript y (.Slice none (some hi) none _) _ => (ckE tb sc y a).1 && (ckE tb sc hi h).1 | _ => false) x
  | .slcB a l h => dfl (match x with | .Subscript y (.Slice (some lo) (some hi) none _) _ => (ckE tb sc y a).1 && (ckE tb sc lo l).1 && (ckE tb sc hi h).1 | _ => false) x
  | .call f es => dfl (match x with
    | .Call (.Name n _) args [] _ => decide (tb.gn f = some n) && glB sc n && plainN n && ckEs tb sc args es
    | _ => false) x
  | .meth o m es => dfl (match x with
    | .Call (.Attribute y n apos) args [] pos => tb.me && decide (n = m) && okBase y && lineB apos pos && decide (args.length < 30) && (ckE tb sc y o).1 && ckEs tb sc args es
    | _ => false) x
  | .mk c es => dfl (match x with
    | .Call (.Name n _) args [] _ => decide (tb.cn c = some n) && glB sc n && plainN n && ckEs tb sc args es && !args.isEmpty
    | _ => false) x
  | .fld o f => dfl (match x with | .Attribute y n _ => decide (n = f) && tb.fl.contains f && okBase y && (ckE tb sc y o).1 | _ => false) x
  | .bif b e => dfl (match x with
    | .Call (.Name n _) [y] [] _ => decide (n = bifN b) && glB sc n && okStar y && (ckE tb sc y e).1
    | _ => false) x
  | .isT e => dfl (match x with
    | .Call (.Name n _) [y, .Name m _] [] _ => decide (n = ("isinstance" : Str)) && glB sc n && decide (m = ("tuple" : Str)) && glB sc m && okStar y && (ckE tb sc y e).1
    | _ => false) x
  | .lzip a b => dfl (match x with
    | .Call (.Name n _) [.Call (.Name m _) [y, z] [] _] [] _ => decide (n = ("list" : Str)) && glB sc n && decide (m = ("zip" : Str)) && glB sc m && okStar y && okStar z && (ckE tb sc y a).1 && (ckE tb sc z b).1
    | _ => false) x
  | .dzip a b => dfl (match x with
    | .Call (.Name n _) [.Call (.Name m _) [y, z] [] _] [] _ => decide (n = ("dict" : Str)) && glB sc n && decide (m = ("zip" : Str)) && glB sc m && okStar y && okStar z && (ckE tb sc y a).1 && (ckE tb sc z b).1
    | _ => false) x
  | .get1 d k => dfl (match x with
    | .Call (.Attribute y m apos) [z] [] pos => decide (m = ("get" : Str)) && okBase y && lineB apos pos && okStar z && (ckE tb sc y d).1 && (ckE tb sc z k).1
    | _ => false) x
  | .get2 d k w => dfl (match x with
    | .Call (.Attribute y m apos) [z, u] [] pos => decide (m = ("get" : Str)) && okBase y && lineB apos pos && okStar z && okStar u && (ckE tb sc y d).1 && (ckE tb sc z k).1 && (ckE tb sc u w).1
    | _ => false) x
  | .join a xs => dfl (match x with
    | .Call (.Attribute y m apos) [z] [] pos => decide (m = ("join" : Str)) && okBase y && lineB apos pos && okStar z && (ckE tb sc y a).1 && (ckE tb sc z xs).1
    | _ => false) x
  | .lc elt tg it ifs own => dfl (match x with
    | .ListComp e [⟨t, iter, cs, 0⟩] scope _ => decide (tg.slots = own) && blkC tb.N sc scope (ownOf t tg) && decide ((ownOf t tg).map (·.2) = own) && tgB tb.N false (relS scope sc) t tg && okSet iter &&
      ckI tb sc t iter tg.isTup it && ckTs tb (relS scope sc) cs ifs && (ckE tb (relS scope sc) e elt).1
    | _ => false) x
def ckEs (tb : Tb) (sc : Scope) (xs : List Expr) : Es → Bool
  | .nil => xs.isEmpty
  | .cons e es => match xs with
    | x :: r => okStar x && (ckE tb sc x e).1 && ckEs tb sc r es
    | [] => false
/-- written pairs -/
def ckPs (tb : Tb) (sc : Scope) (ks : List (Option Expr)) (vs : List Expr) : Es → Bool
  | .nil => ks.isEmpty && vs.isEmpty
  | .cons k (.cons v es) => match ks, vs with
    | some y :: ks, z :: vs => (ckE tb sc y k).1 && (ckE tb sc z v).1 && ckPs tb sc ks vs es
    | _, _ => false
  | _ => false
/-- a comprehension's tests -/
def ckTs (tb : Tb) (sc : Scope) (xs : List Expr) : Es → Bool
  | .nil => xs.isEmpty
  | .cons e .nil => match xs with
    | [x] => (ckE tb sc x e).2
    | _ => false
  | _ => false
def ckI (tb : Tb) (sc : Scope) (t x : Expr) (b : Bool) : I → Bool
  | .plain e => (ckE tb sc x e).1
  | .items e => b && (match t with | .Tuple .. => true | _ => false) && (match x with
    | .Call (.Attribute y m apos) [] [] pos => decide (m = ("items" : Str)) && okBase y && lineB apos pos && (ckE tb sc y e).1
    | _ => false)
  | .enum e => b && (match t with | .Tuple .. => true | _ => false) && (match x with
    | .Call (.Name n _) [y] [] _ => decide (n = ("enumerate" : Str)) && glB sc n && okStar y && (ckE tb sc y e).1
    | _ => false)
  | .zip a c => b && (match t with | .Tuple .. => true | _ => false) && (match x with
    | .Call (.Name n _) [y, z] [] _ => decide (n = ("zip" : Str)) && glB sc n && okStar y && okStar z && (ckE tb sc y a).1 && (ckE tb sc z c).1
    | _ => false)
  | .rng e => match x with
    | .Call (.Name n _) [y] [] _ => decide (n = ("range" : Str)) && glB sc n && okStar y && (ckE tb sc y e).1
    | _ => false
end

/-! ### statements -/
/-- the line of a comprehension that a name is set to -/
def lcB (sc : Scope) (n : Str) (p : Pos) (x : Expr) : Bool := match x with
  | .ListComp _ _ scope pos => decide (sc.names.lookup n = some .local) && (p.line == pos.line) && !(scope.names.any fun (m, k) => m == n && (k == .local || k == .cell))
  | _ => false
def nameB (e : Expr) : Bool := match e with
  | .Name .. => true
  | _ => false
mutual
def ckS (tb : Tb) (sc : Scope) (x : Stmt) : S → Bool
  | .asg i e => match x with
    | .Assign [.Name n p] y _ => decide (tb.N[i]? = some n) && stoB true sc n && (ckE tb sc y e).1 && (okComp y || (match y with | .ListComp .. => true | _ => false))
    | _ => false
  | .asgT is e => match x with
    | .Assign [.Tuple es kk p] y _ => tgB tb.N true sc (.Tuple es kk p) (.tup is) && okTup y && (ckE tb sc y e).1
    | _ => false
  | .setI i k e => match x with
    | .Assign [.Subscript (.Name n _) z _] y _ => decide (tb.N[i]? = some n) && visB sc n && plainN n && okIx z && (ckE tb sc z k).1 && (ckE tb sc y e).1
    | _ => false
  | .fldS _ _ => false
  | .app i e => match x with
    | .Expr (.Call (.Attribute (.Name n _) m apos) [y] [] pos) _ => decide (m = ("append" : Str)) && decide (tb.N[i]? = some n) && visB sc n && plainN n && lineB apos pos && okStar y && (ckE tb sc y e).1
    | _ => false
  | .ext i e => match x with
    | .Expr (.Call (.Attribute (.Name n _) m apos) [y] [] pos) _ => decide (m = ("extend" : Str)) && decide (tb.N[i]? = some n) && visB sc n && plainN n && lineB apos pos && okStar y && (ckE tb sc y e).1
    | _ => false
  | .ins i k e => match x with
    | .Expr (.Call (.Attribute (.Name n _) m apos) [z, y] [] pos) _ => decide (m = ("insert" : Str)) && decide (tb.N[i]? = some n) && visB sc n && plainN n && lineB apos pos && okStar z && okStar y && (ckE tb sc z k).1 && (ckE tb sc y e).1
    | _ => false
  | .ret e => match x with
    | .Return (some y) _ => (ckE tb sc y e).1
    | _ => false
  | .retO i => match x with
    | .Return (some (.Name n _)) _ => decide (tb.N[i]? = some n) && visB sc n && plainN n
    | _ => false
  | .pass => match x with
    | .Pass _ => true
    | _ => false
  | .ifs c a b => match x with
    | .If y u v _ => (ckE tb sc y c).2 && ckSs tb sc u a && ckSs tb sc v b
    | _ => false
  | .whl _ c b => match x with
    | .While y u [] _ => (ckE tb sc y c).2 && ckSs tb sc u b
    | _ => false
  | .fors tg it b => match x with
    | .For t y u [] _ => tgB tb.N true sc t tg && ckI tb sc t y tg.isTup it && okSet y && ckSs tb sc u b
    | _ => false
  | .frz _ => false
  | .shr _ => false
def ckSs (tb : Tb) (sc : Scope) (xs : List Stmt) : Ss → Bool
  | .nil => xs.isEmpty
  | .cons s ss => match s with
    | .frz _ => ckSs tb sc xs ss
    | .shr _ => ckSs tb sc xs ss
    | _ => match xs with
      | x :: r => ckS tb sc x s && ckSs tb sc r ss
      | [] => false
end
/-- an __init__'s body -/
def ckNs (tb : Tb) (sc : Scope) (xs : List Stmt) : Ss → Bool
  | .nil => xs.isEmpty
  | .cons (.fldS f e) ss => match xs with
    | .Assign [.Attribute (.Name n _) g _] y _ :: r => decide (g = f) && tb.fl.contains f && decide (tb.N[0]? = some n) && visB sc n && plainN n && okComp y && (ckE tb sc y e).1 && ckNs tb sc r ss
    | _ => false
  | .cons .pass ss => match xs with
    | .Pass _ :: r => ckNs tb sc r ss
    | _ => false
  | _ => false
end TL
end

section
set_option Elab.async false
set_option linter.all false
set_option maxRecDepth 100000
set_option maxHeartbeats 4000000
/-! The check is sound: expressions. -/
namespace TL
open PySem PySem.Spec PyProof.Rows L2

/-- a block's names -/
structure Sc (X : Cx) (N : List Str) (fl : Bool) (sc : Scope) : Prop where
  eN : X.N = N
  nd : N.Nodup
  eS : X.env.scope = sc
  sto : ∀ n, stoB fl sc n = true → Sto1 X n
def blts : List Str := ["len", "tuple", "list", "dict", "int", "sum", "all", "isinstance", "zip", "enumerate", "range"]
/-- what is known of the module -/
structure Fa (X : Cx) (tb : Tb) (cl : Nat → Addr) (G : Cfg) (C : Calls) (k : Nat) : Prop where
  calm : X.calm = true
  room : Room k X.A
  blt : ∀ n ∈ blts, X.mg n = none
  gl : ∀ f n, tb.gn f = some n → ∃ g, X.mg n = some (.ref g) ∧ Callee X k g (spF (pk X cl) C f)
  cs : ∀ n t, tb.cs.lookup n = some t → ∃ v u, X.mg n = some u ∧ RelV v u ∧ ∀ φ F, Is (pk X cl) φ F t v
  fl : ∀ f, tb.fl.contains f = true → ∀ c, Cls X.K (cl c) ∧ NoAttr X.K (cl c) f
  me : tb.me = true → ∀ c m f, G.meth c m = some f → ∃ g, Cls X.K (cl c) ∧ Meth X.K (cl c) m g ∧ Callee X k g (spF (pk X cl) C f)
  mak : ∀ c n, tb.cn c = some n → ∃ fi g j, j + 1 ≤ k ∧ G.init c = some fi ∧ Callee X j g (spI (pk X cl) C fi) ∧ Mk X.K (cl c) g ∧ X.mg n = some (.ref (cl c))
section
variable {X : Cx} {tb : Tb} {cl : Nat → Addr} {G : Cfg} {C : Calls} {k : Nat} {N : List Str} {fl : Bool} {sc : Scope}
theorem Fa.r (A : Fa X tb cl G C k) : Room k X.A := A.room
theorem Fa.u64 (A : Fa X tb cl G C k) : X.A.units + 64 < cLine := by have := A.room.un; omega
theorem Fa.u1 (A : Fa X tb cl G C k) : X.A.units + 1 < cLine := by have := A.room.un; omega
theorem Sc.blk (S : Sc X N fl sc) (s : Shared) (H : Hp) (scope : Scope) (D : Addr) (cs : List (Str × Addr)) (fp : List Addr) : Sc (X.blk s H scope (compEnvC scope cs D X.env) fp) N false (relS scope sc) := by
  have e : (X.blk s H scope (compEnvC scope cs D X.env) fp).env.scope = relS scope sc := by
    rw [← S.eS]; rfl
  refine ⟨S.eN, S.nd, e, fun n h => ?_⟩
  unfold stoB at h
  have q : (relS scope sc).names.lookup n = some .local := by
    split at h <;> first | assumption | cases h
  exact ⟨.inl (by rw [e]; exact q), .inr (by rw [e]; exact q)⟩
theorem Fa.blk (A : Fa X tb cl G C k) (s : Shared) (H : Hp) (scope : Scope) (cenv : PySem.Env) (fp : List Addr) : Fa (X.blk s H scope cenv fp) tb cl G C k :=
  ⟨A.calm, A.room, A.blt, fun f n e => (A.gl f n e).imp fun g q => ⟨q.1, ⟨q.2.ex⟩⟩, A.cs, A.fl, fun z c m f e => (A.me z c m f e).imp fun g q => ⟨q.1, q.2.1, ⟨q.2.2.ex⟩⟩, fun c n e => by
    obtain ⟨fi, g, j, h0, h1, h2, h3⟩ := A.mak c n e
    exact ⟨fi, g, j, h0, h1, ⟨h2.ex⟩, h3⟩⟩
theorem vis_of (S : Sc X N fl sc) {n : Str} (h : visB sc n = true) : Vis X.env.scope n := by
  rw [S.eS]
  unfold visB at h
  split at h <;> first | exact .inl (by assumption) | exact .inr (.inl (by assumption)) | exact .inr (.inr (by assumption)) | cases h
theorem gl_of (S : Sc X N fl sc) {n : Str} (h : glB sc n = true) : Gl X n := by
  show X.env.scope.names.lookup n = _
  rw [S.eS]
  exact of_decide_eq_true h
theorem pn_of {n : Str} (h : plainN n = true) : (n == ("__debug__" : Str)) = false ∧ (n == ("__classdict__" : Str)) = false := by
  unfold plainN at h
  simp only [Bool.and_eq_true, Bool.not_eq_true'] at h
  exact h.1
theorem tgGo (S : Sc X N fl sc) : ∀ {es : List Expr} {is : List Nat}, tgB.go N fl sc es is = true → (∀ q ∈ es, ∃ x p, q = .Name x p) ∧ es.length = is.length ∧ ∀ (j : Nat) (x : Str) (p : Pos) (i : Nat), es[j]? = some (.Name x p) → is[j]? = some i → X.N[i]? = some x ∧ Sto1 X x
  | [], [], h => ⟨fun q hq => (by cases hq), rfl, fun j x p i e => (by simp at e)⟩
  | [], _ :: _, h => by cases h
  | e :: es, [], h => by cases e <;> cases h
  | e :: es, i :: is, h => by
    cases e with
    | Name n p =>
      have h : (decide (N[i]? = some n) && stoB fl sc n && tgB.go N fl sc es is) = true := h
      simp only [Bool.and_eq_true, decide_eq_true_eq] at h
      obtain ⟨h1, h2, h3⟩ := tgGo S h.2
      refine ⟨fun q hq => ?_, by rw [List.length_cons, List.length_cons, h2], fun j x p' i' e1 e2 => ?_⟩
      · rcases List.mem_cons.mp hq with rfl | hq
        · exact ⟨_, _, rfl⟩
        · exact h1 q hq
      · cases j with
        | zero =>
          simp at e1 e2
          obtain ⟨rfl, rfl⟩ := e1
          subst e2
          exact ⟨by rw [S.eN]; exact h.1.1, S.sto _ h.1.2⟩
        | succ j => exact h3 j x p' i' (by simpa using e1) (by simpa using e2)
    | _ => cases h
theorem tg_ok (S : Sc X N fl sc) (hc : X.calm = true) {tg : Tg} {x : Expr} (h : tgB N fl sc x tg = true) : PG X x (gT X.K tg) := by
  cases tg with
  | var i =>
    cases x with
    | Name n p =>
      have h : (decide (N[i]? = some n) && stoB fl sc n) = true := h
      simp only [Bool.and_eq_true, decide_eq_true_eq] at h
      exact pg_name (by rw [S.eN]; exact S.nd) (by rw [S.eN]; exact h.1) (S.sto n h.2).1 (S.sto n h.2).2
    | _ => cases h
  | tup is =>
    cases x with
    | Tuple es kk p =>
      obtain ⟨h1, h2, h3⟩ := tgGo S (show tgB.go N fl sc es is = true from h)
      exact pg_unp hc (by rw [S.eN]; exact S.nd) h1 h2 h3
    | _ => cases h
end
section
variable {X : Cx} {tb : Tb} {cl : Nat → Addr} {G : Cfg} {C : Calls} {k : Nat} {fl : Bool} {sc : Scope} {e : E} {x : Expr}
/-- as a value; as a test -/
def OkE (X : Cx) (cl : Nat → Addr) (G : Cfg) (C : Calls) (x : Expr) (e : E) (b : Bool × Bool) : Prop :=
  (b.1 = true → ∀ pk', JE X cl G C pk' x e) ∧ (b.2 = true → JT X cl G C x e ∧ ((∃ op xs p, x = .BoolOp op xs p) → JW X cl G C x e))
theorem ok_dfl {v : Bool} (h : v = true → ∀ pk', JE X cl G C pk' x e) : OkE X cl G C x e (dfl v x) := by
  refine ⟨h, fun q => ?_⟩
  have q : (v && okTrue x) = true := q
  rw [Bool.and_eq_true] at q
  refine ⟨jt_val (h q.1 false) (true_of q.2), fun ⟨op, xs, p, e⟩ => ?_⟩
  subst e
  cases q.2
theorem ok_bad : OkE X cl G C x e (false, false) := ⟨fun h => (by cases h), fun h => (by cases h)⟩
theorem JE.peek (h : JE X cl G C false x e) (hd : ∀ ρ st, denE G C true e ρ st = denE G C false e ρ st) (pk' : Bool) : JE X cl G C pk' x e := by
  cases pk' with
  | false => exact h
  | true =>
    refine PE.imp h fun σ H Q ⟨ρ, φ, F, st, r, st', rel, h, w⟩ => ⟨ρ, φ, F, st, r, st', rel, by rw [← hd]; exact h, fun v φ' F' H' n g => w v φ' F' H' n (Res.saw g)⟩
theorem ckEs_star : ∀ {es : Es} {xs : List Expr}, ckEs tb sc xs es = true → xs.all okStar = true
  | .nil, xs, h => by
    rw [ckEs] at h
    rw [List.isEmpty_iff.mp h]; rfl
  | .cons e es, [], h => by rw [ckEs] at h; cases h
  | .cons e es, x :: r, h => by
    rw [ckEs] at h
    simp only [Bool.and_eq_true] at h
    rw [List.all_cons, h.1.1, ckEs_star h.2]; rfl
theorem lc_parts (S : Sc X tb.N fl sc) (A : Fa X tb cl G C k) {elt : E} {tg : Tg} {it : I} {ifs : Es} {own : List Nat} {t iter : Expr} {cs : List Expr} {scope : Scope}
    (h1 : tg.slots = own) (h2 : blkC tb.N sc scope (ownOf t tg) = true) (h3 : (ownOf t tg).map (·.2) = own) (h4 : tgB tb.N false (relS scope sc) t tg = true) (h5 : okSet iter = true)
    (hI : JI X cl G C tg.isTup t iter it) (hT : ∀ {Y : Cx}, Sc Y tb.N false (relS scope sc) → Fa Y tb cl G C k → JTs Y cl G C cs ifs) (hE : ∀ {Y : Cx}, Sc Y tb.N false (relS scope sc) → Fa Y tb cl G C k → JE Y cl G C false x elt) {pos : Pos} (pk' : Bool) : JE X cl G C pk' (.ListComp x [⟨t, iter, cs, 0⟩] scope pos) (.lc elt tg it ifs own) := by
  have g := pe_lc (X := X) (pos := pos) (wi := sI X cl G C tg.isTup it) (g := gT X.K tg) (tt := sTs X cl G C ifs) (te := sE X cl G C false elt) (own := ownOf t tg) (scope := scope) (elt := x) (ifs := cs) A.calm (by rw [S.eN]; exact S.nd) hI (by rw [S.eN, S.eS]; exact blkOk_by h2) (fun s H D cs fp => tg_ok (S.blk s H scope D cs fp) A.calm h4) (fun s H D cs' fp => hT (S.blk s H scope D cs' fp) (A.blk s H scope _ fp)) (fun s H D cs' fp => hE (S.blk s H scope D cs' fp) (A.blk s H scope _ fp)) (fset_of h5)
  rw [h3] at g
  exact PE.imp g fun σ H Q q => lc_go (by rw [h1]; exact fun i hi => hi) σ H Q q
end
end TL
end

section
set_option Elab.async false
set_option linter.all false
set_option maxRecDepth 100000
set_option maxHeartbeats 4000000
/-! The check is sound: expressions. -/
namespace TL
open PySem PySem.Spec PyProof.Rows L2
section
variable {tb : Tb} {cl : Nat → Addr} {G : Cfg} {C : Calls} {k : Nat}
mutual
theorem ckE_ok : ∀ (e : E) {X : Cx} {fl : Bool} {sc : Scope} (S : Sc X tb.N fl sc) (A : Fa X tb cl G C k) (x : Expr), OkE X cl G C x e (ckE tb sc x e)
  | .int i, X, fl, sc, S, A, x => by
    unfold ckE
    refine ok_dfl fun h pk' => ?_
    split at h
    · rw [← of_decide_eq_true h]; exact j_int
    · cases h
  | .str i, X, fl, sc, S, A, x => by
    unfold ckE
    refine ok_dfl fun h pk' => ?_
    split at h
    · rw [← of_decide_eq_true h]; exact j_str
    · cases h
  | .bl i, X, fl, sc, S, A, x => by
    unfold ckE
    refine ok_dfl fun h pk' => ?_
    split at h
    · rw [← eq_of_beq h]; exact j_bl
    · cases h
  | .non, X, fl, sc, S, A, x => by
    unfold ckE
    refine ok_dfl fun h pk' => ?_
    split at h
    · exact j_non
    · cases h
  | .var i, X, fl, sc, S, A, x => by
    unfold ckE
    refine ok_dfl fun h pk' => ?_
    split at h
    · simp only [Bool.and_eq_true, decide_eq_true_eq] at h
      exact j_var (by rw [S.eN]; exact h.1.1) (vis_of S h.1.2) (pn_of h.2).1 (pn_of h.2).2
    · cases h
  | .cst m t, X, fl, sc, S, A, x => by
    unfold ckE
    refine ok_dfl fun h pk' => ?_
    split at h
    · simp only [Bool.and_eq_true, decide_eq_true_eq] at h
      obtain ⟨⟨⟨rfl, h1⟩, h2⟩, h3⟩ := h
      split at h3
      · rename_i u e1
        rw [sameT_eq _ _ h3]
        obtain ⟨v, u', q1, q2, q3⟩ := A.cs _ _ e1
        exact j_cst (gl_of S h1) q1 q2 q3 (pn_of h2).1
      · cases h3
    · cases h
  | .tup es, X, fl, sc, S, A, x => by
    unfold ckE
    refine ok_dfl fun h pk' => ?_
    split at h
    · simp only [Bool.and_eq_true, decide_eq_true_eq] at h
      exact j_tup (ckEs_ok es S A _ h.1) fun ρ st ts st' q => by rw [den_len q]; exact h.2
    · cases h
  | .lst es, X, fl, sc, S, A, x => by
    unfold ckE
    refine ok_dfl fun h pk' => ?_
    split at h
    · simp only [Bool.and_eq_true, decide_eq_true_eq] at h
      exact j_lst (ckEs_ok es S A _ h.1) fun ρ st ts st' q => by rw [den_len q]; exact h.2
    · cases h
  | .dsp es, X, fl, sc, S, A, x => by
    unfold ckE
    refine ok_dfl fun h pk' => ?_
    split at h
    · rename_i ks vs pos
      simp only [Bool.and_eq_true, decide_eq_true_eq] at h
      obtain ⟨⟨h1, h2⟩, h3⟩ := h
      obtain ⟨q1, q2⟩ := ckPs_ok es S A ks vs pos h1
      cases ks with
      | nil =>
        cases vs with
        | nil =>
          cases es with
          | nil => exact j_dsp0
          | cons a b =>
            cases b with
            | nil => unfold ckPs at h1; cases h1
            | cons c d => unfold ckPs at h1; cases h1
        | cons a b => cases h3
      | cons a b => exact j_dsp q1 q2 h3 (by simp) h2
    · cases h
  | .bop o a b, X, fl, sc, S, A, x => by
    unfold ckE
    refine ok_dfl fun h pk' => ?_
    split at h
    · simp only [Bool.and_eq_true, decide_eq_true_eq] at h
      obtain ⟨⟨rfl, h1⟩, h2⟩ := h
      exact j_bop ((ckE_ok a S A _).1 h1 false) ((ckE_ok b S A _).1 h2 false)
    · cases h
  | .neg a, X, fl, sc, S, A, x => by
    unfold ckE
    refine ok_dfl fun h pk' => ?_
    split at h
    · exact j_neg ((ckE_ok a S A _).1 h false)
    · cases h
  | .cmp o a b, X, fl, sc, S, A, x => by
    unfold ckE
    refine ⟨fun h pk' => ?_, fun h => ?_⟩
    · simp only at h
      split at h
      · simp only [Bool.and_eq_true, decide_eq_true_eq] at h
        obtain ⟨⟨⟨rfl, h1⟩, h2⟩, h3⟩ := h
        exact j_cmp A.u64 ((ckE_ok a S A _).1 h1 true) ((ckE_ok b S A _).1 h2 true) (marks_of h3)
      · cases h
    · simp only at h
      split at h
      · simp only [Bool.and_eq_true, decide_eq_true_eq] at h
        obtain ⟨⟨⟨rfl, h1⟩, h2⟩, h3⟩ := h
        exact ⟨jt_cmp' A.u64 ((ckE_ok a S A _).1 h1 true) ((ckE_ok b S A _).1 h2 true) (marks_of h3), fun ⟨_, _, _, q⟩ => by cases q⟩
      · cases h
  | .isN a, X, fl, sc, S, A, x => by
    unfold ckE
    refine ⟨fun h pk' => ?_, fun h => ?_⟩
    · simp only at h
      split at h
      · exact j_isN ((ckE_ok a S A _).1 h false)
      · cases h
    · simp only at h
      split at h
      · exact ⟨jt_isN ((ckE_ok a S A _).1 h false), fun ⟨_, _, _, q⟩ => by cases q⟩
      · cases h
  | .notN a, X, fl, sc, S, A, x => by
    unfold ckE
    refine ⟨fun h pk' => ?_, fun h => ?_⟩
    · simp only at h
      split at h
      · exact j_notN ((ckE_ok a S A _).1 h false)
      · cases h
    · simp only at h
      split at h
      · exact ⟨jt_notN ((ckE_ok a S A _).1 h false), fun ⟨_, _, _, q⟩ => by cases q⟩
      · cases h
  | .not a, X, fl, sc, S, A, x => by
    unfold ckE
    split
    · exact ⟨fun h pk' => j_not ((ckE_ok a S A _).1 h false), fun h => ⟨jt_not ((ckE_ok a S A _).2 h).1, fun ⟨_, _, _, q⟩ => by cases q⟩⟩
    · exact ok_bad
  | .and a b, X, fl, sc, S, A, x => by
    unfold ckE
    split
    · refine ⟨fun h pk' => ?_, fun h => ?_⟩
      · simp only [Bool.and_eq_true] at h
        exact JE.peek (j_and ((ckE_ok a S A _).1 h.1 false) (j_one ((ckE_ok b S A _).1 h.2 false))) (fun ρ st => rfl) pk'
      · simp only [Bool.and_eq_true] at h
        have q := jw_and (pos := ‹Pos›) ((ckE_ok a S A _).2 h.1).1 (jw_and1 ((ckE_ok b S A _).2 h.2).1)
        exact ⟨q.jt, fun _ => q⟩
    · refine ⟨fun h pk' => ?_, fun h => ?_⟩
      · simp only [Bool.and_eq_true] at h
        exact JE.peek (j_and ((ckE_ok a S A _).1 h.1 false) ((ckE_ok b S A _).1 h.2 false)) (fun ρ st => rfl) pk'
      · simp only [Bool.and_eq_true] at h
        have q := jw_and (pos := ‹Pos›) ((ckE_ok a S A _).2 h.1).1 (((ckE_ok b S A _).2 h.2).2 ⟨_, _, _, rfl⟩)
        exact ⟨q.jt, fun _ => q⟩
    · exact ok_bad
  | .or a b, X, fl, sc, S, A, x => by
    unfold ckE
    split
    · refine ⟨fun h pk' => ?_, fun h => ?_⟩
      · simp only [Bool.and_eq_true] at h
        exact JE.peek (j_or ((ckE_ok a S A _).1 h.1 false) (j_one ((ckE_ok b S A _).1 h.2 false))) (fun ρ st => rfl) pk'
      · simp only [Bool.and_eq_true] at h
        have q := jw_or (pos := ‹Pos›) ((ckE_ok a S A _).2 h.1).1 (jw_or1 ((ckE_ok b S A _).2 h.2).1)
        exact ⟨q.jt, fun _ => q⟩
    · refine ⟨fun h pk' => ?_, fun h => ?_⟩
      · simp only [Bool.and_eq_true] at h
        exact JE.peek (j_or ((ckE_ok a S A _).1 h.1 false) ((ckE_ok b S A _).1 h.2 false)) (fun ρ st => rfl) pk'
      · simp only [Bool.and_eq_true] at h
        have q := jw_or (pos := ‹Pos›) ((ckE_ok a S A _).2 h.1).1 (((ckE_ok b S A _).2 h.2).2 ⟨_, _, _, rfl⟩)
        exact ⟨q.jt, fun _ => q⟩
    · exact ok_bad
  | .idx a i, X, fl, sc, S, A, x => by
    unfold ckE
    refine ok_dfl fun h pk' => ?_
    split at h
    · simp only [Bool.and_eq_true] at h
      exact j_idx A.u1 ((ckE_ok a S A _).1 h.1.1 true) ((ckE_ok i S A _).1 h.1.2 false) (ix_of h.2)
    · cases h
  | .slcL a l, X, fl, sc, S, A, x => by
    unfold ckE
    refine ok_dfl fun h pk' => ?_
    split at h
    · simp only [Bool.and_eq_true] at h
      exact j_slcL ((ckE_ok a S A _).1 h.1 true) ((ckE_ok l S A _).1 h.2 false)
    · cases h
  | .slcH a l, X, fl, sc, S, A, x => by
    unfold ckE
    refine ok_dfl fun h pk' => ?_
    split at h
    · simp only [Bool.and_eq_true] at h
      exact j_slcH ((ckE_ok a S A _).1 h.1 true) ((ckE_ok l S A _).1 h.2 false)
    · cases h
  | .slcB a l u, X, fl, sc, S, A, x => by
    unfold ckE
    refine ok_dfl fun h pk' => ?_
    split at h
    · simp only [Bool.and_eq_true] at h
      exact j_slcB ((ckE_ok a S A _).1 h.1.1 true) ((ckE_ok l S A _).1 h.1.2 false) ((ckE_ok u S A _).1 h.2 false)
    · cases h
  | .call f es, X, fl, sc, S, A, x => by
    unfold ckE
    refine ok_dfl fun h pk' => ?_
    split at h
    · rename_i n p args pos
      simp only [Bool.and_eq_true, decide_eq_true_eq] at h
      obtain ⟨⟨⟨h1, h2⟩, h3⟩, h4⟩ := h
      obtain ⟨g, m1, m2⟩ := A.gl f n h1
      have hst := ckEs_star h4
      have ja := ckEs_ok es S A _ h4
      cases args with
      | nil =>
        cases es with
        | nil => exact j_call0 m2 A.r (gl_of S h2) m1 (pn_of h3).1
        | cons a b => unfold ckEs at h4; cases h4
      | cons y ys =>
        rw [List.all_cons, Bool.and_eq_true] at hst
        exact j_call m2 A.r (gl_of S h2) m1 (pn_of h3).1 ja (star_of hst.1) (plain_of hst.2)
    · cases h
  | .meth o m es, X, fl, sc, S, A, x => by
    unfold ckE
    refine ok_dfl fun h pk' => ?_
    split at h
    · rename_i y n apos args pos
      simp only [Bool.and_eq_true, decide_eq_true_eq] at h
      obtain ⟨⟨⟨⟨⟨⟨h0, rfl⟩, h1⟩, h2⟩, h3⟩, h4⟩, h5⟩ := h
      have hst := ckEs_star h5
      have ja := ckEs_ok es S A _ h5
      have ho := (ckE_ok o S A _).1 h4 false
      have ht := meth_tree (env := X.env) (m := n) h1 h2 hst h3
      cases args with
      | nil =>
        cases es with
        | nil => exact j_meth0 (fun c f => A.me h0 c n f) A.r ho ht
        | cons a b => unfold ckEs at h5; cases h5
      | cons y ys =>
        rw [List.all_cons, Bool.and_eq_true] at hst
        exact j_meth (fun c f => A.me h0 c n f) A.r ho ja (star_of hst.1) (plain_of hst.2) ht
    · cases h
  | .mk c es, X, fl, sc, S, A, x => by
    unfold ckE
    refine ok_dfl fun h pk' => ?_
    split at h
    · rename_i n p args pos
      simp only [Bool.and_eq_true, decide_eq_true_eq] at h
      obtain ⟨⟨⟨⟨h1, h2⟩, h3⟩, h4⟩, h5⟩ := h
      obtain ⟨fi, g, j, m0, m1, m2, m3, m4⟩ := A.mak c n h1
      have hst := ckEs_star h4
      have ja := ckEs_ok es S A _ h4
      cases args with
      | nil => cases h5
      | cons y ys =>
        rw [List.all_cons, Bool.and_eq_true] at hst
        exact j_mk m1 m2 m3 (A.room.mono m0) (gl_of S h2) m4 (pn_of h3).1 ja (star_of hst.1) (plain_of hst.2)
    · cases h
  | .fld o f, X, fl, sc, S, A, x => by
    unfold ckE
    refine ok_dfl fun h pk' => ?_
    split at h
    · simp only [Bool.and_eq_true, decide_eq_true_eq] at h
      obtain ⟨⟨⟨rfl, h1⟩, h2⟩, h3⟩ := h
      exact j_fld (base_of _ h2) (A.fl _ h1) ((ckE_ok o S A _).1 h3 false)
    · cases h
  | .bif b e, X, fl, sc, S, A, x => by
    unfold ckE
    refine ok_dfl fun h pk' => ?_
    split at h
    · simp only [Bool.and_eq_true, decide_eq_true_eq] at h
      obtain ⟨⟨⟨rfl, h1⟩, h2⟩, h3⟩ := h
      have je := (ckE_ok e S A _).1 h3 true
      have g := gl_of S h1
      have st := fun xs => star_of (env := X.env) (xs := xs) h2
      cases b with
      | len => exact j_len g (A.blt _ (by decide)) je (st [])
      | tuple => exact j_tuple A.calm g (A.blt _ (by decide)) je (st [])
      | list => exact j_list g (A.blt _ (by decide)) je (st [])
      | dict => exact j_dict A.calm g (A.blt _ (by decide)) je (st [])
      | int => exact j_bint g (A.blt _ (by decide)) je (st [])
      | sum => exact j_sum A.calm g (A.blt _ (by decide)) je (st [])
      | all => exact j_all A.calm g (A.blt _ (by decide)) je (st [])
    · cases h
  | .isT e, X, fl, sc, S, A, x => by
    unfold ckE
    refine ok_dfl fun h pk' => ?_
    split at h
    · simp only [Bool.and_eq_true, decide_eq_true_eq] at h
      obtain ⟨⟨⟨⟨⟨rfl, h1⟩, rfl⟩, h2⟩, h3⟩, h4⟩ := h
      exact j_isT (gl_of S h1) (A.blt _ (by decide)) (gl_of S h2) (A.blt _ (by decide)) ((ckE_ok e S A _).1 h4 false) (star_of h3)
    · cases h
  | .lzip a b, X, fl, sc, S, A, x => by
    unfold ckE
    refine ok_dfl fun h pk' => ?_
    split at h
    · simp only [Bool.and_eq_true, decide_eq_true_eq] at h
      obtain ⟨⟨⟨⟨⟨⟨⟨rfl, h1⟩, rfl⟩, h2⟩, h3⟩, h4⟩, h5⟩, h6⟩ := h
      exact j_lzip A.calm (gl_of S h2) (A.blt _ (by decide)) (gl_of S h1) (A.blt _ (by decide)) ((ckE_ok a S A _).1 h5 true) ((ckE_ok b S A _).1 h6 true) (star_of h3) (star_of h4) (plain_of (by rw [List.all_cons, h4]; rfl)) (star_of rfl)
    · cases h
  | .dzip a b, X, fl, sc, S, A, x => by
    unfold ckE
    refine ok_dfl fun h pk' => ?_
    split at h
    · simp only [Bool.and_eq_true, decide_eq_true_eq] at h
      obtain ⟨⟨⟨⟨⟨⟨⟨rfl, h1⟩, rfl⟩, h2⟩, h3⟩, h4⟩, h5⟩, h6⟩ := h
      exact j_dzip A.calm (gl_of S h2) (A.blt _ (by decide)) (gl_of S h1) (A.blt _ (by decide)) ((ckE_ok a S A _).1 h5 true) ((ckE_ok b S A _).1 h6 true) (star_of h3) (star_of h4) (plain_of (by rw [List.all_cons, h4]; rfl)) (star_of rfl)
    · cases h
  | .get1 d z, X, fl, sc, S, A, x => by
    unfold ckE
    refine ok_dfl fun h pk' => ?_
    split at h
    · simp only [Bool.and_eq_true, decide_eq_true_eq] at h
      obtain ⟨⟨⟨⟨⟨rfl, h1⟩, h2⟩, h3⟩, h4⟩, h5⟩ := h
      have s1 := star_of (env := X.env) (xs := []) h3
      exact j_get1 A.u1 ((ckE_ok d S A _).1 h4 false) ((ckE_ok z S A _).1 h5 false) ⟨base_of _ h1, few_one s1, h2, by rw [s1]; rfl⟩
    · cases h
  | .get2 d z w, X, fl, sc, S, A, x => by
    unfold ckE
    refine ok_dfl fun h pk' => ?_
    split at h
    · simp only [Bool.and_eq_true, decide_eq_true_eq] at h
      obtain ⟨⟨⟨⟨⟨⟨⟨rfl, h1⟩, h2⟩, h3⟩, h3'⟩, h4⟩, h5⟩, h6⟩ := h
      have s0 := star_of (env := X.env) (xs := []) h3'
      have s1 := fun xs => star_of (env := X.env) (xs := xs) h3
      exact j_get2 A.u1 ((ckE_ok d S A _).1 h4 false) ((ckE_ok z S A _).1 h5 false) ((ckE_ok w S A _).1 h6 false) ⟨base_of _ h1, few_two (s1 _) s0, h2, by rw [s1, s0]; rfl⟩
    · cases h
  | .join a xs, X, fl, sc, S, A, x => by
    unfold ckE
    refine ok_dfl fun h pk' => ?_
    split at h
    · simp only [Bool.and_eq_true, decide_eq_true_eq] at h
      obtain ⟨⟨⟨⟨⟨rfl, h1⟩, h2⟩, h3⟩, h4⟩, h5⟩ := h
      exact j_join ((ckE_ok a S A _).1 h4 false) ((ckE_ok xs S A _).1 h5 true) (by rw [star_of h3]; rfl) (base_of _ h1) h2
    · cases h
  | .lc elt tg it ifs own, X, fl, sc, S, A, x => by
    unfold ckE
    refine ok_dfl fun h pk' => ?_
    split at h
    · simp only [Bool.and_eq_true, decide_eq_true_eq] at h
      obtain ⟨⟨⟨⟨⟨⟨⟨h1, h2⟩, h3⟩, h4⟩, h5⟩, h6⟩, h7⟩, h8⟩ := h
      exact lc_parts S A h1 h2 h3 h4 h5 (ckI_ok it S A _ _ _ h6) (fun S' A' => ckTs_ok ifs S' A' _ h7) (fun S' A' => (ckE_ok elt S' A' _).1 h8 false) pk'
    · cases h
theorem ckEs_ok : ∀ (es : Es) {X : Cx} {fl : Bool} {sc : Scope} (S : Sc X tb.N fl sc) (A : Fa X tb cl G C k) (xs : List Expr), ckEs tb sc xs es = true → JA X cl G C xs es
  | .nil, X, fl, sc, S, A, xs, h => by
    unfold ckEs at h
    rw [List.isEmpty_iff.mp h]
    exact ja_nil
  | .cons e es, X, fl, sc, S, A, xs, h => by
    unfold ckEs at h
    split at h
    · simp only [Bool.and_eq_true] at h
      exact ja_cons ((ckE_ok e S A _).1 h.1.2 false) (ckEs_ok es S A _ h.2) (star_of h.1.1)
    · cases h
theorem ckPs_ok : ∀ (es : Es) {X : Cx} {fl : Bool} {sc : Scope} (S : Sc X tb.N fl sc) (A : Fa X tb cl G C k) (ks : List (Option Expr)) (vs : List Expr) (pos : Pos), ckPs tb sc ks vs es = true → JPs X cl G C pos ks vs es ∧ ks.all (·.isSome) = true
  | .nil, X, fl, sc, S, A, ks, vs, pos, h => by
    unfold ckPs at h
    rw [Bool.and_eq_true] at h
    rw [List.isEmpty_iff.mp h.1, List.isEmpty_iff.mp h.2]
    exact ⟨jps_nil, rfl⟩
  | .cons a .nil, X, fl, sc, S, A, ks, vs, pos, h => by
    unfold ckPs at h; cases h
  | .cons a (.cons b es), X, fl, sc, S, A, ks, vs, pos, h => by
    unfold ckPs at h
    split at h
    · simp only [Bool.and_eq_true] at h
      obtain ⟨q1, q2⟩ := ckPs_ok es S A _ _ pos h.2
      exact ⟨jps_cons ((ckE_ok a S A _).1 h.1.1 false) ((ckE_ok b S A _).1 h.1.2 false) q1, by rw [List.all_cons, q2]; rfl⟩
    · cases h
theorem ckTs_ok : ∀ (es : Es) {X : Cx} {fl : Bool} {sc : Scope} (S : Sc X tb.N fl sc) (A : Fa X tb cl G C k) (xs : List Expr), ckTs tb sc xs es = true → JTs X cl G C xs es
  | .nil, X, fl, sc, S, A, xs, h => by
    unfold ckTs at h
    rw [List.isEmpty_iff.mp h]
    exact jts_nil
  | .cons e .nil, X, fl, sc, S, A, xs, h => by
    unfold ckTs at h
    split at h
    · exact jts_one ((ckE_ok e S A _).2 h).1
    · cases h
  | .cons e (.cons _ _), X, fl, sc, S, A, xs, h => by
    unfold ckTs at h; cases h
theorem ckI_ok : ∀ (it : I) {X : Cx} {fl : Bool} {sc : Scope} (S : Sc X tb.N fl sc) (A : Fa X tb cl G C k) (t x : Expr) (b : Bool), ckI tb sc t x b it = true → JI X cl G C b t x it
  | .plain e, X, fl, sc, S, A, t, x, b, h => by
    unfold ckI at h
    exact ji_plain ((ckE_ok e S A _).1 h false)
  | .items e, X, fl, sc, S, A, t, x, b, h => by
    unfold ckI at h
    simp only [Bool.and_eq_true] at h
    obtain ⟨⟨rfl, h1⟩, h2⟩ := h
    split at h1 <;> (try cases h1)
    split at h2 <;> (try cases h2)
    simp only [Bool.and_eq_true, decide_eq_true_eq] at h2
    obtain ⟨⟨⟨rfl, h3⟩, h4⟩, h5⟩ := h2
    exact ji_items ((ckE_ok e S A _).1 h5 false) (base_of _ h3) h4
  | .enum e, X, fl, sc, S, A, t, x, b, h => by
    unfold ckI at h
    simp only [Bool.and_eq_true] at h
    obtain ⟨⟨rfl, h1⟩, h2⟩ := h
    split at h1 <;> (try cases h1)
    split at h2 <;> (try cases h2)
    simp only [Bool.and_eq_true, decide_eq_true_eq] at h2
    obtain ⟨⟨⟨rfl, h3⟩, h4⟩, h5⟩ := h2
    exact ji_enum (gl_of S h3) (A.blt _ (by decide)) ((ckE_ok e S A _).1 h5 false) (star_of h4)
  | .zip a c, X, fl, sc, S, A, t, x, b, h => by
    unfold ckI at h
    simp only [Bool.and_eq_true] at h
    obtain ⟨⟨rfl, h1⟩, h2⟩ := h
    split at h1 <;> (try cases h1)
    split at h2 <;> (try cases h2)
    simp only [Bool.and_eq_true, decide_eq_true_eq] at h2
    obtain ⟨⟨⟨⟨⟨rfl, h3⟩, h4⟩, h4'⟩, h5⟩, h6⟩ := h2
    exact ji_zip (gl_of S h3) (A.blt _ (by decide)) ((ckE_ok a S A _).1 h5 false) ((ckE_ok c S A _).1 h6 false) (star_of h4) (star_of h4') (plain_of (by rw [List.all_cons, h4']; rfl))
  | .rng e, X, fl, sc, S, A, t, x, b, h => by
    unfold ckI at h
    split at h <;> (try cases h)
    simp only [Bool.and_eq_true, decide_eq_true_eq] at h
    obtain ⟨⟨⟨rfl, h3⟩, h4⟩, h5⟩ := h
    exact ji_rng (gl_of S h3) (A.blt _ (by decide)) ((ckE_ok e S A _).1 h5 false) (by rw [star_of h4]; rfl)
end
end
end TL
end

section
set_option Elab.async false
set_option linter.all false
set_option maxRecDepth 100000
set_option maxHeartbeats 4000000
/-! The check is sound: statements. -/
namespace TL
open PySem PySem.Spec PyProof.Rows L2
section
variable {tb : Tb} {cl : Nat → Addr} {G : Cfg} {C : Calls} {k : Nat} {X : Cx} {sc : Scope}
/-- a text's statements may end by a return, and no other way -/
abbrev Pa (X : Cx) : Prop := PassesOwn (model X.prog X.w) X.A X.env X.xe
theorem sto_of (S : Sc X tb.N true sc) {n : Str} (h : stoB true sc n = true) : Sto1 X n := S.sto n h
/-- name = [..], the name set within the turn -/
theorem js_setLc (S : Sc X tb.N true sc) (A : Fa X tb cl G C k) (hk : sc.kind = .function) {elt : E} {tg : Tg} {it : I} {ifs : Es} {own : List Nat} {t iter x : Expr} {cs : List Expr} {scope : Scope} {n : Str} {i : Nat} {p pos pos' : Pos}
    (h1 : tg.slots = own) (h2 : blkC tb.N sc scope (ownOf t tg) = true) (h3 : (ownOf t tg).map (·.2) = own) (h4 : tgB tb.N false (relS scope sc) t tg = true) (h5 : okSet iter = true)
    (hI : ckI tb sc t iter tg.isTup it = true) (hT : ckTs tb (relS scope sc) cs ifs = true) (hE : (ckE tb (relS scope sc) x elt).1 = true) (hn : tb.N[i]? = some n) (hl : sc.names.lookup n = some .local)
    (hsw : swapsWith (.ListComp x [⟨t, iter, cs, 0⟩] scope pos) (some (.Name n p)) pos'.line X.env = pure true) : JS X cl G C (.Assign [.Name n p] (.ListComp x [⟨t, iter, cs, 0⟩] scope pos) pos') (.asg i (.lc elt tg it ifs own)) := by
  have g := ps_setLc (X := X) (i := i) (pos := pos) (spos := pos') (py := p) (wi := sI X cl G C tg.isTup it) (g := gT X.K tg) (tt := sTs X cl G C ifs) (te := sE X cl G C false elt) (own := ownOf t tg) (scope := scope) (elt := x) (ifs := cs) A.calm (by rw [S.eN]; exact S.nd) (by rw [S.eN]; exact hn) (by rw [S.eS]; exact hl) hsw (ckI_ok it S A _ _ _ hI) (by rw [S.eN, S.eS]; exact blkOk_by h2) (fun s H D cs fp => tg_ok (S.blk s H scope D cs fp) A.calm h4) (fun s H D cs' fp => ckTs_ok ifs (S.blk s H scope D cs' fp) (A.blk s H scope _ fp) _ hT) (fun s H D cs' fp => (ckE_ok elt (S.blk s H scope D cs' fp) (A.blk s H scope _ fp) _).1 hE false) (fset_of h5)
  rw [h3] at g
  refine PS.imp g fun D σ H q => ?_
  exact lc_go (by rw [h1]; exact fun i hi => hi) σ H _ (asg_go trivial D σ H q)
theorem asg_ok (S : Sc X tb.N true sc) (A : Fa X tb cl G C k) (hk : sc.kind = .function) {i : Nat} {e : E} {n : Str} {p pos : Pos} {y : Expr} (h1 : tb.N[i]? = some n) (h2 : stoB true sc n = true) (h4 : (okComp y || (match y with | .ListComp .. => true | _ => false)) = true) (h3 : (ckE tb sc y e).1 = true) : JS X cl G C (.Assign [.Name n p] y pos) (.asg i e) := by
  have je := (ckE_ok e S A y).1 h3 false
  have hi : X.N[i]? = some n := by rw [S.eN]; exact h1
  have nd : X.N.Nodup := by rw [S.eN]; exact S.nd
  cases hc : okComp y with
  | true => exact js_asg nd hi (S.sto _ h2) je (sw_of hc)
  | false =>
    rw [hc] at h4
    cases y with
    | ListComp elt gs scope p' =>
      cases q : (X.env.blockKind == .function && X.env.kindOf n == some .local && p.line == p'.line && !(scope.names.any fun (m, k) => m == n && (k == .local || k == .cell))) with
      | false => exact js_asg nd hi (S.sto _ h2) je (sw_name q)
      | true =>
        have hsw : swapsWith (.ListComp elt gs scope p') (some (.Name n p)) pos.line X.env = pure true := by
          show pure (X.env.blockKind == .function && X.env.kindOf n == some .local && p.line == p'.line && !(scope.names.any fun (m, k) => m == n && (k == .local || k == .cell))) = pure true
          rw [q]
        simp only [Bool.and_eq_true] at q
        have hl : sc.names.lookup n = some .local := by
          rw [← S.eS]
          exact eq_of_beq q.1.1.2
        cases e <;> try (unfold ckE at h3; exact Bool.noConfusion h3)
        case lc el tg it ifs own =>
          unfold ckE at h3
          have h3 : (match (Expr.ListComp elt gs scope p') with
            | .ListComp e [⟨t, iter, cs, 0⟩] scope _ => decide (tg.slots = own) && blkC tb.N sc scope (ownOf t tg) && decide ((ownOf t tg).map (·.2) = own) && tgB tb.N false (relS scope sc) t tg && okSet iter &&
              ckI tb sc t iter tg.isTup it && ckTs tb (relS scope sc) cs ifs && (ckE tb (relS scope sc) e el).1
            | _ => false) = true := h3
          split at h3
          · rename_i e1
            cases e1
            simp only [Bool.and_eq_true, decide_eq_true_eq] at h3
            obtain ⟨⟨⟨⟨⟨⟨⟨k1, k2⟩, k3⟩, k4⟩, k5⟩, k6⟩, k7⟩, k8⟩ := h3
            exact js_setLc S A hk k1 k2 k3 k4 k5 k6 k7 k8 h1 hl hsw
          · cases h3
    | _ => cases h4
mutual
theorem ckS_ok (S : Sc X tb.N true sc) (A : Fa X tb cl G C k) (hk : sc.kind = .function) (P : Pa X) : ∀ (s : TL.S) (x : Stmt), ckS tb sc x s = true → JS X cl G C x s
  | .asg i e, x, h => by
    unfold ckS at h
    split at h <;> (try cases h)
    simp only [Bool.and_eq_true, decide_eq_true_eq] at h
    exact asg_ok S A hk h.1.1.1 h.1.1.2 h.2 h.1.2
  | .asgT is e, x, h => by
    unfold ckS at h
    split at h <;> (try cases h)
    simp only [Bool.and_eq_true, decide_eq_true_eq] at h
    obtain ⟨q1, q2, q3⟩ := tgGo S (show tgB.go tb.N true sc _ is = true from h.1.1)
    exact js_asgT A.calm (by rw [S.eN]; exact S.nd) q1 q2 q3 ((ckE_ok e S A _).1 h.2 false) (sw_not trivial) (st_tup h.1.2)
  | .setI i k' e, x, h => by
    unfold ckS at h
    split at h <;> (try cases h)
    simp only [Bool.and_eq_true, decide_eq_true_eq] at h
    obtain ⟨⟨⟨⟨⟨h1, h2⟩, h3⟩, h4⟩, h5⟩, h6⟩ := h
    exact js_setI (xp := .Constant .none 0 ⟨0, 0, 0, 0⟩) A.u1 (by rw [S.eN]; exact h1) (vis_of S h2) (pn_of h3).1 (pn_of h3).2 ((ckE_ok e S A _).1 h6 false) ((ckE_ok k' S A _).1 h5 false) (sw_not trivial) st_sub (assign_sub h4)
  | .fldS _ _, x, h => by unfold ckS at h; cases h
  | .app i e, x, h => by
    unfold ckS at h
    split at h <;> (try cases h)
    simp only [Bool.and_eq_true, decide_eq_true_eq] at h
    obtain ⟨⟨⟨⟨⟨⟨rfl, h1⟩, h2⟩, h3⟩, h4⟩, h5⟩, h6⟩ := h
    exact js_app (by rw [S.eN]; exact h1) (vis_of S h2) (pn_of h3).1 (pn_of h3).2 ((ckE_ok e S A _).1 h6 false) (star_of h5) h4
  | .ext i e, x, h => by
    unfold ckS at h
    split at h <;> (try cases h)
    simp only [Bool.and_eq_true, decide_eq_true_eq] at h
    obtain ⟨⟨⟨⟨⟨⟨rfl, h1⟩, h2⟩, h3⟩, h4⟩, h5⟩, h6⟩ := h
    exact js_ext (by rw [S.eN]; exact h1) (vis_of S h2) (pn_of h3).1 (pn_of h3).2 ((ckE_ok e S A _).1 h6 false) (star_of h5) h4
  | .ins i k' e, x, h => by
    unfold ckS at h
    split at h <;> (try cases h)
    simp only [Bool.and_eq_true, decide_eq_true_eq] at h
    obtain ⟨⟨⟨⟨⟨⟨⟨⟨rfl, h1⟩, h2⟩, h3⟩, h4⟩, h5⟩, h5'⟩, h6⟩, h7⟩ := h
    exact js_ins (by rw [S.eN]; exact h1) (vis_of S h2) (pn_of h3).1 (pn_of h3).2 ((ckE_ok k' S A _).1 h6 false) ((ckE_ok e S A _).1 h7 false) (star_of h5) (star_of h5') (plain_of (by rw [List.all_cons, h5']; rfl)) h4
  | .ret e, x, h => by
    unfold ckS at h
    split at h <;> (try cases h)
    exact js_ret ((ckE_ok e S A _).1 h false)
  | .retO i, x, h => by
    unfold ckS at h
    split at h <;> (try cases h)
    simp only [Bool.and_eq_true, decide_eq_true_eq] at h
    exact js_retO (by rw [S.eN]; exact h.1.1) (vis_of S h.1.2) (pn_of h.2).1 (pn_of h.2).2
  | .pass, x, h => by
    unfold ckS at h
    split at h <;> (try cases h)
    exact js_pass
  | .ifs c a b, x, h => by
    unfold ckS at h
    split at h <;> (try cases h)
    simp only [Bool.and_eq_true] at h
    exact js_if ((ckE_ok c S A _).2 h.1.1).1 (ckSs_ok S A hk P a _ h.1.2) (ckSs_ok S A hk P b _ h.2)
  | .whl n c b, x, h => by
    unfold ckS at h
    split at h <;> (try cases h)
    simp only [Bool.and_eq_true] at h
    exact js_whl P ((ckE_ok c S A _).2 h.1).1 (ckSs_ok S A hk P b _ h.2)
  | .fors tg it b, x, h => by
    unfold ckS at h
    split at h <;> (try cases h)
    simp only [Bool.and_eq_true] at h
    exact js_for P A.calm (ckI_ok it S A _ _ _ h.1.1.2) (tg_ok S A.calm h.1.1.1) (ckSs_ok S A hk P b _ h.2) (fset_of h.1.2)
  | .frz _, x, h => by unfold ckS at h; cases h
  | .shr _, x, h => by unfold ckS at h; cases h
theorem ckSs_ok (S : Sc X tb.N true sc) (A : Fa X tb cl G C k) (hk : sc.kind = .function) (P : Pa X) : ∀ (ss : Ss) (xs : List Stmt), ckSs tb sc xs ss = true → JSs X cl G C xs ss
  | .nil, xs, h => by
    unfold ckSs at h
    rw [List.isEmpty_iff.mp h]
    exact jss_nil
  | .cons s ss, xs, h => by
    unfold ckSs at h
    split at h
    · exact jss_frz (ckSs_ok S A hk P ss xs h)
    · exact jss_shr (ckSs_ok S A hk P ss xs h)
    · split at h
      · simp only [Bool.and_eq_true] at h
        exact jss_cons (ckS_ok S A hk P s _ h.1) (ckSs_ok S A hk P ss _ h.2)
      · cases h
end
theorem ckNs_ok (S : Sc X tb.N true sc) (A : Fa X tb cl G C k) : ∀ (ss : Ss) (xs : List Stmt), ckNs tb sc xs ss = true → JNs X cl G C xs ss
  | .nil, xs, h => by
    unfold ckNs at h
    rw [List.isEmpty_iff.mp h]
    exact jns_nil
  | .cons s ss, xs, h => by
    unfold ckNs at h
    split at h
    · cases ‹Ss.cons _ _ = .nil›
    · rename_i e1
      cases e1
      split at h <;> (try cases h)
      simp only [Bool.and_eq_true, decide_eq_true_eq] at h
      obtain ⟨⟨⟨⟨⟨⟨⟨rfl, h1⟩, h2⟩, h3⟩, h4⟩, h5⟩, h6⟩, h7⟩ := h
      exact jns_fld (by rw [S.eN]; exact h2) (vis_of S h3) (pn_of h4).1 (pn_of h4).2 (A.fl _ h1) ((ckE_ok _ S A _).1 h6 false) (sw_of h5) (ckNs_ok S A _ _ h7)
    · rename_i e1
      cases e1
      split at h <;> (try cases h)
      exact jns_pass (ckNs_ok S A _ _ h)
    · cases h
end
end TL
end

section
set_option Elab.async false
set_option linter.all false
set_option maxRecDepth 100000
set_option maxHeartbeats 4000000
/-! Binding plain parameters. -/
namespace TL
open PySem PySem.Spec PyProof.Rows L2

theorem fm_congr {α β : Type} {f g : α → Option β} : ∀ {l : List α}, (∀ x ∈ l, f x = g x) → l.filterMap f = l.filterMap g
  | [], _ => rfl
  | a :: l, h => by
    rw [List.filterMap_cons, List.filterMap_cons, h a List.mem_cons_self, fm_congr fun x hx => h x (List.mem_cons_of_mem _ hx)]
theorem zip_get : ∀ {ps : List Str} {us : List Value}, us.length = ps.length → ∀ n ∈ ps, ∃ v, (ps.zip us).lookup n = some v
  | p :: ps, u :: us, h, n, hn => by
    rw [List.zip_cons_cons, List.lookup_cons]
    cases e : n == p with
    | true => exact ⟨u, rfl⟩
    | false =>
      rcases List.mem_cons.mp hn with rfl | hn
      · simp at e
      · exact zip_get (Nat.succ.inj h) n hn
theorem zip_map : ∀ {ps : List Str} {us : List Value}, us.length = ps.length → ps.Nodup → (ps.filterMap fun n => ((ps.zip us).lookup n).map fun v => (n, v)) = ps.zip us
  | [], [], _, _ => rfl
  | p :: ps, u :: us, h, nd => by
    rw [List.nodup_cons] at nd
    rw [List.zip_cons_cons, List.filterMap_cons, List.lookup_cons]
    have : (p == p) = true := by simp
    rw [this]
    show (p, u) :: _ = _
    congr 1
    have : ∀ n ∈ ps, (((p, u) :: ps.zip us).lookup n).map (fun v => (n, v)) = ((ps.zip us).lookup n).map fun v => (n, v) := fun n hn => by
      have : (n == p) = false := beq_eq_false_iff_ne.mpr fun e => nd.1 (e ▸ hn)
      rw [List.lookup_cons, this]
    have q := zip_map (us := us) (Nat.succ.inj h) nd.2
    exact (fm_congr this).trans q
/-- a text's parameters are names, and no more -/
def argsB (x : Arguments) (ps : List Str) : Bool := x.posonlyargs.isEmpty && x.vararg.isNone && x.kwonlyargs.isEmpty && x.kw_defaults.isEmpty && x.kwarg.isNone && x.defaults.isEmpty && decide (x.args.map (·.arg) = ps)
theorem bind_plain {x qual : Str} {params : Arguments} {body : List Stmt} {scope : Scope} {kV doc pm cdv ct : Value} {an : Option Addr} {ps : List Str} (h : argsB params ps = true) (nd : ps.Nodup) {us : List Value} (hl : us.length = ps.length) :
    bindArgs (PySem.W.fnOf x qual params body scope .none kV doc pm an cdv ct) ⟨us, []⟩ = pure (ps.zip us) := by
  obtain ⟨po, as, va, ko, kd, kw, df⟩ := params
  unfold argsB at h
  simp only [Bool.and_eq_true, List.isEmpty_iff, Option.isNone_iff_eq_none, decide_eq_true_eq] at h
  obtain ⟨⟨⟨⟨⟨⟨rfl, rfl⟩, rfl⟩, rfl⟩, rfl⟩, rfl⟩, rfl⟩ := h
  have e1 : ∀ n ∈ as.map (·.arg), (((as.map (·.arg)).zip us).lookup n).isNone = false := fun n hn => by
    obtain ⟨v, e⟩ := zip_get hl n hn
    rw [e]; rfl
  have e2 : ((as.map (·.arg)).filter fun n => (((as.map (·.arg)).zip us).lookup n).isNone) = [] := by
    rw [List.filter_eq_nil_iff]
    intro n hn
    rw [e1 n hn]
    exact Bool.false_ne_true
  have e3 := zip_map hl nd
  have e4 : seqItems? (.none : Value) = pure none := rfl
  have e5 : ¬ us.length > (as.map (·.arg)).length := by omega
  rw [List.length_map] at e5
  unfold bindArgs
  simp [PySem.W.fnOf, e4, e2, e3, e5]
  rw [if_neg]
  · rw [← List.filterMap_map]
    exact congrArg pure e3
  · have e7 : (List.drop ((#[] : Array Value).size - (List.map (fun x : Arg => x.arg) [] ++ List.map (fun x => x.arg) as).length) ([] : List Value)).length = 0 := by simp
    rw [e7, Nat.sub_zero, List.take_length]
    show ¬ (!(List.filter _ (List.map (fun x => x.arg) as)).isEmpty) = true
    rw [e2]
    exact Bool.false_ne_true
end TL
end

section
set_option Elab.async false
set_option linter.all false
set_option maxRecDepth 100000
set_option maxHeartbeats 4000000
/-! A def keeps the promise of its term. -/
namespace TL
open PySem PySem.Spec PyProof.Rows L2

theorem start_get {N : List Str} {vs : List V} {i : Nat} {v : Option V} (h : (L2.start N vs)[i]? = some v) : (∃ u, vs[i]? = some u ∧ v = some u) ∨ v = none := by
  unfold L2.start at h
  by_cases hi : i < vs.length
  · rw [List.getElem?_append_left (by rw [List.length_map]; exact hi), List.getElem?_map] at h
    obtain ⟨u, e, rfl⟩ := Option.map_eq_some_iff.mp h
    exact .inl ⟨u, e, rfl⟩
  · rw [List.getElem?_append_right (by rw [List.length_map]; omega)] at h
    exact .inr (List.eq_of_mem_replicate (List.mem_of_getElem? h))
/-- frozen slots, then empty ones -/
theorem fros_get {p : Pk} {φ : List Addr} {F H : Hp} {ts : List T} {us : List V} (r : IsL p φ F ts us) {n m : Nat} {i : Nat} {s : Slot} {v : Option V}
    (h1 : (ts.map Slot.fro ++ List.replicate n Slot.non)[i]? = some s) (h2 : (us.map some ++ List.replicate m none)[i]? = some v) : SlotOk p φ F H s v ∧ ∀ t, s ≠ .own t := by
  have rl := r.length
  by_cases hi : i < ts.length
  · rw [List.getElem?_append_left (by rw [List.length_map]; exact hi), List.getElem?_map] at h1
    rw [List.getElem?_append_left (by rw [List.length_map]; omega), List.getElem?_map] at h2
    obtain ⟨t, e1, rfl⟩ := Option.map_eq_some_iff.mp h1
    obtain ⟨u, e2, rfl⟩ := Option.map_eq_some_iff.mp h2
    obtain ⟨x, e3, q⟩ := r.get e1
    rw [e2] at e3
    cases e3
    exact ⟨⟨u, rfl, q⟩, fun t e => by cases e⟩
  · rw [List.getElem?_append_right (by rw [List.length_map]; omega)] at h1
    have e := List.eq_of_mem_replicate (List.mem_of_getElem? h1)
    subst e
    exact ⟨trivial, fun t e => by cases e⟩
theorem rel_start {p : Pk} {φ : List Addr} {F H : Hp} {st : Sto} {ts : List T} {us : List V} {N : List Str} {d : Def} (hs : Sub F H) (ho : StoOk p φ F H st) (r : IsL p φ F ts us) (hi : d.init = false) (hl : ts.length = d.np) (hn : N.length = d.ns) : SI p φ F H (d.start ts) φ F st (L2.start N us) H := by
  have e : d.start ts = ts.map .fro ++ List.replicate (d.ns - d.np) .non := by unfold Def.start; rw [hi]
  have rl := r.length
  rw [e]
  have sl : ∀ (i : Nat) (s : Slot) (v : Option V), (ts.map Slot.fro ++ List.replicate (d.ns - d.np) Slot.non)[i]? = some s → (L2.start N us)[i]? = some v → SlotOk p φ F H s v ∧ ∀ t, s ≠ .own t := fun i s v h1 h2 => fros_get r h1 h2
  have no : ∀ {i : Nat} {t : T}, ¬ (ts.map Slot.fro ++ List.replicate (d.ns - d.np) Slot.non)[i]? = some (.own t) := fun {i t} h => by
    have hm := List.mem_of_getElem? h
    rcases List.mem_append.mp hm with hm | hm
    · obtain ⟨_, _, e⟩ := List.mem_map.mp hm; cases e
    · cases List.eq_of_mem_replicate hm
  refine ⟨⟨hs, ho, ?_, fun i s v h1 h2 => (sl i s v h1 h2).1, fun i j t u a _ h1 => (no h1).elim⟩, Nx.refl hs ho, fun i t a h1 => (no h1).elim⟩
  unfold L2.start
  simp only [List.length_append, List.length_map, List.length_replicate]
  omega

/-- a def's place in the program -/
structure Src where
  x : Str
  qual : Str
  ar : Arguments
  bd : List Stmt
  sc : Scope
  N : List Str
/-- the tables: as they stand; for a maker's body, where nothing is called -/
def Src.tb (t : Tb) (s : Src) : Tb := { t with N := s.N }
def Src.tb0 (t : Tb) (s : Src) : Tb := { N := s.N, gn := fun _ => none, cn := fun _ => none, cs := t.cs, fl := t.fl, me := false }
def okSrc (s : Src) (np : Nat) : Bool := C8.scC s.N (s.N.take np) s.sc && argsB s.ar (s.N.take np) && Nat.ble np s.N.length
def okDef (t : Tb) (s : Src) (d : Def) : Bool :=
  okSrc s d.np && decide (s.N.length = d.ns) && (if d.init then ckNs (s.tb0 t) s.sc s.bd d.body && Nat.blt 0 d.np else ckSs (s.tb t) s.sc s.bd d.body)

section
variable {P : Program} {w : World} {K : PySem.W.Frag} {mg : Str → Option Value} {base : Heap} {cl : Nat → Addr} {G : Cfg} {tb : Nat → Option Def} {t : Tb} {s : Src} {d : Def} {f k : Nat} {g : Addr} {fd : FuncData}
/-- what is known of the module, beside its defs -/
structure Mo (K : PySem.W.Frag) (mg : Str → Option Value) (cl : Nat → Addr) (t : Tb) : Prop where
  blt : ∀ n ∈ blts, mg n = none
  cs : ∀ n u, t.cs.lookup n = some u → ∃ v w, mg n = some w ∧ RelV v w ∧ ∀ φ F, Is ⟨K, cl⟩ φ F u v
  fl : ∀ x, t.fl.contains x = true → ∀ c, Cls K (cl c) ∧ NoAttr K (cl c) x
theorem sto_all {N : List Str} {sc : Scope} {X : Cx} (hf : ∀ n, X.fn n = true) (hs : X.env.scope = sc) (hN : X.N = N) (nd : N.Nodup) : Sc X N true sc := by
  refine ⟨hN, nd, hs, fun n h => ⟨?_, .inl (hf n)⟩⟩
  unfold stoB at h
  rw [hs]
  split at h <;> first | exact .inl (by assumption) | exact .inr (by assumption) | cases h
theorem den_run {args : List T} {st st' : Sto} {r : R} (e : den G tb k f args st = some (r, st')) : ∃ k' d, k = k' + 1 ∧ tb f = some d ∧ d.run G (den G tb k') args st = some (r, st') := by
  cases k with
  | zero => cases e
  | succ k' =>
    have e : (match tb f with
      | some d => d.run G (den G tb k') args
      | none => M.fail) st = some (r, st') := e
    cases q : tb f with
    | none => rw [q] at e; cases e
    | some d => rw [q] at e; exact ⟨k', d, rfl, rfl, e⟩
theorem run_body {C : Calls} {args : List T} {st st' : Sto} {r : R} (e : d.run G C args st = some (r, st')) : args.length = d.np ∧ ∃ fl, denSs G C d.body (d.start args) st = some (fl, st') ∧ d.fin fl = some r := by
  unfold Def.run at e
  by_cases h : args.length = d.np
  · rw [if_pos h] at e
    obtain ⟨fl, st1, h1, h2⟩ := M.bind_eq e
    obtain ⟨h3, rfl⟩ := M.of_eq h2
    exact ⟨h, fl, h1, h3⟩
  · rw [if_neg h] at e; cases e
/-- nothing comes of it: any promise -/
theorem fn_vac {k : Nat} {ps : List Str} {sp : Sp} (h : ∀ vs H Q E, ¬ sp vs H Q E) : FnOk P w K mg base C8.CX0 k g fd ps sp :=
  ⟨fun vs H Q E q => (h _ _ _ _ q).elim, fun A outer s H args us vs Q E _ _ _ _ q => (h _ _ _ _ q).elim⟩
/-- a def that gives a value -/
theorem fn_def (F : FunD K s.x s.qual s.ar s.bd s.sc [] [] g fd) (e : tb f = some d) (hi : d.init = false) (ok : okDef t s d = true) {j : Nat} 
    (A : ∀ (X : Cx), X.prog = P → X.w = w → X.K = K → X.mg = mg → X.base = base → X.calm = true → Room j X.A → Fa X (s.tb t) cl G (den G tb k) j) :
    FnOk P w K mg base C8.CX0 (j + 1) g fd (s.N.take d.np) (spF ⟨K, cl⟩ (den G tb (k + 1)) f) := by
  unfold okDef okSrc at ok
  simp only [Bool.and_eq_true, decide_eq_true_eq, hi] at ok
  obtain ⟨⟨⟨⟨o1, o2⟩, o3⟩, o4⟩, o5⟩ := ok
  have o3 : d.np ≤ s.N.length := Nat.le_of_ble_eq_true o3
  have S := C8.fnScope_by o1
  have pl : (s.N.take d.np).length = d.np := by rw [List.length_take]; omega
  refine F.ok S (fun vs H Q E ⟨φ, F', st, ts, r, st', h1, h2, h3, h4, h5⟩ => ?_) fun cdv A0 outer sh H vs Q E hr ⟨φ, F', st, ts, r, st', h1, h2, h3, h4, h5⟩ => ?_
  · obtain ⟨k', d', e1, e2, e3⟩ := den_run h4
    rw [e] at e2
    cases e2
    rw [pl, ← (run_body e3).1, h3.length]
  · obtain ⟨k', d', e1, e2, e3⟩ := den_run h4
    cases Nat.succ.inj e1
    rw [e] at e2
    cases e2
    obtain ⟨e4, fl, e5, e6⟩ := run_body e3
    refine ⟨_, (ckSs_ok (X := (cxOf C8.CX0 P w K mg base s.N s.qual s.sc g cdv A0 outer sh H E).nox) (sto_all (fun _ => rfl) rfl rfl S.nd) (A _ rfl rfl rfl rfl rfl rfl hr) S.kind PassesOwn.never d.body s.bd o5).nox, ?_⟩
    refine ⟨φ, F', H, d.start ts, φ, F', st, fl, st', h1, rel_start h1 h2 h3 hi e4 o4, e5, ?_⟩
    unfold Def.fin at e6
    cases fl with
    | rt r' =>
      rw [hi] at e6
      cases e6
      exact fun v φ2 F2 H2 n g => h5 v φ2 F2 H2 n g
    | nx ρ' =>
      rw [hi] at e6
      cases e6
      exact fun σ' φ2 F2 H2 q _ _ => h5 .non φ2 F2 H2 q.nx (show V.non = V.non from rfl)
end
end TL
end

section
set_option Elab.async false
set_option linter.all false
set_option maxRecDepth 100000
set_option maxHeartbeats 4000000
/-! A maker keeps its promise; all defs of a program, by the depth of calls. -/
namespace TL
open PySem PySem.Spec PyProof.Rows L2

theorem rel_init {p : Pk} {φ : List Addr} {F H0 : Hp} {st : Sto} {ts : List T} {us : List V} {N : List Str} {d : Def} {x dx : Addr} {c : Nat} (hs : Sub F H0) (ho : StoOk p φ F H0 st) (r : IsL p φ F ts us) (hx : H0 x = none) (hdx : H0 dx = none) (hne : dx ≠ x)
    (hi : d.init = true) (hl : ts.length + 1 = d.np) (hn : N.length = d.ns) : SI p φ F H0 (d.start (.obj c [] [] :: ts)) φ F st (L2.start N (.ref x :: us)) (upd (upd H0 dx (.own x)) x (.ins (p.cl c) dx [])) := by
  have e : d.start (.obj c [] [] :: ts) = Slot.own (.obj c [] []) :: (ts.map .fro ++ List.replicate (d.ns - d.np) .non) := by unfold Def.start; rw [hi]; rfl
  have rl := r.length
  have es : L2.start N (.ref x :: us) = some (.ref x) :: (us.map some ++ List.replicate (N.length - (us.length + 1)) none) := rfl
  have fx : F x = none := by
    cases q : F x with
    | none => rfl
    | some u => have := hs x u q; rw [hx] at this; cases this
  have px : x ∉ φ := fun hm => by
    obtain ⟨xs, q⟩ := ho.at_ hm
    rw [hx] at q; cases q
  have pdx : dx ∉ φ := fun hm => by
    obtain ⟨xs, q⟩ := ho.at_ hm
    rw [hdx] at q; cases q
  have keep : ∀ {a o}, H0 a = some o → upd (upd H0 dx (.own x)) x (.ins (p.cl c) dx []) a = some o := fun {a o} q => by
    rw [upd_ne (fun z => by rw [z, hx] at q; cases q), upd_ne (fun z => by rw [z, hdx] at q; cases q)]
    exact q
  have n : Nx p φ F H0 φ F (upd (upd H0 dx (.own x)) x (.ins (p.cl c) dx [])) st := ⟨Le.refl _, fun a o q _ _ => keep q, fun a h k => absurd k h, Pre.refl _, fun a h k => absurd h k, fun a o q => keep (hs a o q), ⟨ho.1, ho.2.1, ho.2.2.1, fun m a us e1 e2 => by
    obtain ⟨xs, q, r⟩ := ho.2.2.2 m a us e1 e2
    exact ⟨xs, keep q, r⟩⟩⟩
  have own : Own p φ F (upd (upd H0 dx (.own x)) x (.ins (p.cl c) dx [])) (.obj c [] []) x := ⟨fx, px, dx, [], upd_same, rfl, .nil⟩
  rw [e, es]
  have sl : ∀ (i : Nat) (s : Slot) (v : Option V), (ts.map Slot.fro ++ List.replicate (d.ns - d.np) Slot.non)[i]? = some s → (us.map some ++ List.replicate (N.length - (us.length + 1)) none)[i]? = some v → SlotOk p φ F (upd (upd H0 dx (.own x)) x (.ins (p.cl c) dx [])) s v ∧ ∀ t, s ≠ .own t := fun i s v h1 h2 => fros_get r h1 h2
  have no : ∀ {i : Nat} {t : T}, ¬ (ts.map Slot.fro ++ List.replicate (d.ns - d.np) Slot.non)[i]? = some (.own t) := fun {i t} h => by
    have hm := List.mem_of_getElem? h
    rcases List.mem_append.mp hm with hm | hm
    · obtain ⟨_, _, e⟩ := List.mem_map.mp hm; cases e
    · cases List.eq_of_mem_replicate hm
  refine ⟨⟨n.sub, n.sto, ?_, fun i s v h1 h2 => ?_, fun i j t u a hij h1 h2 h3 h4 => ?_⟩, n, fun i t a h1 h2 => ?_⟩
  · simp only [List.length_cons, List.length_append, List.length_map, List.length_replicate]
    omega
  · cases i with
    | zero =>
      cases h1
      cases h2
      exact ⟨x, rfl, own⟩
    | succ i => exact (sl i s v (by simpa using h1) (by simpa using h2)).1
  · cases i with
    | zero =>
      cases j with
      | zero => exact hij rfl
      | succ j => exact no (i := j) (by simpa using h2)
    | succ i => exact no (i := i) (by simpa using h1)
  · cases i with
    | zero => cases h2; exact hx
    | succ i => exact (no (i := i) (by simpa using h1)).elim
section
variable {P : Program} {w : World} {K : PySem.W.Frag} {mg : Str → Option Value} {base : Heap} {cl : Nat → Addr} {G : Cfg} {tb : Nat → Option Def} {t : Tb} {s : Src} {d : Def} {f k : Nat} {g : Addr} {fd : FuncData}
theorem fa_none {C : Calls} {X : Cx} (M : Mo K mg cl t) (hK : X.K = K) (hm : X.mg = mg) (hc : X.calm = true) {j : Nat} (hr : Room j X.A) : Fa X (s.tb0 t) cl G C j := by
  subst hK hm
  exact ⟨hc, hr, M.blt, fun f n e => (by cases e), M.cs, M.fl, fun z => (by cases z), fun c n e => (by cases e)⟩
theorem fn_init (F : FunD K s.x s.qual s.ar s.bd s.sc [] [] g fd) (e : tb f = some d) (hi : d.init = true) (ok : okDef t s d = true) (M : Mo K mg cl t) :
    FnOk P w K mg base C8.CX0 1 g fd (s.N.take d.np) (spI ⟨K, cl⟩ (den G tb k) f) := by
  unfold okDef okSrc at ok
  simp only [Bool.and_eq_true, decide_eq_true_eq, hi, if_true] at ok
  obtain ⟨⟨⟨⟨o1, o2⟩, o3⟩, o4⟩, o5, o6⟩ := ok
  have o3 : d.np ≤ s.N.length := Nat.le_of_ble_eq_true o3
  have S := C8.fnScope_by o1
  have pl : (s.N.take d.np).length = d.np := by rw [List.length_take]; omega
  refine F.ok (k := 0) S (fun vs H Q E ⟨φ, F', H0, st, x, dx, ts, us, c, r, st', h0, hx, hdx, hne, h6, h1, h2, h3, h4, h5⟩ => ?_) fun cdv A0 outer sh H vs Q E hr ⟨φ, F', H0, st, x, dx, ts, us, c, r, st', h0, hx, hdx, hne, h6, h1, h2, h3, h4, h5⟩ => ?_
  · obtain ⟨k', d', e1, e2, e3⟩ := den_run h4
    rw [e] at e2
    cases e2
    have := (run_body e3).1
    rw [List.length_cons] at this
    rw [pl, h6, List.length_cons, ← h3.length, this]
  · obtain ⟨k', d', e1, e2, e3⟩ := den_run h4
    rw [e] at e2
    cases e2
    obtain ⟨e4, fl, e5, e6⟩ := run_body e3
    rw [List.length_cons] at e4
    have A : Fa (cxOf C8.CX0 P w K mg base s.N s.qual s.sc g cdv A0 outer sh H E).nox (s.tb0 t) cl G (den G tb k') 0 := fa_none M rfl rfl rfl hr
    refine ⟨_, (ckNs_ok (sto_all (fun _ => rfl) rfl rfl S.nd) A d.body s.bd o5).nox, ?_⟩
    unfold Def.fin at e6
    cases fl with
    | rt r' => rw [hi] at e6; cases e6
    | nx ρ' =>
      rw [hi] at e6
      have e6 : (match (ρ'[0]? : Option Slot) with
        | some (.own t) => some (R.own t)
        | _ => none) = some r := e6
      split at e6 <;> (try cases e6)
      rename_i tt e7
      subst h0 h6
      refine ⟨φ, F', H0, _, φ, F', st, ρ', st', h1, rel_init h1 h2 h3 hx hdx hne hi e4 o4, e5, fun φ2 F2 H2 q => ?_⟩
      obtain ⟨a, q1, q2, q3⟩ := q.at_ e7
      have q1 : some (some (V.ref x)) = some (some (V.ref a)) := q1
      cases q1
      exact h5 φ2 F2 H2 q.nx ⟨x, rfl, q2, q3⟩

/-! ### all of them -/
/-- a def's place, whatever its term -/
structure At (K : PySem.W.Frag) (t : Tb) (tb : Nat → Option Def) (sr : Nat → Src) (ad : Nat → Addr) (f : Nat) : Prop where
  fn : ∃ fd, FunD K (sr f).x (sr f).qual (sr f).ar (sr f).bd (sr f).sc [] [] (ad f) fd
  ok : match tb f with
    | some d => okDef t (sr f) d = true
    | none => okSrc (sr f) (sr f).ar.args.length = true
/-- the module's facts about its defs -/
structure Pro (K : PySem.W.Frag) (mg : Str → Option Value) (cl : Nat → Addr) (G : Cfg) (t : Tb) (tb : Nat → Option Def) (sr : Nat → Src) (ad : Nat → Addr) : Prop where
  mo : Mo K mg cl t
  gl : ∀ f n, t.gn f = some n → At K t tb sr ad f ∧ (∀ d, tb f = some d → d.init = false) ∧ mg n = some (.ref (ad f))
  me : ∀ c m f, G.meth c m = some f → At K t tb sr ad f ∧ (∀ d, tb f = some d → d.init = false) ∧ Cls K (cl c) ∧ Meth K (cl c) m (ad f)
  mak : ∀ c n, t.cn c = some n → ∃ f, G.init c = some f ∧ At K t tb sr ad f ∧ (∀ d, tb f = some d → d.init = true) ∧ Mk K (cl c) (ad f) ∧ mg n = some (.ref (cl c))
variable {sr : Nat → Src} {ad : Nat → Addr}
theorem okSrc_of (h : okDef t s d = true) : okSrc s d.np = true := by
  unfold okDef at h
  simp only [Bool.and_eq_true] at h
  exact h.1.1
theorem At.np (a : At K t tb sr ad f) : ∃ n, okSrc (sr f) n = true ∧ ∀ d, tb f = some d → n = d.np := by
  have h := a.ok
  cases e : tb f with
  | some d => rw [e] at h; exact ⟨d.np, okSrc_of h, fun d' q => by cases q; rfl⟩
  | none => rw [e] at h; exact ⟨_, h, fun d' q => by cases q⟩
theorem At.binds {n : Nat} (h : okSrc s n = true) (F : FunD K s.x s.qual s.ar s.bd s.sc [] [] g fd) : Binds K fd (s.N.take n) [] := by
  unfold okSrc at h
  simp only [Bool.and_eq_true] at h
  have S := C8.fnScope_by h.1.1
  exact F.bindsN fun kV doc pm an cdv ct us hl => bind_plain h.1.2 (S.nd.sublist (List.take_sublist _ _)) hl
/-- level: so many calls and two more -/
theorem all_ok (p : Pro K mg cl G t tb sr ad) : ∀ k f, At K t tb sr ad f → (∀ d, tb f = some d → d.init = false) → ∃ fd ps, FnOk P w K mg base C8.CX0 (k + 2) (ad f) fd ps (spF ⟨K, cl⟩ (den G tb k) f) ∧ PySem.W.keepIn K (.ref (ad f)) = true ∧ Binds K fd ps [] := by
  intro k
  induction k with
  | zero =>
    intro f a hi
    obtain ⟨fd, F⟩ := a.fn
    obtain ⟨n, h, _⟩ := a.np
    exact ⟨fd, _, fn_vac fun vs H Q E ⟨φ, F', st, ts, r, st', _, _, _, h4, _⟩ => (by cases h4), F.kp, At.binds h F⟩
  | succ k ih =>
    intro f a hi
    obtain ⟨fd, F⟩ := a.fn
    obtain ⟨n, h, hn⟩ := a.np
    cases e : tb f with
    | none => exact ⟨fd, _, fn_vac fun vs H Q E ⟨φ, F', st, ts, r, st', _, _, _, h4, _⟩ => (by
        obtain ⟨k', d, _, e2, _⟩ := den_run h4
        rw [e] at e2; cases e2), F.kp, At.binds h F⟩
    | some d =>
      have ok := a.ok
      rw [e] at ok
      refine ⟨fd, _, fn_def F e (hi d e) ok (j := k + 2) fun X e1 e2 e3 e4 e5 hc hr => ?_, F.kp, At.binds (okSrc_of ok) F⟩
      subst e1 e2 e3 e4 e5
      refine ⟨hc, hr, p.mo.blt, fun f' n' q => ?_, p.mo.cs, p.mo.fl, fun _ c m f' q => ?_, fun c n' q => ?_⟩
      · obtain ⟨a', hi', m⟩ := p.gl f' n' q
        exact ⟨ad f', m, ⟨ih f' a' hi'⟩⟩
      · obtain ⟨a', hi', m1, m2⟩ := p.me c m f' q
        exact ⟨ad f', m1, m2, ⟨ih f' a' hi'⟩⟩
      · obtain ⟨f', q1, a', hi', m1, m2⟩ := p.mak c n' q
        obtain ⟨fd', F'⟩ := a'.fn
        refine ⟨f', ad f', 1, by omega, q1, ⟨?_⟩, m1, m2⟩
        cases e' : tb f' with
        | none =>
          obtain ⟨n', h', _⟩ := a'.np
          refine ⟨fd', _, fn_vac fun vs H Q E ⟨φ, F', H0, st, x, dx, ts, us, c, r, st', h0, hx, hdx, hne, h6, h1, h2, h3, h4, h5⟩ => ?_, F'.kp, At.binds h' F'⟩
          obtain ⟨k', d, _, e2, _⟩ := den_run h4
          rw [e'] at e2; cases e2
        | some d' =>
          have ok' := a'.ok
          rw [e'] at ok'
          exact ⟨fd', _, fn_init F' e' (hi' d' e') ok' p.mo, F'.kp, At.binds (okSrc_of ok') F'⟩
end
end TL
end

section
set_option Elab.async false
set_option linter.all false
set_option maxRecDepth 100000
set_option maxHeartbeats 4000000
/-! The head's facts, of all defs, classes and constants at once. -/
namespace TL
open PySem PySem.Spec PyProof.Rows L2 He

/-! ### the written part, without its lists -/
def isLst (o : Obj) : Bool := match o.cls with
  | .type c => decide (c = "list")
  | _ => false
def frN (g : Addr → Option Obj) (as : List Addr) : PySem.W.Frag := (frG g as).filter fun p => !isLst p.2
theorem look_mem {α : Type} : ∀ {l : List (Addr × α)} {a : Addr} {o : α}, l.lookup a = some o → (a, o) ∈ l
  | [], a, o, h => by cases h
  | (b, u) :: r, a, o, h => by
    rw [List.lookup_cons] at h
    cases q : a == b with
    | true => rw [q] at h; cases h; rw [eq_of_beq q]; exact List.mem_cons_self
    | false => rw [q] at h; exact List.mem_cons_of_mem _ (look_mem h)
theorem frN_in {as : List Addr} {h : Heap} : (frN h.get? as).In h := fun a o e => by
  have hm := (List.mem_filter.mp (look_mem (show List.lookup a (frN h.get? as) = some o from e))).1
  unfold frG at hm
  obtain ⟨b, _, e2⟩ := List.mem_filterMap.mp hm
  obtain ⟨u, e3, e4⟩ := Option.map_eq_some_iff.mp e2
  cases e4
  exact e3
def NoL (K : PySem.W.Frag) : Prop := ∀ a o, K.lookup a = some o → isLst o = false
theorem frN_no {g : Addr → Option Obj} {as : List Addr} : NoL (frN g as) := fun a o e => by
  have hm := (List.mem_filter.mp (look_mem (show List.lookup a (frN g as) = some o from e))).2
  simpa using hm
theorem NoL.sqL {K : PySem.W.Frag} (n : NoL K) {H : Hp} {a : Addr} {xs : List V} (h : SqL K H a xs) : Rd H a (.lst xs) := by
  rcases h with h | ⟨o, its, m, h1, h2, _⟩
  · exact h
  · have := n a o h1
    unfold isLst at this
    rw [h2] at this
    cases this

/-! ### constants -/
mutual
def valB (K : PySem.W.Frag) : T → Value → Bool
  | .non, u => match u with | .none => true | _ => false
  | .bl b, u => match u with | .bool c => b == c | _ => false
  | .int i, u => match u with | .int j _ => decide (i = j) | _ => false
  | .str x, u => match u with | .str y _ => decide (x = y) | _ => false
  | .tup ts, u => match u with
    | .ref a => (match K.lookup a with
      | some ⟨.type c, none, .seq its _, osl⟩ => decide (c = "tuple") && osl.isEmpty && decide (its.size ≤ sizeLine) && valsB K ts its.toList
      | _ => false)
    | _ => false
  | _, _ => false
def valsB (K : PySem.W.Frag) : List T → List Value → Bool
  | [], us => us.isEmpty
  | t :: ts, us => match us with
    | u :: us => valB K t u && valsB K ts us
    | [] => false
end
section
variable {K : PySem.W.Frag} {cl : Nat → Addr}
mutual
theorem valB_ok : ∀ (t : T) (u : Value), valB K t u = true → ∃ v, RelV v u ∧ ∀ φ F, Is ⟨K, cl⟩ φ F t v
  | .non, u, h => by
    unfold valB at h
    split at h <;> (try cases h)
    exact ⟨.non, rfl, fun _ _ => rfl⟩
  | .bl b, u, h => by
    unfold valB at h
    split at h <;> (try cases h)
    rw [eq_of_beq h]
    exact ⟨.bl _, rfl, fun _ _ => rfl⟩
  | .int i, u, h => by
    unfold valB at h
    split at h <;> (try cases h)
    rw [of_decide_eq_true h]
    exact ⟨.int _, ⟨_, rfl⟩, fun _ _ => rfl⟩
  | .str x, u, h => by
    unfold valB at h
    split at h <;> (try cases h)
    rw [of_decide_eq_true h]
    exact ⟨.str _, ⟨_, rfl⟩, fun _ _ => rfl⟩
  | .tup ts, u, h => by
    unfold valB at h
    split at h <;> (try cases h)
    rename_i a
    split at h <;> (try cases h)
    rename_i c its n osl e
    simp only [Bool.and_eq_true, decide_eq_true_eq] at h
    obtain ⟨⟨⟨rfl, h1⟩, h2⟩, h3⟩ := h
    obtain ⟨vs, q1, q2⟩ := valsB_ok ts its.toList h3
    exact ⟨.ref a, rfl, fun φ F => ⟨a, vs, rfl, .inr ⟨_, its, n, e, rfl, ⟨rfl, Array.isEmpty_iff.mp h1⟩, rfl, h2, q1⟩, q2 φ F⟩⟩
  | .lst _, u, h => by unfold valB at h; cases h
  | .dct _ _, u, h => by unfold valB at h; cases h
  | .obj _ _ _, u, h => by unfold valB at h; cases h
  | .ref _, u, h => by unfold valB at h; cases h
theorem valsB_ok : ∀ (ts : List T) (us : List Value), valsB K ts us = true → ∃ vs, Vals vs us ∧ ∀ φ F, IsL ⟨K, cl⟩ φ F ts vs
  | [], us, h => by
    unfold valsB at h
    rw [List.isEmpty_iff.mp h]
    exact ⟨[], .nil, fun _ _ => .nil⟩
  | t :: ts, us, h => by
    unfold valsB at h
    split at h <;> (try cases h)
    obtain ⟨h1, h2⟩ := Bool.and_eq_true_iff.mp h
    obtain ⟨v, q1, q2⟩ := valB_ok t _ h1
    obtain ⟨vs, q3, q4⟩ := valsB_ok ts _ h2
    exact ⟨v :: vs, .cons q1 q3, fun φ F => .cons (q2 φ F) (q4 φ F)⟩
end
end

/-! ### the program's data -/
structure Dat where
  dd : List (Option DefD)
  nm : List (List Str)
  cns : List Str
  csts : List (Str × T)
  fls : List Str
  mts : List (Nat × Str × Nat)
  ins : List (Nat × Nat)
namespace Dat
variable (D : Dat)
def df (f : Nat) : Option DefD := (D.dd[f]?).join
def cname (c : Nat) : Str := (D.cns[c]?).getD ((D.cns[0]?).getD ⟨#[]⟩)
def cfg : Cfg where
  meth := fun c m => (D.mts.find? fun q => decide (q.1 = c) && decide (q.2.1 = m)).map (·.2.2)
  init := fun c => (D.ins.find? fun q => decide (q.1 = c)).map (·.2)
def gn (f : Nat) : Option Str := match D.df f with
  | some d => (match d.at_.2 with
    | none => some d.at_.1
    | some _ => none)
  | none => none
def cn (c : Nat) : Option Str := match D.cfg.init c with
  | some _ => D.cns[c]?
  | none => none
def tbl : Tb := ⟨[], D.gn, D.cn, D.csts, D.fls, true⟩
def sr (f : Nat) : Src := match D.df f with
  | some d => ⟨d.name, d.qual, d.params, d.body, d.scope, (D.nm[f]?).getD []⟩
  | none => ⟨⟨#[]⟩, ⟨#[]⟩, ⟨[], [], none, [], [], none, []⟩, [], ⟨.function, [], false, false, []⟩, []⟩
def ad (K : PySem.W.Frag) (f : Nat) : Addr := match D.df f with
  | some d => fAd K d.at_
  | none => 0
def cl (K : PySem.W.Frag) (c : Nat) : Addr := ga K (D.cname c)
def fn : List DefD := D.dd.filterMap id
def gls : List Str := D.fn.filterMap fun d => match d.at_.2 with
  | none => some d.at_.1
  | some _ => none
def fa : List He.Fa := D.gls.map .glo ++ blts.map .free ++ (D.cns.map .glo ++ D.cns.map .cls ++ D.cns.flatMap fun c => D.fls.map (.noat c)) ++ D.ins.map fun q => .mkr (D.cname q.1)
def ex (K : PySem.W.Frag) : Bool := (D.csts.all fun q => match PySem.W.nsIn K mainGlobals q.1 with
    | some (some u) => valB K q.2 u
    | _ => false) &&
  D.mts.all fun q => eqO (PySem.W.findIn K (.ref (D.cl K q.1)) q.2.1) (some (some (.ref (D.ad K q.2.2)))) && (PySem.W.isFn K (.ref (D.ad K q.2.2)) && PySem.W.keepIn K (.ref (D.ad K q.2.2)))
/-- what is seen without the heap -/
def okAt (tb : Nat → Option Def) (f : Nat) : Bool := match D.df f with
  | some d => d.dfl.isEmpty && d.kwd.isEmpty && (match tb f with
    | some de => okDef D.tbl (D.sr f) de && (match d.at_.2 with
      | none => !de.init
      | some _ => true)
    | none => okSrc (D.sr f) (D.sr f).ar.args.length)
  | none => true
def initIs (tb : Nat → Option Def) (b : Bool) (f : Nat) : Bool := match tb f with
  | some de => de.init == b
  | none => true
def stat (tb : Nat → Option Def) : Bool := ((List.range D.dd.length).all fun f => D.okAt tb f) && (D.mts.all fun q => (D.df q.2.2).isSome && initIs tb false q.2.2) &&
  (D.ins.all fun q => decide (q.1 < D.cns.length) && initIs tb true q.2 && (match D.df q.2 with
    | some d => decide (d.at_ = (D.cname q.1, some ("__init__" : Str)))
    | none => false)) && !D.cns.isEmpty
end Dat

/-! ### the Hook -/
abbrev AlT : Type := Bool × AlD
def obsT (D : Dat) (K : PySem.W.Frag) : AlT := (D.ex K, obsD D.fa D.fn K)
def SaysT (D : Dat) (K : PySem.W.Frag) : Prop := obsT D K = (true, valD D.fn)
def obsTG (n : Nat) (D : Dat) (g : Addr → Option Obj) : AlT := obsT D (frN g (asD g n))
def hookT (n : Nat) (D : Dat) : PySem.W.Hook where
  α := AlT
  obs := fun s => obsTG n D s.heap.get?
  val := fun _ => (true, valD D.fn)
  says := fun _ h => ∃ K : PySem.W.Frag, K.In h ∧ NoL K ∧ SaysT D K
  of := fun _ _ e => ⟨_, frN_in, frN_no, e⟩
  keeps := fun _ _ _ ⟨K, hK, n, c⟩ k => ⟨K, PySem.W.Frag.In.keeps hK k, n, c⟩
theorem obsTG_eq {n : Nat} {D : Dat} {g : Addr → Option Obj} {s : Shared} (h : ∀ a, g a = s.heap.get? a) : obsTG n D g = (hookT n D).obs s := by
  have e : g = s.heap.get? := funext h
  rw [e] <;> rfl
section
variable {D : Dat} {K : PySem.W.Frag} {h : Heap} {mg : Str → Option Value} {tb : Nat → Option Def}
theorem SaysT.fact (c : SaysT D K) {f : He.Fa} (hm : f ∈ D.fa) : f.ok K = true := by
  have c2 : SaysD D.fa D.fn K := congrArg (fun z : AlT => z.2) c
  obtain ⟨i, e⟩ := List.getElem?_of_mem hm
  exact c2.fact i e
theorem SaysT.def_ (c : SaysT D K) {d : DefD} (hm : d ∈ D.fn) : ∃ fd, FunD K d.name d.qual d.params d.body d.scope (d.dvs K) (d.kws K) (fAd K d.at_) fd := by
  have c2 : SaysD D.fa D.fn K := congrArg (fun z : AlT => z.2) c
  obtain ⟨i, e⟩ := List.getElem?_of_mem hm
  exact c2.def_ i e
theorem Dat.df_mem {f : Nat} {d : DefD} (e : D.df f = some d) : d ∈ D.fn := by
  unfold Dat.df at e
  cases q : D.dd[f]? with
  | none => rw [q] at e; cases e
  | some o =>
    rw [q] at e
    have e : o = some d := e
    subst e
    exact List.mem_filterMap.mpr ⟨some d, List.mem_of_getElem? q, rfl⟩
theorem Dat.df_lt {f : Nat} {d : DefD} (e : D.df f = some d) : f < D.dd.length := by
  unfold Dat.df at e
  cases q : D.dd[f]? with
  | none => rw [q] at e; cases e
  | some o => exact (List.getElem?_eq_some_iff.mp q).1
theorem Dat.at_of (st : D.stat tb = true) (c : SaysT D K) {f : Nat} {d : DefD} (e : D.df f = some d) : At K D.tbl tb D.sr (D.ad K) f := by
  unfold Dat.stat at st
  simp only [Bool.and_eq_true] at st
  have q := List.all_eq_true.mp st.1.1.1 f (List.mem_range.mpr (D.df_lt e))
  unfold Dat.okAt at q
  rw [e] at q
  simp only [Bool.and_eq_true, List.isEmpty_iff] at q
  obtain ⟨⟨q1, q2⟩, q3⟩ := q
  have es : D.sr f = ⟨d.name, d.qual, d.params, d.body, d.scope, (D.nm[f]?).getD []⟩ := by unfold Dat.sr; rw [e]
  have ea : D.ad K f = fAd K d.at_ := by unfold Dat.ad; rw [e]
  refine ⟨?_, ?_⟩
  · rw [es, ea]
    have := c.def_ (D.df_mem e)
    unfold DefD.dvs DefD.kws at this
    rw [q1, q2] at this
    exact this
  · cases z : tb f with
    | none => rw [z] at q3; exact q3
    | some de => rw [z] at q3; exact (Bool.and_eq_true_iff.mp q3).1
theorem Dat.init_of {f : Nat} {b : Bool} (h : Dat.initIs tb b f = true) : ∀ d, tb f = some d → d.init = b := fun d e => by
  unfold Dat.initIs at h
  rw [e] at h
  exact eq_of_beq h
theorem Dat.cname_mem (h : D.cns.isEmpty = false) (c : Nat) : D.cname c ∈ D.cns := by
  unfold Dat.cname
  cases e : D.cns[c]? with
  | some x => exact List.mem_of_getElem? e
  | none =>
    cases q : D.cns with
    | nil => rw [q] at h; cases h
    | cons a r => exact List.mem_cons_self
theorem Dat.pro (X : K.In h) (G : h.Ns mainGlobals mg) (st : D.stat tb = true) (c : SaysT D K) : Pro K mg (D.cl K) D.cfg D.tbl tb D.sr (D.ad K) := by
  have st0 := st
  unfold Dat.stat at st
  simp only [Bool.and_eq_true, Bool.not_eq_true'] at st
  obtain ⟨⟨⟨s1, s2⟩, s3⟩, s4⟩ := st
  have cex : D.ex K = true := congrArg (fun z : AlT => z.1) c
  unfold Dat.ex at cex
  obtain ⟨x1, x2⟩ := Bool.and_eq_true_iff.mp cex
  have hcls : ∀ k, Cls K (D.cl K k) := fun k => cls_ok (c.fact (f := .cls (D.cname k)) (by
    unfold Dat.fa
    exact List.mem_append_left _ (List.mem_append_right _ (List.mem_append_left _ (List.mem_append_right _ (List.mem_map.mpr ⟨_, D.cname_mem s4 k, rfl⟩))))))
  have hglo : ∀ {x}, x ∈ D.cns → mg x = some (.ref (ga K x)) := fun {x} hx => glo_ok X G (c.fact (f := .glo x) (by
    unfold Dat.fa
    exact List.mem_append_left _ (List.mem_append_right _ (List.mem_append_left _ (List.mem_append_left _ (List.mem_map.mpr ⟨_, hx, rfl⟩))))))
  refine ⟨⟨fun n hn => free_ok X G (c.fact (f := .free n) ?_), fun n u e => ?_, fun x hx k => ⟨hcls k, noat_ok (c.fact (f := .noat (D.cname k) x) ?_)⟩⟩, fun f n e => ?_, fun k m f e => ?_, fun k n e => ?_⟩
  · unfold Dat.fa
    exact List.mem_append_left _ (List.mem_append_left _ (List.mem_append_right _ (List.mem_map.mpr ⟨_, hn, rfl⟩)))
  · have hm : (n, u) ∈ D.csts := by
      have : ∀ {l : List (Str × T)}, l.lookup n = some u → (n, u) ∈ l := fun {l} => by
        induction l with
        | nil => intro h; cases h
        | cons p r ih =>
          intro h
          obtain ⟨b, w⟩ := p
          rw [List.lookup_cons] at h
          cases q : n == b with
          | true => rw [q] at h; cases h; rw [eq_of_beq q]; exact List.mem_cons_self
          | false => rw [q] at h; exact List.mem_cons_of_mem _ (ih h)
      exact this e
    have q := List.all_eq_true.mp x1 _ hm
    have q : (match PySem.W.nsIn K mainGlobals n with
      | some (some w) => valB K u w
      | _ => false) = true := q
    split at q <;> (try cases q)
    rename_i w ew
    obtain ⟨v, q1, q2⟩ := valB_ok (cl := D.cl K) u w q
    exact ⟨v, w, PySem.W.mg_of X G ew, q1, q2⟩
  · unfold Dat.fa
    refine List.mem_append_left _ (List.mem_append_right _ (List.mem_append_right _ (List.mem_flatMap.mpr ⟨_, D.cname_mem s4 k, List.mem_map.mpr ⟨x, ?_, rfl⟩⟩)))
    exact List.contains_iff_mem.mp hx
  · unfold Dat.tbl Dat.gn at e
    have e : (match D.df f with
      | some d => (match d.at_.2 with
        | none => some d.at_.1
        | some _ => none)
      | none => none) = some n := e
    cases q : D.df f with
    | none => rw [q] at e; cases e
    | some d =>
      rw [q] at e
      have e : (match d.at_.2 with
        | none => some d.at_.1
        | some _ => none) = some n := e
      cases z : d.at_.2 with
      | some _ => rw [z] at e; cases e
      | none =>
        rw [z] at e
        cases e
        refine ⟨D.at_of st0 c q, fun de hde => ?_, ?_⟩
        · have t := List.all_eq_true.mp s1 f (List.mem_range.mpr (D.df_lt q))
          unfold Dat.okAt at t
          rw [q] at t
          simp only [hde, z, Bool.and_eq_true, Bool.not_eq_true'] at t
          exact t.2.2
        · have ea : D.ad K f = ga K d.at_.1 := by
            unfold Dat.ad
            rw [q]
            show fAd K d.at_ = _
            unfold fAd
            rw [z]
          rw [ea]
          refine glo_ok X G (c.fact (f := .glo d.at_.1) ?_)
          unfold Dat.fa
          refine List.mem_append_left _ (List.mem_append_left _ (List.mem_append_left _ (List.mem_map.mpr ⟨d.at_.1, ?_, rfl⟩)))
          unfold Dat.gls
          exact List.mem_filterMap.mpr ⟨d, D.df_mem q, by rw [z]⟩
  · have e : ((D.mts.find? fun q => decide (q.1 = k) && decide (q.2.1 = m)).map (·.2.2)) = some f := e
    obtain ⟨⟨k', m', f'⟩, e1, e2⟩ := Option.map_eq_some_iff.mp e
    have hm := List.mem_of_find?_eq_some e1
    have hp := List.find?_some e1
    simp only [Bool.and_eq_true, decide_eq_true_eq] at hp
    obtain ⟨h1, h2⟩ := hp
    have e2 : f' = f := e2
    have h1 : k' = k := h1
    have h2 : m' = m := h2
    subst e2 h1 h2
    have t := List.all_eq_true.mp s2 _ hm
    simp only [Bool.and_eq_true] at t
    obtain ⟨d, hd⟩ := Option.isSome_iff_exists.mp t.1
    have y := List.all_eq_true.mp x2 _ hm
    obtain ⟨y1, y2⟩ := Bool.and_eq_true_iff.mp y
    obtain ⟨y2, y3⟩ := Bool.and_eq_true_iff.mp y2
    exact ⟨D.at_of st0 c hd, Dat.init_of t.2, hcls _, ⟨eqO_ok y1, y2, y3⟩⟩
  · have e : (match D.cfg.init k with
      | some _ => D.cns[k]?
      | none => none) = some n := e
    cases z : D.cfg.init k with
    | none => rw [z] at e; cases e
    | some f =>
      rw [z] at e
      have e : D.cns[k]? = some n := e
      have en : D.cname k = n := by unfold Dat.cname; rw [e]; rfl
      obtain ⟨⟨k', f'⟩, e1, e2⟩ := Option.map_eq_some_iff.mp (show ((D.ins.find? fun q => decide (q.1 = k)).map (·.2)) = some f from z)
      have hm := List.mem_of_find?_eq_some e1
      have h1 : k' = k := by simpa using List.find?_some e1
      have e2 : f' = f := e2
      subst e2 h1
      have t := List.all_eq_true.mp s3 _ hm
      simp only [Bool.and_eq_true] at t
      obtain ⟨⟨t1, t2⟩, t3⟩ := t
      cases q : D.df f' with
      | none => rw [q] at t3; cases t3
      | some d =>
        rw [q] at t3
        have t3 : d.at_ = (D.cname k', some ("__init__" : Str)) := of_decide_eq_true t3
        refine ⟨f', rfl, D.at_of st0 c q, Dat.init_of t2, ?_, ?_⟩
        · have ea : D.ad K f' = ma K (ga K (D.cname k')) "__init__" := by
            unfold Dat.ad
            rw [q]
            show fAd K d.at_ = _
            rw [t3]
            rfl
          rw [ea]
          refine mkr_ok (c.fact (f := .mkr (D.cname k')) ?_)
          unfold Dat.fa
          exact List.mem_append_right _ (List.mem_map.mpr ⟨_, hm, rfl⟩)
        · show mg n = some (.ref (ga K (D.cname k')))
          rw [en]
          exact hglo (List.mem_of_getElem? e)
end
end TL
end

section
set_option Elab.async false
set_option linter.all false
set_option maxRecDepth 100000
set_option maxHeartbeats 4000000
/-! A law holds when its term comes to True. -/
namespace TL
open PySem PySem.Spec PyProof.Rows L2 He
section
variable {P : Program} {w : World} {K : PySem.W.Frag} {mg : Str → Option Value} {base : Heap} {cl : Nat → Addr} {G : Cfg} {tb : Nat → Option Def} {t : Tb} {d : Def} {f : Nat} {fd : FuncData} {sr : Nat → Src} {ad : Nat → Addr}
theorem law_ok (p : Pro K mg cl G t tb sr ad) (k : Nat) (F : FunD K (sr f).x (sr f).qual (sr f).ar (sr f).bd (sr f).sc [] [] (ad f) fd) (e : tb f = some d) (hi : d.init = false) (ok : okDef t (sr f) d = true) :
    FnOk P w K mg base C8.CX0 (k + 3) (ad f) fd ((sr f).N.take d.np) (spF ⟨K, cl⟩ (den G tb (k + 1)) f) := by
  refine fn_def F e hi ok (j := k + 2) fun X e1 e2 e3 e4 e5 hc hr => ?_
  subst e1 e2 e3 e4 e5
  refine ⟨hc, hr, p.mo.blt, fun f' n' q => ?_, p.mo.cs, p.mo.fl, fun _ c m f' q => ?_, fun c n' q => ?_⟩
  · obtain ⟨a', hi', m⟩ := p.gl f' n' q
    exact ⟨ad f', m, ⟨all_ok p k f' a' hi'⟩⟩
  · obtain ⟨a', hi', m1, m2⟩ := p.me c m f' q
    exact ⟨ad f', m1, m2, ⟨all_ok p k f' a' hi'⟩⟩
  · obtain ⟨f', q1, a', hi', m1, m2⟩ := p.mak c n' q
    obtain ⟨fd', F'⟩ := a'.fn
    refine ⟨f', ad f', 1, by omega, q1, ⟨?_⟩, m1, m2⟩
    cases e' : tb f' with
    | none =>
      obtain ⟨n', h', _⟩ := a'.np
      refine ⟨fd', _, fn_vac fun vs H Q E ⟨φ, F', H0, st, x, dx, ts, us, c, r, st', h0, hx, hdx, hne, h6, h1, h2, h3, h4, h5⟩ => ?_, F'.kp, At.binds h' F'⟩
      obtain ⟨k', d, _, e2, _⟩ := den_run h4
      rw [e'] at e2; cases e2
    | some d' =>
      have ok' := a'.ok
      rw [e'] at ok'
      exact ⟨fd', _, fn_init F' e' (hi' d' e') ok' p.mo, F'.kp, At.binds (okSrc_of ok') F'⟩
end
/-- what the walk's end wants -/
theorem law_end {l : PySem.W.OpenLaw} {D : Dat} {tb : Nat → Option Def} {n m k f : Nat} {d : Def} {x nm : Str} (st : D.stat tb = true) (hg : D.gn f = some nm) (e : tb f = some d) (hx : (D.sr f).N.take d.np = [x])
    (law : ∀ ns : List Int, ns.length ≤ n → ∃ st', den D.cfg tb (k + 1) f [.lst (ns.map .int)] [] = some (.fro (.bl true), st'))
    (w : World) (mg : Str → Option Value) (fa : Addr) (h : Heap) (Y : (hookT m D).says w h) (hn : h.Ns mainGlobals mg) (hmg : mg nm = some (.ref fa)) :
    ∃ (K : PySem.W.Frag) (fd : FuncData) (sp : Sp), K.In h ∧ (∀ (s : Shared) (u : Value), BindsTo s fd ⟨[u], []⟩ [(x, u)]) ∧
      (∀ (H : Hp) (a : Addr) (ns : List Int), ns.length ≤ n → Only H → SqL K H a (ns.map V.int) → sp [.ref a] H (fun v _ => v = .bl true) fun _ _ _ => False) ∧
      ∀ base : Heap, K.In base → base.Ns mainGlobals mg → FnOk l.prog w K mg base C8.CX0 (k + 3) fa fd [x] sp := by
  obtain ⟨K, KX, nl, c⟩ := Y
  have p := Dat.pro KX hn st c
  obtain ⟨a, hi, m⟩ := p.gl f nm hg
  rw [hmg] at m
  cases m
  obtain ⟨fd, F⟩ := a.fn
  have ok := a.ok
  rw [e] at ok
  have os := okSrc_of ok
  unfold okSrc at os
  simp only [Bool.and_eq_true] at os
  have S := C8.fnScope_by os.1.1
  have nd : ((D.sr f).N.take d.np).Nodup := S.nd.sublist (List.take_sublist _ _)
  have b := FunD.bindsA (ps := (D.sr f).N.take d.np) F fun kV doc pm an cdv ct us hl => bind_plain os.1.2 nd hl
  rw [hx] at b
  refine ⟨K, fd, spF ⟨K, D.cl K⟩ (den D.cfg tb (k + 1)) f, KX, fun s u => b s [u] rfl, fun H a ns hl _ hS => ?_, fun base hb hns => ?_⟩
  · obtain ⟨st', hd⟩ := law ns hl
    refine ⟨[], H, [], [.lst (ns.map .int)], .fro (.bl true), st', Sub.refl H, ⟨rfl, List.nodup_nil, fun b hb => (by cases hb), fun n b ts e1 => (by simp at e1)⟩, .cons ⟨a, ns.map V.int, rfl, nl.sqL hS, IsL.map (f := T.int) (g := V.int) (fun i => (rfl : V.int i = V.int i)) ns⟩ .nil, hd, fun v φ' F' H' _ g => g⟩
  · have q := law_ok (P := l.prog) (w := w) (base := base) p k F e (hi d e) ok
    rw [hx] at q
    exact q
end TL
end

section
set_option Elab.async false
set_option linter.all false
set_option maxRecDepth 100000
namespace TL
open PySem
abbrev k_MOST_SIGNS : Str := ⟨#[77, 79, 83, 84, 95, 83, 73, 71, 78, 83]⟩
abbrev k_hidden : Str := ⟨#[104, 105, 100, 100, 101, 110]⟩
abbrev k_shown : Str := ⟨#[115, 104, 111, 119, 110]⟩
abbrev k_out : Str := ⟨#[111, 117, 116]⟩
abbrev k_is : Str := ⟨#[105, 115]⟩
abbrev k_when : Str := ⟨#[119, 104, 101, 110]⟩
abbrev k_for : Str := ⟨#[102, 111, 114]⟩
abbrev k_class : Str := ⟨#[99, 108, 97, 115, 115]⟩
abbrev k_use : Str := ⟨#[117, 115, 101]⟩
abbrev k_module : Str := ⟨#[109, 111, 100, 117, 108, 101]⟩
abbrev k_BARRED_IN_MODULES : Str := ⟨#[66, 65, 82, 82, 69, 68, 95, 73, 78, 95, 77, 79, 68, 85, 76, 69, 83]⟩
abbrev k_no : Str := ⟨#[110, 111]⟩
abbrev k_yes : Str := ⟨#[121, 101, 115]⟩
abbrev k_in : Str := ⟨#[105, 110]⟩
abbrev k_and : Str := ⟨#[97, 110, 100]⟩
abbrev k_BARRED : Str := ⟨#[66, 65, 82, 82, 69, 68]⟩
abbrev k_World : Str := ⟨#[87, 111, 114, 108, 100]⟩
abbrev k_WorldRules : Str := ⟨#[87, 111, 114, 108, 100, 82, 117, 108, 101, 115]⟩
abbrev k_Rules : Str := ⟨#[82, 117, 108, 101, 115]⟩
abbrev k_law : Str := ⟨#[108, 97, 119]⟩
abbrev k__law_sums_right : Str := ⟨#[95, 108, 97, 119, 95, 115, 117, 109, 115, 95, 114, 105, 103, 104, 116]⟩
abbrev k__law_size : Str := ⟨#[95, 108, 97, 119, 95, 115, 105, 122, 101]⟩
abbrev k__law_step : Str := ⟨#[95, 108, 97, 119, 95, 115, 116, 101, 112]⟩
abbrev k__law_acted : Str := ⟨#[95, 108, 97, 119, 95, 97, 99, 116, 101, 100]⟩
abbrev k__law_called : Str := ⟨#[95, 108, 97, 119, 95, 99, 97, 108, 108, 101, 100]⟩
abbrev k__law_whole : Str := ⟨#[95, 108, 97, 119, 95, 119, 104, 111, 108, 101]⟩
abbrev k__law_done : Str := ⟨#[95, 108, 97, 119, 95, 100, 111, 110, 101]⟩
abbrev k__law_marks : Str := ⟨#[95, 108, 97, 119, 95, 109, 97, 114, 107, 115]⟩
abbrev k__law_but : Str := ⟨#[95, 108, 97, 119, 95, 98, 117, 116]⟩
abbrev k__law_put : Str := ⟨#[95, 108, 97, 119, 95, 112, 117, 116]⟩
abbrev k__law_with : Str := ⟨#[95, 108, 97, 119, 95, 119, 105, 116, 104]⟩
abbrev k__law_parts : Str := ⟨#[95, 108, 97, 119, 95, 112, 97, 114, 116, 115]⟩
abbrev k__law_make : Str := ⟨#[95, 108, 97, 119, 95, 109, 97, 107, 101]⟩
abbrev k__law_field : Str := ⟨#[95, 108, 97, 119, 95, 102, 105, 101, 108, 100]⟩
abbrev k__law_bound : Str := ⟨#[95, 108, 97, 119, 95, 98, 111, 117, 110, 100]⟩
abbrev k__law_branched : Str := ⟨#[95, 108, 97, 119, 95, 98, 114, 97, 110, 99, 104, 101, 100]⟩
abbrev k__law_counted : Str := ⟨#[95, 108, 97, 119, 95, 99, 111, 117, 110, 116, 101, 100]⟩
abbrev k__law_plain : Str := ⟨#[95, 108, 97, 119, 95, 112, 108, 97, 105, 110]⟩
abbrev k__law_marked : Str := ⟨#[95, 108, 97, 119, 95, 109, 97, 114, 107, 101, 100]⟩
abbrev k__law_mark_kinds : Str := ⟨#[95, 108, 97, 119, 95, 109, 97, 114, 107, 95, 107, 105, 110, 100, 115]⟩
abbrev k__law_kind_by : Str := ⟨#[95, 108, 97, 119, 95, 107, 105, 110, 100, 95, 98, 121]⟩
abbrev k__law_kind : Str := ⟨#[95, 108, 97, 119, 95, 107, 105, 110, 100]⟩
abbrev k__law_shapes : Str := ⟨#[95, 108, 97, 119, 95, 115, 104, 97, 112, 101, 115]⟩
abbrev k__law_words : Str := ⟨#[95, 108, 97, 119, 95, 119, 111, 114, 100, 115]⟩
abbrev k__law_draw : Str := ⟨#[95, 108, 97, 119, 95, 100, 114, 97, 119]⟩
abbrev k__law_source : Str := ⟨#[95, 108, 97, 119, 95, 115, 111, 117, 114, 99, 101]⟩
abbrev k_least_world : Str := ⟨#[108, 101, 97, 115, 116, 95, 119, 111, 114, 108, 100]⟩
abbrev k_of_two_numbers : Str := ⟨#[111, 102, 95, 116, 119, 111, 95, 110, 117, 109, 98, 101, 114, 115]⟩
abbrev k_step : Str := ⟨#[115, 116, 101, 112]⟩
abbrev k_step_by : Str := ⟨#[115, 116, 101, 112, 95, 98, 121]⟩
abbrev k_next_part : Str := ⟨#[110, 101, 120, 116, 95, 112, 97, 114, 116]⟩
abbrev k_with_part : Str := ⟨#[119, 105, 116, 104, 95, 112, 97, 114, 116]⟩
abbrev k_acted : Str := ⟨#[97, 99, 116, 101, 100]⟩
abbrev k_field_term : Str := ⟨#[102, 105, 101, 108, 100, 95, 116, 101, 114, 109]⟩
abbrev k_matched_term : Str := ⟨#[109, 97, 116, 99, 104, 101, 100, 95, 116, 101, 114, 109]⟩
abbrev k_called_term : Str := ⟨#[99, 97, 108, 108, 101, 100, 95, 116, 101, 114, 109]⟩
abbrev k_head_of : Str := ⟨#[104, 101, 97, 100, 95, 111, 102]⟩
abbrev k_reckoned : Str := ⟨#[114, 101, 99, 107, 111, 110, 101, 100]⟩
abbrev k_fun_of_group : Str := ⟨#[102, 117, 110, 95, 111, 102, 95, 103, 114, 111, 117, 112]⟩
abbrev k_group_values : Str := ⟨#[103, 114, 111, 117, 112, 95, 118, 97, 108, 117, 101, 115]⟩
abbrev k_put_all : Str := ⟨#[112, 117, 116, 95, 97, 108, 108]⟩
abbrev k_names_aside : Str := ⟨#[110, 97, 109, 101, 115, 95, 97, 115, 105, 100, 101]⟩
abbrev k_parts_first : Str := ⟨#[112, 97, 114, 116, 115, 95, 102, 105, 114, 115, 116]⟩
abbrev k_is_run_out : Str := ⟨#[105, 115, 95, 114, 117, 110, 95, 111, 117, 116]⟩
abbrev k_is_group_value : Str := ⟨#[105, 115, 95, 103, 114, 111, 117, 112, 95, 118, 97, 108, 117, 101]⟩
abbrev k_mark_of : Str := ⟨#[109, 97, 114, 107, 95, 111, 102]⟩
abbrev k_put_for : Str := ⟨#[112, 117, 116, 95, 102, 111, 114]⟩
abbrev k_put_by : Str := ⟨#[112, 117, 116, 95, 98, 121]⟩
abbrev k_caught_by : Str := ⟨#[99, 97, 117, 103, 104, 116, 95, 98, 121]⟩
abbrev k_all_renamed : Str := ⟨#[97, 108, 108, 95, 114, 101, 110, 97, 109, 101, 100]⟩
abbrev k_renamed : Str := ⟨#[114, 101, 110, 97, 109, 101, 100]⟩
abbrev k_new_names : Str := ⟨#[110, 101, 119, 95, 110, 97, 109, 101, 115]⟩
abbrev k_names_in : Str := ⟨#[110, 97, 109, 101, 115, 95, 105, 110]⟩
abbrev k_free_names : Str := ⟨#[102, 114, 101, 101, 95, 110, 97, 109, 101, 115]⟩
abbrev k_bound_in : Str := ⟨#[98, 111, 117, 110, 100, 95, 105, 110]⟩
abbrev k_with_parts : Str := ⟨#[119, 105, 116, 104, 95, 112, 97, 114, 116, 115]⟩
abbrev k_parts_of : Str := ⟨#[112, 97, 114, 116, 115, 95, 111, 102]⟩
abbrev k_is_name : Str := ⟨#[105, 115, 95, 110, 97, 109, 101]⟩
abbrev k_all_in : Str := ⟨#[97, 108, 108, 95, 105, 110]⟩
abbrev k__wall : Str := ⟨#[95, 119, 97, 108, 108]⟩
abbrev k__law_due : Str := ⟨#[95, 108, 97, 119, 95, 100, 117, 101]⟩
abbrev k__law_world : Str := ⟨#[95, 108, 97, 119, 95, 119, 111, 114, 108, 100]⟩
abbrev k__law_thing : Str := ⟨#[95, 108, 97, 119, 95, 116, 104, 105, 110, 103]⟩
abbrev k__law_there : Str := ⟨#[95, 108, 97, 119, 95, 116, 104, 101, 114, 101]⟩
abbrev k__law_bound_here : Str := ⟨#[95, 108, 97, 119, 95, 98, 111, 117, 110, 100, 95, 104, 101, 114, 101]⟩
abbrev k__law_called_here : Str := ⟨#[95, 108, 97, 119, 95, 99, 97, 108, 108, 101, 100, 95, 104, 101, 114, 101]⟩
abbrev k__law_last : Str := ⟨#[95, 108, 97, 119, 95, 108, 97, 115, 116]⟩
abbrev k__law_stays : Str := ⟨#[95, 108, 97, 119, 95, 115, 116, 97, 121, 115]⟩
abbrev k__law_left : Str := ⟨#[95, 108, 97, 119, 95, 108, 101, 102, 116]⟩
abbrev k__law_spot : Str := ⟨#[95, 108, 97, 119, 95, 115, 112, 111, 116]⟩
abbrev k__law_part : Str := ⟨#[95, 108, 97, 119, 95, 112, 97, 114, 116]⟩
abbrev k__law_calls : Str := ⟨#[95, 108, 97, 119, 95, 99, 97, 108, 108, 115]⟩
abbrev k__law_same : Str := ⟨#[95, 108, 97, 119, 95, 115, 97, 109, 101]⟩
abbrev k__law_fields : Str := ⟨#[95, 108, 97, 119, 95, 102, 105, 101, 108, 100, 115]⟩
abbrev k__law_second : Str := ⟨#[95, 108, 97, 119, 95, 115, 101, 99, 111, 110, 100]⟩
abbrev k__law_branches : Str := ⟨#[95, 108, 97, 119, 95, 98, 114, 97, 110, 99, 104, 101, 115]⟩
abbrev k__law_whole_here : Str := ⟨#[95, 108, 97, 119, 95, 119, 104, 111, 108, 101, 95, 104, 101, 114, 101]⟩
abbrev k__law_body : Str := ⟨#[95, 108, 97, 119, 95, 98, 111, 100, 121]⟩
abbrev k__law_again : Str := ⟨#[95, 108, 97, 119, 95, 97, 103, 97, 105, 110]⟩
abbrev k__law_pairs : Str := ⟨#[95, 108, 97, 119, 95, 112, 97, 105, 114, 115]⟩
abbrev k__law_ends : Str := ⟨#[95, 108, 97, 119, 95, 101, 110, 100, 115]⟩
abbrev k__law_less : Str := ⟨#[95, 108, 97, 119, 95, 108, 101, 115, 115]⟩
abbrev k__law_inner : Str := ⟨#[95, 108, 97, 119, 95, 105, 110, 110, 101, 114]⟩
abbrev k__law_sign : Str := ⟨#[95, 108, 97, 119, 95, 115, 105, 103, 110]⟩
abbrev k__law_members : Str := ⟨#[95, 108, 97, 119, 95, 109, 101, 109, 98, 101, 114, 115]⟩
abbrev k__law_other : Str := ⟨#[95, 108, 97, 119, 95, 111, 116, 104, 101, 114]⟩
abbrev k__law_term : Str := ⟨#[95, 108, 97, 119, 95, 116, 101, 114, 109]⟩
abbrev k__law_known : Str := ⟨#[95, 108, 97, 119, 95, 107, 110, 111, 119, 110]⟩
abbrev k__law_tools : Str := ⟨#[95, 108, 97, 119, 95, 116, 111, 111, 108, 115]⟩
abbrev k__law_kinds : Str := ⟨#[95, 108, 97, 119, 95, 107, 105, 110, 100, 115]⟩
abbrev k__law_table : Str := ⟨#[95, 108, 97, 119, 95, 116, 97, 98, 108, 101]⟩
abbrev k__law_kind_here : Str := ⟨#[95, 108, 97, 119, 95, 107, 105, 110, 100, 95, 104, 101, 114, 101]⟩
abbrev k__law_shape : Str := ⟨#[95, 108, 97, 119, 95, 115, 104, 97, 112, 101]⟩
abbrev k__law_name : Str := ⟨#[95, 108, 97, 119, 95, 110, 97, 109, 101]⟩
abbrev k__law_names : Str := ⟨#[95, 108, 97, 119, 95, 110, 97, 109, 101, 115]⟩
abbrev k__law_way : Str := ⟨#[95, 108, 97, 119, 95, 119, 97, 121]⟩
abbrev k__law_funs : Str := ⟨#[95, 108, 97, 119, 95, 102, 117, 110, 115]⟩
abbrev k__law_deep : Str := ⟨#[95, 108, 97, 119, 95, 100, 101, 101, 112]⟩
abbrev k__law_shapes_here : Str := ⟨#[95, 108, 97, 119, 95, 115, 104, 97, 112, 101, 115, 95, 104, 101, 114, 101]⟩
abbrev k__law_mark : Str := ⟨#[95, 108, 97, 119, 95, 109, 97, 114, 107]⟩
abbrev k__law_six : Str := ⟨#[95, 108, 97, 119, 95, 115, 105, 120]⟩
abbrev k__law_pair : Str := ⟨#[95, 108, 97, 119, 95, 112, 97, 105, 114]⟩
abbrev k__law_row : Str := ⟨#[95, 108, 97, 119, 95, 114, 111, 119]⟩
abbrev k__law_maybe : Str := ⟨#[95, 108, 97, 119, 95, 109, 97, 121, 98, 101]⟩
abbrev k__law_one : Str := ⟨#[95, 108, 97, 119, 95, 111, 110, 101]⟩
abbrev k__law_marks_here : Str := ⟨#[95, 108, 97, 119, 95, 109, 97, 114, 107, 115, 95, 104, 101, 114, 101]⟩
abbrev k__law_some : Str := ⟨#[95, 108, 97, 119, 95, 115, 111, 109, 101]⟩
abbrev k__law_word : Str := ⟨#[95, 108, 97, 119, 95, 119, 111, 114, 100]⟩
abbrev k__law_made : Str := ⟨#[95, 108, 97, 119, 95, 109, 97, 100, 101]⟩
abbrev k__law_odd : Str := ⟨#[95, 108, 97, 119, 95, 111, 100, 100]⟩
abbrev k__law_first : Str := ⟨#[95, 108, 97, 119, 95, 102, 105, 114, 115, 116]⟩
abbrev k__law_base : Str := ⟨#[95, 108, 97, 119, 95, 98, 97, 115, 101]⟩
abbrev k__law_letters : Str := ⟨#[95, 108, 97, 119, 95, 108, 101, 116, 116, 101, 114, 115]⟩
abbrev k__law_many : Str := ⟨#[95, 108, 97, 119, 95, 109, 97, 110, 121]⟩
abbrev k__law_at : Str := ⟨#[95, 108, 97, 119, 95, 97, 116]⟩
abbrev k__law_most : Str := ⟨#[95, 108, 97, 119, 95, 109, 111, 115, 116]⟩
abbrev k__law_source_here : Str := ⟨#[95, 108, 97, 119, 95, 115, 111, 117, 114, 99, 101, 95, 104, 101, 114, 101]⟩
abbrev k__law_cells : Str := ⟨#[95, 108, 97, 119, 95, 99, 101, 108, 108, 115]⟩
abbrev k__law_cell : Str := ⟨#[95, 108, 97, 119, 95, 99, 101, 108, 108]⟩
abbrev k__law_k : Str := ⟨#[95, 108, 97, 119, 95, 107]⟩
abbrev k__law_number : Str := ⟨#[95, 108, 97, 119, 95, 110, 117, 109, 98, 101, 114]⟩
abbrev k__law_script : Str := ⟨#[95, 108, 97, 119, 95, 115, 99, 114, 105, 112, 116]⟩
abbrev k_entry : Str := ⟨#[101, 110, 116, 114, 121]⟩
abbrev k_kinds : Str := ⟨#[107, 105, 110, 100, 115]⟩
abbrev k_at : Str := ⟨#[97, 116]⟩
abbrev k_fields : Str := ⟨#[102, 105, 101, 108, 100, 115]⟩
abbrev k_house : Str := ⟨#[104, 111, 117, 115, 101]⟩
abbrev k_aside : Str := ⟨#[97, 115, 105, 100, 101]⟩
abbrev k_known : Str := ⟨#[107, 110, 111, 119, 110]⟩
abbrev k_rules : Str := ⟨#[114, 117, 108, 101, 115]⟩
abbrev k_kind : Str := ⟨#[107, 105, 110, 100]⟩
abbrev k_deed : Str := ⟨#[100, 101, 101, 100]⟩
abbrev k_head : Str := ⟨#[104, 101, 97, 100]⟩
abbrev k_called : Str := ⟨#[99, 97, 108, 108, 101, 100]⟩
abbrev k_self : Str := ⟨#[115, 101, 108, 102]⟩
abbrev k_caught : Str := ⟨#[99, 97, 117, 103, 104, 116]⟩
abbrev k_other : Str := ⟨#[111, 116, 104, 101, 114]⟩
abbrev k_one : Str := ⟨#[111, 110, 101]⟩
abbrev k_some : Str := ⟨#[115, 111, 109, 101]⟩
abbrev k_barred : Str := ⟨#[98, 97, 114, 114, 101, 100]⟩
abbrev k_own : Str := ⟨#[111, 119, 110]⟩
abbrev k_branches : Str := ⟨#[98, 114, 97, 110, 99, 104, 101, 115]⟩
abbrev k_pairs : Str := ⟨#[112, 97, 105, 114, 115]⟩
abbrev k_news : Str := ⟨#[110, 101, 119, 115]⟩
abbrev k_letter : Str := ⟨#[108, 101, 116, 116, 101, 114]⟩
abbrev k_end : Str := ⟨#[101, 110, 100]⟩
abbrev k_longer : Str := ⟨#[108, 111, 110, 103, 101, 114]⟩
abbrev k_ends : Str := ⟨#[101, 110, 100, 115]⟩
abbrev k_many : Str := ⟨#[109, 97, 110, 121]⟩
abbrev k_taken : Str := ⟨#[116, 97, 107, 101, 110]⟩
abbrev k_found : Str := ⟨#[102, 111, 117, 110, 100]⟩
abbrev k_branch : Str := ⟨#[98, 114, 97, 110, 99, 104]⟩
abbrev k_pair : Str := ⟨#[112, 97, 105, 114]⟩
abbrev k_part : Str := ⟨#[112, 97, 114, 116]⟩
abbrev k_field : Str := ⟨#[102, 105, 101, 108, 100]⟩
abbrev k_parts : Str := ⟨#[112, 97, 114, 116, 115]⟩
abbrev k_inner : Str := ⟨#[105, 110, 110, 101, 114]⟩
abbrev k_word : Str := ⟨#[119, 111, 114, 100]⟩
abbrev k_term : Str := ⟨#[116, 101, 114, 109]⟩
abbrev k_thing : Str := ⟨#[116, 104, 105, 110, 103]⟩
abbrev k_sign : Str := ⟨#[115, 105, 103, 110]⟩
abbrev k_signs : Str := ⟨#[115, 105, 103, 110, 115]⟩
abbrev k_text : Str := ⟨#[116, 101, 120, 116]⟩
abbrev k_k : Str := ⟨#[107]⟩
abbrev k_shape_called : Str := ⟨#[115, 104, 97, 112, 101, 95, 99, 97, 108, 108, 101, 100]⟩
abbrev k_scheme_of : Str := ⟨#[115, 99, 104, 101, 109, 101, 95, 111, 102]⟩
abbrev k_class_called : Str := ⟨#[99, 108, 97, 115, 115, 95, 99, 97, 108, 108, 101, 100]⟩
abbrev k_class_by_deed : Str := ⟨#[99, 108, 97, 115, 115, 95, 98, 121, 95, 100, 101, 101, 100]⟩
abbrev k_fun : Str := ⟨#[102, 117, 110]⟩
abbrev k_get : Str := ⟨#[103, 101, 116]⟩
abbrev k_told : Str := ⟨#[116, 111, 108, 100]⟩
abbrev k_call : Str := ⟨#[99, 97, 108, 108]⟩
abbrev k_let : Str := ⟨#[108, 101, 116]⟩
abbrev k_if : Str := ⟨#[105, 102]⟩
abbrev k_put : Str := ⟨#[112, 117, 116]⟩
abbrev k_rec : Str := ⟨#[114, 101, 99]⟩
abbrev k_group : Str := ⟨#[103, 114, 111, 117, 112]⟩
abbrev k_match : Str := ⟨#[109, 97, 116, 99, 104]⟩
abbrev k_name : Str := ⟨#[110, 97, 109, 101]⟩
abbrev k_empty : Str := ⟨#[]⟩
abbrev k_LETTERS : Str := ⟨#[76, 69, 84, 84, 69, 82, 83]⟩
abbrev k_abcdefghijklmnopqrstuvwxyz : Str := ⟨#[97, 98, 99, 100, 101, 102, 103, 104, 105, 106, 107, 108, 109, 110, 111, 112, 113, 114, 115, 116, 117, 118, 119, 120, 121, 122]⟩
abbrev k_RECKONED : Str := ⟨#[82, 69, 67, 75, 79, 78, 69, 68]⟩
abbrev k_add : Str := ⟨#[97, 100, 100]⟩
abbrev k_sub : Str := ⟨#[115, 117, 98]⟩
abbrev k_less : Str := ⟨#[108, 101, 115, 115]⟩
abbrev k_class_told : Str := ⟨#[99, 108, 97, 115, 115, 95, 116, 111, 108, 100]⟩
abbrev k_world : Str := ⟨#[119, 111, 114, 108, 100]⟩
abbrev k_name_called : Str := ⟨#[110, 97, 109, 101, 95, 99, 97, 108, 108, 101, 100]⟩
abbrev k_classes : Str := ⟨#[99, 108, 97, 115, 115, 101, 115]⟩
abbrev k_house_for : Str := ⟨#[104, 111, 117, 115, 101, 95, 102, 111, 114]⟩
abbrev k_mark : Str := ⟨#[109, 97, 114, 107]⟩
abbrev k_num : Str := ⟨#[110, 117, 109]⟩
abbrev k_truth : Str := ⟨#[116, 114, 117, 116, 104]⟩
abbrev k_stays : Str := ⟨#[115, 116, 97, 121, 115]⟩
abbrev k_zzzzzz : Str := ⟨#[122, 122, 122, 122, 122, 122]⟩
abbrev k_shape_of : Str := ⟨#[115, 104, 97, 112, 101, 95, 111, 102]⟩
abbrev k_house_told : Str := ⟨#[104, 111, 117, 115, 101, 95, 116, 111, 108, 100]⟩
abbrev k_term_told : Str := ⟨#[116, 101, 114, 109, 95, 116, 111, 108, 100]⟩
abbrev k_fault : Str := ⟨#[102, 97, 117, 108, 116]⟩
abbrev k_shapes : Str := ⟨#[115, 104, 97, 112, 101, 115]⟩
abbrev k_houses : Str := ⟨#[104, 111, 117, 115, 101, 115]⟩
abbrev k_names : Str := ⟨#[110, 97, 109, 101, 115]⟩
abbrev k_NUM : Str := ⟨#[78, 85, 77]⟩
abbrev k_TRUTH : Str := ⟨#[84, 82, 85, 84, 72]⟩
abbrev k_open : Str := ⟨#[111, 112, 101, 110]⟩
abbrev k_given : Str := ⟨#[103, 105, 118, 101, 110]⟩
abbrev k_any : Str := ⟨#[97, 110, 121]⟩
abbrev k_q : Str := ⟨#[113]⟩
abbrev k_ABCDEFGHIJKL : Str := ⟨#[65, 66, 67, 68, 69, 70, 71, 72, 73, 74, 75, 76]⟩
abbrev k_a : Str := ⟨#[97]⟩
abbrev k_shape : Str := ⟨#[115, 104, 97, 112, 101]⟩
abbrev k_b : Str := ⟨#[98]⟩
abbrev k_c : Str := ⟨#[99]⟩
abbrev k_d : Str := ⟨#[100]⟩
abbrev k_e : Str := ⟨#[101]⟩
abbrev k_sum : Str := ⟨#[115, 117, 109]⟩
abbrev k_bcdef : Str := ⟨#[98, 99, 100, 101, 102]⟩
abbrev k_vwxy : Str := ⟨#[118, 119, 120, 121]⟩
abbrev i__wall : Nat := 0
abbrev i_all_in : Nat := 1
abbrev i_is_name : Nat := 2
abbrev i_parts_of : Nat := 3
abbrev i_with_parts : Nat := 4
abbrev i_bound_in : Nat := 5
abbrev i_free_names : Nat := 6
abbrev i_names_in : Nat := 7
abbrev i_new_names : Nat := 8
abbrev i_renamed : Nat := 9
abbrev i_all_renamed : Nat := 10
abbrev i_caught_by : Nat := 11
abbrev i_put_by : Nat := 12
abbrev i_put_for : Nat := 13
abbrev i_Rules_term_told : Nat := 14
abbrev i_Rules_class_told : Nat := 15
abbrev i_Rules_house_told : Nat := 16
abbrev i_Rules_stays : Nat := 17
abbrev i_WorldRules___init__ : Nat := 18
abbrev i_WorldRules_term_told : Nat := 19
abbrev i_WorldRules_class_told : Nat := 20
abbrev i_WorldRules_house_told : Nat := 21
abbrev i_mark_of : Nat := 22
abbrev i_is_group_value : Nat := 23
abbrev i_is_run_out : Nat := 24
abbrev i_parts_first : Nat := 25
abbrev i_names_aside : Nat := 26
abbrev i_put_all : Nat := 27
abbrev i_group_values : Nat := 28
abbrev i_fun_of_group : Nat := 29
abbrev i_reckoned : Nat := 30
abbrev i_head_of : Nat := 31
abbrev i_called_term : Nat := 32
abbrev i_matched_term : Nat := 33
abbrev i_field_term : Nat := 34
abbrev i_acted : Nat := 35
abbrev i_with_part : Nat := 36
abbrev i_next_part : Nat := 37
abbrev i_step_by : Nat := 38
abbrev i_step : Nat := 39
abbrev i_World___init__ : Nat := 40
abbrev i_World_shape_of : Nat := 41
abbrev i_World_shape_called : Nat := 42
abbrev i_World_class_called : Nat := 43
abbrev i_World_class_by_deed : Nat := 44
abbrev i_World_house_for : Nat := 45
abbrev i_World_name_called : Nat := 46
abbrev i_World_scheme_of : Nat := 47
abbrev i_of_two_numbers : Nat := 48
abbrev i_least_world : Nat := 49
abbrev i__law_source : Nat := 50
abbrev i__law_draw : Nat := 51
abbrev i__law_words : Nat := 52
abbrev i__law_shapes : Nat := 53
abbrev i__law_kind : Nat := 54
abbrev i__law_kind_by : Nat := 55
abbrev i__law_mark_kinds : Nat := 56
abbrev i__law_marked : Nat := 57
abbrev i__law_plain : Nat := 58
abbrev i__law_counted : Nat := 59
abbrev i__law_branched : Nat := 60
abbrev i__law_bound : Nat := 61
abbrev i__law_field : Nat := 62
abbrev i__law_make : Nat := 63
abbrev i__law_parts : Nat := 64
abbrev i__law_with : Nat := 65
abbrev i__law_put : Nat := 66
abbrev i__law_but : Nat := 67
abbrev i__law_marks : Nat := 68
abbrev i__law_done : Nat := 69
abbrev i__law_whole : Nat := 70
abbrev i__law_called : Nat := 71
abbrev i__law_acted : Nat := 72
abbrev i__law_step : Nat := 73
abbrev i__law_size : Nat := 74
abbrev i__law_sums_right : Nat := 75
abbrev i_law : Nat := 76
def d__wall : Def := ⟨1, 1, false, (.cons (.whl 1000 (.bl true) (.cons .pass .nil)) .nil)⟩
def d_all_in : Def := ⟨2, 3, false, (.cons (.ret (.bif .all (.lc (.cmp .inn (.var 2) (.var 1)) (.var 2) (.plain (.var 0)) .nil [2]))) .nil)⟩
def d_parts_of : Def := ⟨1, 6, false, (.cons (.asg 1 (.idx (.var 0) (.int 0))) (.cons (.ifs (.cmp .inn (.var 1) (.tup (.cons (.str k_fun) (.cons (.str k_get) (.cons (.str k_told) .nil))))) (.cons (.ret (.tup (.cons (.idx (.var 0) (.bop .sub (.int 2) (.bif .int (.cmp .ne (.var 1) (.str k_fun))))) .nil))) .nil) .nil) (.cons (.ifs (.or (.cmp .eq (.var 1) (.str k_call)) (.cmp .eq (.var 1) (.str k_let))) (.cons (.ret (.slcL (.var 0) (.neg (.int 2)))) .nil) .nil) (.cons (.ifs (.cmp .eq (.var 1) (.str k_if)) (.cons (.ret (.slcL (.var 0) (.int 1))) .nil) .nil) (.cons (.ifs (.cmp .eq (.var 1) (.str k_put)) (.cons (.ret (.tup (.cons (.idx (.var 0) (.int 1)) (.cons (.idx (.var 0) (.int 3)) .nil)))) .nil) .nil) (.cons (.ifs (.cmp .eq (.var 1) (.str k_rec)) (.cons (.ret (.bif .tuple (.lc (.var 3) (.tup [2, 3]) (.plain (.idx (.var 0) (.int 1))) .nil [2, 3]))) .nil) .nil) (.cons (.ifs (.cmp .eq (.var 1) (.str k_group)) (.cons (.ret (.bop .add (.bif .tuple (.lc (.var 3) (.tup [2, 3]) (.plain (.idx (.var 0) (.int 1))) .nil [2, 3])) (.tup (.cons (.idx (.var 0) (.int 2)) .nil)))) .nil) .nil) (.cons (.ifs (.cmp .eq (.var 1) (.str k_match)) (.cons (.ret (.bop .add (.tup (.cons (.idx (.var 0) (.int 1)) .nil)) (.bif .tuple (.lc (.var 3) (.tup [4, 5, 3]) (.plain (.idx (.var 0) (.int 2))) .nil [4, 5, 3])))) .nil) .nil) (.cons (.ret (.tup .nil)) .nil)))))))))⟩
def d_with_parts : Def := ⟨2, 7, false, (.cons (.asg 2 (.idx (.var 0) (.int 0))) (.cons (.ifs (.cmp .eq (.var 2) (.str k_fun)) (.cons (.ret (.tup (.cons (.str k_fun) (.cons (.idx (.var 0) (.int 1)) (.cons (.idx (.var 1) (.int 0)) .nil))))) .nil) .nil) (.cons (.ifs (.or (.cmp .eq (.var 2) (.str k_get)) (.cmp .eq (.var 2) (.str k_told))) (.cons (.ret (.tup (.cons (.var 2) (.cons (.idx (.var 1) (.int 0)) (.cons (.idx (.var 0) (.int 2)) .nil))))) .nil) .nil) (.cons (.ifs (.or (.cmp .eq (.var 2) (.str k_call)) (.cmp .eq (.var 2) (.str k_if))) (.cons (.ret (.bop .add (.tup (.cons (.var 2) .nil)) (.var 1))) .nil) .nil) (.cons (.ifs (.cmp .eq (.var 2) (.str k_let)) (.cons (.ret (.bop .add (.tup (.cons (.str k_let) (.cons (.idx (.var 0) (.int 1)) .nil))) (.var 1))) .nil) .nil) (.cons (.ifs (.cmp .eq (.var 2) (.str k_put)) (.cons (.ret (.tup (.cons (.str k_put) (.cons (.idx (.var 1) (.int 0)) (.cons (.idx (.var 0) (.int 2)) (.cons (.idx (.var 1) (.int 1)) .nil)))))) .nil) .nil) (.cons (.ifs (.cmp .eq (.var 2) (.str k_rec)) (.cons (.ret (.tup (.cons (.str k_rec) (.cons (.bif .tuple (.lc (.tup (.cons (.idx (.var 3) (.int 0)) (.cons (.var 4) .nil))) (.tup [3, 4]) (.zip (.idx (.var 0) (.int 1)) (.var 1)) .nil [3, 4])) .nil)))) .nil) .nil) (.cons (.ifs (.cmp .eq (.var 2) (.str k_group)) (.cons (.ret (.tup (.cons (.str k_group) (.cons (.bif .tuple (.lc (.tup (.cons (.idx (.var 5) (.int 0)) (.cons (.var 4) .nil))) (.tup [5, 4]) (.zip (.idx (.var 0) (.int 1)) (.var 1)) .nil [5, 4])) (.cons (.idx (.var 1) (.neg (.int 1))) .nil))))) .nil) .nil) (.cons (.ifs (.cmp .eq (.var 2) (.str k_match)) (.cons (.ret (.tup (.cons (.str k_match) (.cons (.idx (.var 1) (.int 0)) (.cons (.bif .tuple (.lc (.bop .add (.slcH (.var 6) (.int 2)) (.tup (.cons (.var 4) .nil))) (.tup [6, 4]) (.zip (.idx (.var 0) (.int 2)) (.slcL (.var 1) (.int 1))) .nil [6, 4])) .nil))))) .nil) .nil) (.cons (.ret (.var 0)) .nil))))))))))⟩
def d_bound_in : Def := ⟨1, 5, false, (.cons (.ifs (.cmp .eq (.idx (.var 0) (.int 0)) (.str k_fun)) (.cons (.ret (.lst (.cons (.tup (.cons (.idx (.var 0) (.int 1)) .nil)) .nil))) .nil) .nil) (.cons (.ifs (.cmp .eq (.idx (.var 0) (.int 0)) (.str k_let)) (.cons (.ret (.lst (.cons (.tup .nil) (.cons (.tup (.cons (.idx (.var 0) (.int 1)) .nil)) .nil)))) .nil) .nil) (.cons (.ifs (.cmp .eq (.idx (.var 0) (.int 0)) (.str k_group)) (.cons (.ret (.bop .mul (.lst (.cons (.bif .tuple (.lc (.var 1) (.tup [1, 2]) (.plain (.idx (.var 0) (.int 1))) .nil [1, 2])) .nil)) (.bop .add (.bif .len (.idx (.var 0) (.int 1))) (.int 1)))) .nil) .nil) (.cons (.ifs (.cmp .eq (.idx (.var 0) (.int 0)) (.str k_match)) (.cons (.ret (.bop .add (.lst (.cons (.tup .nil) .nil)) (.lc (.var 4) (.tup [3, 4, 2]) (.plain (.idx (.var 0) (.int 2))) .nil [3, 4, 2]))) .nil) .nil) (.cons (.ret (.bop .mul (.lst (.cons (.tup .nil) .nil)) (.bif .len (.call i_parts_of (.cons (.var 0) .nil))))) .nil)))))⟩
def d_free_names : Def := ⟨1, 5, false, (.cons (.ifs (.cmp .eq (.idx (.var 0) (.int 0)) (.str k_name)) (.cons (.ret (.tup (.cons (.idx (.var 0) (.int 1)) .nil))) .nil) .nil) (.cons (.asg 1 (.dsp .nil)) (.cons (.fors (.tup [2, 3]) (.zip (.call i_parts_of (.cons (.var 0) .nil)) (.call i_bound_in (.cons (.var 0) .nil))) (.cons (.fors (.var 4) (.plain (.call i_free_names (.cons (.var 2) .nil))) (.cons (.ifs (.cmp .nin (.var 4) (.var 3)) (.cons (.setI 1 (.var 4) (.bl true)) .nil) .nil) .nil)) .nil)) (.cons (.ret (.bif .tuple (.var 1))) .nil))))⟩
def d_names_in : Def := ⟨1, 4, false, (.cons (.asg 1 (.lst .nil)) (.cons (.ifs (.cmp .eq (.idx (.var 0) (.int 0)) (.str k_name)) (.cons (.app 1 (.idx (.var 0) (.int 1))) .nil) .nil) (.cons (.fors (.tup [2, 3]) (.zip (.call i_parts_of (.cons (.var 0) .nil)) (.call i_bound_in (.cons (.var 0) .nil))) (.cons (.ext 1 (.var 3)) (.cons (.ext 1 (.call i_names_in (.cons (.var 2) .nil))) .nil))) (.cons (.retO 1) .nil))))⟩
def d_new_names : Def := ⟨2, 8, false, (.cons (.asg 2 (.lst .nil)) (.cons (.asg 3 (.lst (.cons (.str k_empty) .nil))) (.cons (.frz 3) (.cons (.whl 1000 (.cmp .lt (.bif .len (.var 2)) (.var 1)) (.cons (.asg 4 (.lst .nil)) (.cons (.fors (.var 5) (.plain (.var 3)) (.cons (.ext 4 (.lc (.bop .add (.var 5) (.var 6)) (.var 6) (.plain (.cst k_LETTERS (.str k_abcdefghijklmnopqrstuvwxyz))) .nil [6])) .nil)) (.cons (.frz 4) (.cons (.ext 2 (.lc (.var 7) (.var 7) (.plain (.var 4)) (.cons (.and (.call i_is_name (.cons (.var 7) .nil)) (.cmp .nin (.var 7) (.var 0))) .nil) [7])) (.cons (.frz 4) (.cons (.asg 3 (.var 4)) .nil))))))) (.cons (.ret (.slcH (.var 2) (.var 1))) .nil)))))⟩
def d_renamed : Def := ⟨2, 10, false, (.cons (.asg 2 (.idx (.var 0) (.int 0))) (.cons (.ifs (.cmp .eq (.var 2) (.str k_fun)) (.cons (.ret (.tup (.cons (.str k_fun) (.cons (.idx (.var 1) (.idx (.var 0) (.int 1))) (.cons (.call i_all_renamed (.cons (.idx (.var 0) (.int 2)) (.cons (.var 1) .nil))) .nil))))) .nil) .nil) (.cons (.ifs (.cmp .eq (.var 2) (.str k_let)) (.cons (.ret (.tup (.cons (.str k_let) (.cons (.idx (.var 1) (.idx (.var 0) (.int 1))) (.cons (.idx (.var 0) (.int 2)) (.cons (.call i_all_renamed (.cons (.idx (.var 0) (.int 3)) (.cons (.var 1) .nil))) .nil)))))) .nil) .nil) (.cons (.ifs (.cmp .eq (.var 2) (.str k_group)) (.cons (.asg 3 (.lc (.tup (.cons (.get2 (.var 1) (.var 4) (.var 4)) (.cons (.call i_all_renamed (.cons (.var 5) (.cons (.var 1) .nil))) .nil))) (.tup [4, 5]) (.plain (.idx (.var 0) (.int 1))) .nil [4, 5])) (.cons (.frz 3) (.cons (.ret (.tup (.cons (.str k_group) (.cons (.bif .tuple (.var 3)) (.cons (.call i_all_renamed (.cons (.idx (.var 0) (.int 2)) (.cons (.var 1) .nil))) .nil))))) .nil))) .nil) (.cons (.asg 6 (.lst .nil)) (.cons (.fors (.tup [7, 8, 5]) (.plain (.idx (.var 0) (.int 2))) (.cons (.asg 9 (.dsp .nil)) (.cons (.fors (.var 4) (.plain (.var 8)) (.cons (.ifs (.cmp .inn (.var 4) (.var 1)) (.cons (.setI 9 (.var 4) (.idx (.var 1) (.var 4))) .nil) .nil) .nil)) (.cons (.frz 9) (.cons (.app 6 (.tup (.cons (.var 7) (.cons (.bif .tuple (.lc (.get2 (.var 9) (.var 4) (.var 4)) (.var 4) (.plain (.var 8)) .nil [4])) (.cons (.call i_all_renamed (.cons (.var 5) (.cons (.var 9) .nil))) .nil))))) .nil))))) (.cons (.ret (.tup (.cons (.str k_match) (.cons (.idx (.var 0) (.int 1)) (.cons (.bif .tuple (.var 6)) .nil))))) .nil)))))))⟩
def d_all_renamed : Def := ⟨2, 3, false, (.cons (.fors (.var 2) (.plain (.var 1)) (.cons (.asg 0 (.call i_put_for (.cons (.var 0) (.cons (.var 2) (.cons (.tup (.cons (.str k_name) (.cons (.idx (.var 1) (.var 2)) .nil))) .nil))))) (.cons (.frz 0) .nil))) (.cons (.ret (.var 0)) .nil))⟩
def d_caught_by : Def := ⟨3, 8, false, (.cons (.asg 3 (.lst .nil)) (.cons (.fors (.tup [4, 5]) (.zip (.call i_parts_of (.cons (.var 0) .nil)) (.call i_bound_in (.cons (.var 0) .nil))) (.cons (.asg 6 (.lc (.var 7) (.var 7) (.plain (.var 5)) (.cons (.and (.cmp .inn (.var 7) (.var 2)) (.cmp .nin (.var 7) (.var 3))) .nil) [7])) (.cons (.frz 6) (.cons (.ifs (.and (.cmp .ne (.var 6) (.lst .nil)) (.and (.cmp .nin (.var 1) (.var 5)) (.cmp .inn (.var 1) (.call i_free_names (.cons (.var 4) .nil))))) (.cons (.ext 3 (.var 6)) .nil) .nil) .nil)))) (.cons (.retO 3) .nil)))⟩
def d_put_by : Def := ⟨4, 9, false, (.cons (.ifs (.cmp .eq (.idx (.var 0) (.int 0)) (.str k_name)) (.cons (.ifs (.cmp .eq (.idx (.var 0) (.int 1)) (.var 1)) (.cons (.ret (.var 2)) .nil) .nil) (.cons (.ret (.var 0)) .nil)) .nil) (.cons (.asg 4 (.call i_caught_by (.cons (.var 0) (.cons (.var 1) (.cons (.var 3) .nil))))) (.cons (.frz 4) (.cons (.ifs (.cmp .ne (.var 4) (.lst .nil)) (.cons (.asg 5 (.bop .add (.bop .add (.call i_names_in (.cons (.var 0) .nil)) (.call i_names_in (.cons (.var 2) .nil))) (.lst (.cons (.var 1) .nil)))) (.cons (.frz 5) (.cons (.asg 0 (.call i_renamed (.cons (.var 0) (.cons (.dzip (.var 4) (.call i_new_names (.cons (.var 5) (.cons (.bif .len (.var 4)) .nil)))) .nil)))) (.cons (.frz 0) .nil)))) .nil) (.cons (.asg 6 (.lst .nil)) (.cons (.fors (.tup [7, 8]) (.zip (.call i_parts_of (.cons (.var 0) .nil)) (.call i_bound_in (.cons (.var 0) .nil))) (.cons (.ifs (.cmp .nin (.var 1) (.var 8)) (.cons (.asg 7 (.call i_put_by (.cons (.var 7) (.cons (.var 1) (.cons (.var 2) (.cons (.var 3) .nil)))))) (.cons (.frz 7) .nil)) .nil) (.cons (.app 6 (.var 7)) .nil))) (.cons (.ret (.call i_with_parts (.cons (.var 0) (.cons (.bif .tuple (.var 6)) .nil)))) .nil)))))))⟩
def d_put_for : Def := ⟨3, 3, false, (.cons (.ret (.call i_put_by (.cons (.var 0) (.cons (.var 1) (.cons (.var 2) (.cons (.call i_free_names (.cons (.var 2) .nil)) .nil)))))) .nil)⟩
def d_Rules_term_told : Def := ⟨2, 2, false, (.cons (.ret .non) .nil)⟩
def d_Rules_class_told : Def := ⟨2, 2, false, (.cons (.ret .non) .nil)⟩
def d_Rules_house_told : Def := ⟨3, 3, false, (.cons (.ret .non) .nil)⟩
def d_Rules_stays : Def := ⟨2, 2, false, (.cons (.ret (.or (.cmp .inn (.var 1) (.cst k_RECKONED (.tup [.str k_add, .str k_sub, .str k_less]))) (.notN (.meth (.var 0) k_class_told (.cons (.var 1) .nil))))) .nil)⟩
def d_WorldRules___init__ : Def := ⟨2, 2, true, (.cons (.fldS k_world (.var 1)) .nil)⟩
def d_WorldRules_term_told : Def := ⟨2, 3, false, (.cons (.asg 2 (.meth (.fld (.var 0) k_world) k_name_called (.cons (.var 1) .nil))) (.cons (.frz 2) (.cons (.ifs (.isN (.var 2)) (.cons (.ret .non) .nil) .nil) (.cons (.ret (.idx (.var 2) (.int 2))) .nil))))⟩
def d_WorldRules_class_told : Def := ⟨2, 5, false, (.cons (.fors (.tup [2, 3, 4]) (.plain (.fld (.fld (.var 0) k_world) k_classes)) (.cons (.ifs (.cmp .eq (.var 3) (.var 1)) (.cons (.ret (.var 2)) .nil) .nil) .nil)) (.cons (.ret .non) .nil))⟩
def d_WorldRules_house_told : Def := ⟨3, 4, false, (.cons (.asg 3 (.meth (.fld (.var 0) k_world) k_house_for (.cons (.var 1) (.cons (.var 2) .nil)))) (.cons (.frz 3) (.cons (.ifs (.isN (.var 3)) (.cons (.ret .non) .nil) .nil) (.cons (.ret (.idx (.var 3) (.int 3))) .nil))))⟩
def d_mark_of : Def := ⟨1, 2, false, (.cons (.asg 1 (.lst .nil)) (.cons (.whl 1000 (.cmp .eq (.idx (.var 0) (.int 0)) (.str k_call)) (.cons (.ins 1 (.int 0) (.idx (.var 0) (.int 2))) (.cons (.asg 0 (.idx (.var 0) (.int 1))) .nil))) (.cons (.ifs (.cmp .ne (.idx (.var 0) (.int 0)) (.str k_mark)) (.cons (.ret .non) .nil) .nil) (.cons (.frz 1) (.cons (.ret (.tup (.cons (.idx (.var 0) (.int 1)) (.cons (.var 1) .nil)))) .nil)))))⟩
def d_is_group_value : Def := ⟨1, 3, false, (.cons (.ifs (.or (.cmp .ne (.idx (.var 0) (.int 0)) (.str k_group)) (.cmp .ne (.idx (.idx (.var 0) (.int 2)) (.int 0)) (.str k_name))) (.cons (.ret (.bl false)) .nil) .nil) (.cons (.ret (.cmp .inn (.idx (.idx (.var 0) (.int 2)) (.int 1)) (.lc (.var 1) (.tup [1, 2]) (.plain (.idx (.var 0) (.int 1))) .nil [1, 2]))) .nil))⟩
def d_is_run_out : Def := ⟨2, 5, false, (.cons (.asg 2 (.idx (.var 1) (.int 0))) (.cons (.ifs (.cmp .inn (.var 2) (.tup (.cons (.str k_num) (.cons (.str k_truth) (.cons (.str k_mark) (.cons (.str k_fun) .nil)))))) (.cons (.ret (.bl true)) .nil) .nil) (.cons (.ifs (.cmp .eq (.var 2) (.str k_name)) (.cons (.ret (.meth (.var 0) k_stays (.cons (.idx (.var 1) (.int 1)) .nil))) .nil) .nil) (.cons (.ifs (.cmp .eq (.var 2) (.str k_rec)) (.cons (.ret (.bif .all (.lc (.call i_is_run_out (.cons (.var 0) (.cons (.var 4) .nil))) (.tup [3, 4]) (.plain (.idx (.var 1) (.int 1))) .nil [3, 4]))) .nil) .nil) (.cons (.ifs (.cmp .ne (.var 2) (.str k_call)) (.cons (.ret (.call i_is_group_value (.cons (.var 1) .nil))) .nil) .nil) (.cons (.ifs (.cmp .eq (.idx (.idx (.var 1) (.int 1)) (.int 0)) (.str k_name)) (.cons (.ret (.and (.cmp .inn (.idx (.idx (.var 1) (.int 1)) (.int 1)) (.cst k_RECKONED (.tup [.str k_add, .str k_sub, .str k_less]))) (.cmp .eq (.idx (.idx (.var 1) (.int 2)) (.int 0)) (.str k_num)))) .nil) .nil) (.cons (.ifs (.isN (.call i_mark_of (.cons (.var 1) .nil))) (.cons (.ret (.bl false)) .nil) .nil) (.cons (.ret (.and (.call i_is_run_out (.cons (.var 0) (.cons (.idx (.var 1) (.int 1)) .nil))) (.call i_is_run_out (.cons (.var 0) (.cons (.idx (.var 1) (.int 2)) .nil))))) .nil))))))))⟩
def d_parts_first : Def := ⟨1, 2, false, (.cons (.asg 1 (.idx (.var 0) (.int 0))) (.cons (.ifs (.cmp .eq (.var 1) (.str k_rec)) (.cons (.ret (.bif .len (.idx (.var 0) (.int 1)))) .nil) .nil) (.cons (.ifs (.cmp .inn (.var 1) (.tup (.cons (.str k_call) (.cons (.str k_put) .nil)))) (.cons (.ret (.int 2)) .nil) .nil) (.cons (.ifs (.cmp .inn (.var 1) (.tup (.cons (.str k_let) (.cons (.str k_if) (.cons (.str k_get) (.cons (.str k_match) (.cons (.str k_told) .nil))))))) (.cons (.ret (.int 1)) .nil) .nil) (.cons (.ret (.int 0)) .nil)))))⟩
def d_names_aside : Def := ⟨2, 6, false, (.cons (.asg 2 (.lst .nil)) (.cons (.fors (.var 3) (.plain (.cst k_LETTERS (.str k_abcdefghijklmnopqrstuvwxyz))) (.cons (.ext 2 (.lc (.bop .add (.bop .add (.str k_zzzzzz) (.var 3)) (.var 4)) (.var 4) (.plain (.cst k_LETTERS (.str k_abcdefghijklmnopqrstuvwxyz))) .nil [4])) .nil)) (.cons (.frz 2) (.cons (.ret (.slcH (.lc (.var 5) (.var 5) (.plain (.var 2)) (.cons (.cmp .nin (.var 5) (.var 0)) .nil) [5]) (.var 1))) .nil))))⟩
def d_put_all : Def := ⟨2, 8, false, (.cons (.ifs (.cmp .eq (.bif .len (.var 1)) (.int 1)) (.cons (.ret (.call i_put_for (.cons (.var 0) (.cons (.idx (.idx (.var 1) (.int 0)) (.int 0)) (.cons (.idx (.idx (.var 1) (.int 0)) (.int 1)) .nil))))) .nil) .nil) (.cons (.asg 2 (.call i_names_in (.cons (.var 0) .nil))) (.cons (.fors (.tup [3, 4]) (.plain (.var 1)) (.cons (.ext 2 (.bop .add (.lst (.cons (.var 3) .nil)) (.call i_names_in (.cons (.var 4) .nil)))) .nil)) (.cons (.frz 2) (.cons (.asg 5 (.call i_names_aside (.cons (.var 2) (.cons (.bif .len (.var 1)) .nil)))) (.cons (.frz 5) (.cons (.fors (.tup [6, 7]) (.zip (.var 1) (.var 5)) (.cons (.asg 0 (.call i_put_for (.cons (.var 0) (.cons (.idx (.var 6) (.int 0)) (.cons (.tup (.cons (.str k_name) (.cons (.var 7) .nil))) .nil))))) (.cons (.frz 0) .nil))) (.cons (.fors (.tup [6, 7]) (.zip (.var 1) (.var 5)) (.cons (.asg 0 (.call i_put_for (.cons (.var 0) (.cons (.var 7) (.cons (.idx (.var 6) (.int 1)) .nil))))) (.cons (.frz 0) .nil))) (.cons (.ret (.var 0)) .nil)))))))))⟩
def d_group_values : Def := ⟨1, 3, false, (.cons (.ret (.lc (.tup (.cons (.var 1) (.cons (.tup (.cons (.str k_group) (.cons (.var 0) (.cons (.tup (.cons (.str k_name) (.cons (.var 1) .nil))) .nil)))) .nil))) (.tup [1, 2]) (.plain (.var 0)) .nil [1, 2])) .nil)⟩
def d_fun_of_group : Def := ⟨1, 1, false, (.cons (.ret (.call i_put_all (.cons (.idx (.bif .dict (.idx (.var 0) (.int 1))) (.idx (.idx (.var 0) (.int 2)) (.int 1))) (.cons (.call i_group_values (.cons (.idx (.var 0) (.int 1)) .nil)) .nil)))) .nil)⟩
def d_reckoned : Def := ⟨3, 3, false, (.cons (.ifs (.cmp .eq (.var 0) (.str k_add)) (.cons (.ret (.tup (.cons (.str k_num) (.cons (.bop .add (.var 1) (.var 2)) .nil)))) .nil) .nil) (.cons (.ifs (.cmp .eq (.var 0) (.str k_sub)) (.cons (.ret (.tup (.cons (.str k_num) (.cons (.bop .sub (.var 1) (.var 2)) .nil)))) .nil) .nil) (.cons (.ret (.tup (.cons (.str k_truth) (.cons (.cmp .lt (.var 1) (.var 2)) .nil)))) .nil)))⟩
def d_head_of : Def := ⟨2, 4, false, (.cons (.ifs (.cmp .inn (.idx (.var 1) (.int 0)) (.tup (.cons (.str k_num) (.cons (.str k_truth) .nil)))) (.cons (.ret (.idx (.var 1) (.int 0))) .nil) .nil) (.cons (.asg 2 (.call i_mark_of (.cons (.var 1) .nil))) (.cons (.frz 2) (.cons (.ifs (.isN (.var 2)) (.cons (.ret .non) .nil) .nil) (.cons (.asg 3 (.meth (.fld (.var 0) k_world) k_shape_of (.cons (.idx (.var 2) (.int 0)) .nil))) (.cons (.frz 3) (.cons (.ifs (.isN (.var 3)) (.cons (.ret .non) .nil) .nil) (.cons (.ret (.idx (.var 3) (.int 0))) .nil))))))))⟩
def d_called_term : Def := ⟨3, 4, false, (.cons (.ifs (.cmp .eq (.idx (.var 1) (.int 0)) (.str k_fun)) (.cons (.ret (.call i_put_for (.cons (.idx (.var 1) (.int 2)) (.cons (.idx (.var 1) (.int 1)) (.cons (.var 2) .nil))))) .nil) .nil) (.cons (.ifs (.cmp .eq (.idx (.var 1) (.int 0)) (.str k_group)) (.cons (.ret (.tup (.cons (.str k_call) (.cons (.call i_fun_of_group (.cons (.var 1) .nil)) (.cons (.var 2) .nil))))) .nil) .nil) (.cons (.ifs (.and (.cmp .eq (.idx (.var 1) (.int 0)) (.str k_name)) (.notN (.meth (.var 0) k_class_told (.cons (.idx (.var 1) (.int 1)) .nil)))) (.cons (.asg 3 (.meth (.var 0) k_house_told (.cons (.meth (.var 0) k_class_told (.cons (.idx (.var 1) (.int 1)) .nil)) (.cons (.call i_head_of (.cons (.var 0) (.cons (.var 2) .nil))) .nil)))) (.cons (.frz 3) (.cons (.ifs (.isN (.var 3)) (.cons (.ret .non) .nil) .nil) (.cons (.ret (.tup (.cons (.str k_call) (.cons (.var 3) (.cons (.var 2) .nil))))) .nil)))) .nil) (.cons (.ifs (.and (.cmp .eq (.idx (.var 1) (.int 0)) (.str k_call)) (.and (.cmp .eq (.idx (.idx (.var 1) (.int 1)) (.int 0)) (.str k_name)) (.cmp .eq (.idx (.var 2) (.int 0)) (.str k_num)))) (.cons (.ret (.call i_reckoned (.cons (.idx (.idx (.var 1) (.int 1)) (.int 1)) (.cons (.idx (.idx (.var 1) (.int 2)) (.int 1)) (.cons (.idx (.var 2) (.int 1)) .nil))))) .nil) .nil) (.cons (.ret .non) .nil)))))⟩
def d_matched_term : Def := ⟨1, 5, false, (.cons (.asg 1 (.call i_mark_of (.cons (.idx (.var 0) (.int 1)) .nil))) (.cons (.frz 1) (.cons (.ifs (.isN (.var 1)) (.cons (.ret .non) .nil) .nil) (.cons (.fors (.tup [2, 3, 4]) (.plain (.idx (.var 0) (.int 2))) (.cons (.ifs (.and (.cmp .eq (.var 2) (.idx (.var 1) (.int 0))) (.cmp .eq (.bif .len (.var 3)) (.bif .len (.idx (.var 1) (.int 1))))) (.cons (.ret (.call i_put_all (.cons (.var 4) (.cons (.lzip (.var 3) (.idx (.var 1) (.int 1))) .nil)))) .nil) .nil) .nil)) (.cons (.ret .non) .nil)))))⟩
def d_field_term : Def := ⟨1, 4, false, (.cons (.ifs (.cmp .ne (.idx (.idx (.var 0) (.int 1)) (.int 0)) (.str k_rec)) (.cons (.ret .non) .nil) .nil) (.cons (.asg 1 (.bif .dict (.idx (.idx (.var 0) (.int 1)) (.int 1)))) (.cons (.ifs (.cmp .nin (.idx (.var 0) (.int 2)) (.var 1)) (.cons (.ret .non) .nil) .nil) (.cons (.ifs (.cmp .eq (.idx (.var 0) (.int 0)) (.str k_get)) (.cons (.ret (.idx (.var 1) (.idx (.var 0) (.int 2)))) .nil) .nil) (.cons (.setI 1 (.idx (.var 0) (.int 2)) (.idx (.var 0) (.int 3))) (.cons (.ret (.tup (.cons (.str k_rec) (.cons (.bif .tuple (.lc (.tup (.cons (.var 2) (.cons (.idx (.var 1) (.var 2)) .nil))) (.tup [2, 3]) (.plain (.idx (.idx (.var 0) (.int 1)) (.int 1))) .nil [2, 3])) .nil)))) .nil))))))⟩
def d_acted : Def := ⟨2, 3, false, (.cons (.asg 2 (.idx (.var 1) (.int 0))) (.cons (.ifs (.cmp .eq (.var 2) (.str k_name)) (.cons (.ret (.meth (.var 0) k_term_told (.cons (.idx (.var 1) (.int 1)) .nil))) .nil) .nil) (.cons (.ifs (.cmp .eq (.var 2) (.str k_call)) (.cons (.ret (.call i_called_term (.cons (.var 0) (.cons (.idx (.var 1) (.int 1)) (.cons (.idx (.var 1) (.int 2)) .nil))))) .nil) .nil) (.cons (.ifs (.cmp .eq (.var 2) (.str k_let)) (.cons (.ret (.call i_put_for (.cons (.idx (.var 1) (.int 3)) (.cons (.idx (.var 1) (.int 1)) (.cons (.idx (.var 1) (.int 2)) .nil))))) .nil) .nil) (.cons (.ifs (.cmp .eq (.var 2) (.str k_group)) (.cons (.ret (.call i_put_all (.cons (.idx (.var 1) (.int 2)) (.cons (.call i_group_values (.cons (.idx (.var 1) (.int 1)) .nil)) .nil)))) .nil) .nil) (.cons (.ifs (.and (.cmp .eq (.var 2) (.str k_if)) (.cmp .eq (.idx (.idx (.var 1) (.int 1)) (.int 0)) (.str k_truth))) (.cons (.ret (.idx (.var 1) (.bop .add (.int 2) (.bif .int (.not (.idx (.idx (.var 1) (.int 1)) (.int 1))))))) .nil) .nil) (.cons (.ifs (.cmp .inn (.var 2) (.tup (.cons (.str k_get) (.cons (.str k_put) .nil)))) (.cons (.ret (.call i_field_term (.cons (.var 1) .nil))) .nil) .nil) (.cons (.ifs (.cmp .eq (.var 2) (.str k_match)) (.cons (.ret (.call i_matched_term (.cons (.var 1) .nil))) .nil) .nil) (.cons (.ifs (.cmp .eq (.var 2) (.str k_told)) (.cons (.ret (.idx (.var 1) (.int 1))) .nil) .nil) (.cons (.ret .non) .nil))))))))))⟩
def d_with_part : Def := ⟨3, 4, false, (.cons (.asg 3 (.bif .list (.call i_parts_of (.cons (.var 0) .nil)))) (.cons (.setI 3 (.var 1) (.var 2)) (.cons (.ret (.call i_with_parts (.cons (.var 0) (.cons (.bif .tuple (.var 3)) .nil)))) .nil)))⟩
def d_next_part : Def := ⟨2, 4, false, (.cons (.fors (.tup [2, 3]) (.enum (.slcH (.call i_parts_of (.cons (.var 1) .nil)) (.call i_parts_first (.cons (.var 1) .nil)))) (.cons (.ifs (.not (.call i_is_run_out (.cons (.var 0) (.cons (.var 3) .nil)))) (.cons (.ret (.var 2)) .nil) .nil) .nil)) (.cons (.ret .non) .nil))⟩
def d_step_by : Def := ⟨2, 4, false, (.cons (.ifs (.call i_is_run_out (.cons (.var 0) (.cons (.var 1) .nil))) (.cons (.ret .non) .nil) .nil) (.cons (.asg 2 (.call i_next_part (.cons (.var 0) (.cons (.var 1) .nil)))) (.cons (.frz 2) (.cons (.ifs (.isN (.var 2)) (.cons (.asg 3 (.call i_acted (.cons (.var 0) (.cons (.var 1) .nil)))) (.cons (.frz 3) (.cons (.ifs (.isN (.var 3)) (.cons (.ret (.tup (.cons (.str k_fault) (.cons (.tup .nil) .nil)))) .nil) .nil) (.cons (.ret (.var 3)) .nil)))) .nil) (.cons (.asg 3 (.call i_step_by (.cons (.var 0) (.cons (.idx (.call i_parts_of (.cons (.var 1) .nil)) (.var 2)) .nil)))) (.cons (.frz 3) (.cons (.ifs (.cmp .eq (.idx (.var 3) (.int 0)) (.str k_fault)) (.cons (.ret (.tup (.cons (.str k_fault) (.cons (.bop .add (.tup (.cons (.var 2) .nil)) (.idx (.var 3) (.int 1))) .nil)))) .nil) .nil) (.cons (.ret (.call i_with_part (.cons (.var 1) (.cons (.var 2) (.cons (.var 3) .nil))))) .nil))))))))⟩
def d_step : Def := ⟨2, 2, false, (.cons (.ret (.call i_step_by (.cons (.mk 1 (.cons (.var 0) .nil)) (.cons (.var 1) .nil)))) .nil)⟩
def d_World___init__ : Def := ⟨5, 5, true, (.cons (.fldS k_shapes (.var 1)) (.cons (.fldS k_classes (.var 2)) (.cons (.fldS k_houses (.var 3)) (.cons (.fldS k_names (.var 4)) .nil))))⟩
def d_World_shape_of : Def := ⟨2, 5, false, (.cons (.fors (.var 2) (.plain (.fld (.var 0) k_shapes)) (.cons (.ifs (.and (.notN (.idx (.var 2) (.int 2))) (.cmp .inn (.var 1) (.lc (.var 3) (.tup [3, 4]) (.plain (.idx (.var 2) (.int 2))) .nil [3, 4]))) (.cons (.ret (.var 2)) .nil) .nil) .nil)) (.cons (.ret .non) .nil))⟩
def d_World_house_for : Def := ⟨3, 4, false, (.cons (.fors (.var 3) (.plain (.fld (.var 0) k_houses)) (.cons (.ifs (.and (.cmp .eq (.idx (.var 3) (.int 0)) (.var 1)) (.cmp .eq (.idx (.var 3) (.int 1)) (.var 2))) (.cons (.ret (.var 3)) .nil) .nil) .nil)) (.cons (.ret .non) .nil))⟩
def d_World_name_called : Def := ⟨2, 3, false, (.cons (.fors (.var 2) (.plain (.fld (.var 0) k_names)) (.cons (.ifs (.cmp .eq (.idx (.var 2) (.int 0)) (.var 1)) (.cons (.ret (.var 2)) .nil) .nil) .nil)) (.cons (.ret .non) .nil))⟩
def d_of_two_numbers : Def := ⟨1, 1, false, (.cons (.ret (.tup (.cons (.tup .nil) (.cons (.tup .nil) (.cons (.tup (.cons (.str k_fun) (.cons (.cst k_NUM (.tup [.str k_num])) (.cons (.tup (.cons (.str k_fun) (.cons (.cst k_NUM (.tup [.str k_num])) (.cons (.var 0) .nil)))) .nil)))) .nil))))) .nil)⟩
def d_least_world : Def := ⟨0, 3, false, (.cons (.asg 0 (.lst .nil)) (.cons (.fors (.tup [1, 2]) (.plain (.tup (.cons (.tup (.cons (.str k_add) (.cons (.cst k_NUM (.tup [.str k_num])) .nil))) (.cons (.tup (.cons (.str k_sub) (.cons (.cst k_NUM (.tup [.str k_num])) .nil))) (.cons (.tup (.cons (.str k_less) (.cons (.cst k_TRUTH (.tup [.str k_truth])) .nil))) .nil))))) (.cons (.app 0 (.tup (.cons (.var 1) (.cons (.call i_of_two_numbers (.cons (.var 2) .nil)) (.cons .non (.cons .non .nil)))))) .nil)) (.cons (.ret (.mk 2 (.cons (.tup .nil) (.cons (.tup .nil) (.cons (.tup .nil) (.cons (.bif .tuple (.var 0)) .nil)))))) .nil)))⟩
def d__law_source : Def := ⟨1, 5, false, (.cons (.asg 1 (.bop .add (.int 7) (.bop .mod (.bif .sum (.lc (.bop .mul (.bop .mod (.var 3) (.int 1000003)) (.bop .add (.var 2) (.int 1))) (.tup [2, 3]) (.enum (.slcH (.var 0) (.int 63))) .nil [2, 3])) (.int 2147483629)))) (.cons (.frz 1) (.cons (.asg 4 (.bif .list (.slcB (.var 0) (.int 1) (.int 63)))) (.cons (.frz 4) (.cons (.ifs (.or (.cmp .eq (.var 4) (.lst .nil)) (.cmp .eq (.bop .mod (.idx (.var 0) (.int 0)) (.int 2)) (.int 1))) (.cons (.asg 4 (.lst (.cons (.int 0) .nil))) (.cons (.frz 4) .nil)) .nil) (.cons (.ret (.bop .add (.lst (.cons (.int 0) (.cons (.var 1) .nil))) (.var 4))) .nil))))))⟩
def d__law_draw : Def := ⟨2, 4, false, (.cons (.asg 2 (.bop .add (.int 2) (.bop .mod (.idx (.var 0) (.int 0)) (.bop .sub (.bif .len (.var 0)) (.int 2))))) (.cons (.frz 2) (.cons (.setI 0 (.int 0) (.bop .add (.idx (.var 0) (.int 0)) (.int 1))) (.cons (.asg 3 (.idx (.var 0) (.var 2))) (.cons (.ifs (.cmp .inn (.var 3) (.tup (.cons (.int 0) (.cons (.neg (.int 1)) .nil)))) (.cons (.setI 0 (.int 1) (.bop .mod (.bop .add (.bop .mul (.idx (.var 0) (.int 1)) (.int 48271)) (.idx (.var 0) (.int 0))) (.int 2147483647))) (.cons (.ret (.bop .mod (.bop .fdiv (.bop .mod (.bop .mul (.bop .mod (.bop .mul (.idx (.var 0) (.int 1)) (.idx (.var 0) (.int 1))) (.int 2147483629)) (.int 69621)) (.int 2147483587)) (.int 11)) (.var 1))) .nil)) .nil) (.cons (.setI 0 (.var 2) (.bop .fdiv (.var 3) (.var 1))) (.cons (.ret (.bop .mod (.var 3) (.var 1))) .nil)))))))⟩
def d__law_words : Def := ⟨2, 10, false, (.cons (.asg 2 (.str k_abcdefghijklmnopqrstuvwxyz)) (.cons (.asg 3 (.lc (.idx (.var 2) (.call i__law_draw (.cons (.var 0) (.cons (.int 26) .nil)))) (.var 4) (.rng (.bop .add (.int 1) (.call i__law_draw (.cons (.var 0) (.cons (.int 6) .nil))))) .nil [4])) (.cons (.asg 5 (.call i__law_draw (.cons (.var 0) (.cons (.bif .len (.var 3)) .nil)))) (.cons (.frz 5) (.cons (.asg 6 (.call i__law_draw (.cons (.var 0) (.cons (.int 26) .nil)))) (.cons (.frz 6) (.cons (.asg 7 (.call i__law_draw (.cons (.var 0) (.cons (.bop .mul (.int 4) (.var 1)) .nil)))) (.cons (.frz 7) (.cons (.asg 8 (.lst .nil)) (.cons (.fors (.var 4) (.rng (.var 1)) (.cons (.setI 3 (.var 5) (.idx (.var 2) (.bop .mod (.bop .add (.var 6) (.var 4)) (.int 26)))) (.cons (.asg 9 (.idx (.lst (.cons (.str k_rec) (.cons (.str k_open) (.cons (.str k_name) (.cons (.str k_mark) (.cons (.str k_call) (.cons (.str k_given) (.cons (.str k_any) (.cons (.str k_fault) .nil))))))))) (.bop .mod (.var 6) (.int 8)))) (.cons (.app 8 (.idx (.lst (.cons (.bop .add (.join (.str k_empty) (.var 3)) (.str k_q)) (.cons (.var 9) .nil))) (.bif .int (.cmp .eq (.var 4) (.var 7))))) .nil)))) (.cons (.retO 8) .nil)))))))))))⟩
def d__law_shapes : Def := ⟨1, 9, false, (.cons (.asg 1 (.lc (.bop .add (.idx (.str k_ABCDEFGHIJKL) (.var 2)) (.idx (.var 0) (.var 2))) (.var 2) (.rng (.int 12)) .nil [2])) (.cons (.frz 1) (.cons (.asg 3 (.tup (.cons (.str k_open) (.cons (.str k_a) .nil)))) (.cons (.asg 4 (.tup (.cons (.idx (.var 0) (.int 0)) (.cons (.tup (.cons (.str k_a) .nil)) (.cons (.tup (.cons (.tup (.cons (.idx (.var 1) (.int 0)) (.cons (.tup .nil) .nil))) (.cons (.tup (.cons (.idx (.var 1) (.int 1)) (.cons (.tup (.cons (.var 3) .nil)) .nil))) .nil))) .nil))))) (.cons (.asg 5 (.tup (.cons (.idx (.var 0) (.int 1)) (.cons (.tup (.cons (.str k_a) .nil)) (.cons (.tup (.cons (.tup (.cons (.idx (.var 1) (.int 2)) (.cons (.tup .nil) .nil))) (.cons (.tup (.cons (.idx (.var 1) (.int 3)) (.cons (.tup (.cons (.var 3) (.cons (.tup (.cons (.str k_shape) (.cons (.idx (.var 0) (.int 1)) (.cons (.tup (.cons (.var 3) .nil)) .nil)))) .nil))) .nil))) .nil))) .nil))))) (.cons (.asg 6 (.tup (.cons (.idx (.var 0) (.int 2)) (.cons (.tup (.cons (.str k_a) (.cons (.str k_b) .nil))) (.cons (.tup (.cons (.tup (.cons (.idx (.var 1) (.int 4)) (.cons (.tup (.cons (.var 3) (.cons (.tup (.cons (.str k_open) (.cons (.str k_b) .nil))) .nil))) .nil))) .nil)) .nil))))) (.cons (.asg 7 (.tup (.cons (.tup (.cons (.idx (.var 1) (.int 11)) (.cons (.bop .mul (.tup (.cons (.var 3) (.cons (.tup (.cons (.str k_open) (.cons (.str k_b) .nil))) .nil))) (.int 3)) .nil))) .nil))) (.cons (.ret (.tup (.cons (.var 4) (.cons (.var 5) (.cons (.var 6) (.cons (.tup (.cons (.idx (.var 0) (.int 3)) (.cons (.tup .nil) (.cons (.bif .tuple (.lc (.tup (.cons (.var 8) (.cons (.tup .nil) .nil))) (.var 8) (.plain (.slcB (.var 1) (.int 5) (.int 11))) .nil [8])) .nil)))) (.cons (.tup (.cons (.idx (.var 0) (.int 14)) (.cons (.tup (.cons (.str k_a) (.cons (.str k_b) .nil))) (.cons (.var 7) .nil)))) .nil))))))) .nil))))))))⟩
def d__law_kind : Def := ⟨4, 10, false, (.cons (.asg 4 (.call i__law_draw (.cons (.var 0) (.cons (.int 8) .nil)))) (.cons (.frz 4) (.cons (.ifs (.or (.cmp .eq (.var 2) (.int 0)) (.cmp .lt (.var 4) (.int 3))) (.cons (.ret (.idx (.lst (.cons (.tup (.cons (.str k_num) .nil)) (.cons (.tup (.cons (.str k_num) .nil)) (.cons (.tup (.cons (.str k_truth) .nil)) .nil)))) (.call i__law_draw (.cons (.var 0) (.cons (.int 3) .nil))))) .nil) .nil) (.cons (.ifs (.and (.cmp .eq (.var 4) (.int 3)) (.var 3)) (.cons (.asg 5 (.call i__law_kind (.cons (.var 0) (.cons (.var 1) (.cons (.bop .sub (.var 2) (.int 1)) (.cons (.var 3) .nil)))))) (.cons (.frz 5) (.cons (.ret (.tup (.cons (.str k_fun) (.cons (.var 5) (.cons (.call i__law_kind (.cons (.var 0) (.cons (.var 1) (.cons (.bop .sub (.var 2) (.int 1)) (.cons (.var 3) .nil))))) .nil))))) .nil))) .nil) (.cons (.ifs (.cmp .lt (.var 4) (.int 5)) (.cons (.asg 6 (.bop .add (.bop .mul (.int 3) (.bif .int (.cmp .gt (.call i__law_draw (.cons (.var 0) (.cons (.int 8) .nil))) (.int 0)))) (.call i__law_draw (.cons (.var 0) (.cons (.int 3) .nil))))) (.cons (.frz 6) (.cons (.asg 7 (.slcL (.lst (.cons (.str k_a) (.cons (.str k_b) (.cons (.str k_c) (.cons (.str k_d) (.cons (.str k_e) (.cons (.str k_sum) .nil))))))) (.var 6))) (.cons (.frz 7) (.cons (.asg 2 (.bop .mul (.bop .sub (.var 2) (.int 1)) (.bif .int (.cmp .gt (.var 6) (.int 2))))) (.cons (.frz 2) (.cons (.ret (.tup (.cons (.str k_rec) (.cons (.bif .tuple (.lc (.tup (.cons (.var 8) (.cons (.call i__law_kind (.cons (.var 0) (.cons (.var 1) (.cons (.var 2) (.cons (.var 3) .nil))))) .nil))) (.var 8) (.plain (.var 7)) .nil [8])) (.cons .non .nil))))) .nil))))))) .nil) (.cons (.asg 9 (.idx (.var 1) (.call i__law_draw (.cons (.var 0) (.cons (.int 5) .nil))))) (.cons (.ret (.tup (.cons (.str k_shape) (.cons (.idx (.var 9) (.int 0)) (.cons (.bif .tuple (.lc (.call i__law_kind (.cons (.var 0) (.cons (.var 1) (.cons (.bop .sub (.var 2) (.int 1)) (.cons (.var 3) .nil))))) (.var 5) (.plain (.idx (.var 9) (.int 1))) .nil [5])) .nil))))) .nil)))))))⟩
def d__law_kind_by : Def := ⟨2, 3, false, (.cons (.ifs (.cmp .eq (.idx (.var 0) (.int 0)) (.str k_open)) (.cons (.ret (.idx (.var 1) (.idx (.var 0) (.int 1)))) .nil) .nil) (.cons (.ret (.bop .add (.slcH (.var 0) (.int 2)) (.tup (.cons (.bif .tuple (.lc (.call i__law_kind_by (.cons (.var 2) (.cons (.var 1) .nil))) (.var 2) (.plain (.idx (.var 0) (.int 2))) .nil [2])) .nil)))) .nil))⟩
def d__law_mark_kinds : Def := ⟨2, 7, false, (.cons (.asg 2 (.idx (.lc (.var 3) (.var 3) (.plain (.var 0)) (.cons (.cmp .eq (.idx (.var 3) (.int 0)) (.idx (.var 1) (.int 1))) .nil) [3]) (.int 0))) (.cons (.asg 4 (.dzip (.idx (.var 2) (.int 1)) (.idx (.var 1) (.int 2)))) (.cons (.frz 4) (.cons (.ret (.lc (.tup (.cons (.var 5) (.cons (.lc (.call i__law_kind_by (.cons (.var 3) (.cons (.var 4) .nil))) (.var 3) (.plain (.var 6)) .nil [3]) .nil))) (.tup [5, 6]) (.plain (.idx (.var 2) (.int 2))) .nil [5, 6])) .nil))))⟩
def d__law_marked : Def := ⟨5, 10, false, (.cons (.asg 5 (.call i__law_mark_kinds (.cons (.idx (.var 1) (.int 0)) (.cons (.var 3) .nil)))) (.cons (.frz 5) (.cons (.asgT [6, 7] (.idx (.var 5) (.call i__law_draw (.cons (.var 0) (.cons (.bif .len (.var 5)) .nil))))) (.cons (.ifs (.cmp .le (.var 4) (.int 0)) (.cons (.asgT [6, 7] (.idx (.var 5) (.int 0))) .nil) .nil) (.cons (.asg 8 (.tup (.cons (.str k_mark) (.cons (.var 6) .nil)))) (.cons (.fors (.var 9) (.plain (.var 7)) (.cons (.asg 8 (.tup (.cons (.str k_call) (.cons (.var 8) (.cons (.call i__law_make (.cons (.var 0) (.cons (.var 1) (.cons (.var 2) (.cons (.var 9) (.cons (.bop .sub (.bop .sub (.var 4) (.int 1)) (.bif .int (.cmp .gt (.bif .len (.var 7)) (.int 2)))) .nil)))))) .nil))))) .nil)) (.cons (.ret (.var 8)) .nil)))))))⟩
def d__law_plain : Def := ⟨5, 8, false, (.cons (.ifs (.cmp .inn (.idx (.var 3) (.int 0)) (.tup (.cons (.str k_num) (.cons (.str k_truth) .nil)))) (.cons (.asg 5 (.idx (.lst (.cons (.idx (.lst (.cons (.str k_add) (.cons (.str k_sub) .nil))) (.call i__law_draw (.cons (.var 0) (.cons (.int 2) .nil)))) (.cons (.str k_less) .nil))) (.bif .int (.cmp .eq (.idx (.var 3) (.int 0)) (.str k_truth))))) (.cons (.ifs (.and (.cmp .gt (.var 4) (.int 0)) (.and (.cmp .eq (.call i__law_draw (.cons (.var 0) (.cons (.int 2) .nil))) (.int 1)) (.cmp .nin (.var 5) (.bif .dict (.var 2))))) (.cons (.asg 6 (.call i__law_make (.cons (.var 0) (.cons (.var 1) (.cons (.var 2) (.cons (.tup (.cons (.str k_num) .nil)) (.cons (.bop .sub (.var 4) (.int 1)) .nil))))))) (.cons (.frz 6) (.cons (.ret (.tup (.cons (.str k_call) (.cons (.tup (.cons (.str k_call) (.cons (.tup (.cons (.str k_name) (.cons (.var 5) .nil))) (.cons (.var 6) .nil)))) (.cons (.call i__law_make (.cons (.var 0) (.cons (.var 1) (.cons (.var 2) (.cons (.tup (.cons (.str k_num) .nil)) (.cons (.bop .sub (.var 4) (.int 1)) .nil)))))) .nil))))) .nil))) .nil) (.cons (.ifs (.cmp .eq (.idx (.var 3) (.int 0)) (.str k_num)) (.cons (.ret (.tup (.cons (.str k_num) (.cons (.call i__law_draw (.cons (.var 0) (.cons (.int 10) .nil))) .nil)))) .nil) .nil) (.cons (.ret (.tup (.cons (.str k_truth) (.cons (.cmp .eq (.call i__law_draw (.cons (.var 0) (.cons (.int 2) .nil))) (.int 1)) .nil)))) .nil)))) .nil) (.cons (.ifs (.cmp .eq (.idx (.var 3) (.int 0)) (.str k_fun)) (.cons (.asg 7 (.idx (.idx (.var 1) (.int 1)) (.call i__law_draw (.cons (.var 0) (.cons (.bif .len (.idx (.var 1) (.int 1))) .nil))))) (.cons (.ret (.tup (.cons (.str k_fun) (.cons (.var 7) (.cons (.call i__law_make (.cons (.var 0) (.cons (.var 1) (.cons (.bop .add (.var 2) (.lst (.cons (.tup (.cons (.var 7) (.cons (.idx (.var 3) (.int 1)) .nil))) .nil))) (.cons (.idx (.var 3) (.int 2)) (.cons (.bop .sub (.var 4) (.int 1)) .nil)))))) .nil))))) .nil)) .nil) (.cons (.ifs (.cmp .eq (.idx (.var 3) (.int 0)) (.str k_rec)) (.cons (.asg 4 (.bop .sub (.bop .sub (.var 4) (.int 1)) (.bif .int (.cmp .gt (.bif .len (.idx (.var 3) (.int 1))) (.int 3))))) (.cons (.frz 4) (.cons (.ret (.tup (.cons (.str k_rec) (.cons (.bif .tuple (.lc (.tup (.cons (.var 7) (.cons (.call i__law_make (.cons (.var 0) (.cons (.var 1) (.cons (.var 2) (.cons (.var 6) (.cons (.var 4) .nil)))))) .nil))) (.tup [7, 6]) (.plain (.idx (.var 3) (.int 1))) .nil [7, 6])) .nil)))) .nil))) .nil) (.cons (.ret (.call i__law_marked (.cons (.var 0) (.cons (.var 1) (.cons (.var 2) (.cons (.var 3) (.cons (.var 4) .nil))))))) .nil))))⟩
def d__law_counted : Def := ⟨5, 17, false, (.cons (.asgT [5, 6] (.slcH (.idx (.var 1) (.int 1)) (.int 2))) (.cons (.ifs (.or (.cmp .inn (.str k_less) (.bif .dict (.var 2))) (.cmp .inn (.str k_sub) (.bif .dict (.var 2)))) (.cons (.ret (.call i__law_plain (.cons (.var 0) (.cons (.var 1) (.cons (.var 2) (.cons (.var 3) (.cons (.var 4) .nil))))))) .nil) .nil) (.cons (.asg 7 (.bop .add (.lst (.cons (.var 5) .nil)) (.lc (.bop .add (.var 5) (.var 8)) (.var 8) (.plain (.idx (.lst (.cons (.str k_empty) (.cons (.str k_bcdef) .nil))) (.bif .int (.cmp .eq (.call i__law_draw (.cons (.var 0) (.cons (.int 8) .nil))) (.int 1))))) .nil [8]))) (.cons (.frz 7) (.cons (.asg 9 (.bop .add (.lc (.var 10) (.var 10) (.plain (.var 2)) (.cons (.cmp .nin (.idx (.var 10) (.int 0)) (.var 7)) .nil) [10]) (.lst (.cons (.tup (.cons (.var 6) (.cons (.tup (.cons (.str k_num) .nil)) .nil))) .nil)))) (.cons (.frz 9) (.cons (.asg 11 (.tup (.cons (.str k_call) (.cons (.tup (.cons (.str k_call) (.cons (.tup (.cons (.str k_name) (.cons (.str k_sub) .nil))) (.cons (.tup (.cons (.str k_name) (.cons (.var 6) .nil))) .nil)))) (.cons (.tup (.cons (.str k_num) (.cons (.int 1) .nil))) .nil))))) (.cons (.asg 12 (.tup (.cons (.str k_call) (.cons (.tup (.cons (.str k_call) (.cons (.tup (.cons (.str k_name) (.cons (.str k_less) .nil))) (.cons (.tup (.cons (.str k_name) (.cons (.var 6) .nil))) .nil)))) (.cons (.tup (.cons (.str k_num) (.cons (.int 1) .nil))) .nil))))) (.cons (.asg 13 (.lst .nil)) (.cons (.fors (.var 14) (.rng (.bif .len (.var 7))) (.cons (.asg 15 (.tup (.cons (.str k_call) (.cons (.tup (.cons (.str k_name) (.cons (.idx (.var 7) (.bop .sub (.var 14) (.int 1))) .nil))) (.cons (.var 11) .nil))))) (.cons (.ifs (.cmp .eq (.var 3) (.tup (.cons (.str k_num) .nil))) (.cons (.asg 15 (.tup (.cons (.str k_call) (.cons (.tup (.cons (.str k_call) (.cons (.tup (.cons (.str k_name) (.cons (.str k_sub) .nil))) (.cons (.var 15) .nil)))) (.cons (.call i__law_make (.cons (.var 0) (.cons (.var 1) (.cons (.var 9) (.cons (.tup (.cons (.str k_num) .nil)) (.cons (.int 0) .nil)))))) .nil))))) .nil) .nil) (.cons (.asg 16 (.tup (.cons (.str k_if) (.cons (.var 12) (.cons (.call i__law_make (.cons (.var 0) (.cons (.var 1) (.cons (.var 9) (.cons (.var 3) (.cons (.bop .mul (.bop .sub (.var 4) (.int 1)) (.bif .int (.cmp .eq (.var 14) (.int 0)))) .nil)))))) (.cons (.var 15) .nil)))))) (.cons (.app 13 (.tup (.cons (.idx (.var 7) (.var 14)) (.cons (.tup (.cons (.str k_fun) (.cons (.var 6) (.cons (.var 16) .nil)))) .nil)))) .nil))))) (.cons (.ret (.tup (.cons (.str k_group) (.cons (.bif .tuple (.var 13)) (.cons (.tup (.cons (.str k_call) (.cons (.tup (.cons (.str k_name) (.cons (.var 5) .nil))) (.cons (.tup (.cons (.str k_num) (.cons (.call i__law_draw (.cons (.var 0) (.cons (.int 4) .nil))) .nil))) .nil)))) .nil))))) .nil)))))))))))⟩
def d__law_branched : Def := ⟨5, 13, false, (.cons (.asg 5 (.call i__law_kind (.cons (.var 0) (.cons (.idx (.var 1) (.int 0)) (.cons (.int 1) (.cons (.bl false) .nil)))))) (.cons (.frz 5) (.cons (.ifs (.cmp .ne (.idx (.var 5) (.int 0)) (.str k_shape)) (.cons (.ret (.call i__law_plain (.cons (.var 0) (.cons (.var 1) (.cons (.var 2) (.cons (.var 3) (.cons (.var 4) .nil))))))) .nil) .nil) (.cons (.asg 6 (.lst .nil)) (.cons (.asg 7 (.call i__law_mark_kinds (.cons (.idx (.var 1) (.int 0)) (.cons (.var 5) .nil)))) (.cons (.frz 7) (.cons (.fors (.tup [8, 9]) (.plain (.var 7)) (.cons (.asg 10 (.slcH (.bop .add (.slcH (.idx (.var 1) (.int 1)) (.int 2)) (.lc (.bop .add (.idx (.idx (.var 1) (.int 1)) (.int 0)) (.var 11)) (.var 11) (.plain (.str k_vwxy)) .nil [11])) (.bif .len (.var 9)))) (.cons (.frz 10) (.cons (.asg 12 (.call i__law_make (.cons (.var 0) (.cons (.var 1) (.cons (.bop .add (.var 2) (.lzip (.var 10) (.var 9))) (.cons (.var 3) (.cons (.bop .sub (.bop .sub (.var 4) (.int 1)) (.bif .int (.cmp .gt (.bif .len (.var 7)) (.int 2)))) .nil))))))) (.cons (.frz 12) (.cons (.ins 6 (.call i__law_draw (.cons (.var 0) (.cons (.bop .add (.bif .len (.var 6)) (.int 1)) .nil))) (.tup (.cons (.var 8) (.cons (.bif .tuple (.var 10)) (.cons (.var 12) .nil))))) .nil)))))) (.cons (.ret (.tup (.cons (.str k_match) (.cons (.call i__law_make (.cons (.var 0) (.cons (.var 1) (.cons (.var 2) (.cons (.var 5) (.cons (.bop .sub (.var 4) (.int 1)) .nil)))))) (.cons (.bif .tuple (.var 6)) .nil))))) .nil))))))))⟩
def d__law_bound : Def := ⟨5, 9, false, (.cons (.asg 5 (.idx (.idx (.var 1) (.int 1)) (.call i__law_draw (.cons (.var 0) (.cons (.bif .len (.idx (.var 1) (.int 1))) .nil))))) (.cons (.asg 6 (.call i__law_kind (.cons (.var 0) (.cons (.idx (.var 1) (.int 0)) (.cons (.int 1) (.cons (.bl true) .nil)))))) (.cons (.frz 6) (.cons (.asg 7 (.call i__law_make (.cons (.var 0) (.cons (.var 1) (.cons (.var 2) (.cons (.var 6) (.cons (.bop .sub (.var 4) (.int 1)) .nil))))))) (.cons (.frz 7) (.cons (.asg 8 (.call i__law_make (.cons (.var 0) (.cons (.var 1) (.cons (.bop .add (.var 2) (.lst (.cons (.tup (.cons (.var 5) (.cons (.var 6) .nil))) .nil))) (.cons (.var 3) (.cons (.bop .sub (.var 4) (.int 1)) .nil))))))) (.cons (.frz 8) (.cons (.ifs (.cmp .eq (.call i__law_draw (.cons (.var 0) (.cons (.int 2) .nil))) (.int 1)) (.cons (.ret (.tup (.cons (.str k_let) (.cons (.var 5) (.cons (.var 7) (.cons (.var 8) .nil)))))) .nil) .nil) (.cons (.ret (.tup (.cons (.str k_call) (.cons (.tup (.cons (.str k_fun) (.cons (.var 5) (.cons (.var 8) .nil)))) (.cons (.var 7) .nil))))) .nil)))))))))⟩
def d__law_field : Def := ⟨5, 7, false, (.cons (.asg 5 (.lst (.cons (.tup (.cons (.str k_a) (.cons (.var 3) .nil))) (.cons (.tup (.cons (.str k_sum) (.cons (.call i__law_kind (.cons (.var 0) (.cons (.idx (.var 1) (.int 0)) (.cons (.int 1) (.cons (.bl false) .nil))))) .nil))) .nil)))) (.cons (.frz 5) (.cons (.asg 6 (.call i__law_plain (.cons (.var 0) (.cons (.var 1) (.cons (.var 2) (.cons (.tup (.cons (.str k_rec) (.cons (.bif .tuple (.var 5)) (.cons .non .nil)))) (.cons (.bop .sub (.var 4) (.int 1)) .nil))))))) (.cons (.frz 6) (.cons (.ifs (.cmp .eq (.call i__law_draw (.cons (.var 0) (.cons (.int 2) .nil))) (.int 1)) (.cons (.asg 6 (.tup (.cons (.str k_put) (.cons (.var 6) (.cons (.str k_a) (.cons (.call i__law_make (.cons (.var 0) (.cons (.var 1) (.cons (.var 2) (.cons (.var 3) (.cons (.bop .sub (.var 4) (.int 1)) .nil)))))) .nil)))))) .nil) .nil) (.cons (.ret (.tup (.cons (.str k_get) (.cons (.var 6) (.cons (.str k_a) .nil))))) .nil))))))⟩
def d__law_make : Def := ⟨5, 11, false, (.cons (.asg 5 (.lc (.var 6) (.tup [6, 7]) (.items (.bif .dict (.var 2))) (.cons (.cmp .eq (.var 7) (.var 3)) .nil) [6, 7])) (.cons (.frz 5) (.cons (.asg 8 (.call i__law_draw (.cons (.var 0) (.cons (.int 12) .nil)))) (.cons (.frz 8) (.cons (.ifs (.and (.cmp .ne (.var 5) (.lst .nil)) (.cmp .lt (.var 8) (.int 5))) (.cons (.ret (.tup (.cons (.str k_name) (.cons (.idx (.var 5) (.call i__law_draw (.cons (.var 0) (.cons (.bif .len (.var 5)) .nil)))) .nil)))) .nil) .nil) (.cons (.ifs (.or (.cmp .le (.var 4) (.int 0)) (.cmp .lt (.var 8) (.int 6))) (.cons (.ret (.call i__law_plain (.cons (.var 0) (.cons (.var 1) (.cons (.var 2) (.cons (.var 3) (.cons (.var 4) .nil))))))) .nil) .nil) (.cons (.ifs (.cmp .eq (.var 8) (.int 6)) (.cons (.asg 9 (.lc (.tup (.cons (.var 6) (.cons (.idx (.var 7) (.int 1)) .nil))) (.tup [6, 7]) (.items (.bif .dict (.var 2))) (.cons (.and (.cmp .eq (.idx (.var 7) (.int 0)) (.str k_fun)) (.cmp .eq (.idx (.var 7) (.int 2)) (.var 3))) .nil) [6, 7])) (.cons (.frz 9) (.cons (.ifs (.cmp .ne (.var 9) (.lst .nil)) (.cons (.asgT [6, 7] (.idx (.var 9) (.call i__law_draw (.cons (.var 0) (.cons (.bif .len (.var 9)) .nil))))) (.cons (.ret (.tup (.cons (.str k_call) (.cons (.tup (.cons (.str k_name) (.cons (.var 6) .nil))) (.cons (.call i__law_make (.cons (.var 0) (.cons (.var 1) (.cons (.var 2) (.cons (.var 7) (.cons (.bop .sub (.var 4) (.int 1)) .nil)))))) .nil))))) .nil)) .nil) (.cons (.asg 10 (.call i__law_make (.cons (.var 0) (.cons (.var 1) (.cons (.var 2) (.cons (.tup (.cons (.str k_truth) .nil)) (.cons (.bop .sub (.var 4) (.int 1)) .nil))))))) (.cons (.frz 10) (.cons (.asg 7 (.call i__law_make (.cons (.var 0) (.cons (.var 1) (.cons (.var 2) (.cons (.var 3) (.cons (.bop .sub (.var 4) (.int 1)) .nil))))))) (.cons (.frz 7) (.cons (.ret (.tup (.cons (.str k_if) (.cons (.var 10) (.cons (.var 7) (.cons (.call i__law_make (.cons (.var 0) (.cons (.var 1) (.cons (.var 2) (.cons (.var 3) (.cons (.bop .sub (.var 4) (.int 1)) .nil)))))) .nil)))))) .nil)))))))) .nil) (.cons (.ifs (.cmp .eq (.var 8) (.int 7)) (.cons (.ret (.call i__law_field (.cons (.var 0) (.cons (.var 1) (.cons (.var 2) (.cons (.var 3) (.cons (.var 4) .nil))))))) .nil) .nil) (.cons (.ifs (.cmp .eq (.var 8) (.int 8)) (.cons (.ret (.tup (.cons (.str k_told) (.cons (.call i__law_make (.cons (.var 0) (.cons (.var 1) (.cons (.var 2) (.cons (.var 3) (.cons (.bop .sub (.var 4) (.int 1)) .nil)))))) (.cons (.var 3) .nil))))) .nil) .nil) (.cons (.ifs (.cmp .eq (.var 8) (.int 9)) (.cons (.ret (.call i__law_counted (.cons (.var 0) (.cons (.var 1) (.cons (.var 2) (.cons (.var 3) (.cons (.var 4) .nil))))))) .nil) .nil) (.cons (.ifs (.cmp .eq (.var 8) (.int 10)) (.cons (.ret (.call i__law_branched (.cons (.var 0) (.cons (.var 1) (.cons (.var 2) (.cons (.var 3) (.cons (.var 4) .nil))))))) .nil) .nil) (.cons (.ret (.call i__law_bound (.cons (.var 0) (.cons (.var 1) (.cons (.var 2) (.cons (.var 3) (.cons (.var 4) .nil))))))) .nil))))))))))))⟩
def d__law_parts : Def := ⟨1, 4, false, (.cons (.asg 1 (.idx (.var 0) (.int 0))) (.cons (.ifs (.cmp .eq (.var 1) (.str k_rec)) (.cons (.ret (.lc (.var 3) (.tup [2, 3]) (.plain (.idx (.var 0) (.int 1))) .nil [2, 3])) .nil) .nil) (.cons (.ifs (.cmp .eq (.var 1) (.str k_call)) (.cons (.ret (.lst (.cons (.idx (.var 0) (.int 1)) (.cons (.idx (.var 0) (.int 2)) .nil)))) .nil) .nil) (.cons (.ifs (.cmp .eq (.var 1) (.str k_put)) (.cons (.ret (.lst (.cons (.idx (.var 0) (.int 1)) (.cons (.idx (.var 0) (.int 3)) .nil)))) .nil) .nil) (.cons (.ifs (.cmp .eq (.var 1) (.str k_let)) (.cons (.ret (.lst (.cons (.idx (.var 0) (.int 2)) .nil))) .nil) .nil) (.cons (.ifs (.cmp .inn (.var 1) (.tup (.cons (.str k_if) (.cons (.str k_get) (.cons (.str k_match) (.cons (.str k_told) .nil)))))) (.cons (.ret (.lst (.cons (.idx (.var 0) (.int 1)) .nil))) .nil) .nil) (.cons (.ret (.lst .nil)) .nil)))))))⟩
def d__law_with : Def := ⟨3, 4, false, (.cons (.ifs (.cmp .eq (.idx (.var 0) (.int 0)) (.str k_rec)) (.cons (.ret (.tup (.cons (.str k_rec) (.cons (.bop .add (.bop .add (.slcH (.idx (.var 0) (.int 1)) (.var 1)) (.tup (.cons (.tup (.cons (.idx (.idx (.idx (.var 0) (.int 1)) (.var 1)) (.int 0)) (.cons (.var 2) .nil))) .nil))) (.slcL (.idx (.var 0) (.int 1)) (.bop .add (.var 1) (.int 1)))) .nil)))) .nil) .nil) (.cons (.asg 3 (.get2 (.dsp (.cons (.str k_let) (.cons (.int 2) (.cons (.str k_put) (.cons (.bop .add (.int 1) (.bop .mul (.int 2) (.var 1))) .nil))))) (.idx (.var 0) (.int 0)) (.bop .add (.int 1) (.var 1)))) (.cons (.frz 3) (.cons (.ret (.bop .add (.bop .add (.slcH (.var 0) (.var 3)) (.tup (.cons (.var 2) .nil))) (.slcL (.var 0) (.bop .add (.var 3) (.int 1))))) .nil))))⟩
def d__law_put : Def := ⟨2, 11, false, (.cons (.asg 2 (.idx (.var 0) (.int 0))) (.cons (.ifs (.cmp .eq (.var 2) (.str k_name)) (.cons (.ret (.get2 (.var 1) (.idx (.var 0) (.int 1)) (.var 0))) .nil) .nil) (.cons (.ifs (.cmp .inn (.var 2) (.tup (.cons (.str k_num) (.cons (.str k_truth) (.cons (.str k_mark) .nil))))) (.cons (.ret (.var 0)) .nil) .nil) (.cons (.ifs (.cmp .eq (.var 2) (.str k_fun)) (.cons (.ret (.tup (.cons (.str k_fun) (.cons (.idx (.var 0) (.int 1)) (.cons (.call i__law_put (.cons (.idx (.var 0) (.int 2)) (.cons (.call i__law_but (.cons (.var 1) (.cons (.lst (.cons (.idx (.var 0) (.int 1)) .nil)) .nil))) .nil))) .nil))))) .nil) .nil) (.cons (.ifs (.cmp .eq (.var 2) (.str k_let)) (.cons (.ret (.tup (.cons (.str k_let) (.cons (.idx (.var 0) (.int 1)) (.cons (.call i__law_put (.cons (.idx (.var 0) (.int 2)) (.cons (.var 1) .nil))) (.cons (.call i__law_put (.cons (.idx (.var 0) (.int 3)) (.cons (.call i__law_but (.cons (.var 1) (.cons (.lst (.cons (.idx (.var 0) (.int 1)) .nil)) .nil))) .nil))) .nil)))))) .nil) .nil) (.cons (.ifs (.cmp .eq (.var 2) (.str k_group)) (.cons (.asg 3 (.call i__law_but (.cons (.var 1) (.cons (.lc (.var 4) (.tup [4, 5]) (.plain (.idx (.var 0) (.int 1))) .nil [4, 5]) .nil)))) (.cons (.frz 3) (.cons (.ret (.tup (.cons (.str k_group) (.cons (.bif .tuple (.lc (.tup (.cons (.var 4) (.cons (.call i__law_put (.cons (.var 5) (.cons (.var 3) .nil))) .nil))) (.tup [4, 5]) (.plain (.idx (.var 0) (.int 1))) .nil [4, 5])) (.cons (.call i__law_put (.cons (.idx (.var 0) (.int 2)) (.cons (.var 3) .nil))) .nil))))) .nil))) .nil) (.cons (.ifs (.cmp .eq (.var 2) (.str k_if)) (.cons (.ret (.bop .add (.tup (.cons (.str k_if) .nil)) (.bif .tuple (.lc (.call i__law_put (.cons (.var 5) (.cons (.var 1) .nil))) (.var 5) (.plain (.slcL (.var 0) (.int 1))) .nil [5])))) .nil) .nil) (.cons (.ifs (.cmp .eq (.var 2) (.str k_match)) (.cons (.asg 6 (.lc (.tup (.cons (.var 7) (.cons (.var 8) (.cons (.call i__law_put (.cons (.var 5) (.cons (.call i__law_but (.cons (.var 1) (.cons (.var 8) .nil))) .nil))) .nil)))) (.tup [7, 8, 5]) (.plain (.idx (.var 0) (.int 2))) .nil [7, 8, 5])) (.cons (.frz 6) (.cons (.ret (.tup (.cons (.str k_match) (.cons (.call i__law_put (.cons (.idx (.var 0) (.int 1)) (.cons (.var 1) .nil))) (.cons (.bif .tuple (.var 6)) .nil))))) .nil))) .nil) (.cons (.fors (.tup [9, 10]) (.enum (.call i__law_parts (.cons (.var 0) .nil))) (.cons (.asg 0 (.call i__law_with (.cons (.var 0) (.cons (.var 9) (.cons (.call i__law_put (.cons (.var 10) (.cons (.var 1) .nil))) .nil))))) (.cons (.frz 0) .nil))) (.cons (.ret (.var 0)) .nil))))))))))⟩
def d__law_but : Def := ⟨2, 3, false, (.cons (.ret (.bif .dict (.lc (.tup (.cons (.var 2) (.cons (.idx (.var 0) (.var 2)) .nil))) (.var 2) (.plain (.var 0)) (.cons (.cmp .nin (.var 2) (.var 1)) .nil) [2]))) .nil)⟩
def d__law_marks : Def := ⟨1, 2, false, (.cons (.asg 1 (.lst .nil)) (.cons (.whl 1000 (.cmp .eq (.idx (.var 0) (.int 0)) (.str k_call)) (.cons (.ins 1 (.int 0) (.idx (.var 0) (.int 2))) (.cons (.asg 0 (.idx (.var 0) (.int 1))) .nil))) (.cons (.ifs (.cmp .ne (.idx (.var 0) (.int 0)) (.str k_mark)) (.cons (.ret .non) .nil) .nil) (.cons (.frz 1) (.cons (.ret (.tup (.cons (.idx (.var 0) (.int 1)) (.cons (.var 1) .nil)))) .nil)))))⟩
def d__law_done : Def := ⟨2, 5, false, (.cons (.asg 2 (.idx (.var 0) (.int 0))) (.cons (.ifs (.cmp .inn (.var 2) (.tup (.cons (.str k_num) (.cons (.str k_truth) (.cons (.str k_mark) (.cons (.str k_fun) .nil)))))) (.cons (.ret (.bl true)) .nil) .nil) (.cons (.ifs (.cmp .eq (.var 2) (.str k_name)) (.cons (.ret (.cmp .inn (.idx (.var 0) (.int 1)) (.var 1))) .nil) .nil) (.cons (.ifs (.cmp .eq (.var 2) (.str k_rec)) (.cons (.ret (.cmp .eq (.lc (.var 4) (.tup [3, 4]) (.plain (.idx (.var 0) (.int 1))) (.cons (.not (.call i__law_done (.cons (.var 4) (.cons (.var 1) .nil)))) .nil) [3, 4]) (.lst .nil))) .nil) .nil) (.cons (.ifs (.cmp .eq (.var 2) (.str k_group)) (.cons (.ret (.and (.cmp .eq (.idx (.idx (.var 0) (.int 2)) (.int 0)) (.str k_name)) (.cmp .inn (.idx (.idx (.var 0) (.int 2)) (.int 1)) (.bif .dict (.idx (.var 0) (.int 1)))))) .nil) .nil) (.cons (.ifs (.and (.cmp .eq (.var 2) (.str k_call)) (.cmp .eq (.idx (.idx (.var 0) (.int 1)) (.int 0)) (.str k_name))) (.cons (.ret (.and (.cmp .inn (.idx (.idx (.var 0) (.int 1)) (.int 1)) (.tup (.cons (.str k_add) (.cons (.str k_sub) (.cons (.str k_less) .nil))))) (.cmp .eq (.idx (.idx (.var 0) (.int 2)) (.int 0)) (.str k_num)))) .nil) .nil) (.cons (.ifs (.and (.cmp .eq (.var 2) (.str k_call)) (.notN (.call i__law_marks (.cons (.var 0) .nil)))) (.cons (.ret (.and (.call i__law_done (.cons (.idx (.var 0) (.int 1)) (.cons (.var 1) .nil))) (.call i__law_done (.cons (.idx (.var 0) (.int 2)) (.cons (.var 1) .nil))))) .nil) .nil) (.cons (.ret (.bl false)) .nil))))))))⟩
def d__law_whole : Def := ⟨1, 3, false, (.cons (.ret (.bif .dict (.lc (.tup (.cons (.var 1) (.cons (.tup (.cons (.str k_group) (.cons (.var 0) (.cons (.tup (.cons (.str k_name) (.cons (.var 1) .nil))) .nil)))) .nil))) (.tup [1, 2]) (.plain (.var 0)) .nil [1, 2]))) .nil)⟩
def d__law_called : Def := ⟨1, 5, false, (.cons (.asgT [1, 2] (.slcL (.var 0) (.int 1))) (.cons (.ifs (.cmp .eq (.idx (.var 1) (.int 0)) (.str k_fun)) (.cons (.ret (.call i__law_put (.cons (.idx (.var 1) (.int 2)) (.cons (.dsp (.cons (.idx (.var 1) (.int 1)) (.cons (.var 2) .nil))) .nil)))) .nil) .nil) (.cons (.ifs (.cmp .eq (.idx (.var 1) (.int 0)) (.str k_group)) (.cons (.ret (.tup (.cons (.str k_call) (.cons (.call i__law_put (.cons (.idx (.bif .dict (.idx (.var 1) (.int 1))) (.idx (.idx (.var 1) (.int 2)) (.int 1))) (.cons (.call i__law_whole (.cons (.idx (.var 1) (.int 1)) .nil)) .nil))) (.cons (.var 2) .nil))))) .nil) .nil) (.cons (.ifs (.and (.cmp .eq (.idx (.var 1) (.int 0)) (.str k_call)) (.and (.cmp .eq (.idx (.idx (.var 1) (.int 1)) (.int 0)) (.str k_name)) (.cmp .eq (.idx (.var 2) (.int 0)) (.str k_num)))) (.cons (.asg 3 (.idx (.idx (.var 1) (.int 2)) (.int 1))) (.cons (.asg 4 (.idx (.var 2) (.int 1))) (.cons (.ifs (.cmp .eq (.idx (.idx (.var 1) (.int 1)) (.int 1)) (.str k_less)) (.cons (.ret (.tup (.cons (.str k_truth) (.cons (.cmp .lt (.var 3) (.var 4)) .nil)))) .nil) .nil) (.cons (.ret (.tup (.cons (.str k_num) (.cons (.idx (.dsp (.cons (.str k_add) (.cons (.bop .add (.var 3) (.var 4)) (.cons (.str k_sub) (.cons (.bop .sub (.var 3) (.var 4)) .nil))))) (.idx (.idx (.var 1) (.int 1)) (.int 1))) .nil)))) .nil)))) .nil) (.cons (.ret .non) .nil)))))⟩
def d__law_acted : Def := ⟨2, 10, false, (.cons (.asg 2 (.idx (.var 0) (.int 0))) (.cons (.ifs (.cmp .eq (.var 2) (.str k_name)) (.cons (.ret (.get1 (.var 1) (.idx (.var 0) (.int 1)))) .nil) .nil) (.cons (.ifs (.cmp .eq (.var 2) (.str k_call)) (.cons (.ret (.call i__law_called (.cons (.var 0) .nil))) .nil) .nil) (.cons (.ifs (.cmp .eq (.var 2) (.str k_let)) (.cons (.ret (.call i__law_put (.cons (.idx (.var 0) (.int 3)) (.cons (.dsp (.cons (.idx (.var 0) (.int 1)) (.cons (.idx (.var 0) (.int 2)) .nil))) .nil)))) .nil) .nil) (.cons (.ifs (.cmp .eq (.var 2) (.str k_group)) (.cons (.ret (.call i__law_put (.cons (.idx (.var 0) (.int 2)) (.cons (.call i__law_whole (.cons (.idx (.var 0) (.int 1)) .nil)) .nil)))) .nil) .nil) (.cons (.ifs (.cmp .eq (.var 2) (.str k_told)) (.cons (.ret (.idx (.var 0) (.int 1))) .nil) .nil) (.cons (.ifs (.and (.cmp .eq (.var 2) (.str k_if)) (.cmp .eq (.idx (.idx (.var 0) (.int 1)) (.int 0)) (.str k_truth))) (.cons (.ret (.idx (.lst (.cons (.idx (.var 0) (.int 3)) (.cons (.idx (.var 0) (.int 2)) .nil))) (.bif .int (.idx (.idx (.var 0) (.int 1)) (.int 1))))) .nil) .nil) (.cons (.ifs (.and (.cmp .eq (.var 2) (.str k_match)) (.notN (.call i__law_marks (.cons (.idx (.var 0) (.int 1)) .nil)))) (.cons (.asgT [3, 4] (.call i__law_marks (.cons (.idx (.var 0) (.int 1)) .nil))) (.cons (.fors (.tup [5, 6, 7]) (.plain (.idx (.var 0) (.int 2))) (.cons (.ifs (.and (.cmp .eq (.var 5) (.var 3)) (.cmp .eq (.bif .len (.var 6)) (.bif .len (.var 4)))) (.cons (.ret (.call i__law_put (.cons (.var 7) (.cons (.dzip (.var 6) (.var 4)) .nil)))) .nil) .nil) .nil)) .nil)) .nil) (.cons (.ifs (.and (.cmp .inn (.var 2) (.tup (.cons (.str k_get) (.cons (.str k_put) .nil)))) (.and (.cmp .eq (.idx (.idx (.var 0) (.int 1)) (.int 0)) (.str k_rec)) (.cmp .inn (.idx (.var 0) (.int 2)) (.bif .dict (.idx (.idx (.var 0) (.int 1)) (.int 1)))))) (.cons (.ifs (.cmp .eq (.var 2) (.str k_get)) (.cons (.ret (.idx (.bif .dict (.idx (.idx (.var 0) (.int 1)) (.int 1))) (.idx (.var 0) (.int 2)))) .nil) .nil) (.cons (.ret (.tup (.cons (.str k_rec) (.cons (.bif .tuple (.lc (.tup (.cons (.var 8) (.cons (.idx (.lst (.cons (.var 9) (.cons (.idx (.var 0) (.int 3)) .nil))) (.bif .int (.cmp .eq (.var 8) (.idx (.var 0) (.int 2))))) .nil))) (.tup [8, 9]) (.plain (.idx (.idx (.var 0) (.int 1)) (.int 1))) .nil [8, 9])) .nil)))) .nil)) .nil) (.cons (.ret .non) .nil))))))))))⟩
def d__law_step : Def := ⟨3, 6, false, (.cons (.ifs (.call i__law_done (.cons (.var 0) (.cons (.var 2) .nil))) (.cons (.ret .non) .nil) .nil) (.cons (.fors (.tup [3, 4]) (.enum (.call i__law_parts (.cons (.var 0) .nil))) (.cons (.ifs (.not (.call i__law_done (.cons (.var 4) (.cons (.var 2) .nil)))) (.cons (.asg 5 (.call i__law_step (.cons (.var 4) (.cons (.var 1) (.cons (.var 2) .nil))))) (.cons (.frz 5) (.cons (.ifs (.cmp .eq (.idx (.var 5) (.int 0)) (.str k_fault)) (.cons (.ret (.tup (.cons (.str k_fault) (.cons (.bop .add (.tup (.cons (.var 3) .nil)) (.idx (.var 5) (.int 1))) .nil)))) .nil) .nil) (.cons (.ret (.call i__law_with (.cons (.var 0) (.cons (.var 3) (.cons (.var 5) .nil))))) .nil)))) .nil) .nil)) (.cons (.asg 5 (.call i__law_acted (.cons (.var 0) (.cons (.var 1) .nil)))) (.cons (.frz 5) (.cons (.ifs (.isN (.var 5)) (.cons (.ret (.tup (.cons (.str k_fault) (.cons (.tup .nil) .nil)))) .nil) .nil) (.cons (.ret (.var 5)) .nil))))))⟩
def d__law_size : Def := ⟨2, 3, false, (.cons (.ifs (.or (.not (.isT (.var 0))) (.cmp .gt (.var 1) (.int 30))) (.cons (.ret (.bop .mul (.int 1000) (.bif .int (.cmp .gt (.var 1) (.int 30))))) .nil) .nil) (.cons (.ret (.bop .add (.int 1) (.bif .sum (.lc (.call i__law_size (.cons (.var 2) (.cons (.bop .add (.var 1) (.int 1)) .nil))) (.var 2) (.plain (.var 0)) .nil [2])))) .nil))⟩
def d__law_sums_right : Def := ⟨2, 8, false, (.cons (.asg 2 (.lst (.cons (.lc (.call i__law_draw (.cons (.var 0) (.cons (.bop .pow (.int 10) (.int 6)) .nil))) (.var 3) (.rng (.int 2)) .nil [3]) (.cons (.lst (.cons (.int 999999) (.cons (.bop .add (.int 1) (.call i__law_draw (.cons (.var 0) (.cons (.int 999999) .nil)))) .nil))) .nil)))) (.cons (.frz 2) (.cons (.fors (.tup [4, 5]) (.plain (.var 2)) (.cons (.fors (.tup [6, 7]) (.plain (.lst (.cons (.tup (.cons (.str k_add) (.cons (.bop .add (.var 4) (.var 5)) .nil))) (.cons (.tup (.cons (.str k_sub) (.cons (.bop .sub (.var 4) (.var 5)) .nil))) .nil)))) (.cons (.ifs (.cmp .ne (.call i_step (.cons (.var 1) (.cons (.tup (.cons (.str k_call) (.cons (.tup (.cons (.str k_call) (.cons (.tup (.cons (.str k_name) (.cons (.var 6) .nil))) (.cons (.tup (.cons (.str k_num) (.cons (.var 4) .nil))) .nil)))) (.cons (.tup (.cons (.str k_num) (.cons (.var 5) .nil))) .nil)))) .nil))) (.tup (.cons (.str k_num) (.cons (.var 7) .nil)))) (.cons (.ret (.bl false)) .nil) .nil) .nil)) .nil)) (.cons (.ret (.bl true)) .nil))))⟩
def d_law : Def := ⟨1, 10, false, (.cons (.asg 1 (.call i__law_source (.cons (.var 0) .nil))) (.cons (.shr 1) (.cons (.asg 2 (.call i__law_words (.cons (.var 1) (.cons (.int 15) .nil)))) (.cons (.frz 2) (.cons (.asg 3 (.call i__law_shapes (.cons (.var 2) .nil))) (.cons (.frz 3) (.cons (.asg 4 (.call i__law_kind (.cons (.var 1) (.cons (.var 3) (.cons (.int 2) (.cons (.bl true) .nil)))))) (.cons (.frz 4) (.cons (.asg 5 (.tup (.cons (.var 3) (.cons (.slcB (.var 2) (.int 7) (.int 11)) .nil)))) (.cons (.asg 6 (.call i__law_make (.cons (.var 1) (.cons (.var 5) (.cons (.lst .nil) (.cons (.var 4) (.cons (.int 3) .nil))))))) (.cons (.frz 6) (.cons (.ifs (.cmp .gt (.call i__law_size (.cons (.var 6) (.cons (.int 0) .nil))) (.int 280)) (.cons (.asg 6 (.call i__law_make (.cons (.var 1) (.cons (.var 5) (.cons (.lst .nil) (.cons (.var 4) (.cons (.int 0) .nil))))))) (.cons (.frz 6) .nil)) .nil) (.cons (.asg 7 (.mk 2 (.cons (.var 3) (.cons (.tup .nil) (.cons (.tup .nil) (.cons (.fld (.call i_least_world .nil) k_names) .nil)))))) (.cons (.frz 7) (.cons (.ifs (.not (.call i__law_sums_right (.cons (.var 1) (.cons (.var 7) .nil)))) (.cons (.ret (.bl false)) .nil) .nil) (.cons (.fors (.var 8) (.rng (.idx (.lst (.cons (.int 14) (.cons (.int 40) .nil))) (.bif .int (.cmp .eq (.call i__law_draw (.cons (.var 1) (.cons (.int 8) .nil))) (.int 1))))) (.cons (.ifs (.cmp .gt (.call i__law_size (.cons (.var 6) (.cons (.int 0) .nil))) (.int 280)) (.cons (.ret (.bl true)) .nil) .nil) (.cons (.asg 9 (.call i__law_step (.cons (.var 6) (.cons (.dsp .nil) (.cons (.tup (.cons (.str k_add) (.cons (.str k_sub) (.cons (.str k_less) .nil)))) .nil))))) (.cons (.frz 9) (.cons (.ifs (.or (.cmp .ne (.call i_step (.cons (.var 7) (.cons (.var 6) .nil))) (.var 9)) (.cmp .ne (.call i_step (.cons (.var 7) (.cons (.var 6) .nil))) (.var 9))) (.cons (.ret (.bl false)) .nil) .nil) (.cons (.ifs (.isN (.var 9)) (.cons (.ret (.bl true)) .nil) .nil) (.cons (.asg 6 (.var 9)) .nil))))))) (.cons (.ret (.bl true)) .nil)))))))))))))))))⟩
def tbl : List (Option Def) := [some d__wall, some d_all_in, none, some d_parts_of, some d_with_parts, some d_bound_in, some d_free_names, some d_names_in, some d_new_names, some d_renamed, some d_all_renamed, some d_caught_by, some d_put_by, some d_put_for, some d_Rules_term_told, some d_Rules_class_told, some d_Rules_house_told, some d_Rules_stays, some d_WorldRules___init__, some d_WorldRules_term_told, some d_WorldRules_class_told, some d_WorldRules_house_told, some d_mark_of, some d_is_group_value, some d_is_run_out, some d_parts_first, some d_names_aside, some d_put_all, some d_group_values, some d_fun_of_group, some d_reckoned, some d_head_of, some d_called_term, some d_matched_term, some d_field_term, some d_acted, some d_with_part, some d_next_part, some d_step_by, some d_step, some d_World___init__, some d_World_shape_of, none, none, none, some d_World_house_for, some d_World_name_called, none, some d_of_two_numbers, some d_least_world, some d__law_source, some d__law_draw, some d__law_words, some d__law_shapes, some d__law_kind, some d__law_kind_by, some d__law_mark_kinds, some d__law_marked, some d__law_plain, some d__law_counted, some d__law_branched, some d__law_bound, some d__law_field, some d__law_make, some d__law_parts, some d__law_with, some d__law_put, some d__law_but, some d__law_marks, some d__law_done, some d__law_whole, some d__law_called, some d__law_acted, some d__law_step, some d__law_size, some d__law_sums_right, some d_law]
def tb (f : Nat) : Option Def := (tbl[f]?).join
def mts : List (Nat × Str × Nat) := [(0, k_class_told, i_Rules_class_told), (0, k_house_told, i_Rules_house_told), (0, k_stays, i_Rules_stays), (0, k_term_told, i_Rules_term_told), (1, k_class_told, i_WorldRules_class_told), (1, k_house_told, i_WorldRules_house_told), (1, k_stays, i_Rules_stays), (1, k_term_told, i_WorldRules_term_told), (2, k_class_by_deed, i_World_class_by_deed), (2, k_class_called, i_World_class_called), (2, k_house_for, i_World_house_for), (2, k_name_called, i_World_name_called), (2, k_scheme_of, i_World_scheme_of), (2, k_shape_called, i_World_shape_called), (2, k_shape_of, i_World_shape_of)]
def ins : List (Nat × Nat) := [(1, i_WorldRules___init__), (2, i_World___init__)]
def cfg : Cfg where
  meth := fun c m => (mts.find? fun q => decide (q.1 = c) && decide (q.2.1 = m)).map (·.2.2)
  init := fun c => (ins.find? fun q => decide (q.1 = c)).map (·.2)
def nms_0 : List (List Str) := [[k_k], [k_text, k_signs, k_sign], [k_thing], [k_term, k_word, k_name, k_inner, k_mark, k_names], [k_term, k_parts, k_word, k_field, k_part, k_pair, k_branch], [k_term, k_name, k_inner, k_mark, k_names], [k_term, k_found, k_part, k_names, k_name], [k_term, k_found, k_part, k_names], [k_taken, k_many, k_found, k_ends, k_longer, k_end, k_letter, k_name], [k_term, k_news, k_word, k_pairs, k_name, k_inner, k_branches, k_mark, k_names, k_own], [k_term, k_news, k_name], [k_term, k_name, k_barred, k_found, k_part, k_names, k_some, k_one], [k_term, k_name, k_other, k_barred, k_caught, k_taken, k_parts, k_part, k_names], [k_term, k_name, k_other], [k_self, k_name], [k_self, k_name], [k_self, k_called, k_head], [k_self, k_name], [k_self, k_world], [k_self, k_name, k_found]]
def nms_1 : List (List Str) := [[k_self, k_name, k_called, k_deed, k_kind], [k_self, k_called, k_head, k_found], [k_term, k_some], [k_term, k_name, k_part], [k_rules, k_term, k_word, k_name, k_part], [k_term, k_word], [k_known, k_many, k_some, k_one, k_other, k_name], [k_term, k_pairs, k_known, k_name, k_other, k_aside, k_pair, k_called], [k_pairs, k_name, k_part], [k_term], [k_word, k_one, k_other], [k_rules, k_term, k_found, k_shape], [k_rules, k_one, k_other, k_house], [k_term, k_found, k_mark, k_names, k_part], [k_term, k_fields, k_name, k_part], [k_rules, k_term, k_word], [k_term, k_at, k_part, k_parts], [k_rules, k_term, k_at, k_part], [k_rules, k_term, k_at, k_found], [k_world, k_term]]
def nms_2 : List (List Str) := [[k_self, k_shapes, k_classes, k_houses, k_names], [k_self, k_mark, k_shape, k_one, k_kinds], [k_self, k_name], [k_self, k_name], [k_self, k_name], [k_self, k_called, k_head, k_house], [k_self, k_name, k_entry], [k_self, k_name], [k_kind], [k_names, k_name, k_kind], [k__law_script, k__law_number, k__law_k, k__law_cell, k__law_cells], [k__law_source_here, k__law_most, k__law_at, k__law_cell], [k__law_source_here, k__law_many, k__law_letters, k__law_base, k__law_k, k__law_at, k__law_first, k__law_odd, k__law_made, k__law_word], [k__law_some, k__law_marks_here, k__law_k, k__law_one, k__law_maybe, k__law_row, k__law_pair, k__law_six, k__law_mark], [k__law_source_here, k__law_shapes_here, k__law_deep, k__law_funs, k__law_way, k__law_one, k__law_first, k__law_names, k__law_name, k__law_shape], [k__law_kind_here, k__law_table, k__law_one], [k__law_shapes_here, k__law_kind_here, k__law_shape, k__law_one, k__law_table, k__law_mark, k__law_kinds], [k__law_source_here, k__law_tools, k__law_known, k__law_kind_here, k__law_deep, k__law_some, k__law_mark, k__law_kinds, k__law_term, k__law_one], [k__law_source_here, k__law_tools, k__law_known, k__law_kind_here, k__law_deep, k__law_word, k__law_one, k__law_name], [k__law_source_here, k__law_tools, k__law_known, k__law_kind_here, k__law_deep, k__law_one, k__law_other, k__law_members, k__law_sign, k__law_inner, k__law_pair, k__law_less, k__law_ends, k__law_pairs, k__law_k, k__law_again, k__law_body]]
def nms_3 : List (List Str) := [[k__law_source_here, k__law_tools, k__law_known, k__law_kind_here, k__law_deep, k__law_whole_here, k__law_branches, k__law_marks_here, k__law_mark, k__law_kinds, k__law_names, k__law_sign, k__law_inner], [k__law_source_here, k__law_tools, k__law_known, k__law_kind_here, k__law_deep, k__law_name, k__law_one, k__law_first, k__law_second], [k__law_source_here, k__law_tools, k__law_known, k__law_kind_here, k__law_deep, k__law_fields, k__law_row], [k__law_source_here, k__law_tools, k__law_known, k__law_kind_here, k__law_deep, k__law_same, k__law_name, k__law_one, k__law_way, k__law_calls, k__law_ends], [k__law_term, k__law_word, k__law_name, k__law_one], [k__law_term, k__law_at, k__law_part, k__law_spot], [k__law_term, k__law_table, k__law_word, k__law_left, k__law_name, k__law_one, k__law_some, k__law_mark, k__law_names, k__law_at, k__law_part], [k__law_table, k__law_names, k__law_name], [k__law_term, k__law_some], [k__law_term, k__law_stays, k__law_word, k__law_name, k__law_one], [k__law_pairs, k__law_name, k__law_one], [k__law_term, k__law_one, k__law_other, k__law_first, k__law_last], [k__law_term, k__law_names, k__law_word, k__law_mark, k__law_some, k__law_called_here, k__law_bound_here, k__law_part, k__law_name, k__law_one], [k__law_term, k__law_names, k__law_stays, k__law_at, k__law_part, k__law_there], [k__law_thing, k__law_deep, k__law_one], [k__law_source_here, k__law_world, k__law_pairs, k__law_k, k__law_one, k__law_other, k__law_word, k__law_due], [k__law_script, k__law_source_here, k__law_some, k__law_shapes_here, k__law_kind_here, k__law_tools, k__law_term, k__law_world, k__law_k, k__law_due]]
def nms : List (List Str) := nms_0 ++ nms_1 ++ nms_2 ++ nms_3
def places_0 : List (Nat × Option Nat) := [(0, none), (6, none), (7, none), (9, none), (10, none), (11, none), (12, none), (13, none), (14, none), (15, none), (16, none), (17, none), (18, none), (19, none), (22, some 0), (22, some 1), (22, some 2), (22, some 3), (23, some 0), (23, some 1)]
def places_1 : List (Nat × Option Nat) := [(23, some 2), (23, some 3), (24, none), (25, none), (26, none), (27, none), (28, none), (29, none), (30, none), (31, none), (32, none), (33, none), (34, none), (35, none), (36, none), (37, none), (38, none), (39, none), (40, none), (41, none)]
def places_2 : List (Nat × Option Nat) := [(45, some 0), (45, some 1), (45, some 2), (45, some 3), (45, some 4), (45, some 5), (45, some 6), (45, some 7), (46, none), (47, none), (49, none), (50, none), (51, none), (52, none), (53, none), (54, none), (55, none), (56, none), (57, none), (58, none)]
def places_3 : List (Nat × Option Nat) := [(59, none), (60, none), (61, none), (62, none), (63, none), (64, none), (65, none), (66, none), (67, none), (68, none), (69, none), (70, none), (71, none), (72, none), (73, none), (74, none), (75, none)]
def places : List (Nat × Option Nat) := places_0 ++ places_1 ++ places_2 ++ places_3
def gns_0 : List (Option Str) := [some k__wall, some k_all_in, some k_is_name, some k_parts_of, some k_with_parts, some k_bound_in, some k_free_names, some k_names_in, some k_new_names, some k_renamed, some k_all_renamed, some k_caught_by, some k_put_by, some k_put_for, none, none, none, none, none, none]
def gns_1 : List (Option Str) := [none, none, some k_mark_of, some k_is_group_value, some k_is_run_out, some k_parts_first, some k_names_aside, some k_put_all, some k_group_values, some k_fun_of_group, some k_reckoned, some k_head_of, some k_called_term, some k_matched_term, some k_field_term, some k_acted, some k_with_part, some k_next_part, some k_step_by, some k_step]
def gns_2 : List (Option Str) := [none, none, none, none, none, none, none, none, some k_of_two_numbers, some k_least_world, some k__law_source, some k__law_draw, some k__law_words, some k__law_shapes, some k__law_kind, some k__law_kind_by, some k__law_mark_kinds, some k__law_marked, some k__law_plain, some k__law_counted]
def gns_3 : List (Option Str) := [some k__law_branched, some k__law_bound, some k__law_field, some k__law_make, some k__law_parts, some k__law_with, some k__law_put, some k__law_but, some k__law_marks, some k__law_done, some k__law_whole, some k__law_called, some k__law_acted, some k__law_step, some k__law_size, some k__law_sums_right, some k_law]
def gns : List (Option Str) := gns_0 ++ gns_1 ++ gns_2 ++ gns_3
def cns_0 : List (Str) := [k_Rules, k_WorldRules, k_World]
def cns : List (Str) := cns_0
def csts_0 : List (Str × T) := [(k_LETTERS, .str k_abcdefghijklmnopqrstuvwxyz), (k_BARRED, .tup [.str k_fun, .str k_let, .str k_group, .str k_and, .str k_in, .str k_if, .str k_get, .str k_put, .str k_match, .str k_told, .str k_yes, .str k_no, .str k_num, .str k_truth]), (k_BARRED_IN_MODULES, .tup [.str k_module, .str k_use, .str k_shape, .str k_class, .str k_house, .str k_for, .str k_when, .str k_is, .str k_end, .str k_out, .str k_shown, .str k_hidden]), (k_MOST_SIGNS, .int 8), (k_RECKONED, .tup [.str k_add, .str k_sub, .str k_less]), (k_NUM, .tup [.str k_num]), (k_TRUTH, .tup [.str k_truth])]
def csts : List (Str × T) := csts_0
def fls_0 : List (Str) := [k_classes, k_houses, k_names, k_shapes, k_world]
def fls : List (Str) := fls_0
@[simp] theorem o_k_ABCDEFGHIJKL : strOk k_ABCDEFGHIJKL = true := by decide +kernel
@[simp] theorem o_k_BARRED : strOk k_BARRED = true := by decide +kernel
@[simp] theorem o_k_BARRED_IN_MODULES : strOk k_BARRED_IN_MODULES = true := by decide +kernel
@[simp] theorem o_k_LETTERS : strOk k_LETTERS = true := by decide +kernel
@[simp] theorem o_k_MOST_SIGNS : strOk k_MOST_SIGNS = true := by decide +kernel
@[simp] theorem o_k_NUM : strOk k_NUM = true := by decide +kernel
@[simp] theorem o_k_RECKONED : strOk k_RECKONED = true := by decide +kernel
@[simp] theorem o_k_Rules : strOk k_Rules = true := by decide +kernel
@[simp] theorem o_k_TRUTH : strOk k_TRUTH = true := by decide +kernel
@[simp] theorem o_k_World : strOk k_World = true := by decide +kernel
@[simp] theorem o_k_WorldRules : strOk k_WorldRules = true := by decide +kernel
@[simp] theorem o_k__law_acted : strOk k__law_acted = true := by decide +kernel
@[simp] theorem o_k__law_again : strOk k__law_again = true := by decide +kernel
@[simp] theorem o_k__law_at : strOk k__law_at = true := by decide +kernel
@[simp] theorem o_k__law_base : strOk k__law_base = true := by decide +kernel
@[simp] theorem o_k__law_body : strOk k__law_body = true := by decide +kernel
@[simp] theorem o_k__law_bound : strOk k__law_bound = true := by decide +kernel
@[simp] theorem o_k__law_bound_here : strOk k__law_bound_here = true := by decide +kernel
@[simp] theorem o_k__law_branched : strOk k__law_branched = true := by decide +kernel
@[simp] theorem o_k__law_branches : strOk k__law_branches = true := by decide +kernel
@[simp] theorem o_k__law_but : strOk k__law_but = true := by decide +kernel
@[simp] theorem o_k__law_called : strOk k__law_called = true := by decide +kernel
@[simp] theorem o_k__law_called_here : strOk k__law_called_here = true := by decide +kernel
@[simp] theorem o_k__law_calls : strOk k__law_calls = true := by decide +kernel
@[simp] theorem o_k__law_cell : strOk k__law_cell = true := by decide +kernel
@[simp] theorem o_k__law_cells : strOk k__law_cells = true := by decide +kernel
@[simp] theorem o_k__law_counted : strOk k__law_counted = true := by decide +kernel
@[simp] theorem o_k__law_deep : strOk k__law_deep = true := by decide +kernel
@[simp] theorem o_k__law_done : strOk k__law_done = true := by decide +kernel
@[simp] theorem o_k__law_draw : strOk k__law_draw = true := by decide +kernel
@[simp] theorem o_k__law_due : strOk k__law_due = true := by decide +kernel
@[simp] theorem o_k__law_ends : strOk k__law_ends = true := by decide +kernel
@[simp] theorem o_k__law_field : strOk k__law_field = true := by decide +kernel
@[simp] theorem o_k__law_fields : strOk k__law_fields = true := by decide +kernel
@[simp] theorem o_k__law_first : strOk k__law_first = true := by decide +kernel
@[simp] theorem o_k__law_funs : strOk k__law_funs = true := by decide +kernel
@[simp] theorem o_k__law_inner : strOk k__law_inner = true := by decide +kernel
@[simp] theorem o_k__law_k : strOk k__law_k = true := by decide +kernel
@[simp] theorem o_k__law_kind : strOk k__law_kind = true := by decide +kernel
@[simp] theorem o_k__law_kind_by : strOk k__law_kind_by = true := by decide +kernel
@[simp] theorem o_k__law_kind_here : strOk k__law_kind_here = true := by decide +kernel
@[simp] theorem o_k__law_kinds : strOk k__law_kinds = true := by decide +kernel
@[simp] theorem o_k__law_known : strOk k__law_known = true := by decide +kernel
@[simp] theorem o_k__law_last : strOk k__law_last = true := by decide +kernel
@[simp] theorem o_k__law_left : strOk k__law_left = true := by decide +kernel
@[simp] theorem o_k__law_less : strOk k__law_less = true := by decide +kernel
@[simp] theorem o_k__law_letters : strOk k__law_letters = true := by decide +kernel
@[simp] theorem o_k__law_made : strOk k__law_made = true := by decide +kernel
@[simp] theorem o_k__law_make : strOk k__law_make = true := by decide +kernel
@[simp] theorem o_k__law_many : strOk k__law_many = true := by decide +kernel
@[simp] theorem o_k__law_mark : strOk k__law_mark = true := by decide +kernel
@[simp] theorem o_k__law_mark_kinds : strOk k__law_mark_kinds = true := by decide +kernel
@[simp] theorem o_k__law_marked : strOk k__law_marked = true := by decide +kernel
@[simp] theorem o_k__law_marks : strOk k__law_marks = true := by decide +kernel
@[simp] theorem o_k__law_marks_here : strOk k__law_marks_here = true := by decide +kernel
@[simp] theorem o_k__law_maybe : strOk k__law_maybe = true := by decide +kernel
@[simp] theorem o_k__law_members : strOk k__law_members = true := by decide +kernel
@[simp] theorem o_k__law_most : strOk k__law_most = true := by decide +kernel
@[simp] theorem o_k__law_name : strOk k__law_name = true := by decide +kernel
@[simp] theorem o_k__law_names : strOk k__law_names = true := by decide +kernel
@[simp] theorem o_k__law_number : strOk k__law_number = true := by decide +kernel
@[simp] theorem o_k__law_odd : strOk k__law_odd = true := by decide +kernel
@[simp] theorem o_k__law_one : strOk k__law_one = true := by decide +kernel
@[simp] theorem o_k__law_other : strOk k__law_other = true := by decide +kernel
@[simp] theorem o_k__law_pair : strOk k__law_pair = true := by decide +kernel
@[simp] theorem o_k__law_pairs : strOk k__law_pairs = true := by decide +kernel
@[simp] theorem o_k__law_part : strOk k__law_part = true := by decide +kernel
@[simp] theorem o_k__law_parts : strOk k__law_parts = true := by decide +kernel
@[simp] theorem o_k__law_plain : strOk k__law_plain = true := by decide +kernel
@[simp] theorem o_k__law_put : strOk k__law_put = true := by decide +kernel
@[simp] theorem o_k__law_row : strOk k__law_row = true := by decide +kernel
@[simp] theorem o_k__law_same : strOk k__law_same = true := by decide +kernel
@[simp] theorem o_k__law_script : strOk k__law_script = true := by decide +kernel
@[simp] theorem o_k__law_second : strOk k__law_second = true := by decide +kernel
@[simp] theorem o_k__law_shape : strOk k__law_shape = true := by decide +kernel
@[simp] theorem o_k__law_shapes : strOk k__law_shapes = true := by decide +kernel
@[simp] theorem o_k__law_shapes_here : strOk k__law_shapes_here = true := by decide +kernel
@[simp] theorem o_k__law_sign : strOk k__law_sign = true := by decide +kernel
@[simp] theorem o_k__law_six : strOk k__law_six = true := by decide +kernel
@[simp] theorem o_k__law_size : strOk k__law_size = true := by decide +kernel
@[simp] theorem o_k__law_some : strOk k__law_some = true := by decide +kernel
@[simp] theorem o_k__law_source : strOk k__law_source = true := by decide +kernel
@[simp] theorem o_k__law_source_here : strOk k__law_source_here = true := by decide +kernel
@[simp] theorem o_k__law_spot : strOk k__law_spot = true := by decide +kernel
@[simp] theorem o_k__law_stays : strOk k__law_stays = true := by decide +kernel
@[simp] theorem o_k__law_step : strOk k__law_step = true := by decide +kernel
@[simp] theorem o_k__law_sums_right : strOk k__law_sums_right = true := by decide +kernel
@[simp] theorem o_k__law_table : strOk k__law_table = true := by decide +kernel
@[simp] theorem o_k__law_term : strOk k__law_term = true := by decide +kernel
@[simp] theorem o_k__law_there : strOk k__law_there = true := by decide +kernel
@[simp] theorem o_k__law_thing : strOk k__law_thing = true := by decide +kernel
@[simp] theorem o_k__law_tools : strOk k__law_tools = true := by decide +kernel
@[simp] theorem o_k__law_way : strOk k__law_way = true := by decide +kernel
@[simp] theorem o_k__law_whole : strOk k__law_whole = true := by decide +kernel
@[simp] theorem o_k__law_whole_here : strOk k__law_whole_here = true := by decide +kernel
@[simp] theorem o_k__law_with : strOk k__law_with = true := by decide +kernel
@[simp] theorem o_k__law_word : strOk k__law_word = true := by decide +kernel
@[simp] theorem o_k__law_words : strOk k__law_words = true := by decide +kernel
@[simp] theorem o_k__law_world : strOk k__law_world = true := by decide +kernel
@[simp] theorem o_k__wall : strOk k__wall = true := by decide +kernel
@[simp] theorem o_k_a : strOk k_a = true := by decide +kernel
@[simp] theorem o_k_abcdefghijklmnopqrstuvwxyz : strOk k_abcdefghijklmnopqrstuvwxyz = true := by decide +kernel
@[simp] theorem o_k_acted : strOk k_acted = true := by decide +kernel
@[simp] theorem o_k_add : strOk k_add = true := by decide +kernel
@[simp] theorem o_k_all_in : strOk k_all_in = true := by decide +kernel
@[simp] theorem o_k_all_renamed : strOk k_all_renamed = true := by decide +kernel
@[simp] theorem o_k_and : strOk k_and = true := by decide +kernel
@[simp] theorem o_k_any : strOk k_any = true := by decide +kernel
@[simp] theorem o_k_aside : strOk k_aside = true := by decide +kernel
@[simp] theorem o_k_at : strOk k_at = true := by decide +kernel
@[simp] theorem o_k_b : strOk k_b = true := by decide +kernel
@[simp] theorem o_k_barred : strOk k_barred = true := by decide +kernel
@[simp] theorem o_k_bcdef : strOk k_bcdef = true := by decide +kernel
@[simp] theorem o_k_bound_in : strOk k_bound_in = true := by decide +kernel
@[simp] theorem o_k_branch : strOk k_branch = true := by decide +kernel
@[simp] theorem o_k_branches : strOk k_branches = true := by decide +kernel
@[simp] theorem o_k_c : strOk k_c = true := by decide +kernel
@[simp] theorem o_k_call : strOk k_call = true := by decide +kernel
@[simp] theorem o_k_called : strOk k_called = true := by decide +kernel
@[simp] theorem o_k_called_term : strOk k_called_term = true := by decide +kernel
@[simp] theorem o_k_caught : strOk k_caught = true := by decide +kernel
@[simp] theorem o_k_caught_by : strOk k_caught_by = true := by decide +kernel
@[simp] theorem o_k_class : strOk k_class = true := by decide +kernel
@[simp] theorem o_k_class_by_deed : strOk k_class_by_deed = true := by decide +kernel
@[simp] theorem o_k_class_called : strOk k_class_called = true := by decide +kernel
@[simp] theorem o_k_class_told : strOk k_class_told = true := by decide +kernel
@[simp] theorem o_k_classes : strOk k_classes = true := by decide +kernel
@[simp] theorem o_k_d : strOk k_d = true := by decide +kernel
@[simp] theorem o_k_deed : strOk k_deed = true := by decide +kernel
@[simp] theorem o_k_e : strOk k_e = true := by decide +kernel
@[simp] theorem o_k_empty : strOk k_empty = true := by decide +kernel
@[simp] theorem o_k_end : strOk k_end = true := by decide +kernel
@[simp] theorem o_k_ends : strOk k_ends = true := by decide +kernel
@[simp] theorem o_k_entry : strOk k_entry = true := by decide +kernel
@[simp] theorem o_k_fault : strOk k_fault = true := by decide +kernel
@[simp] theorem o_k_field : strOk k_field = true := by decide +kernel
@[simp] theorem o_k_field_term : strOk k_field_term = true := by decide +kernel
@[simp] theorem o_k_fields : strOk k_fields = true := by decide +kernel
@[simp] theorem o_k_for : strOk k_for = true := by decide +kernel
@[simp] theorem o_k_found : strOk k_found = true := by decide +kernel
@[simp] theorem o_k_free_names : strOk k_free_names = true := by decide +kernel
@[simp] theorem o_k_fun : strOk k_fun = true := by decide +kernel
@[simp] theorem o_k_fun_of_group : strOk k_fun_of_group = true := by decide +kernel
@[simp] theorem o_k_get : strOk k_get = true := by decide +kernel
@[simp] theorem o_k_given : strOk k_given = true := by decide +kernel
@[simp] theorem o_k_group : strOk k_group = true := by decide +kernel
@[simp] theorem o_k_group_values : strOk k_group_values = true := by decide +kernel
@[simp] theorem o_k_head : strOk k_head = true := by decide +kernel
@[simp] theorem o_k_head_of : strOk k_head_of = true := by decide +kernel
@[simp] theorem o_k_hidden : strOk k_hidden = true := by decide +kernel
@[simp] theorem o_k_house : strOk k_house = true := by decide +kernel
@[simp] theorem o_k_house_for : strOk k_house_for = true := by decide +kernel
@[simp] theorem o_k_house_told : strOk k_house_told = true := by decide +kernel
@[simp] theorem o_k_houses : strOk k_houses = true := by decide +kernel
@[simp] theorem o_k_if : strOk k_if = true := by decide +kernel
@[simp] theorem o_k_in : strOk k_in = true := by decide +kernel
@[simp] theorem o_k_inner : strOk k_inner = true := by decide +kernel
@[simp] theorem o_k_is : strOk k_is = true := by decide +kernel
@[simp] theorem o_k_is_group_value : strOk k_is_group_value = true := by decide +kernel
@[simp] theorem o_k_is_name : strOk k_is_name = true := by decide +kernel
@[simp] theorem o_k_is_run_out : strOk k_is_run_out = true := by decide +kernel
@[simp] theorem o_k_k : strOk k_k = true := by decide +kernel
@[simp] theorem o_k_kind : strOk k_kind = true := by decide +kernel
@[simp] theorem o_k_kinds : strOk k_kinds = true := by decide +kernel
@[simp] theorem o_k_known : strOk k_known = true := by decide +kernel
@[simp] theorem o_k_law : strOk k_law = true := by decide +kernel
@[simp] theorem o_k_least_world : strOk k_least_world = true := by decide +kernel
@[simp] theorem o_k_less : strOk k_less = true := by decide +kernel
@[simp] theorem o_k_let : strOk k_let = true := by decide +kernel
@[simp] theorem o_k_letter : strOk k_letter = true := by decide +kernel
@[simp] theorem o_k_longer : strOk k_longer = true := by decide +kernel
@[simp] theorem o_k_many : strOk k_many = true := by decide +kernel
@[simp] theorem o_k_mark : strOk k_mark = true := by decide +kernel
@[simp] theorem o_k_mark_of : strOk k_mark_of = true := by decide +kernel
@[simp] theorem o_k_match : strOk k_match = true := by decide +kernel
@[simp] theorem o_k_matched_term : strOk k_matched_term = true := by decide +kernel
@[simp] theorem o_k_module : strOk k_module = true := by decide +kernel
@[simp] theorem o_k_name : strOk k_name = true := by decide +kernel
@[simp] theorem o_k_name_called : strOk k_name_called = true := by decide +kernel
@[simp] theorem o_k_names : strOk k_names = true := by decide +kernel
@[simp] theorem o_k_names_aside : strOk k_names_aside = true := by decide +kernel
@[simp] theorem o_k_names_in : strOk k_names_in = true := by decide +kernel
@[simp] theorem o_k_new_names : strOk k_new_names = true := by decide +kernel
@[simp] theorem o_k_news : strOk k_news = true := by decide +kernel
@[simp] theorem o_k_next_part : strOk k_next_part = true := by decide +kernel
@[simp] theorem o_k_no : strOk k_no = true := by decide +kernel
@[simp] theorem o_k_num : strOk k_num = true := by decide +kernel
@[simp] theorem o_k_of_two_numbers : strOk k_of_two_numbers = true := by decide +kernel
@[simp] theorem o_k_one : strOk k_one = true := by decide +kernel
@[simp] theorem o_k_open : strOk k_open = true := by decide +kernel
@[simp] theorem o_k_other : strOk k_other = true := by decide +kernel
@[simp] theorem o_k_out : strOk k_out = true := by decide +kernel
@[simp] theorem o_k_own : strOk k_own = true := by decide +kernel
@[simp] theorem o_k_pair : strOk k_pair = true := by decide +kernel
@[simp] theorem o_k_pairs : strOk k_pairs = true := by decide +kernel
@[simp] theorem o_k_part : strOk k_part = true := by decide +kernel
@[simp] theorem o_k_parts : strOk k_parts = true := by decide +kernel
@[simp] theorem o_k_parts_first : strOk k_parts_first = true := by decide +kernel
@[simp] theorem o_k_parts_of : strOk k_parts_of = true := by decide +kernel
@[simp] theorem o_k_put : strOk k_put = true := by decide +kernel
@[simp] theorem o_k_put_all : strOk k_put_all = true := by decide +kernel
@[simp] theorem o_k_put_by : strOk k_put_by = true := by decide +kernel
@[simp] theorem o_k_put_for : strOk k_put_for = true := by decide +kernel
@[simp] theorem o_k_q : strOk k_q = true := by decide +kernel
@[simp] theorem o_k_rec : strOk k_rec = true := by decide +kernel
@[simp] theorem o_k_reckoned : strOk k_reckoned = true := by decide +kernel
@[simp] theorem o_k_renamed : strOk k_renamed = true := by decide +kernel
@[simp] theorem o_k_rules : strOk k_rules = true := by decide +kernel
@[simp] theorem o_k_scheme_of : strOk k_scheme_of = true := by decide +kernel
@[simp] theorem o_k_self : strOk k_self = true := by decide +kernel
@[simp] theorem o_k_shape : strOk k_shape = true := by decide +kernel
@[simp] theorem o_k_shape_called : strOk k_shape_called = true := by decide +kernel
@[simp] theorem o_k_shape_of : strOk k_shape_of = true := by decide +kernel
@[simp] theorem o_k_shapes : strOk k_shapes = true := by decide +kernel
@[simp] theorem o_k_shown : strOk k_shown = true := by decide +kernel
@[simp] theorem o_k_sign : strOk k_sign = true := by decide +kernel
@[simp] theorem o_k_signs : strOk k_signs = true := by decide +kernel
@[simp] theorem o_k_some : strOk k_some = true := by decide +kernel
@[simp] theorem o_k_stays : strOk k_stays = true := by decide +kernel
@[simp] theorem o_k_step : strOk k_step = true := by decide +kernel
@[simp] theorem o_k_step_by : strOk k_step_by = true := by decide +kernel
@[simp] theorem o_k_sub : strOk k_sub = true := by decide +kernel
@[simp] theorem o_k_sum : strOk k_sum = true := by decide +kernel
@[simp] theorem o_k_taken : strOk k_taken = true := by decide +kernel
@[simp] theorem o_k_term : strOk k_term = true := by decide +kernel
@[simp] theorem o_k_term_told : strOk k_term_told = true := by decide +kernel
@[simp] theorem o_k_text : strOk k_text = true := by decide +kernel
@[simp] theorem o_k_thing : strOk k_thing = true := by decide +kernel
@[simp] theorem o_k_told : strOk k_told = true := by decide +kernel
@[simp] theorem o_k_truth : strOk k_truth = true := by decide +kernel
@[simp] theorem o_k_use : strOk k_use = true := by decide +kernel
@[simp] theorem o_k_vwxy : strOk k_vwxy = true := by decide +kernel
@[simp] theorem o_k_when : strOk k_when = true := by decide +kernel
@[simp] theorem o_k_with_part : strOk k_with_part = true := by decide +kernel
@[simp] theorem o_k_with_parts : strOk k_with_parts = true := by decide +kernel
@[simp] theorem o_k_word : strOk k_word = true := by decide +kernel
@[simp] theorem o_k_world : strOk k_world = true := by decide +kernel
@[simp] theorem o_k_yes : strOk k_yes = true := by decide +kernel
@[simp] theorem o_k_zzzzzz : strOk k_zzzzzz = true := by decide +kernel
end TL
end

section
set_option Elab.async false
set_option linter.all false
set_option maxRecDepth 100000
set_option maxHeartbeats 0
namespace Hd
open PySem PySem.Spec PyProof.Rows L2 TL
def top (i : Nat) : Stmt := PySem.Challenge.pw_kindcourt_k80_one_step_told.main.body.getD i (.Pass ⟨0, 0, 0, 0⟩)
def inCls (s : Stmt) : List Stmt := match s with
  | .ClassDef _ _ _ b _ _ _ _ _ _ _ => b
  | _ => []
def mth (i j : Nat) : Stmt := (inCls (top i)).getD j (.Pass ⟨0, 0, 0, 0⟩)
def gd (x : Str) (i : Nat) : Option He.DefD := some ⟨(x, none), x, x, defArgs (top i), defBody (top i), defScope (top i), [], []⟩
def md (c x q : Str) (i j : Nat) : Option He.DefD := some ⟨(c, some x), x, q, defArgs (mth i j), defBody (mth i j), defScope (mth i j), [], []⟩
def dd0 : List (Option He.DefD) := [none, gd "all_in" 6, gd "is_name" 7, gd "parts_of" 9, gd "with_parts" 10, gd "bound_in" 11, gd "free_names" 12, gd "names_in" 13, gd "new_names" 14, gd "renamed" 15, gd "all_renamed" 16, gd "caught_by" 17, gd "put_by" 18, gd "put_for" 19, md "Rules" "term_told" "Rules.term_told" 22 0, md "Rules" "class_told" "Rules.class_told" 22 1, md "Rules" "house_told" "Rules.house_told" 22 2, md "Rules" "stays" "Rules.stays" 22 3, md "WorldRules" "__init__" "WorldRules.__init__" 23 0, md "WorldRules" "term_told" "WorldRules.term_told" 23 1]
def dd1 : List (Option He.DefD) := [md "WorldRules" "class_told" "WorldRules.class_told" 23 2, md "WorldRules" "house_told" "WorldRules.house_told" 23 3, gd "mark_of" 24, gd "is_group_value" 25, gd "is_run_out" 26, gd "parts_first" 27, gd "names_aside" 28, gd "put_all" 29, gd "group_values" 30, gd "fun_of_group" 31, gd "reckoned" 32, gd "head_of" 33, gd "called_term" 34, gd "matched_term" 35, gd "field_term" 36, gd "acted" 37, gd "with_part" 38, gd "next_part" 39, gd "step_by" 40, gd "step" 41]
def dd2 : List (Option He.DefD) := [md "World" "__init__" "World.__init__" 45 0, md "World" "shape_of" "World.shape_of" 45 1, md "World" "shape_called" "World.shape_called" 45 2, md "World" "class_called" "World.class_called" 45 3, md "World" "class_by_deed" "World.class_by_deed" 45 4, md "World" "house_for" "World.house_for" 45 5, md "World" "name_called" "World.name_called" 45 6, md "World" "scheme_of" "World.scheme_of" 45 7, gd "of_two_numbers" 46, gd "least_world" 47, gd "_law_source" 49, gd "_law_draw" 50, gd "_law_words" 51, gd "_law_shapes" 52, gd "_law_kind" 53, gd "_law_kind_by" 54, gd "_law_mark_kinds" 55, gd "_law_marked" 56, gd "_law_plain" 57, gd "_law_counted" 58]
def dd3 : List (Option He.DefD) := [gd "_law_branched" 59, gd "_law_bound" 60, gd "_law_field" 61, gd "_law_make" 62, gd "_law_parts" 63, gd "_law_with" 64, gd "_law_put" 65, gd "_law_but" 66, gd "_law_marks" 67, gd "_law_done" 68, gd "_law_whole" 69, gd "_law_called" 70, gd "_law_acted" 71, gd "_law_step" 72, gd "_law_size" 73, gd "_law_sums_right" 74, gd "law" 75]
def D : Dat := ⟨dd0 ++ dd1 ++ dd2 ++ dd3, nms, cns, csts, fls, mts, ins⟩
def loose : List PySem.Str := (["_wall", "__name__", "LETTERS", "BARRED", "BARRED_IN_MODULES", "MOST_SIGNS", "all_in", "is_name", "parts_of", "with_parts", "bound_in", "free_names", "names_in", "new_names", "renamed", "all_renamed", "caught_by", "put_by", "put_for", "RECKONED", "Rules", "WorldRules", "mark_of", "is_group_value", "is_run_out", "parts_first", "names_aside", "put_all", "group_values", "fun_of_group"] : List PySem.Str) ++ (["reckoned", "head_of", "called_term", "matched_term", "field_term", "acted", "with_part", "next_part", "step_by", "step", "NUM", "TRUTH", "World", "of_two_numbers", "least_world", "_law_source", "_law_draw", "_law_words", "_law_shapes", "_law_kind", "_law_kind_by", "_law_mark_kinds", "_law_marked", "_law_plain", "_law_counted", "_law_branched", "_law_bound", "_law_field", "_law_make", "_law_parts"] : List PySem.Str) ++ (["_law_with", "_law_put", "_law_but", "_law_marks", "_law_done", "_law_whole", "_law_called", "_law_acted", "_law_step", "_law_size", "_law_sums_right"] : List PySem.Str)
theorem stat : D.stat tb = true := by decide +kernel
abbrev R : PySem.W.OpenRow := PySem.W.OpenLaw.row PySem.Challenge.rw_kindcourt_k80_one_step_told
abbrev hk : PySem.W.Hook := hookT 4 D
def ob (s : PySem.W.SharedT) : AlT := obsTG 4 D (HandSHeadRun.getT s)
theorem ob_eq (s : PySem.W.SharedT) : ob s = hk.obs s.abs := obsTG_eq (HandSHeadRun.getT_eq s)
theorem run (w : World) : HandSHeadRun.RunEq R (PySem.W.view R.prog [75]) hk ob 4000 loose w := by
  intro os
  kernel_rfl
theorem cfg_eq : D.cfg = cfg := rfl
end Hd
end

section
set_option Elab.async false
set_option linter.all false
set_option maxRecDepth 100000
set_option maxHeartbeats 0
namespace Hd
open PySem PySem.W PySem.Calls PyProof.Rows TL
theorem holds {k : Nat} (hr : L2.Room (k + 3) callerA) (law : ∀ ns : List Int, ns.length ≤ 63 → ∃ st', den cfg tb (k + 1) i_law [.lst (ns.map .int)] [] = some (.fro (.bl true), st')) : PySem.Challenge.rw_kindcourt_k80_one_step_told.Holds := by
  w_on; o_law
  refine HandSHeadRun.head_any (r := OpenLaw.row PySem.Challenge.rw_kindcourt_k80_one_step_told) (q := view (OpenLaw.row PySem.Challenge.rw_kindcourt_k80_one_step_told).prog [75]) (H := hk) (ob := ob) (M := 4000) (loose := loose) (d := HandSHeadRun.topDef (OpenLaw.row PySem.Challenge.rw_kindcourt_k80_one_step_told).prog 75) (kwd := []) ob_eq
    (by kernel_rfl) (fun s => by kernel_rfl) run (by kernel_rfl) (by kernel_rfl) (by kernel_rfl) (by rfl) (by first | assumption | decide +kernel) (by decide +kernel) ⟨rfl, rfl, rfl, rfl, rfl, by decide +kernel⟩ ?hw ?hc
  case hw => w_witness2
  case hc =>
    refine L2.walk_ofE (l := PySem.Challenge.rw_kindcourt_k80_one_step_told) (n := 63) (k := k + 3) (x := "_law_script") (CX := C8.CX0) rfl (by decide) (by kernel_rfl) hr ?F (fun _ _ _ _ z => z)
    intro w mg fa h Y G hmg0
    have hmg : mg ("law" : PySem.Str) = some (.ref fa) := by
      have e : (HandSHeadRun.topDef (OpenLaw.row PySem.Challenge.rw_kindcourt_k80_one_step_told).prog 75).name = ("law" : PySem.Str) := by kernel_rfl
      rw [← e]
      exact hmg0
    exact law_end (D := D) (tb := tb) (m := 4) (f := i_law) (d := d_law) (nm := "law") stat (by rfl) (by rfl) (by decide +kernel) law w mg fa h Y G hmg
end Hd
end

section
set_option linter.all false
set_option maxRecDepth 100000
/-! Running terms of the small language on values that are known in part. -/
namespace TL
open PySem
section
variable {α β : Type}
@[simp] theorem ret_bind {a : α} {f : α → M β} : M.bind (M.ret a) f = f a := by
  funext s
  rfl
@[simp] theorem fail_bind {f : α → M β} : M.bind (M.fail : M α) f = M.fail := rfl
@[simp] theorem of_some {a : α} : M.of (some a) = M.ret a := by
  funext s
  rfl
@[simp] theorem of_none : M.of (none : Option α) = M.fail := rfl
@[simp] theorem bind_assoc {γ : Type} {m : M α} {f : α → M β} {g : β → M γ} : M.bind (M.bind m f) g = M.bind m fun a => M.bind (f a) g := by
  funext s
  show (match M.bind m f s with | some (a, s') => g a s' | none => none) = _
  unfold M.bind
  cases m s with
  | none => rfl
  | some p => rfl
end
/-- the steps, named -/
def ifM {α : Type} (r : R) (x y : M α) : M α := match truth r with
  | some true => x
  | some false => y
  | none => M.fail
def seqM (k : Env → M Fl) : Fl → M Fl
  | .nx ρ => k ρ
  | .rt r => M.ret (.rt r)
def idxM (x k : T) : M R := fun s => match idxD s x k with
  | some t => some (.fro t, s)
  | none => none
def bifM (b : Bif) (x : T) : M R := fun s => match bifD s b x with
  | some r => some (r, s)
  | none => none
@[simp] theorem ifM_bl {α : Type} {b : Bool} {x y : M α} : ifM (.fro (.bl b)) x y = if b then x else y := by cases b <;> rfl
@[simp] theorem seq_nx {k : Env → M Fl} {ρ : Env} : seqM k (.nx ρ) = k ρ := rfl
@[simp] theorem seq_rt {k : Env → M Fl} {r : R} : seqM k (.rt r) = M.ret (.rt r) := rfl
@[simp] theorem idx_tup {ts : List T} {i : Int} : idxM (.tup ts) (.int i) = M.of ((at_ ts i).map .fro) := by
  funext s
  show (match at_ ts i with | some t => some (R.fro t, s) | none => none) = _
  cases at_ ts i <;> rfl
@[simp] theorem idx_lst {ts : List T} {i : Int} : idxM (.lst ts) (.int i) = M.of ((at_ ts i).map .fro) := by
  funext s
  show (match at_ ts i with | some t => some (R.fro t, s) | none => none) = _
  cases at_ ts i <;> rfl
@[simp] theorem idx_dct {ks : List Key} {ts : List T} {k : T} : idxM (.dct ks ts) k = M.of (((keyOf k).bind fun k => look ks ts k).map .fro) := by
  funext s
  show (match (keyOf k).bind fun k => look ks ts k with | some t => some (R.fro t, s) | none => none) = _
  cases (keyOf k).bind fun k => look ks ts k <;> rfl
theorem bif_of {b : Bif} {x : T} (h : ∀ n, x ≠ .ref n) : bifM b x = M.of (bifD [] b x) := by
  have e : ∀ s, bifD s b x = bifD [] b x := fun s => by cases b <;> cases x <;> first | rfl | exact absurd rfl (h _)
  funext s
  unfold bifM
  rw [e]
  cases bifD [] b x <;> rfl
@[simp] theorem bif_tup {b : Bif} {ts : List T} : bifM b (.tup ts) = M.of (bifD [] b (.tup ts)) := bif_of fun n e => by cases e
@[simp] theorem bif_lst {b : Bif} {ts : List T} : bifM b (.lst ts) = M.of (bifD [] b (.lst ts)) := bif_of fun n e => by cases e
@[simp] theorem bif_dct {b : Bif} {ks : List Key} {ts : List T} : bifM b (.dct ks ts) = M.of (bifD [] b (.dct ks ts)) := bif_of fun n e => by cases e
@[simp] theorem bif_bl {b : Bif} {c : Bool} : bifM b (.bl c) = M.of (bifD [] b (.bl c)) := bif_of fun n e => by cases e
@[simp] theorem bif_int {b : Bif} {c : Int} : bifM b (.int c) = M.of (bifD [] b (.int c)) := bif_of fun n e => by cases e
section
variable {G : Cfg} {C : Calls} {pk : Bool} {ρ : Env} {a b c i k : E} {es : Es}
@[simp] theorem r_int {n : Int} : denE G C pk (.int n) ρ = M.ret (.fro (.int n)) := rfl
@[simp] theorem r_str {n : Str} : denE G C pk (.str n) ρ = M.ret (.fro (.str n)) := rfl
@[simp] theorem r_bl {n : Bool} : denE G C pk (.bl n) ρ = M.ret (.fro (.bl n)) := rfl
@[simp] theorem r_non : denE G C pk .non ρ = M.ret (.fro .non) := rfl
@[simp] theorem r_varF {n : Nat} : denE G C false (.var n) ρ = M.of ((Env.fro ρ n).map .fro) := rfl
@[simp] theorem r_varT {n : Nat} : denE G C true (.var n) ρ = M.of ((Env.any ρ n).map .fro) := rfl
@[simp] theorem r_cst {n : Str} {t : T} : denE G C pk (.cst n t) ρ = M.ret (.fro t) := rfl
@[simp] theorem r_tup : denE G C pk (.tup es) ρ = M.bind (denEs G C es ρ) fun ts => M.ret (.fro (.tup ts)) := rfl
@[simp] theorem r_lst : denE G C pk (.lst es) ρ = M.bind (denEs G C es ρ) fun ts => M.ret (.own (.lst ts)) := rfl
@[simp] theorem r_dsp : denE G C pk (.dsp es) ρ = M.bind (denEs G C es ρ) fun ts => M.of ((altOf ts).bind fun ps => if ps.length ≤ 15 then some (.own (.dct (pairsIn ps [] []).1 (pairsIn ps [] []).2)) else none) := rfl
@[simp] theorem r_bop {o : Bop} : denE G C pk (.bop o a b) ρ = M.bind (denE G C false a ρ) fun x => M.bind (denE G C false b ρ) fun y => M.of (bopR o x y) := rfl
@[simp] theorem r_neg : denE G C pk (.neg a) ρ = M.bind (denE G C false a ρ) fun x => M.of ((asInt x.val).map fun i => .fro (.int (-i))) := rfl
@[simp] theorem r_cmp {o : Cop} : denE G C pk (.cmp o a b) ρ = M.bind (denE G C true a ρ) fun x => M.bind (denE G C true b ρ) fun y => M.of ((cmpD o x.val y.val).map fun b => .fro (.bl b)) := rfl
@[simp] theorem r_isN : denE G C pk (.isN a) ρ = M.bind (denE G C false a ρ) fun x => M.ret (.fro (.bl (isNon x.val))) := rfl
@[simp] theorem r_notN : denE G C pk (.notN a) ρ = M.bind (denE G C false a ρ) fun x => M.ret (.fro (.bl (!isNon x.val))) := rfl
@[simp] theorem r_not : denE G C pk (.not a) ρ = M.bind (denE G C false a ρ) fun x => M.of ((truth x).map fun b => .fro (.bl (!b))) := rfl
@[simp] theorem r_and : denE G C pk (.and a b) ρ = M.bind (denE G C false a ρ) fun x => ifM x (denE G C false b ρ) (M.ret (.fro (.bl false))) := rfl
@[simp] theorem r_or : denE G C pk (.or a b) ρ = M.bind (denE G C false a ρ) fun x => ifM x (M.ret (.fro (.bl true))) (denE G C false b ρ) := rfl
@[simp] theorem r_idx : denE G C pk (.idx a i) ρ = M.bind (denE G C true a ρ) fun x => M.bind (denE G C false i ρ) fun k => idxM x.val k.val := rfl
@[simp] theorem r_slcL : denE G C pk (.slcL a b) ρ = M.bind (denE G C true a ρ) fun x => M.bind (denE G C false b ρ) fun l => M.of ((asInt l.val).bind fun l => slcD x.val (some l) none) := rfl
@[simp] theorem r_slcH : denE G C pk (.slcH a b) ρ = M.bind (denE G C true a ρ) fun x => M.bind (denE G C false b ρ) fun h => M.of ((asInt h.val).bind fun h => slcD x.val none (some h)) := rfl
@[simp] theorem r_slcB : denE G C pk (.slcB a b c) ρ = M.bind (denE G C true a ρ) fun x => M.bind (denE G C false b ρ) fun l => M.bind (denE G C false c ρ) fun h => M.of ((asInt l.val).bind fun l => (asInt h.val).bind fun h => slcD x.val (some l) (some h)) := rfl
@[simp] theorem r_call {f : Nat} : denE G C pk (.call f es) ρ = M.bind (denEs G C es ρ) fun ts => C f ts := rfl
def methM (G : Cfg) (C : Calls) (m : Str) (ts : List T) : T → M R
  | .obj c fs us => (if fs.all (fun f => decide (f ≠ m)) then (match G.meth c m with
      | some f => C f (.obj c fs us :: ts)
      | none => M.fail) else M.fail)
  | _ => M.fail
@[simp] theorem r_meth {m : Str} : denE G C pk (.meth a m es) ρ = M.bind (denE G C false a ρ) fun x => M.bind (denEs G C es ρ) fun ts => methM G C m ts x.val := by
  show (M.bind _ fun x => M.bind _ fun ts => _) = _
  congr 1
def mkM (G : Cfg) (C : Calls) (c : Nat) (ts : List T) : M R := match G.init c with
  | some f => C f (.obj c [] [] :: ts)
  | none => M.fail
@[simp] theorem r_mk {c : Nat} : denE G C pk (.mk c es) ρ = M.bind (denEs G C es ρ) fun ts => mkM G C c ts := rfl
def fldM (f : Str) : T → M R
  | .obj _ fs us => M.of ((look (fs.map Sum.inr) us (.inr f)).map .fro)
  | _ => M.fail
@[simp] theorem r_fld {f : Str} : denE G C pk (.fld a f) ρ = M.bind (denE G C false a ρ) fun x => fldM f x.val := rfl
@[simp] theorem r_bif {o : Bif} : denE G C pk (.bif o a) ρ = M.bind (denE G C true a ρ) fun x => bifM o x.val := rfl
def isTD : T → Option R
  | .tup _ => some (.fro (.bl true))
  | .non | .bl _ | .int _ | .str _ => some (.fro (.bl false))
  | _ => none
@[simp] theorem r_isT : denE G C pk (.isT a) ρ = M.bind (denE G C false a ρ) fun x => M.of (isTD x.val) := rfl
@[simp] theorem r_lzip : denE G C pk (.lzip a b) ρ = M.bind (denE G C true a ρ) fun x => M.bind (denE G C true b ρ) fun y => M.of ((zipD x.val y.val).map fun ps => .own (.lst (ps.map pairT))) := rfl
@[simp] theorem r_dzip : denE G C pk (.dzip a b) ρ = M.bind (denE G C true a ρ) fun x => M.bind (denE G C true b ρ) fun y => M.of ((zipD x.val y.val).bind fun ps => (pairsOf (ps.map pairT)).map fun qs => .own (.dct (pairsIn qs [] []).1 (pairsIn qs [] []).2)) := rfl
@[simp] theorem r_get1 : denE G C pk (.get1 a b) ρ = M.bind (denE G C false a ρ) fun x => M.bind (denE G C false b ρ) fun k => M.of ((getD x.val k.val .non).map .fro) := rfl
@[simp] theorem r_get2 : denE G C pk (.get2 a b c) ρ = M.bind (denE G C false a ρ) fun x => M.bind (denE G C false b ρ) fun k => M.bind (denE G C false c ρ) fun z => M.of ((getD x.val k.val z.val).map .fro) := rfl
@[simp] theorem r_join : denE G C pk (.join a b) ρ = M.bind (denE G C false a ρ) fun x => M.bind (denE G C true b ρ) fun y => M.of ((joinD x.val y.val).map .fro) := rfl
/-- one turn of a comprehension -/
def turnM (G : Cfg) (C : Calls) (elt : E) (ifs : Es) : Option Env → M (Option T)
  | some ρ' => M.bind (denIfs G C ifs ρ') fun b => if b then M.bind (denE G C false elt ρ') fun x => M.ret (some x.val) else M.ret none
  | none => M.fail
@[simp] theorem r_lc {tg : Tg} {it : I} {ifs : Es} {own : List Nat} : denE G C pk (.lc a tg it ifs own) ρ = M.bind (denI G C it ρ) fun xs => M.bind (listM (fun v => turnM G C a ifs (tg.put (wipe ρ own) v)) xs) fun ys => M.ret (.own (.lst ys)) := by
  show (M.bind _ fun xs => M.bind (listM _ xs) _) = _
  rfl
@[simp] theorem r_nil : denEs G C .nil ρ = M.ret [] := rfl
@[simp] theorem r_cons : denEs G C (.cons a es) ρ = M.bind (denE G C false a ρ) fun x => M.bind (denEs G C es ρ) fun r => M.ret (x.val :: r) := rfl
@[simp] theorem r_inil : denIfs G C .nil ρ = M.ret true := rfl
@[simp] theorem r_icons : denIfs G C (.cons a es) ρ = M.bind (denE G C false a ρ) fun x => ifM x (denIfs G C es ρ) (M.ret false) := rfl
@[simp] theorem r_plain : denI G C (.plain a) ρ = M.bind (denE G C false a ρ) fun x => M.of (iterD x.val) := rfl
@[simp] theorem r_items : denI G C (.items a) ρ = M.bind (denE G C false a ρ) fun x => M.of (itemsD x.val) := rfl
@[simp] theorem r_enum : denI G C (.enum a) ρ = M.bind (denE G C false a ρ) fun x => M.of (enumD x.val) := rfl
@[simp] theorem r_zip : denI G C (.zip a b) ρ = M.bind (denE G C false a ρ) fun x => M.bind (denE G C false b ρ) fun y => M.of ((zipD x.val y.val).map fun ps => ps.map pairT) := rfl
@[simp] theorem r_rng : denI G C (.rng a) ρ = M.bind (denE G C false a ρ) fun x => M.of (rngD x.val) := rfl
end
section
variable {G : Cfg} {C : Calls} {ρ : Env} {c e i : E} {a b ss : Ss} {st : S} {n x : Nat}
def unpM (ρ : Env) (is : List Nat) (v : T) : M Fl := match seqOf v with
  | some ts => M.of ((setMany ρ is ts).map .nx)
  | none => M.fail
def setM (ρ : Env) (x : Nat) (k v : T) : M Fl := fun s => match (ρ[x]?).bind fun sl => setD s sl k v with
  | some (sl, s') => some (.nx (ρ.set x sl), s')
  | none => none
def appM (ρ : Env) (x : Nat) (v : T) : M Fl := match ρ[x]? with
  | some (.own (.lst ts)) => if ts.length < lim then M.ret (.nx (ρ.set x (.own (.lst (ts ++ [v]))))) else M.fail
  | _ => M.fail
def extM (ρ : Env) (x : Nat) (v : T) : M Fl := match ρ[x]?, seqOf v with
  | some (.own (.lst ts)), some us => if szOk (ts.length + us.length) then M.ret (.nx (ρ.set x (.own (.lst (ts ++ us))))) else M.fail
  | _, _ => M.fail
def insM (ρ : Env) (x : Nat) (k v : T) : M Fl := match ρ[x]?, k with
  | some (.own (.lst ts)), .int j => if ts.length < lim ∧ 0 ≤ j ∧ j < 2 ^ 62 then M.ret (.nx (ρ.set x (.own (.lst (ts.take j.toNat ++ v :: ts.drop j.toNat))))) else M.fail
  | _, _ => M.fail
def fldSM (ρ : Env) (f : Str) (v : T) : M Fl := match (ρ[0]? : Option Slot) with
  | some (.own (.obj c fs ts)) => if fs.length < 100 then M.ret (.nx (ρ.set 0 (.own (.obj c (putFs fs f) (putUs fs ts f v))))) else M.fail
  | _ => M.fail
def retOM (ρ : Env) (x : Nat) : M Fl := match ρ[x]? with
  | some (.own t) => M.ret (.rt (.own t))
  | _ => M.fail
@[simp] def frzM (ρ : Env) (x : Nat) : M Fl := match ρ[x]? with
  | some (.own t) => M.ret (.nx (ρ.set x (.fro t)))
  | _ => M.ret (.nx ρ)
def shrM (ρ : Env) (x : Nat) : M Fl := match ρ[x]? with
  | some (.own (.lst ts)) => fun s => some (.nx (ρ.set x (.fro (.ref s.length))), s ++ [ts])
  | _ => M.fail
def bodM (G : Cfg) (C : Calls) (b : Ss) : Option Env → M Fl
  | some ρ' => denSs G C b ρ'
  | none => M.fail
@[simp] theorem s_asg : denS G C (.asg x e) ρ = M.bind (denE G C false e ρ) fun r => M.ret (.nx (ρ.set x (slotOf r))) := rfl
@[simp] theorem s_asgT {is : List Nat} : denS G C (.asgT is e) ρ = M.bind (denE G C false e ρ) fun r => unpM ρ is r.val := rfl
@[simp] theorem s_setI : denS G C (.setI x i e) ρ = M.bind (denE G C false e ρ) fun v => M.bind (denE G C false i ρ) fun k => setM ρ x k.val v.val := rfl
@[simp] theorem s_fld {f : Str} : denS G C (.fldS f e) ρ = M.bind (denE G C false e ρ) fun v => fldSM ρ f v.val := rfl
@[simp] theorem s_app : denS G C (.app x e) ρ = M.bind (denE G C false e ρ) fun v => appM ρ x v.val := rfl
@[simp] theorem s_ext : denS G C (.ext x e) ρ = M.bind (denE G C false e ρ) fun v => extM ρ x v.val := rfl
@[simp] theorem s_ins : denS G C (.ins x i e) ρ = M.bind (denE G C false i ρ) fun k => M.bind (denE G C false e ρ) fun v => insM ρ x k.val v.val := rfl
@[simp] theorem s_ret : denS G C (.ret e) ρ = M.bind (denE G C false e ρ) fun r => M.ret (.rt r) := rfl
@[simp] theorem s_retO : denS G C (.retO x) ρ = retOM ρ x := rfl
@[simp] theorem s_pass : denS G C .pass ρ = M.ret (.nx ρ) := rfl
@[simp] theorem s_if : denS G C (.ifs c a b) ρ = M.bind (denE G C false c ρ) fun r => ifM r (denSs G C a ρ) (denSs G C b ρ) := rfl
@[simp] theorem s_whl : denS G C (.whl n c a) ρ = loopW (denE G C false c) (denSs G C a) n ρ := rfl
@[simp] theorem s_for {tg : Tg} {it : I} : denS G C (.fors tg it b) ρ = M.bind (denI G C it ρ) fun xs => loopF (fun v ρ => bodM G C b (tg.put ρ v)) xs ρ := rfl
@[simp] theorem s_frz : denS G C (.frz x) ρ = frzM ρ x := rfl
@[simp] theorem s_shr : denS G C (.shr x) ρ = shrM ρ x := rfl
@[simp] theorem s_nil : denSs G C .nil ρ = M.ret (.nx ρ) := rfl
@[simp] theorem s_cons : denSs G C (.cons st ss) ρ = M.bind (denS G C st ρ) (seqM (denSs G C ss)) := by
  show M.bind _ _ = _
  congr 1
end
/-! ### names' slots -/
section
variable {ρ : Env} {s : Slot} {t : T} {n : Nat}
@[simp] theorem fro_0 : Env.fro (.fro t :: ρ) 0 = some t := rfl
@[simp] theorem fro_S : Env.fro (s :: ρ) (n + 1) = Env.fro ρ n := rfl
@[simp] theorem any_0F : Env.any (.fro t :: ρ) 0 = some t := rfl
@[simp] theorem any_0O : Env.any (.own t :: ρ) 0 = some t := rfl
@[simp] theorem any_S : Env.any (s :: ρ) (n + 1) = Env.any ρ n := rfl
@[simp] theorem set_0 {s' : Slot} : List.set (s :: ρ) 0 s' = s' :: ρ := rfl
@[simp] theorem set_S {s' : Slot} : List.set (s :: ρ) (n + 1) s' = s :: List.set ρ n s' := rfl
@[simp] theorem get_0 : (s :: ρ)[0]? = some s := rfl
@[simp] theorem get_S : (s :: ρ)[n + 1]? = ρ[n]? := rfl
@[simp] theorem val_f : (R.fro t).val = t := rfl
@[simp] theorem val_o : (R.own t).val = t := rfl
@[simp] theorem slot_f : slotOf (.fro t) = .fro t := rfl
@[simp] theorem slot_o : slotOf (.own t) = .own t := rfl
end
/-! ### a call -/
theorem den_call {G : Cfg} {tb : Nat → Option Def} {k f : Nat} {d : Def} {args : List T} (e : tb f = some d) (hl : args.length = d.np) : den G tb (k + 1) f args = M.bind (denSs G (den G tb k) d.body (d.start args)) fun fl => M.of (d.fin fl) := by
  show (match tb f with
    | some d => d.run G (den G tb k) args
    | none => M.fail) = _
  rw [e]
  exact if_pos hl

/-! ### items, comparisons of texts -/
section
variable {a b c d e : T} {ts : List T}
theorem ixq_of {n j : Nat} (h : j < n) : ixN n (j : Int) = some j := by
  unfold ixN
  rw [if_pos (by omega), if_pos (by omega)]
  rfl
theorem at_of {j : Nat} (h : j < ts.length) : at_ ts (j : Int) = ts[j]? := by
  unfold at_
  rw [ixq_of h]
  rfl
@[simp] theorem at0 : at_ (a :: ts) 0 = some a := at_of (j := 0) (by simp)
@[simp] theorem at1 : at_ (a :: b :: ts) 1 = some b := at_of (j := 1) (by simp)
@[simp] theorem at2 : at_ (a :: b :: c :: ts) 2 = some c := at_of (j := 2) (by simp)
@[simp] theorem at3 : at_ (a :: b :: c :: d :: ts) 3 = some d := at_of (j := 3) (by simp)
@[simp] theorem at4 : at_ (a :: b :: c :: d :: e :: ts) 4 = some e := at_of (j := 4) (by simp)
variable {x y : Str}
@[simp] theorem shp_str : shp (.str x) = strOk x := by unfold shp dat dep; cases strOk x <;> rfl
@[simp] theorem shp_int {i : Int} : shp (.int i) = true := rfl
@[simp] theorem shp_bl {i : Bool} : shp (.bl i) = true := rfl
@[simp] theorem shp_non : shp .non = true := rfl
@[simp] theorem cmp_eq {u v : T} : cmpD .eq u v = if shp u && shp v then some (eqT u v) else none := rfl
@[simp] theorem cmp_ne {u v : T} : cmpD .ne u v = if shp u && shp v then some (!eqT u v) else none := rfl
@[simp] theorem cmp_inT {u : T} : cmpD .inn u (.tup ts) = if flat u && ts.all flat then some (ts.any fun t => eqT t u) else none := rfl
@[simp] theorem cmp_inL {u : T} : cmpD .inn u (.lst ts) = if flat u && ts.all flat then some (ts.any fun t => eqT t u) else none := rfl
@[simp] theorem cmp_ninT {u : T} : cmpD .nin u (.tup ts) = if flat u && ts.all flat then some !(ts.any fun t => eqT t u) else none := by
  show (if flat u && ts.all flat then some (ts.any fun t => eqT t u) else none).map (!·) = _
  cases flat u && ts.all flat <;> rfl
@[simp] theorem cmp_ninL {u : T} : cmpD .nin u (.lst ts) = if flat u && ts.all flat then some !(ts.any fun t => eqT t u) else none := by
  show (if flat u && ts.all flat then some (ts.any fun t => eqT t u) else none).map (!·) = _
  cases flat u && ts.all flat <;> rfl
@[simp] theorem eqT_str : eqT (.str x) (.str y) = decide (x = y) := rfl
@[simp] theorem flat_str : flat (.str x) = true := rfl
@[simp] theorem slc_t {lo hi : Option Int} : slcD (.tup ts) lo hi = some (.fro (.tup (cut ts lo hi))) := rfl
@[simp] theorem slc_l {lo hi : Option Int} : slcD (.lst ts) lo hi = some (.own (.lst (cut ts lo hi))) := rfl
end
@[simp] theorem asInt_i {i : Int} : asInt (.int i) = some i := rfl
@[simp] theorem truth_b {b : Bool} : truth (.fro (.bl b)) = some b := rfl

@[simp] theorem fin_rt {np ns : Nat} {b : Ss} {r : R} : Def.fin ⟨np, ns, false, b⟩ (.rt r) = some r := rfl
@[simp] theorem fin_nx {np ns : Nat} {b : Ss} {ρ : Env} : Def.fin ⟨np, ns, false, b⟩ (.nx ρ) = some (.fro .non) := rfl
section
variable {α : Type} {ts : List α} {a b c d : α}
theorem cut_lo (n : Nat) : cut ts (some (n : Int)) none = ts.drop n := by
  have e : sIx ts.length 0 (some (n : Int)) = min n ts.length := by
    show (if (n : Int) < 0 then ((n : Int) + (ts.length : Int)).toNat else min (n : Int).toNat ts.length) = _
    rw [if_neg (by omega), Int.toNat_natCast]
  unfold cut
  rw [e]
  show List.take (ts.length - min n ts.length) (List.drop (min n ts.length) ts) = _
  by_cases h : n ≤ ts.length
  · rw [Nat.min_eq_left h, List.take_of_length_le (by rw [List.length_drop]; exact Nat.le_refl _)]
  · rw [Nat.min_eq_right (by omega), List.drop_eq_nil_of_le (Nat.le_refl _), List.drop_eq_nil_of_le (by omega)]
    simp
theorem cut_hi (n : Nat) : cut ts none (some (n : Int)) = ts.take n := by
  have e : sIx ts.length ts.length (some (n : Int)) = min n ts.length := by
    show (if (n : Int) < 0 then ((n : Int) + (ts.length : Int)).toNat else min (n : Int).toNat ts.length) = _
    rw [if_neg (by omega), Int.toNat_natCast]
  unfold cut
  rw [e]
  show List.take (min n ts.length - 0) (List.drop 0 ts) = _
  rw [Nat.sub_zero, List.drop_zero]
  by_cases h : n ≤ ts.length
  · rw [Nat.min_eq_left h]
  · rw [Nat.min_eq_right (by omega), List.take_of_length_le (Nat.le_refl _), List.take_of_length_le (by omega)]
@[simp] theorem cut_lo1 : cut ts (some 1) none = ts.drop 1 := cut_lo 1
@[simp] theorem cut_lo2 : cut ts (some 2) none = ts.drop 2 := cut_lo 2
@[simp] theorem cut_hi1 : cut ts none (some 1) = ts.take 1 := cut_hi 1
@[simp] theorem cut_hi2 : cut ts none (some 2) = ts.take 2 := cut_hi 2
@[simp] theorem cut_m2_3 : cut [a, b, c] (some (-2)) none = [b, c] := rfl
@[simp] theorem cut_m2_4 : cut [a, b, c, d] (some (-2)) none = [c, d] := rfl
end

/-! ### built-ins, operators -/
section
variable {s : Sto} {ts us : List T} {ks : List Key} {b : Bool} {i j : Int} {x y : R} {u v : Str}
@[simp] theorem b_int_bl : bifD s .int (.bl b) = some (.fro (.int (if b then 1 else 0))) := rfl
@[simp] theorem b_int_int : bifD s .int (.int i) = some (.fro (.int i)) := rfl
@[simp] theorem b_len_l : bifD s .len (.lst ts) = some (.fro (.int ts.length)) := rfl
@[simp] theorem b_len_t : bifD s .len (.tup ts) = some (.fro (.int ts.length)) := rfl
@[simp] theorem b_tup_l : bifD s .tuple (.lst ts) = some (.fro (.tup ts)) := rfl
@[simp] theorem b_tup_t : bifD s .tuple (.tup ts) = some (.fro (.tup ts)) := rfl
@[simp] theorem b_tup_d : bifD s .tuple (.dct ks ts) = some (.fro (.tup (ks.map ofKey))) := rfl
@[simp] theorem b_list_l : bifD s .list (.lst ts) = some (.own (.lst ts)) := rfl
@[simp] theorem b_list_t : bifD s .list (.tup ts) = some (.own (.lst ts)) := rfl
@[simp] theorem b_dict_l : bifD s .dict (.lst ts) = (pairsOf ts).map fun ps => .own (.dct (pairsIn ps [] []).1 (pairsIn ps [] []).2) := rfl
@[simp] theorem b_dict_t : bifD s .dict (.tup ts) = (pairsOf ts).map fun ps => .own (.dct (pairsIn ps [] []).1 (pairsIn ps [] []).2) := rfl
@[simp] theorem b_dict_d : bifD s .dict (.dct ks ts) = some (.own (.dct ks ts)) := rfl
@[simp] theorem b_sum : bifD s .sum (.lst ts) = (intsOf ts).map fun ns => .fro (.int ns.sum) := rfl
@[simp] theorem b_all : bifD s .all (.lst ts) = (blsOf ts).map fun bs => .fro (.bl (bs.all id)) := rfl
@[simp] theorem o_add : bopR .add x y = bopD .add x.val y.val := rfl
@[simp] theorem o_sub : bopR .sub x y = bopD .sub x.val y.val := rfl
@[simp] theorem o_fdiv : bopR .fdiv x y = bopD .fdiv x.val y.val := rfl
@[simp] theorem o_mod : bopR .mod x y = bopD .mod x.val y.val := rfl
@[simp] theorem o_pow : bopR .pow x y = bopD .pow x.val y.val := rfl
@[simp] theorem o_mulF {t : T} : bopR .mul (.fro t) y = bopD .mul t y.val := rfl
@[simp] theorem o_mulL : bopR .mul (.own (.lst ts)) (.fro (.int j)) = if 0 ≤ j ∧ j < 2 ^ 63 ∧ szOk (ts.length * j.toNat) then some (.own (.lst (List.replicate j.toNat ts).flatten)) else none := rfl
@[simp] theorem p_add_i : bopD .add (.int i) (.int j) = some (.fro (.int (i + j))) := rfl
@[simp] theorem p_sub_i : bopD .sub (.int i) (.int j) = some (.fro (.int (i - j))) := rfl
@[simp] theorem p_add_t : bopD .add (.tup ts) (.tup us) = if szOk (ts.length + us.length) then some (.fro (.tup (ts ++ us))) else none := rfl
@[simp] theorem p_add_l : bopD .add (.lst ts) (.lst us) = if szOk (ts.length + us.length) then some (.own (.lst (ts ++ us))) else none := rfl
@[simp] theorem p_add_s : bopD .add (.str u) (.str v) = if szOk (u.length + v.length) then some (.fro (.str (u ++ v))) else none := rfl
@[simp] theorem p_mod_i : bopD .mod (.int i) (.int j) = if 0 < j then some (.fro (.int (i % j))) else none := rfl
@[simp] theorem p_fdiv_i : bopD .fdiv (.int i) (.int j) = if 0 < j ∧ j < 1073741824 then some (.fro (.int (i / j))) else none := rfl
@[simp] theorem p_mul_i : bopD .mul (.int i) (.int j) = if mulOk i j then some (.fro (.int (i * j))) else none := rfl
end

@[simp] theorem alt_nil : altOf [] = some [] := rfl
@[simp] theorem pin_nil {ks : List Key} {ts : List T} : pairsIn [] ks ts = (ks, ts) := rfl
@[simp] theorem pof_nil : pairsOf [] = some [] := rfl
/-! ### loops -/
section
variable {ts us : List T} {ks : List Key} {ρ : Env} {v : T} {vs is : List Nat} {i : Nat}
@[simp] theorem it_l : iterD (.lst ts) = some ts := rfl
@[simp] theorem it_t : iterD (.tup ts) = some ts := rfl
@[simp] theorem it_d : iterD (.dct ks ts) = some (ks.map ofKey) := rfl
@[simp] theorem items_d : itemsD (.dct ks ts) = some ((ks.zip ts).map fun p => .tup [ofKey p.1, p.2]) := rfl
@[simp] theorem sq_l : seqOf (.lst ts) = some ts := rfl
@[simp] theorem sq_t : seqOf (.tup ts) = some ts := rfl
@[simp] theorem wipe_n : wipe ρ [] = ρ := rfl
@[simp] theorem wipe_c : wipe ρ (i :: vs) = (wipe ρ vs).set i .non := rfl
@[simp] theorem put_v : Tg.put ρ v (.var i) = some (ρ.set i (.fro v)) := rfl
@[simp] theorem put_t : Tg.put ρ (.tup ts) (.tup is) = setMany ρ is ts := rfl
@[simp] theorem put_l : Tg.put ρ (.lst ts) (.tup is) = setMany ρ is ts := rfl
@[simp] theorem many_n : setMany ρ [] [] = some ρ := rfl
@[simp] theorem many_c : setMany ρ (i :: is) (v :: ts) = setMany (ρ.set i (.fro v)) is ts := rfl
@[simp] theorem turn_s {G : Cfg} {C : Calls} {elt : E} {ifs : Es} : turnM G C elt ifs (some ρ) = M.bind (denIfs G C ifs ρ) fun b => if b then M.bind (denE G C false elt ρ) fun x => M.ret (some x.val) else M.ret none := rfl
@[simp] theorem bod_s {G : Cfg} {C : Calls} {b : Ss} : bodM G C b (some ρ) = denSs G C b ρ := rfl
@[simp] theorem unp_t : unpM ρ is (.tup ts) = M.of ((setMany ρ is ts).map .nx) := rfl
@[simp] theorem unp_l : unpM ρ is (.lst ts) = M.of ((setMany ρ is ts).map .nx) := rfl
@[simp] theorem zip_tt : zipD (.tup ts) (.tup us) = some (ts.zip us) := rfl
@[simp] theorem zip_tl : zipD (.tup ts) (.lst us) = some (ts.zip us) := rfl
@[simp] theorem zip_lt : zipD (.lst ts) (.tup us) = some (ts.zip us) := rfl
@[simp] theorem zip_ll : zipD (.lst ts) (.lst us) = some (ts.zip us) := rfl
end

/-- how a def that is no maker ends -/
def endM : Fl → M R
  | .rt r => M.ret r
  | .nx _ => M.ret (.fro .non)
@[simp] theorem end_rt {r : R} : endM (.rt r) = M.ret r := rfl
@[simp] theorem end_nx {ρ : Env} : endM (.nx ρ) = M.ret (.fro .non) := rfl
theorem den_fn {G : Cfg} {tb : Nat → Option Def} {k f np ns : Nat} {b : Ss} {args : List T} (e : tb f = some ⟨np, ns, false, b⟩) (hl : args.length = np) : den G tb (k + 1) f args = M.bind (denSs G (den G tb k) b (args.map .fro ++ List.replicate (ns - np) .non)) endM := by
  rw [den_call e hl]
  have : (fun fl => M.of (Def.fin ⟨np, ns, false, b⟩ fl)) = endM := by
    funext fl
    cases fl <;> rfl
  rw [this]
  rfl
end TL
end

section
set_option Elab.async false
set_option linter.all false
set_option maxRecDepth 100000
/-! The terms: a head and its parts. What parts_of, with_parts, bound_in come to. -/
namespace TL
open PySem
/-- heads -/
inductive Hh where
  | name (x : Str) | num (i : Int) | tru (b : Bool) | mark (x : Str)
  | fn (x : Str) | call | lt (x : Str) | ite | get (x : Str) | put (x : Str) | told (k : T)
  | rcd (xs : List Str) | grp (xs : List Str) | mat (bs : List (Str × List Str)) | fault (p : List Int)
inductive Tm where
  | nd (h : Hh) (ps : List Tm)
def pr (x : Str) (t : T) : T := .tup [.str x, t]
def nsT (ns : List Str) : T := .tup (ns.map .str)
def br (b : Str × List Str) (t : T) : T := .tup [.str b.1, nsT b.2, t]
def encH : Hh → List T → T
  | .name x, _ => .tup [.str k_name, .str x]
  | .num i, _ => .tup [.str k_num, .int i]
  | .tru b, _ => .tup [.str k_truth, .bl b]
  | .mark x, _ => .tup [.str k_mark, .str x]
  | .fn x, [a] => .tup [.str k_fun, .str x, a]
  | .call, [a, b] => .tup [.str k_call, a, b]
  | .lt x, [a, b] => .tup [.str k_let, .str x, a, b]
  | .ite, [a, b, c] => .tup [.str k_if, a, b, c]
  | .get x, [a] => .tup [.str k_get, a, .str x]
  | .put x, [a, b] => .tup [.str k_put, a, .str x, b]
  | .told k, [a] => .tup [.str k_told, a, k]
  | .rcd xs, ts => .tup [.str k_rec, .tup (List.zipWith pr xs ts)]
  | .grp xs, ts => .tup [.str k_group, .tup (List.zipWith pr xs ts), (ts.drop xs.length).headD .non]
  | .mat bs, t :: ts => .tup [.str k_match, t, .tup (List.zipWith br bs ts)]
  | .fault p, _ => .tup [.str k_fault, .tup (p.map .int)]
  | _, _ => .non
mutual
def enc : Tm → T
  | .nd h ps => encH h (encs ps)
def encs : List Tm → List T
  | [] => []
  | p :: ps => enc p :: encs ps
end
theorem encs_eq : ∀ ps : List Tm, encs ps = ps.map enc
  | [] => rfl
  | p :: ps => by unfold encs; rw [encs_eq ps]; rfl
theorem enc_nd {h : Hh} {ps : List Tm} : enc (.nd h ps) = encH h (ps.map enc) := by unfold enc; rw [encs_eq]
def ar : Hh → Nat
  | .fn _ | .get _ | .told _ => 1
  | .call | .lt _ | .put _ => 2
  | .ite => 3
  | .rcd xs => xs.length
  | .grp xs => xs.length + 1
  | .mat bs => bs.length + 1
  | _ => 0
/-- what a head binds in each of its parts -/
def bnd : Hh → List (List Str)
  | .fn x => [[x]]
  | .lt x => [[], [x]]
  | .grp xs => List.replicate (xs.length + 1) xs
  | .mat bs => [] :: bs.map (·.2)
  | h => List.replicate (ar h) []
theorem bnd_len : ∀ h : Hh, (bnd h).length = ar h
  | .fn x => rfl
  | .lt x => rfl
  | .grp xs => by simp [bnd, ar]
  | .mat bs => by simp [bnd, ar]
  | .name _ | .num _ | .tru _ | .mark _ | .call | .ite | .get _ | .put _ | .told _ | .rcd _ | .fault _ => by simp [bnd]
section
variable {α : Type} {l : List α}
theorem lq0 (h : l.length = 0) : l = [] := List.eq_nil_of_length_eq_zero h
theorem lq1 (h : l.length = 1) : ∃ a, l = [a] := by
  match l, h with
  | [a], _ => exact ⟨a, rfl⟩
theorem lq2 (h : l.length = 2) : ∃ a b, l = [a, b] := by
  match l, h with
  | [a, b], _ => exact ⟨a, b, rfl⟩
theorem lq3 (h : l.length = 3) : ∃ a b c, l = [a, b, c] := by
  match l, h with
  | [a, b, c], _ => exact ⟨a, b, c, rfl⟩
theorem lenS {n : Nat} (h : l.length = n + 1) : ∃ a r, l = a :: r ∧ r.length = n := by
  match l, h with
  | a :: r, h => exact ⟨a, r, rfl, by simpa using h⟩
theorem lenE {n : Nat} (h : l.length = n + 1) : ∃ r a, l = r ++ [a] ∧ r.length = n := by
  have hne : l ≠ [] := fun e => by rw [e] at h; cases h
  exact ⟨l.dropLast, l.getLast hne, (List.dropLast_concat_getLast hne).symm, by simp [h]⟩
end
/-- a comprehension whose turns are known -/
theorem listM_ret {α : Type} {f : T → M (Option α)} {g : T → Option α} : ∀ {ts : List T}, (∀ t ∈ ts, f t = M.ret (g t)) → listM f ts = M.ret (ts.filterMap g)
  | [], _ => rfl
  | t :: ts, h => by
    show M.bind (f t) (fun o => M.bind (listM f ts) fun r => M.ret (match o with
      | some a => a :: r
      | none => r)) = _
    rw [h t List.mem_cons_self, ret_bind, listM_ret fun u hu => h u (List.mem_cons_of_mem _ hu), ret_bind, List.filterMap_cons]
    cases g t <;> rfl
/-- a comprehension over what is made of a list -/
theorem listM_map {α β : Type} {f : T → M (Option α)} {mk : β → T} {g : β → α} : ∀ {ts : List β}, (∀ t ∈ ts, f (mk t) = M.ret (some (g t))) → listM f (ts.map mk) = M.ret (ts.map g)
  | [], _ => rfl
  | t :: ts, h => by
    show M.bind (f (mk t)) (fun o => M.bind (listM f (ts.map mk)) fun r => M.ret (match o with
      | some a => a :: r
      | none => r)) = _
    rw [h t List.mem_cons_self, ret_bind, listM_map fun u hu => h u (List.mem_cons_of_mem _ hu), ret_bind]
    rfl
theorem listM_zw {α β γ : Type} {f : T → M (Option α)} {mk : β → γ → T} {g : β → γ → α} : ∀ {bs : List β} {cs : List γ}, (∀ b ∈ bs, ∀ c ∈ cs, f (mk b c) = M.ret (some (g b c))) → listM f (List.zipWith mk bs cs) = M.ret (List.zipWith g bs cs)
  | [], _, _ => by simp only [List.zipWith_nil_left]; rfl
  | b :: bs, [], _ => by simp only [List.zipWith_nil_right]; rfl
  | b :: bs, c :: cs, h => by
    simp only [List.zipWith_cons_cons]
    show M.bind (f (mk b c)) (fun o => M.bind (listM f (List.zipWith mk bs cs)) fun r => M.ret (match o with
      | some a => a :: r
      | none => r)) = _
    rw [h b List.mem_cons_self c List.mem_cons_self, ret_bind, listM_zw fun x hx y hy => h x (List.mem_cons_of_mem _ hx) y (List.mem_cons_of_mem _ hy), ret_bind]
theorem zw_snd {α β : Type} : ∀ {xs : List α} {ts : List β}, ts.length = xs.length → List.zipWith (fun _ t => t) xs ts = ts
  | [], [], _ => rfl
  | x :: xs, t :: ts, h => by simp only [List.zipWith_cons_cons]; rw [zw_snd (by simpa using h)]
theorem zw_fst {α β γ : Type} {f : α → γ} : ∀ {xs : List α} {ts : List β}, ts.length = xs.length → List.zipWith (fun x _ => f x) xs ts = xs.map f
  | [], [], _ => rfl
  | x :: xs, t :: ts, h => by simp only [List.zipWith_cons_cons, List.map_cons]; rw [zw_fst (by simpa using h)]
theorem zip_zw {α β γ δ : Type} {f : α → β → γ} : ∀ {xs : List α} {ts : List β} {us : List δ}, ts.length = xs.length → us.length = xs.length → (List.zipWith f xs ts).zip us = List.zipWith (fun p u => (f p.1 p.2, u)) (xs.zip ts) us
  | [], [], [], _, _ => rfl
  | x :: xs, t :: ts, u :: us, h, h' => by simp only [List.zipWith_cons_cons, List.zip_cons_cons]; rw [zip_zw (by simpa using h) (by simpa using h')]
theorem drop_app {α : Type} {a b : List α} {n : Nat} (h : a.length = n) : (a ++ b).drop n = b := by rw [← h, List.drop_left]
theorem zw_app {α β γ : Type} {f : α → β → γ} : ∀ {xs : List α} {ts us : List β}, ts.length = xs.length → List.zipWith f xs (ts ++ us) = List.zipWith f xs ts
  | [], [], us, _ => by simp
  | x :: xs, t :: ts, us, h => by simp only [List.zipWith_cons_cons, List.cons_append]; rw [zw_app (by simpa using h)]
theorem sz_of {n : Nat} (h : n ≤ 1000000) : szOk n = true := Nat.ble_eq_true_of_le (Nat.le_trans h (by decide))
theorem enc_grp {xs : List Str} {ps : List Tm} {b : Tm} (h : ps.length = xs.length) : enc (.nd (.grp xs) (ps ++ [b])) = .tup [.str k_group, .tup (List.zipWith pr xs (ps.map enc)), enc b] := by
  have h' : (ps.map enc).length = xs.length := by simpa using h
  rw [enc_nd]
  show T.tup [.str k_group, .tup (List.zipWith pr xs ((ps ++ [b]).map enc)), (((ps ++ [b]).map enc).drop xs.length).headD .non] = _
  rw [List.map_append, drop_app h', zw_app h']
  rfl
theorem enc_rcd {xs : List Str} {ps : List Tm} : enc (.nd (.rcd xs) ps) = .tup [.str k_rec, .tup (List.zipWith pr xs (ps.map enc))] := by rw [enc_nd]; rfl
theorem enc_mat {bs : List (Str × List Str)} {a : Tm} {ps : List Tm} : enc (.nd (.mat bs) (a :: ps)) = .tup [.str k_match, enc a, .tup (List.zipWith br bs (ps.map enc))] := by rw [enc_nd]; rfl
section
variable {x : Str} {i : Int} {b : Bool} {k : T} {a c d : Tm} {p : List Int} {ps : List Tm}
theorem enc_name : enc (.nd (.name x) ps) = .tup [.str k_name, .str x] := by rw [enc_nd]; rfl
theorem enc_num : enc (.nd (.num i) ps) = .tup [.str k_num, .int i] := by rw [enc_nd]; rfl
theorem enc_tru : enc (.nd (.tru b) ps) = .tup [.str k_truth, .bl b] := by rw [enc_nd]; rfl
theorem enc_mark : enc (.nd (.mark x) ps) = .tup [.str k_mark, .str x] := by rw [enc_nd]; rfl
theorem enc_fault : enc (.nd (.fault p) ps) = .tup [.str k_fault, .tup (p.map .int)] := by rw [enc_nd]; rfl
theorem enc_fn : enc (.nd (.fn x) [a]) = .tup [.str k_fun, .str x, enc a] := by rw [enc_nd]; rfl
theorem enc_call : enc (.nd .call [a, c]) = .tup [.str k_call, enc a, enc c] := by rw [enc_nd]; rfl
theorem enc_lt : enc (.nd (.lt x) [a, c]) = .tup [.str k_let, .str x, enc a, enc c] := by rw [enc_nd]; rfl
theorem enc_ite : enc (.nd .ite [a, c, d]) = .tup [.str k_if, enc a, enc c, enc d] := by rw [enc_nd]; rfl
theorem enc_get : enc (.nd (.get x) [a]) = .tup [.str k_get, enc a, .str x] := by rw [enc_nd]; rfl
theorem enc_put : enc (.nd (.put x) [a, c]) = .tup [.str k_put, enc a, .str x, enc c] := by rw [enc_nd]; rfl
theorem enc_told : enc (.nd (.told k) [a]) = .tup [.str k_told, enc a, k] := by rw [enc_nd]; rfl
end
/-- a term of each head, its parts told -/
theorem Tm.byH {P : Hh → List Tm → Prop} (name : ∀ x, P (.name x) []) (num : ∀ i, P (.num i) []) (tru : ∀ b, P (.tru b) []) (mark : ∀ x, P (.mark x) [])
    (fn : ∀ x a, P (.fn x) [a]) (call : ∀ a b, P .call [a, b]) (lt : ∀ x a b, P (.lt x) [a, b]) (ite : ∀ a b c, P .ite [a, b, c]) (get : ∀ x a, P (.get x) [a])
    (put : ∀ x a b, P (.put x) [a, b]) (told : ∀ k a, P (.told k) [a]) (rcd : ∀ xs ps, ps.length = xs.length → P (.rcd xs) ps)
    (grp : ∀ xs ps b, ps.length = xs.length → P (.grp xs) (ps ++ [b])) (mat : ∀ bs a ps, ps.length = bs.length → P (.mat bs) (a :: ps)) (fault : ∀ p, P (.fault p) []) :
    ∀ {h : Hh} {ps : List Tm}, ps.length = ar h → P h ps := fun {h} {ps} hl => by
  cases h with
  | name x => rw [lq0 hl]; exact name x
  | num x => rw [lq0 hl]; exact num x
  | tru x => rw [lq0 hl]; exact tru x
  | mark x => rw [lq0 hl]; exact mark x
  | fault x => rw [lq0 hl]; exact fault x
  | fn x => obtain ⟨a, rfl⟩ := lq1 hl; exact fn x a
  | get x => obtain ⟨a, rfl⟩ := lq1 hl; exact get x a
  | told x => obtain ⟨a, rfl⟩ := lq1 hl; exact told x a
  | call => obtain ⟨a, b, rfl⟩ := lq2 hl; exact call a b
  | lt x => obtain ⟨a, b, rfl⟩ := lq2 hl; exact lt x a b
  | put x => obtain ⟨a, b, rfl⟩ := lq2 hl; exact put x a b
  | ite => obtain ⟨a, b, c, rfl⟩ := lq3 hl; exact ite a b c
  | rcd xs => exact rcd xs ps hl
  | grp xs => obtain ⟨r, b, rfl, h⟩ := lenE hl; exact grp xs r b h
  | mat bs => obtain ⟨a, r, rfl, h⟩ := lenS hl; exact mat bs a r h
/-- induction over the parts -/
theorem Tm.ind {P : Tm → Prop} (h : ∀ h ps, (∀ p ∈ ps, P p) → P (.nd h ps)) : ∀ t, P t := fun t => by
  refine Tm.rec (motive_1 := P) (motive_2 := fun ps => ∀ p ∈ ps, P p) ?_ ?_ ?_ t
  · intro hd ps ih
    exact h hd ps ih
  · intro p hp
    cases hp
  · intro p ps hp hps q hq
    rcases List.mem_cons.mp hq with rfl | hq
    · exact hp
    · exact hps q hq
@[simp] theorem at_m1 {i : List T} {b : T} : at_ (i ++ [b]) (-1) = some b := by
  unfold at_ ixN
  rw [if_neg (by omega), if_pos (by rw [List.length_append, List.length_singleton]; omega)]
  have e : ((-1 : Int) + ((i ++ [b]).length : Nat)).toNat = i.length := by rw [List.length_append, List.length_singleton]; omega
  rw [e]
  simp
theorem parts_of (k : Nat) {h : Hh} {ps : List Tm} (hl : ps.length = ar h) (hb : ps.length ≤ 1000) : den cfg tb (k + 1) i_parts_of [enc (.nd h ps)] = M.ret (.fro (.tup (ps.map enc))) := by
  revert hb
  refine Tm.byH (P := fun h ps => ps.length ≤ 1000 → den cfg tb (k + 1) i_parts_of [enc (.nd h ps)] = M.ret (.fro (.tup (ps.map enc)))) ?_ ?_ ?_ ?_ ?_ ?_ ?_ ?_ ?_ ?_ ?_ ?_ ?_ ?_ ?_ hl
  all_goals intros
  all_goals rw [den_fn (f := i_parts_of) rfl rfl]
  case refine_12 xs ps e hb =>
    have e' : (ps.map enc).length = xs.length := by simpa using e
    simp (decide := true) [enc_rcd]
    rw [listM_zw (g := fun _ t => t) (by intro x hx t ht; simp [pr]), zw_snd e']
    simp
  case refine_13 xs ps b e hb =>
    have e' : (ps.map enc).length = xs.length := by simpa using e
    have hz : szOk (ps.length + 1) = true := sz_of (by simp at hb; omega)
    simp (decide := true) [enc_grp e]
    rw [listM_zw (g := fun _ t => t) (by intro x hx t ht; simp [pr]), zw_snd e']
    simp [hz]
  case refine_14 xs a ps e hb =>
    have e' : (ps.map enc).length = xs.length := by simpa using e
    have hz : szOk (1 + ps.length) = true := sz_of (by simp at hb; omega)
    simp (decide := true) [enc_mat]
    rw [listM_zw (g := fun _ t => t) (by intro x hx t ht; simp [br]), zw_snd e']
    simp [hz]
  all_goals simp (decide := true) [enc_name, enc_num, enc_tru, enc_mark, enc_fault, enc_fn, enc_call, enc_lt, enc_ite, enc_get, enc_put, enc_told]
end TL
end

section
set_option Elab.async false
set_option linter.all false
set_option maxRecDepth 100000
namespace TL
open PySem
theorem listM_consQ {α : Type} {f : T → M (Option α)} {t : T} {ts : List T} {a : α} {r : List α} (h : f t = M.ret (some a)) (hr : listM f ts = M.ret r) : listM f (t :: ts) = M.ret (a :: r) := by
  unfold listM
  rw [h, ret_bind, hr, ret_bind]
theorem listM_zip3 {α β : Type} {f : T → M (Option T)} {mk : α → T → T} {g : α → T → T} : ∀ {xs : List α} {ts us : List T}, ts.length = xs.length → us.length = xs.length → (∀ x t u, f (.tup [mk x t, u]) = M.ret (some (g x u))) → listM f (((List.zipWith mk xs ts).zip us).map pairT) = M.ret (List.zipWith g xs us)
  | [], [], [], _, _, _ => rfl
  | x :: xs, t :: ts, u :: us, h, h', e => by
    simp only [List.zipWith_cons_cons, List.zip_cons_cons, List.map_cons]
    exact listM_consQ (e x t u) (listM_zip3 (α := α) (β := β) (by simpa using h) (by simpa using h') e)
theorem zip_app {α β : Type} : ∀ {xs : List α} {ts us : List β}, ts.length = xs.length → List.zip xs (ts ++ us) = List.zip xs ts
  | [], [], us, _ => by simp
  | x :: xs, t :: ts, us, h => by simp only [List.zip_cons_cons, List.cons_append]; rw [zip_app (by simpa using h)]
theorem with_parts (k : Nat) {h : Hh} {ps qs : List Tm} (hl : ps.length = ar h) (hq : qs.length = ar h) (hb : ps.length ≤ 1000) : den cfg tb (k + 1) i_with_parts [enc (.nd h ps), .tup (qs.map enc)] = M.ret (.fro (enc (.nd h qs))) := by
  revert hb
  revert qs
  refine Tm.byH (P := fun h ps => ∀ {qs : List Tm}, qs.length = ar h → ps.length ≤ 1000 → den cfg tb (k + 1) i_with_parts [enc (.nd h ps), .tup (qs.map enc)] = M.ret (.fro (enc (.nd h qs)))) ?_ ?_ ?_ ?_ ?_ ?_ ?_ ?_ ?_ ?_ ?_ ?_ ?_ ?_ ?_ hl
  all_goals intros
  all_goals rw [den_fn (f := i_with_parts) rfl rfl]
  case refine_12 xs ps e qs e2 hb =>
    have e' : (ps.map enc).length = xs.length := by simpa using e
    have e2' : (qs.map enc).length = xs.length := by simpa [ar] using e2
    simp (decide := true) [enc_rcd]
    rw [listM_zip3 (α := Str) (β := T) (g := pr) e' e2' (by intro x t u; simp [pr])]
    simp
  case refine_13 xs ps b e qs e2 hb =>
    have e' : (ps.map enc).length = xs.length := by simpa using e
    obtain ⟨qs, c, rfl, e3⟩ := lenE e2
    clear e2
    have e2' : (qs.map enc).length = xs.length := by simpa using e3
    simp (decide := true) [enc_grp e, enc_grp e3]
    rw [zip_app (by simp [e, e3]), listM_zip3 (α := Str) (β := T) (g := pr) e' e2' (by intro x t u; simp [pr])]
    simp
  case refine_14 xs a ps e qs e2 hb =>
    have e' : (ps.map enc).length = xs.length := by simpa using e
    obtain ⟨c, qs, rfl, e3⟩ := lenS e2
    clear e2
    have e2' : (qs.map enc).length = xs.length := by simpa using e3
    simp (decide := true) [enc_mat]
    rw [listM_zip3 (α := Str × List Str) (β := T) (g := br) e' e2' (by intro x t u; simp (decide := true) [br])]
    simp
  all_goals first | (obtain rfl := lq0 (by assumption)) | (obtain ⟨a, rfl⟩ := lq1 (by assumption)) | (obtain ⟨a, b, rfl⟩ := lq2 (by assumption)) | (obtain ⟨a, b, c, rfl⟩ := lq3 (by assumption))
  all_goals simp (decide := true) [enc_name, enc_num, enc_tru, enc_mark, enc_fault, enc_fn, enc_call, enc_lt, enc_ite, enc_get, enc_put, enc_told]
theorem mul_rep {n : Nat} {t : T} (h : n ≤ 1000000) : bopR .mul (.own (.lst [t])) (.fro (.int (n : Int))) = some (.own (.lst (List.replicate n t))) := by
  have e : szOk (([t] : List T).length * ((n : Nat) : Int).toNat) = true := sz_of (by simp; omega)
  rw [o_mulL, if_pos ⟨by omega, by omega, e⟩]
  simp
theorem nsT_nil : nsT [] = .tup [] := rfl
def rest : Hh → Bool
  | .fn _ | .lt _ | .grp _ | .mat _ => false
  | _ => true
theorem bnd_rest : ∀ {h : Hh}, rest h = true → bnd h = List.replicate (ar h) []
  | .name _, _ | .num _, _ | .tru _, _ | .mark _, _ | .call, _ | .ite, _ | .get _, _ | .put _, _ | .told _, _ | .rcd _, _ | .fault _, _ => rfl
def wordOf : Hh → Str
  | .name _ => k_name | .num _ => k_num | .tru _ => k_truth | .mark _ => k_mark | .fn _ => k_fun | .call => k_call | .lt _ => k_let
  | .ite => k_if | .get _ => k_get | .put _ => k_put | .told _ => k_told | .rcd _ => k_rec | .grp _ => k_group | .mat _ => k_match | .fault _ => k_fault
theorem word_at {h : Hh} {ps : List Tm} (hl : ps.length = ar h) : ∃ r, enc (.nd h ps) = .tup (.str (wordOf h) :: r) := by
  refine Tm.byH (P := fun h ps => ∃ r, enc (.nd h ps) = .tup (.str (wordOf h) :: r)) ?_ ?_ ?_ ?_ ?_ ?_ ?_ ?_ ?_ ?_ ?_ ?_ ?_ ?_ ?_ hl
  all_goals intros
  all_goals first | exact ⟨_, enc_name⟩ | exact ⟨_, enc_num⟩ | exact ⟨_, enc_tru⟩ | exact ⟨_, enc_mark⟩ | exact ⟨_, enc_fn⟩ | exact ⟨_, enc_call⟩ | exact ⟨_, enc_lt⟩ | exact ⟨_, enc_ite⟩ | exact ⟨_, enc_get⟩ | exact ⟨_, enc_put⟩ | exact ⟨_, enc_told⟩ | exact ⟨_, enc_rcd⟩ | exact ⟨_, enc_grp (by assumption)⟩ | exact ⟨_, enc_mat⟩ | exact ⟨_, enc_fault⟩
theorem word_ok (h : Hh) : strOk (wordOf h) = true := by cases h <;> simp [wordOf]
theorem rest_ne : ∀ {h : Hh}, rest h = true → wordOf h ≠ k_fun ∧ wordOf h ≠ k_let ∧ wordOf h ≠ k_group ∧ wordOf h ≠ k_match := by
  intro h e
  cases h <;> first | (cases e; done) | (simp only [wordOf]; decide +kernel)
theorem bound_rest (k : Nat) {h : Hh} {ps : List Tm} (hl : ps.length = ar h) (hb : ps.length ≤ 1000) (hr : rest h = true) : den cfg tb (k + 2) i_bound_in [enc (.nd h ps)] = M.ret (.own (.lst ((bnd h).map nsT))) := by
  have hp := parts_of k hl hb
  obtain ⟨r, er⟩ := word_at hl
  obtain ⟨n1, n2, n3, n4⟩ := rest_ne hr
  rw [er] at hp ⊢
  rw [den_fn (f := i_bound_in) rfl rfl, bnd_rest hr, ← hl]
  simp [word_ok, n1, n2, n3, n4, hp, mul_rep (n := ps.length) (Nat.le_trans hb (by decide)), -o_mulL, nsT_nil]
theorem bound_grp (k : Nat) {xs : List Str} {ps : List Tm} {b : Tm} (e : ps.length = xs.length) (hb : ps.length ≤ 1000) : den cfg tb (k + 2) i_bound_in [enc (.nd (.grp xs) (ps ++ [b]))] = M.ret (.own (.lst ((bnd (.grp xs)).map nsT))) := by
  have e' : (ps.map enc).length = xs.length := by simpa using e
  rw [den_fn (f := i_bound_in) rfl rfl]
  simp (decide := true) [enc_grp e, -o_mulL]
  rw [listM_zw (g := fun x t => T.str x) (by intro x hx t ht; simp [pr]), zw_fst e']
  have := mul_rep (n := xs.length + 1) (t := nsT xs) (by omega)
  rw [Int.natCast_add] at this
  have e3 : Min.min xs.length ps.length = xs.length := by omega
  have this : bopR .mul (.own (.lst [.tup (xs.map .str)])) (.fro (.int ((xs.length : Int) + 1))) = some (.own (.lst (List.replicate (xs.length + 1) (nsT xs)))) := this
  simp [e3, -o_mulL, this, bnd]
theorem bound_mat (k : Nat) {xs : List (Str × List Str)} {ps : List Tm} {a : Tm} (e : ps.length = xs.length) (hb : ps.length ≤ 1000) : den cfg tb (k + 2) i_bound_in [enc (.nd (.mat xs) (a :: ps))] = M.ret (.own (.lst ((bnd (.mat xs)).map nsT))) := by
  have e' : (ps.map enc).length = xs.length := by simpa using e
  rw [den_fn (f := i_bound_in) rfl rfl]
  simp (decide := true) [enc_mat]
  rw [listM_zw (g := fun (x : Str × List Str) t => nsT x.2) (by intro x hx t ht; simp [br]), zw_fst (f := fun (x : Str × List Str) => nsT x.2) e']
  have hz : szOk (1 + xs.length) = true := sz_of (by omega)
  simp [hz, bnd, nsT_nil]
  rfl
theorem bound_fn (k : Nat) {x : Str} {a : Tm} : den cfg tb (k + 2) i_bound_in [enc (.nd (.fn x) [a])] = M.ret (.own (.lst ((bnd (.fn x)).map nsT))) := by
  rw [den_fn (f := i_bound_in) rfl rfl]
  simp (decide := true) [enc_fn, bnd, nsT]
theorem bound_lt (k : Nat) {x : Str} {a b : Tm} : den cfg tb (k + 2) i_bound_in [enc (.nd (.lt x) [a, b])] = M.ret (.own (.lst ((bnd (.lt x)).map nsT))) := by
  rw [den_fn (f := i_bound_in) rfl rfl]
  simp (decide := true) [enc_lt, bnd, nsT]
theorem bound_in (k : Nat) {h : Hh} {ps : List Tm} (hl : ps.length = ar h) (hb : ps.length ≤ 1000) : den cfg tb (k + 2) i_bound_in [enc (.nd h ps)] = M.ret (.own (.lst ((bnd h).map nsT))) := by
  cases h with
  | fn x => obtain ⟨a, rfl⟩ := lq1 hl; exact bound_fn k
  | lt x => obtain ⟨a, b, rfl⟩ := lq2 hl; exact bound_lt k
  | grp xs => obtain ⟨r, b, rfl, h⟩ := lenE hl; exact bound_grp k h (by simp at hb; omega)
  | mat bs => obtain ⟨a, r, rfl, h⟩ := lenS hl; exact bound_mat k h (by simp at hb; omega)
  | _ => exact bound_rest k hl hb rfl
end TL
end

section
set_option Elab.async false
set_option linter.all false
set_option maxRecDepth 100000
/-! Good terms; free names, names in, putting: what they are here. -/
namespace TL
open PySem
mutual
/-- tuples all through -/
def tdat : T → Bool
  | .non | .bl _ | .int _ | .str _ => true
  | .tup xs => tdats xs
  | _ => false
def tdats : List T → Bool
  | [] => true
  | x :: xs => tdat x && tdats xs
end
def hok (N F : List Str) : Hh → Prop
  | .name x => x ∈ N ++ F
  | .num _ | .tru _ | .call | .ite => True
  | .fault p => p = []
  | .mark x | .get x | .put x => strOk x = true
  | .fn x | .lt x => x ∈ N
  | .told k => dat k = true ∧ tdat k = true
  | .rcd xs => xs.Nodup ∧ xs.length ≤ 16 ∧ ∀ x ∈ xs, strOk x = true
  | .grp xs => xs.Nodup ∧ xs.length ≤ 16 ∧ ∀ x ∈ xs, x ∈ N
  | .mat bs => bs.length ≤ 16 ∧ ∀ b ∈ bs, strOk b.1 = true ∧ b.2.Nodup ∧ b.2.length ≤ 16 ∧ ∀ x ∈ b.2, x ∈ N
inductive Ok (N F : List Str) : Tm → Prop where
  | mk {h : Hh} {ps : List Tm} (hl : ps.length = ar h) (hh : hok N F h) (hp : ∀ p ∈ ps, Ok N F p) : Ok N F (.nd h ps)
section
variable {N F : List Str} {h : Hh} {ps : List Tm}
theorem Ok.len : Ok N F (.nd h ps) → ps.length = ar h
  | .mk hl _ _ => hl
theorem Ok.hd : Ok N F (.nd h ps) → hok N F h
  | .mk _ hh _ => hh
theorem Ok.part : Ok N F (.nd h ps) → ∀ p ∈ ps, Ok N F p
  | .mk _ _ hp => hp
theorem hok.ar17 (e : hok N F h) : ar h ≤ 17 := by
  cases h with
  | rcd xs => exact Nat.le_succ_of_le e.2.1
  | grp xs => exact Nat.succ_le_succ e.2.1
  | mat xs => exact Nat.succ_le_succ e.1
  | _ => simp [ar]
theorem hok.bnd (e : hok N F h) : ∀ bs ∈ bnd h, bs.length ≤ 16 ∧ ∀ x ∈ bs, x ∈ N := by
  intro bs hb
  cases h with
  | fn x =>
    rcases List.mem_singleton.mp hb with rfl
    exact ⟨by simp, fun y hy => by rw [List.mem_singleton.mp hy]; exact e⟩
  | lt x =>
    rcases List.mem_cons.mp hb with rfl | hb
    · exact ⟨by simp, fun y hy => by cases hy⟩
    · rcases List.mem_singleton.mp hb with rfl
      exact ⟨by simp, fun y hy => by rw [List.mem_singleton.mp hy]; exact e⟩
  | grp xs =>
    rw [(List.mem_replicate.mp hb).2]
    exact e.2
  | mat xs =>
    rcases List.mem_cons.mp hb with rfl | hb
    · exact ⟨by simp, fun y hy => by cases hy⟩
    · obtain ⟨b, hb', rfl⟩ := List.mem_map.mp hb
      exact (e.2 b hb').2.2
  | _ =>
    rw [(List.mem_replicate.mp hb).2]
    exact ⟨by simp, fun y hy => by cases hy⟩
theorem Ok.small (e : Ok N F (.nd h ps)) : ps.length ≤ 1000 := by
  rw [e.len]
  exact Nat.le_trans e.hd.ar17 (by decide)
end
mutual
def ht : Tm → Nat
  | .nd _ ps => hts ps + 1
def hts : List Tm → Nat
  | [] => 0
  | p :: ps => max (ht p) (hts ps)
end
theorem ht_part {p : Tm} : ∀ {ps : List Tm}, p ∈ ps → ht p ≤ hts ps
  | q :: ps, h => by
    unfold hts
    rcases List.mem_cons.mp h with rfl | h
    · omega
    · have := ht_part h
      omega
theorem ht_eq {h : Hh} {ps : List Tm} : ht (.nd h ps) = hts ps + 1 := by unfold ht; rfl
theorem ht_nd {h : Hh} {ps : List Tm} {p : Tm} (hp : p ∈ ps) : ht p + 1 ≤ ht (.nd h ps) := by
  have := ht_part hp
  rw [ht_eq]
  omega
mutual
def cnt : Tm → Nat
  | .nd _ ps => cnts ps + 1
def cnts : List Tm → Nat
  | [] => 0
  | p :: ps => cnt p + cnts ps
end
theorem cnt_part {p : Tm} : ∀ {ps : List Tm}, p ∈ ps → cnt p ≤ cnts ps
  | q :: ps, h => by
    unfold cnts
    rcases List.mem_cons.mp h with rfl | h
    · omega
    · have := cnt_part h
      omega
/-- names put for others, all at once -/
abbrev Sb := Str → Option Tm
def Sb.but (σ : Sb) (bs : List Str) : Sb := fun y => if y ∈ bs then none else σ y
def Sb.one (x : Str) (v : Tm) : Sb := fun y => if y = x then some v else none
mutual
def subs (σ : Sb) : Tm → Tm
  | .nd (.name y) ps => (σ y).getD (.nd (.name y) ps)
  | .nd h ps => .nd h (subss σ (bnd h) ps)
def subss (σ : Sb) : List (List Str) → List Tm → List Tm
  | bs :: bss, p :: ps => subs (σ.but bs) p :: subss σ bss ps
  | _, _ => []
end
mutual
def fv : Tm → List Str
  | .nd (.name y) _ => [y]
  | .nd h ps => fvs (bnd h) ps
def fvs : List (List Str) → List Tm → List Str
  | bs :: bss, p :: ps => (fv p).filter (fun y => decide (y ∉ bs)) ++ fvs bss ps
  | _, _ => []
end
mutual
def nmi : Tm → List Str
  | .nd (.name y) _ => [y]
  | .nd h ps => nmis (bnd h) ps
def nmis : List (List Str) → List Tm → List Str
  | bs :: bss, p :: ps => bs ++ nmi p ++ nmis bss ps
  | _, _ => []
end
def isName : Hh → Bool
  | .name _ => true
  | _ => false
section
variable {h : Hh} {ps : List Tm} {σ : Sb}
theorem subs_nd (e : isName h = false) : subs σ (.nd h ps) = .nd h (subss σ (bnd h) ps) := by
  cases h <;> first | (cases e; done) | (unfold subs; rfl)
theorem fv_nd (e : isName h = false) : fv (.nd h ps) = fvs (bnd h) ps := by
  cases h <;> first | (cases e; done) | (unfold fv; rfl)
theorem nmi_nd (e : isName h = false) : nmi (.nd h ps) = nmis (bnd h) ps := by
  cases h <;> first | (cases e; done) | (unfold nmi; rfl)
theorem subs_name {y : Str} : subs σ (.nd (.name y) ps) = (σ y).getD (.nd (.name y) ps) := by unfold subs; rfl
theorem fv_name {y : Str} : fv (.nd (.name y) ps) = [y] := by unfold fv; rfl
theorem nmi_name {y : Str} : nmi (.nd (.name y) ps) = [y] := by unfold nmi; rfl
end
/-- nothing put changes nothing -/
theorem subs_no {N F : List Str} : ∀ {t : Tm}, Ok N F t → ∀ {σ : Sb}, (∀ y, σ y = none) → subs σ t = t := by
  intro t
  induction t using Tm.ind with
  | h hd ps ih =>
    intro ok σ hs
    cases hn : isName hd with
    | true =>
      cases hd <;> first | (cases hn; done) | skip
      rw [subs_name, hs]
      rfl
    | false =>
      rw [subs_nd hn]
      have key : ∀ (bss : List (List Str)) (qs : List Tm), qs.length = bss.length → (∀ q ∈ qs, q ∈ ps) → subss σ bss qs = qs := by
        intro bss
        induction bss with
        | nil => intro qs hl _; obtain rfl : qs = [] := lq0 (by simpa using hl); unfold subss; rfl
        | cons bs bss ihb =>
          intro qs hl hq
          obtain ⟨q, r, rfl, hr⟩ := lenS (by simpa using hl)
          unfold subss
          rw [ih q (hq q List.mem_cons_self) (ok.part q (hq q List.mem_cons_self)) (fun y => by unfold Sb.but; split; rfl; exact hs y), ihb r hr (fun z hz => hq z (List.mem_cons_of_mem _ hz))]
      rw [key _ _ (by rw [bnd_len, ok.len]) (fun _ h => h)]
end TL
end

section
set_option Elab.async false
set_option linter.all false
set_option maxRecDepth 100000
/-! free_names, names_in, caught_by, put_by. -/
namespace TL
open PySem
theorem loop_inv {α β : Type} {f : T → Env → M Fl} {mk : α → T} {Inv : β → Env → Prop} {st : β → α → β} : ∀ (as : List α) {b : β} {ρ : Env}, (∀ a ∈ as, ∀ b ρ, Inv b ρ → ∃ ρ', f (mk a) ρ = M.ret (.nx ρ') ∧ Inv (st b a) ρ') → Inv b ρ → ∃ ρ', loopF f (as.map mk) ρ = M.ret (.nx ρ') ∧ Inv (as.foldl st b) ρ'
  | [], b, ρ, _, h => ⟨ρ, rfl, h⟩
  | a :: as, b, ρ, hs, h => by
    obtain ⟨ρ1, e1, h1⟩ := hs a List.mem_cons_self b ρ h
    obtain ⟨ρ2, e2, h2⟩ := loop_inv as (fun x hx => hs x (List.mem_cons_of_mem _ hx)) h1
    refine ⟨ρ2, ?_, h2⟩
    rw [List.map_cons]
    show M.bind (f (mk a) ρ) _ = _
    rw [e1, ret_bind]
    exact e2
theorem loop_bind {α β γ : Type} {f : T → Env → M Fl} {mk : α → T} {as : List α} {ρ : Env} {K : Fl → M γ} {res : M γ} (Inv : β → Env → Prop) (st : β → α → β) (b : β) (hs : ∀ a ∈ as, ∀ b ρ, Inv b ρ → ∃ ρ', f (mk a) ρ = M.ret (.nx ρ') ∧ Inv (st b a) ρ') (h0 : Inv b ρ) (hk : ∀ ρ', Inv (as.foldl st b) ρ' → K (.nx ρ') = res) : M.bind (loopF f (as.map mk) ρ) K = res := by
  obtain ⟨ρ', e, h⟩ := loop_inv (f := f) (mk := mk) (Inv := Inv) (st := st) as hs h0
  rw [e, ret_bind, hk ρ' h]
/-- the same, the loop being the last of a turn -/
theorem loop_nx {α β : Type} {f : T → Env → M Fl} {mk : α → T} {as : List α} {ρ : Env} {P : Env → Prop} (Inv : β → Env → Prop) (st : β → α → β) (b : β) (hs : ∀ a ∈ as, ∀ b ρ, Inv b ρ → ∃ ρ', f (mk a) ρ = M.ret (.nx ρ') ∧ Inv (st b a) ρ') (h0 : Inv b ρ) (hk : ∀ ρ', Inv (as.foldl st b) ρ' → P ρ') : ∃ ρ', loopF f (as.map mk) ρ = M.ret (.nx ρ') ∧ P ρ' := by
  obtain ⟨ρ', e, h⟩ := loop_inv (f := f) (mk := mk) (Inv := Inv) (st := st) as hs h0
  exact ⟨ρ', e, hk ρ' h⟩
theorem loop_rest {α : Type} {f : T → Env → M Fl} {mk : α → T} {Inv : List α → Env → Prop} : ∀ (as : List α) {ρ : Env}, (∀ a rest ρ, a ∈ as → Inv (a :: rest) ρ → ∃ ρ', f (mk a) ρ = M.ret (.nx ρ') ∧ Inv rest ρ') → Inv as ρ → ∃ ρ', loopF f (as.map mk) ρ = M.ret (.nx ρ') ∧ Inv [] ρ'
  | [], ρ, _, h => ⟨ρ, rfl, h⟩
  | a :: as, ρ, hs, h => by
    obtain ⟨ρ1, e1, h1⟩ := hs a as ρ List.mem_cons_self h
    obtain ⟨ρ2, e2, h2⟩ := loop_rest as (fun x r ρ hx => hs x r ρ (List.mem_cons_of_mem _ hx)) h1
    refine ⟨ρ2, ?_, h2⟩
    rw [List.map_cons]
    show M.bind (f (mk a) ρ) _ = _
    rw [e1, ret_bind]
    exact e2
theorem loopR_bind {α γ : Type} {f : T → Env → M Fl} {mk : α → T} {as : List α} {ρ : Env} {K : Fl → M γ} {res : M γ} (Inv : List α → Env → Prop) (hs : ∀ a rest ρ, a ∈ as → Inv (a :: rest) ρ → ∃ ρ', f (mk a) ρ = M.ret (.nx ρ') ∧ Inv rest ρ') (h0 : Inv as ρ) (hk : ∀ ρ', Inv [] ρ' → K (.nx ρ') = res) : M.bind (loopF f (as.map mk) ρ) K = res := by
  obtain ⟨ρ', e, h⟩ := loop_rest (f := f) (mk := mk) (Inv := Inv) as hs h0
  rw [e, ret_bind, hk ρ' h]
@[simp] theorem loop_none {f : T → Env → M Fl} {ρ : Env} : loopF f [] ρ = M.ret (.nx ρ) := rfl
@[simp] theorem seq_nil {G : Cfg} {C : Calls} {m : M Fl} : M.bind m (seqM (denSs G C .nil)) = m := by
  funext s
  unfold M.bind
  cases m s with
  | none => rfl
  | some p => obtain ⟨fl, s'⟩ := p; cases fl <;> rfl
theorem zip_pairs (ps : List Tm) (bss : List (List Str)) : ((ps.map enc).zip (bss.map nsT)).map pairT = (ps.zip bss).map fun p => T.tup [enc p.1, nsT p.2] := by
  rw [List.zip_map, List.map_map]
  rfl
def insK (l : List Str) (x : Str) : List Str := if x ∈ l then l else l ++ [x]
def dK (l : List Str) : T := .dct (l.map .inr) (l.map fun _ => .bl true)
theorem any_key {l : List Str} {x : Str} : (l.map Sum.inr).any (fun k : Key => decide (k = Sum.inr x)) = decide (x ∈ l) := by
  rw [Bool.eq_iff_iff]
  simp
theorem repl_true {x : Str} : ∀ l : List Str, replTs (l.map Sum.inr) (l.map fun _ => T.bl true) (.inr x) (.bl true) = l.map fun _ => T.bl true
  | [] => rfl
  | y :: l => by
    show (if (Sum.inr y : Key) = Sum.inr x then T.bl true else T.bl true) :: replTs (l.map Sum.inr) (l.map fun _ => T.bl true) (.inr x) (.bl true) = _
    rw [repl_true l]
    split <;> rfl
theorem putKs_dK {l : List Str} {x : Str} : putKs (l.map Sum.inr) (.inr x) = (insK l x).map Sum.inr := by
  unfold putKs insK
  rw [any_key]
  by_cases h : x ∈ l
  · rw [if_pos (by simpa using h), if_pos h]
  · rw [if_neg (by simpa using h), if_neg h]
    simp
theorem putTs_dK {l : List Str} {x : Str} : putTs (l.map Sum.inr) (l.map fun _ => T.bl true) (.inr x) (.bl true) = (insK l x).map fun _ => T.bl true := by
  unfold putTs insK
  rw [any_key]
  by_cases h : x ∈ l
  · rw [if_pos (by simpa using h), if_pos h, repl_true]
  · rw [if_neg (by simpa using h), if_neg h]
    simp
theorem setD_dK {s : Sto} {l : List Str} {x : Str} (h : l.length < lim) : setD s (.own (dK l)) (.str x) (.bl true) = some (.own (dK (insK l x)), s) := by
  show ((keyOf (.str x)).bind fun y => if (l.map Sum.inr).length < lim then some (Slot.own (.dct (putKs (l.map Sum.inr) y) (putTs (l.map Sum.inr) (l.map fun _ => T.bl true) y (.bl true))), s) else none) = _
  show (if (l.map Sum.inr).length < lim then some (Slot.own (.dct (putKs (l.map Sum.inr) (.inr x)) (putTs (l.map Sum.inr) (l.map fun _ => T.bl true) (.inr x) (.bl true))), s) else none) = _
  rw [if_pos (by simpa using h), putKs_dK, putTs_dK]
  rfl
theorem setM_dK {a b c d : Slot} {l : List Str} {x : Str} (h : l.length < lim) : setM [a, .own (dK l), b, c, d] 1 (.str x) (.bl true) = M.ret (.nx [a, .own (dK (insK l x)), b, c, d]) := by
  funext s
  show (match setD s (.own (dK l)) (.str x) (.bl true) with
    | some (sl, s') => some (Fl.nx ([a, .own (dK l), b, c, d].set 1 sl), s')
    | none => none) = _
  rw [setD_dK h]
  rfl
def addK (bs l xs : List Str) : List Str := xs.foldl (fun l x => if x ∈ bs then l else insK l x) l
mutual
def fnm : Tm → List Str
  | .nd (.name y) _ => [y]
  | .nd h ps => fnms [] (bnd h) ps
def fnms (l : List Str) : List (List Str) → List Tm → List Str
  | bs :: bss, p :: ps => fnms (addK bs l (fnm p)) bss ps
  | _, _ => l
end
theorem fnm_name {y : Str} {ps : List Tm} : fnm (.nd (.name y) ps) = [y] := by unfold fnm; rfl
theorem fnm_nd {h : Hh} {ps : List Tm} (e : isName h = false) : fnm (.nd h ps) = fnms [] (bnd h) ps := by
  cases h <;> first | (cases e; done) | (unfold fnm; rfl)
theorem fnms_fold : ∀ {ps : List Tm} {bss : List (List Str)} {l : List Str}, fnms l bss ps = (ps.zip bss).foldl (fun l p => addK p.2 l (fnm p.1)) l
  | [], bss, l => by cases bss <;> (unfold fnms; rfl)
  | p :: ps, [], l => by unfold fnms; rfl
  | p :: ps, bs :: bss, l => by unfold fnms; rw [fnms_fold]; rfl
theorem insK_nodup {l : List Str} {x : Str} (h : l.Nodup) : (insK l x).Nodup := by
  unfold insK
  split
  · exact h
  · rename_i hx
    rw [List.nodup_append]
    exact ⟨h, by simp, fun a ha b hb e => hx (by rw [List.mem_singleton.mp hb] at e; rw [← e]; exact ha)⟩
theorem insK_mem {l : List Str} {x y : Str} (h : y ∈ insK l x) : y ∈ l ∨ y = x := by
  unfold insK at h
  split at h
  · exact .inl h
  · rcases List.mem_append.mp h with h | h
    · exact .inl h
    · exact .inr (List.mem_singleton.mp h)
theorem addK_nodup {bs : List Str} : ∀ {xs l : List Str}, l.Nodup → (addK bs l xs).Nodup
  | [], l, h => h
  | x :: xs, l, h => by
    show (addK bs (if x ∈ bs then l else insK l x) xs).Nodup
    apply addK_nodup
    split
    · exact h
    · exact insK_nodup h
theorem addK_mem {bs : List Str} {y : Str} : ∀ {xs l : List Str}, y ∈ addK bs l xs → y ∈ l ∨ (y ∈ xs ∧ y ∉ bs)
  | [], l, h => .inl h
  | x :: xs, l, h => by
    have h : y ∈ addK bs (if x ∈ bs then l else insK l x) xs := h
    rcases addK_mem h with h | h
    · split at h
      · exact .inl h
      · rename_i hx
        rcases insK_mem h with h | rfl
        · exact .inl h
        · exact .inr ⟨List.mem_cons_self, hx⟩
    · exact .inr ⟨List.mem_cons_of_mem _ h.1, h.2⟩
/-- a list without repetitions is no longer than what holds it -/
theorem nodup_le {l : List Str} (h : l.Nodup) : ∀ {m : List Str}, (∀ x ∈ l, x ∈ m) → l.length ≤ m.length := by
  induction l with
  | nil => intro m _; exact Nat.zero_le _
  | cons a l ih =>
    intro m hm
    have ha : a ∈ m := hm a List.mem_cons_self
    have hn := List.nodup_cons.mp h
    have := ih hn.2 (m := m.erase a) (fun x hx => by
      have hne : x ≠ a := fun e => hn.1 (e ▸ hx)
      exact (List.mem_erase_of_ne hne).mpr (hm x (List.mem_cons_of_mem _ hx)))
    rw [List.length_erase_of_mem ha] at this
    have hp : 0 < m.length := List.length_pos_of_mem ha
    rw [List.length_cons]
    omega
theorem fnms_mem {y : Str} : ∀ {ps : List Tm} {bss : List (List Str)} {l : List Str}, y ∈ fnms l bss ps → (∀ p ∈ ps, y ∈ fnm p → y ∈ fv p) → y ∈ l ∨ y ∈ fvs bss ps
  | [], bss, l, h, _ => by cases bss <;> (unfold fnms at h; exact .inl h)
  | p :: ps, [], l, h, _ => by unfold fnms at h; exact .inl h
  | p :: ps, bs :: bss, l, h, hp => by
    unfold fnms at h
    rcases fnms_mem h (fun q hq => hp q (List.mem_cons_of_mem _ hq)) with h | h
    · rcases addK_mem h with h | h
      · exact .inl h
      · right
        unfold fvs
        exact List.mem_append.mpr (.inl (List.mem_filter.mpr ⟨hp p List.mem_cons_self h.1, by simpa using h.2⟩))
    · right
      unfold fvs
      exact List.mem_append.mpr (.inr h)
theorem fnm_fv {y : Str} : ∀ {t : Tm}, y ∈ fnm t → y ∈ fv t := by
  intro t
  induction t using Tm.ind with
  | h hd ps ih =>
    intro h
    cases hn : isName hd with
    | true =>
      cases hd <;> first | (cases hn; done) | skip
      rw [fnm_name] at h
      rw [fv_name]
      exact h
    | false =>
      rw [fnm_nd hn] at h
      rw [fv_nd hn]
      rcases fnms_mem h ih with h | h
      · cases h
      · exact h
theorem fvs_sub {N F : List Str} {y : Str} : ∀ {ps : List Tm} {bss : List (List Str)}, y ∈ fvs bss ps → (∀ p ∈ ps, y ∈ fv p → y ∈ N ++ F) → y ∈ N ++ F
  | [], bss, h, _ => by cases bss <;> (unfold fvs at h; cases h)
  | p :: ps, [], h, _ => by unfold fvs at h; cases h
  | p :: ps, bs :: bss, h, hp => by
    unfold fvs at h
    rcases List.mem_append.mp h with h | h
    · exact hp p List.mem_cons_self (List.mem_filter.mp h).1
    · exact fvs_sub h fun q hq => hp q (List.mem_cons_of_mem _ hq)
theorem fv_names {N F : List Str} {y : Str} : ∀ {t : Tm}, Ok N F t → y ∈ fv t → y ∈ N ++ F := by
  intro t
  induction t using Tm.ind with
  | h hd ps ih =>
    intro ok h
    cases hn : isName hd with
    | true =>
      cases hd <;> first | (cases hn; done) | skip
      rw [fv_name] at h
      rw [List.mem_singleton.mp h]
      exact ok.hd
    | false =>
      rw [fv_nd hn] at h
      exact fvs_sub h fun p hp => ih p hp (ok.part p hp)
theorem flat_strs (xs : List Str) : (xs.map T.str).all flat = true := by simp
theorem any_str {xs : List Str} {x : Str} : (xs.map T.str).any (fun t => eqT t (.str x)) = decide (x ∈ xs) := by
  rw [Bool.eq_iff_iff]
  simp
/-- the names allowed -/
structure Nms (N F : List Str) : Prop where
  str : ∀ x ∈ N ++ F, strOk x = true
  len : (N ++ F).length ≤ 300
section
variable {N F : List Str}
theorem free_names (hN : Nms N F) : ∀ {t : Tm}, Ok N F t → ∀ {k : Nat}, ht t + 2 ≤ k → den cfg tb k i_free_names [enc t] = M.ret (.fro (nsT (fnm t))) := by
  intro t
  induction t using Tm.ind with
  | h hd ps ih =>
    intro ok k hk
    rw [ht_eq] at hk
    obtain ⟨k, rfl⟩ : ∃ j, k = j + 3 := ⟨k - 3, by omega⟩
    rw [den_fn (f := i_free_names) rfl rfl]
    cases hn : isName hd with
    | true =>
      cases hd <;> first | (cases hn; done) | skip
      rw [enc_name, fnm_name]
      simp (decide := true) [nsT]
    | false =>
      obtain ⟨r, er⟩ := word_at ok.len
      have hw : wordOf hd ≠ k_name := by cases hd <;> first | (cases hn; done) | (simp only [wordOf]; decide +kernel)
      have hp := parts_of (k + 1) ok.len ok.small
      have hb := bound_in k ok.len ok.small
      rw [er] at hp hb ⊢
      rw [fnm_nd hn, fnms_fold]
      have hlim : ∀ {l : List Str}, l.Nodup → (∀ x ∈ l, x ∈ N ++ F) → l.length < lim := fun h1 h2 => Nat.lt_of_le_of_lt (Nat.le_trans (nodup_le h1 h2) hN.len) (by decide +kernel)
      simp [word_ok, hw, hp, hb, -o_mulL, zip_pairs]
      refine loop_bind (fun (l : List Str) ρ => ∃ s2 s3 s4, ρ = [.fro (.tup (.str (wordOf hd) :: r)), .own (dK l), s2, s3, s4] ∧ l.Nodup ∧ ∀ x ∈ l, x ∈ N ++ F) (fun l p => addK p.2 l (fnm p.1)) [] ?_ ⟨_, _, _, rfl, by simp, by simp⟩ ?_
      · rintro ⟨p, bs⟩ hz l ρ ⟨s2, s3, s4, rfl, hnd, hin⟩
        have hpm : p ∈ ps := (List.of_mem_zip hz).1
        have hbs : ∀ x ∈ bs, strOk x = true := fun x hx => hN.str x (List.mem_append.mpr (.inl ((ok.hd.bnd bs (List.of_mem_zip hz).2).2 x hx)))
        simp [ih p hpm (ok.part p hpm) (k := k + 2) (by have := ht_part hpm; omega)]
        unfold nsT
        simp
        refine loop_nx (fun (l : List Str) ρ => ∃ s4, ρ = [.fro (.tup (.str (wordOf hd) :: r)), .own (dK l), .fro (enc p), .fro (.tup (bs.map .str)), s4] ∧ l.Nodup ∧ ∀ x ∈ l, x ∈ N ++ F) (fun l x => if x ∈ bs then l else insK l x) l ?_ ⟨_, rfl, hnd, hin⟩ ?_
        · rintro x hx l ρ ⟨s4, rfl, hnd, hin⟩
          have hxn := fv_names (ok.part p hpm) (fnm_fv hx)
          simp [any_str, -List.any_map]
          by_cases hxb : x ∈ bs
          · simp [hxb]
            exact ⟨_, rfl, ⟨_, rfl⟩, hnd, fun x hx => List.mem_append.mp (hin x hx)⟩
          · simp [hxb, setM_dK (hlim hnd hin)]
            refine ⟨_, rfl, ⟨_, rfl⟩, insK_nodup hnd, fun y hy => List.mem_append.mp ?_⟩
            rcases insK_mem hy with hy | rfl
            · exact hin y hy
            · exact hxn
        · rintro ρ' ⟨s4, rfl, h⟩
          exact ⟨⟨_, _, _, rfl⟩, h.1, fun x hx => List.mem_append.mp (h.2 x hx)⟩
      · rintro ρ' ⟨s2, s3, s4, rfl, hnd, hin⟩
        have e : (l : List Str) → (l.map (Sum.inr : Str → Key)).map ofKey = l.map T.str := fun l => by rw [List.map_map]; rfl
        unfold dK nsT
        simp [-List.map_map, e]
end
theorem nmi_len {N F : List Str} : ∀ {t : Tm}, Ok N F t → (nmi t).length ≤ 300 * cnt t := by
  intro t
  induction t using Tm.ind with
  | h hd ps ih =>
    intro ok
    cases hn : isName hd with
    | true =>
      cases hd <;> first | (cases hn; done) | skip
      rw [nmi_name]
      unfold cnt
      simp
      omega
    | false =>
      rw [nmi_nd hn]
      have key : ∀ (bss : List (List Str)) (qs : List Tm), qs.length = bss.length → (∀ q ∈ qs, q ∈ ps) → (∀ bs ∈ bss, bs.length ≤ 16) → (nmis bss qs).length ≤ 16 * qs.length + 300 * cnts qs := by
        intro bss
        induction bss with
        | nil => intro qs hl _ _; obtain rfl : qs = [] := lq0 (by simpa using hl); unfold nmis; simp
        | cons bs bss ihb =>
          intro qs hl hq hb
          obtain ⟨q, r, rfl, hr⟩ := lenS (by simpa using hl)
          have h1 := ih q (hq q List.mem_cons_self) (ok.part q (hq q List.mem_cons_self))
          have h2 := ihb r hr (fun z hz => hq z (List.mem_cons_of_mem _ hz)) (fun z hz => hb z (List.mem_cons_of_mem _ hz))
          have h3 := hb bs List.mem_cons_self
          unfold nmis cnts
          rw [List.length_append, List.length_append, List.length_cons]
          omega
      have h1 := key _ _ (by rw [bnd_len, ok.len]) (fun _ h => h) (fun bs hb => (ok.hd.bnd bs hb).1)
      have h2 := ok.hd.ar17
      rw [← ok.len] at h2
      have h3 : cnt (.nd hd ps) = cnts ps + 1 := by unfold cnt; rfl
      omega
theorem nmis_flat : ∀ {ps : List Tm} {bss : List (List Str)}, nmis bss ps = (ps.zip bss).flatMap fun p => p.2 ++ nmi p.1
  | [], bss => by cases bss <;> (unfold nmis; simp)
  | p :: ps, [] => by unfold nmis; simp
  | p :: ps, bs :: bss => by
    unfold nmis
    rw [List.zip_cons_cons, List.flatMap_cons, nmis_flat]
theorem names_in {N F : List Str} : ∀ {t : Tm}, Ok N F t → cnt t ≤ 3000 → ∀ {k : Nat}, ht t + 2 ≤ k → den cfg tb k i_names_in [enc t] = M.ret (.own (.lst ((nmi t).map .str))) := by
  intro t
  induction t using Tm.ind with
  | h hd ps ih =>
    intro ok hc k hk
    rw [ht_eq] at hk
    have hc' : cnts ps + 1 ≤ 3000 := by unfold cnt at hc; exact hc
    have hlen := nmi_len ok
    obtain ⟨k, rfl⟩ : ∃ j, k = j + 3 := ⟨k - 3, by omega⟩
    rw [den_fn (f := i_names_in) rfl rfl]
    have hp := parts_of (k + 1) ok.len ok.small
    have hb := bound_in k ok.len ok.small
    cases hn : isName hd with
    | true =>
      cases hd <;> first | (cases hn; done) | skip
      have hb' : bnd (.name ‹Str›) = [] := rfl
      obtain rfl := lq0 ok.len
      rw [enc_name] at hp hb ⊢
      rw [nmi_name]
      rw [hb'] at hb
      simp (decide := true) [hp, hb, appM, retOM]
    | false =>
      obtain ⟨r, er⟩ := word_at ok.len
      have hw : wordOf hd ≠ k_name := by cases hd <;> first | (cases hn; done) | (simp only [wordOf]; decide +kernel)
      rw [er] at hp hb ⊢
      rw [nmi_nd hn, nmis_flat] at hlen ⊢
      simp [word_ok, hw, hp, hb, -o_mulL, zip_pairs]
      refine loopR_bind (fun (rest : List (Tm × List Str)) ρ => ∃ l s2 s3, ρ = [.fro (.tup (.str (wordOf hd) :: r)), .own (.lst (l.map .str)), s2, s3] ∧ l ++ rest.flatMap (fun p => p.2 ++ nmi p.1) = (ps.zip (bnd hd)).flatMap fun p => p.2 ++ nmi p.1) ?_ ⟨[], _, _, rfl, rfl⟩ ?_
      · rintro ⟨p, bs⟩ rest ρ hz ⟨l, s2, s3, rfl, hl⟩
        have hpm : p ∈ ps := (List.of_mem_zip hz).1
        have hcp := cnt_part hpm
        have hln : (l ++ (bs ++ nmi p)).length ≤ 1000000 := by
          have hl2 : (l ++ (bs ++ nmi p)) ++ rest.flatMap (fun p => p.2 ++ nmi p.1) = (ps.zip (bnd hd)).flatMap fun p => p.2 ++ nmi p.1 := by
            rw [← hl, List.flatMap_cons]
            simp
          have := congrArg List.length hl2
          rw [List.length_append (as := l ++ (bs ++ nmi p))] at this
          omega
        rw [List.length_append, List.length_append] at hln
        simp [ih p hpm (ok.part p hpm) (by omega) (k := k + 2) (by have := ht_part hpm; omega), extM, nsT, sz_of (n := l.length + bs.length) (by omega), sz_of (n := l.length + bs.length + (nmi p).length) (by omega)]
        refine ⟨_, rfl, l ++ (bs ++ nmi p), ⟨_, _, by simp; exact ⟨rfl, rfl⟩⟩, ?_⟩
        rw [← hl, List.flatMap_cons]
        simp
      · rintro ρ' ⟨l, s2, s3, rfl, hl⟩
        rw [← hl]
        simp [retOM]
end TL
end

section
set_option Elab.async false
set_option linter.all false
set_option maxRecDepth 100000
namespace TL
open PySem
@[simp] theorem inn_nsT {xs : List Str} {x : Str} : cmpD .inn (.str x) (nsT xs) = some (decide (x ∈ xs)) := by
  unfold nsT
  rw [cmp_inT, flat_strs, any_str]
  rfl
@[simp] theorem nin_nsT {xs : List Str} {x : Str} : cmpD .nin (.str x) (nsT xs) = some (decide (x ∉ xs)) := by
  unfold nsT
  rw [cmp_ninT, flat_strs, any_str]
  simp
theorem listM_none {α : Type} {f : T → M (Option α)} : ∀ {ts : List T}, (∀ t ∈ ts, f t = M.ret none) → listM f ts = M.ret []
  | [], _ => rfl
  | t :: ts, h => by
    show M.bind (f t) (fun o => M.bind (listM f ts) fun r => M.ret (match o with
      | some a => a :: r
      | none => r)) = _
    rw [h t List.mem_cons_self, ret_bind, listM_none fun u hu => h u (List.mem_cons_of_mem _ hu), ret_bind]
theorem subss_zip {σ : Sb} : ∀ {ps : List Tm} {bss : List (List Str)}, subss σ bss ps = (ps.zip bss).map fun p => subs (σ.but p.2) p.1
  | [], bss => by cases bss <;> (unfold subss; simp)
  | p :: ps, [] => by unfold subss; simp
  | p :: ps, bs :: bss => by
    unfold subss
    rw [List.zip_cons_cons, List.map_cons, subss_zip]
theorem but_one {x : Str} {v : Tm} {bs : List Str} (h : x ∉ bs) : (Sb.one x v).but bs = Sb.one x v := by
  funext y
  unfold Sb.but Sb.one
  split
  · rename_i hy
    rw [if_neg (fun e : y = x => h (e ▸ hy))]
  · rfl
theorem but_one' {x : Str} {v : Tm} {bs : List Str} (h : x ∈ bs) (y : Str) : (Sb.one x v).but bs y = none := by
  unfold Sb.but Sb.one
  split
  · rfl
  · rename_i hy
    rw [if_neg (fun e : y = x => hy (e ▸ h))]
theorem zip_len {α β : Type} {a : List α} {b : List β} (h : a.length = b.length) : (a.zip b).length = a.length := by
  rw [List.length_zip]
  omega
section
variable {N F : List Str}
theorem caught_by (k : Nat) {h : Hh} {ps : List Tm} (ok : Ok N F (.nd h ps)) {x : Str} {barred : List Str} (hb : ∀ y ∈ N, y ∉ barred) : den cfg tb (k + 3) i_caught_by [enc (.nd h ps), .str x, nsT barred] = M.ret (.own (.lst [])) := by
  have h1 := parts_of (k + 1) ok.len ok.small
  have h2 := bound_in k ok.len ok.small
  rw [den_fn (f := i_caught_by) rfl rfl]
  simp [h1, h2, zip_pairs]
  refine loopR_bind (fun (rest : List (Tm × List Str)) ρ => ∃ s4 s5 s6 s7, ρ = [.fro (enc (.nd h ps)), .fro (.str x), .fro (nsT barred), .own (.lst []), s4, s5, s6, s7]) ?_ ⟨_, _, _, _, rfl⟩ ?_
  · rintro ⟨p, bs⟩ rest ρ hz ⟨s4, s5, s6, s7, rfl⟩
    have hbs : ∀ y ∈ bs, y ∉ barred := fun y hy => hb y ((ok.hd.bnd bs (List.of_mem_zip hz).2).2 y hy)
    have hit : iterD (nsT bs) = some (bs.map T.str) := rfl
    simp [hit]
    rw [listM_none (by
      intro t ht
      obtain ⟨y, hy, rfl⟩ := List.mem_map.mp ht
      simp [hbs y hy])]
    simp (decide := true)
    exact ⟨_, rfl, _, _, _, _, rfl⟩
  · rintro ρ' ⟨s4, s5, s6, s7, rfl⟩
    simp [retOM]
theorem put_by (hN : Nms N F) {x : Str} (hx : strOk x = true) {v : Tm} {barred : List Str} (hb : ∀ y ∈ N, y ∉ barred) : ∀ {t : Tm}, Ok N F t → ∀ {k : Nat}, ht t + 3 ≤ k → den cfg tb k i_put_by [enc t, .str x, enc v, nsT barred] = M.ret (.fro (enc (subs (Sb.one x v) t))) := by
  intro t
  induction t using Tm.ind with
  | h hd ps ih =>
    intro ok k hk
    rw [ht_eq] at hk
    obtain ⟨k, rfl⟩ : ∃ j, k = j + 4 := ⟨k - 4, by omega⟩
    rw [den_fn (f := i_put_by) rfl rfl]
    cases hn : isName hd with
    | true =>
      cases hd <;> first | (cases hn; done) | skip
      rename_i y
      have hy := hN.str y ok.hd
      obtain rfl := lq0 ok.len
      rw [enc_name, subs_name]
      by_cases e : y = x
      · simp (decide := true) [e, hx, Sb.one]
      · simp (decide := true) [e, hx, hy, Sb.one, enc_name]
    | false =>
      obtain ⟨r, er⟩ := word_at ok.len
      have hw : wordOf hd ≠ k_name := by cases hd <;> first | (cases hn; done) | (simp only [wordOf]; decide +kernel)
      have hp := parts_of (k + 2) ok.len ok.small
      have hb2 := bound_in (k + 1) ok.len ok.small
      have hc := caught_by k ok (x := x) hb
      have hw2 := fun qs hq => with_parts (k + 2) ok.len (qs := qs) hq ok.small
      rw [er] at hp hb2 hc hw2 ⊢
      rw [subs_nd hn]
      simp (decide := true) [word_ok, hw, hp, hb2, hc, -o_mulL, zip_pairs]
      refine loopR_bind (fun (rest : List (Tm × List Str)) ρ => ∃ l s7 s8, ρ = [.fro (.tup (.str (wordOf hd) :: r)), .fro (.str x), .fro (enc v), .fro (nsT barred), .fro (.lst []), .non, .own (.lst (l.map enc)), s7, s8] ∧ l ++ rest.map (fun p => subs ((Sb.one x v).but p.2) p.1) = subss (Sb.one x v) (bnd hd) ps) ?_ ⟨[], _, _, rfl, by rw [subss_zip]; rfl⟩ ?_
      · rintro ⟨p, bs⟩ rest ρ hz ⟨l, s7, s8, rfl, hl⟩
        have hpm : p ∈ ps := (List.of_mem_zip hz).1
        have hlim : l.length < lim := by
          have := congrArg List.length hl
          rw [subss_zip, List.length_append, List.length_map, List.length_map, zip_len (by rw [bnd_len, ok.len])] at this
          exact Nat.lt_of_le_of_lt (Nat.le_trans (by omega) ok.small) (by decide +kernel)
        by_cases hxb : x ∈ bs
        · have e := subs_no (ok.part p hpm) (but_one' (v := v) hxb)
          rw [List.map_cons, e] at hl
          simp [hxb, appM, hlim]
          exact ⟨_, rfl, l ++ [p], ⟨_, _, by simp; exact ⟨rfl, rfl⟩⟩, by rw [← hl]; simp⟩
        · rw [List.map_cons, but_one hxb] at hl
          simp [hxb, appM, hlim, ih p hpm (ok.part p hpm) (k := k + 3) (by have := ht_part hpm; omega)]
          exact ⟨_, rfl, l ++ [subs (Sb.one x v) p], ⟨_, _, by simp; exact ⟨rfl, rfl⟩⟩, by rw [← hl]; simp⟩
      · rintro ρ' ⟨l, s7, s8, rfl, hl⟩
        simp at hl
        subst hl
        have := hw2 (subss (Sb.one x v) (bnd hd) ps) (by rw [subss_zip, List.length_map, zip_len (by rw [bnd_len, ok.len]), ok.len])
        simp [this]
/-- a value put: its free names are bound nowhere -/
theorem put_for (hN : Nms N F) {G : List Str} {x : Str} (hx : strOk x = true) {v : Tm} (hv : Ok N G v) (hG : Nms N G) (hb : ∀ y ∈ fv v, y ∉ N) {t : Tm} (ok : Ok N F t) {k : Nat} (h1 : ht t + 4 ≤ k) (h2 : ht v + 3 ≤ k) : den cfg tb k i_put_for [enc t, .str x, enc v] = M.ret (.fro (enc (subs (Sb.one x v) t))) := by
  obtain ⟨k, rfl⟩ : ∃ j, k = j + 1 := ⟨k - 1, by omega⟩
  rw [den_fn (f := i_put_for) rfl rfl]
  have e1 := free_names hG hv (k := k) (by omega)
  have e2 := put_by hN hx (v := v) (barred := fnm v) (fun y hy hf => hb y (fnm_fv hf) hy) ok (k := k) (by omega)
  simp [e1, e2]
end
end TL
end

section
set_option Elab.async false
set_option linter.all false
set_option maxRecDepth 100000
/-! Putting, plainly: one after the other is all at once. -/
namespace TL
open PySem
theorem fvs_mem {y : Str} {p : Tm} {bs : List Str} : ∀ {ps : List Tm} {bss : List (List Str)}, (p, bs) ∈ ps.zip bss → y ∈ fv p → y ∉ bs → y ∈ fvs bss ps
  | [], bss, h, _, _ => by simp at h
  | q :: ps, [], h, _, _ => by simp at h
  | q :: ps, cs :: bss, h, hy, hb => by
    unfold fvs
    rw [List.zip_cons_cons] at h
    rcases List.mem_cons.mp h with h | h
    · cases h
      exact List.mem_append.mpr (.inl (List.mem_filter.mpr ⟨hy, by simpa using hb⟩))
    · exact List.mem_append.mpr (.inr (fvs_mem h hy hb))
theorem fvs_inv {y : Str} : ∀ {ps : List Tm} {bss : List (List Str)}, y ∈ fvs bss ps → ∃ p bs, (p, bs) ∈ ps.zip bss ∧ y ∈ fv p ∧ y ∉ bs
  | [], bss, h => by cases bss <;> (unfold fvs at h; cases h)
  | q :: ps, [], h => by unfold fvs at h; cases h
  | q :: ps, cs :: bss, h => by
    unfold fvs at h
    rcases List.mem_append.mp h with h | h
    · have := List.mem_filter.mp h
      exact ⟨q, cs, by simp, this.1, by simpa using this.2⟩
    · obtain ⟨p, bs, h1, h2⟩ := fvs_inv h
      exact ⟨p, bs, by rw [List.zip_cons_cons]; exact List.mem_cons_of_mem _ h1, h2⟩
theorem nmis_mem {y : Str} {p : Tm} {bs : List Str} {ps : List Tm} {bss : List (List Str)} (h : (p, bs) ∈ ps.zip bss) (hy : y ∈ bs ∨ y ∈ nmi p) : y ∈ nmis bss ps := by
  rw [nmis_flat]
  exact List.mem_flatMap.mpr ⟨_, h, List.mem_append.mpr hy⟩
theorem map_zip_id {bss : List (List Str)} : ∀ {ps : List Tm}, ps.length = bss.length → (ps.zip bss).map (fun p => p.1) = ps := by
  induction bss with
  | nil => intro ps h; obtain rfl : ps = [] := lq0 (by simpa using h); rfl
  | cons b bss ih =>
    intro ps h
    obtain ⟨p, r, rfl, hr⟩ := lenS (by simpa using h)
    rw [List.zip_cons_cons, List.map_cons, ih hr]
/-- what is put for no free name changes nothing -/
theorem subs_free {N F : List Str} : ∀ {t : Tm}, Ok N F t → ∀ {σ : Sb}, (∀ y ∈ fv t, σ y = none) → subs σ t = t := by
  intro t
  induction t using Tm.ind with
  | h hd ps ih =>
    intro ok σ hs
    cases hn : isName hd with
    | true =>
      cases hd <;> first | (cases hn; done) | skip
      rw [subs_name, hs _ (by rw [fv_name]; exact List.mem_singleton.mpr rfl)]
      rfl
    | false =>
      rw [subs_nd hn, subss_zip]
      rw [fv_nd hn] at hs
      have e : (ps.zip (bnd hd)).map (fun p => subs (σ.but p.2) p.1) = (ps.zip (bnd hd)).map (fun p => p.1) := by
        apply List.map_congr_left
        rintro ⟨p, bs⟩ hz
        have hpm := (List.of_mem_zip hz).1
        apply ih p hpm (ok.part p hpm)
        intro y hy
        unfold Sb.but
        split
        · rfl
        · rename_i hb
          exact hs y (fvs_mem hz hy hb)
      rw [e, map_zip_id (by rw [bnd_len, ok.len])]
theorem zip_map_left {α β : Type} {f : Tm → List Str → Tm} : ∀ (ps : List Tm) (bss : List (List Str)), (((ps.zip bss).map fun p => f p.1 p.2).zip bss) = (ps.zip bss).map fun p => (f p.1 p.2, p.2)
  | [], bss => by simp
  | p :: ps, [] => by simp
  | p :: ps, b :: bss => by
    simp only [List.zip_cons_cons, List.map_cons]
    rw [zip_map_left (α := α) (β := β) ps bss]
theorem subss_comp {σ τ : Sb} {bss : List (List Str)} {ps : List Tm} : subss τ bss (subss σ bss ps) = (ps.zip bss).map fun p => subs (τ.but p.2) (subs (σ.but p.2) p.1) := by
  rw [subss_zip, subss_zip (σ := σ), zip_map_left (α := Unit) (β := Unit) (f := fun a b => subs (σ.but b) a), List.map_map]
  rfl
theorem subs_comp {N F : List Str} : ∀ {t : Tm}, Ok N F t → ∀ {σ τ : Sb}, (∀ y w, σ y = some w → Ok N F w ∧ ∀ z ∈ fv w, τ z = none) → subs τ (subs σ t) = subs (fun y => (σ y).or (τ y)) t := by
  intro t
  induction t using Tm.ind with
  | h hd ps ih =>
    intro ok σ τ hs
    cases hn : isName hd with
    | true =>
      cases hd <;> first | (cases hn; done) | skip
      rw [subs_name, subs_name]
      cases e : σ ‹Str› with
      | none =>
        show subs τ (.nd (.name _) ps) = _
        rw [subs_name]
        rfl
      | some w =>
        obtain ⟨h1, h2⟩ := hs _ w e
        show subs τ w = w
        exact subs_free h1 h2
    | false =>
      rw [subs_nd hn, subs_nd hn, subs_nd hn, subss_comp, subss_zip]
      congr 1
      apply List.map_congr_left
      rintro ⟨p, bs⟩ hz
      have hpm := (List.of_mem_zip hz).1
      show subs (τ.but bs) (subs (σ.but bs) p) = subs (Sb.but (fun y => (σ y).or (τ y)) bs) p
      rw [ih p hpm (ok.part p hpm) (σ := σ.but bs) (τ := τ.but bs) (by
        intro y w e
        unfold Sb.but at e
        split at e
        · cases e
        · obtain ⟨h1, h2⟩ := hs y w e
          refine ⟨h1, fun z hz => ?_⟩
          unfold Sb.but
          split
          · rfl
          · exact h2 z hz)]
      congr 1
      funext y
      unfold Sb.but
      split <;> rfl
/-- a name that stands nowhere in a term, put behind -/
theorem subs_after {a : Str} {v : Tm} : ∀ {t : Tm}, a ∉ nmi t → ∀ {σ : Sb}, subs (Sb.one a v) (subs σ t) = subs (fun y => (σ y).map (subs (Sb.one a v))) t := by
  intro t
  induction t using Tm.ind with
  | h hd ps ih =>
    intro ha σ
    cases hn : isName hd with
    | true =>
      cases hd <;> first | (cases hn; done) | skip
      rename_i x
      rw [nmi_name] at ha
      rw [subs_name, subs_name]
      cases e : σ x with
      | none =>
        show subs _ (.nd (.name x) ps) = _
        rw [subs_name]
        unfold Sb.one
        rw [if_neg (fun e : x = a => ha (by rw [e]; exact List.mem_singleton.mpr rfl))]
        rfl
      | some w => rfl
    | false =>
      rw [nmi_nd hn] at ha
      rw [subs_nd hn, subs_nd hn, subs_nd hn, subss_comp, subss_zip]
      congr 1
      apply List.map_congr_left
      rintro ⟨p, bs⟩ hz
      have hpm := (List.of_mem_zip hz).1
      show subs ((Sb.one a v).but bs) (subs (σ.but bs) p) = subs (Sb.but (fun y => (σ y).map (subs (Sb.one a v))) bs) p
      rw [but_one (fun h => ha (nmis_mem hz (.inl h))), ih p hpm (fun h => ha (nmis_mem hz (.inr h)))]
      congr 1
      funext y
      unfold Sb.but
      split <;> rfl
/-- the terms that come of putting good terms are good -/
theorem Ok.mono {N F G : List Str} (hs : ∀ x ∈ F, x ∈ G) : ∀ {t : Tm}, Ok N F t → Ok N G t := by
  intro t
  induction t using Tm.ind with
  | h hd ps ih =>
    intro ok
    refine .mk ok.len ?_ fun p hp => ih p hp (ok.part p hp)
    have := ok.hd
    cases hd with
    | name x =>
      rcases List.mem_append.mp (show x ∈ N ++ F from this) with h | h
      · exact List.mem_append.mpr (.inl h)
      · exact List.mem_append.mpr (.inr (hs x h))
    | _ => exact this
theorem Ok.subs {N F : List Str} : ∀ {t : Tm}, Ok N F t → ∀ {σ : Sb}, (∀ y w, σ y = some w → Ok N F w) → Ok N F (subs σ t) := by
  intro t
  induction t using Tm.ind with
  | h hd ps ih =>
    intro ok σ hs
    cases hn : isName hd with
    | true =>
      cases hd <;> first | (cases hn; done) | skip
      rw [subs_name]
      cases e : σ ‹Str› with
      | none => exact ok
      | some w => exact hs _ w e
    | false =>
      rw [subs_nd hn, subss_zip]
      refine .mk ?_ ok.hd ?_
      · rw [List.length_map, zip_len (by rw [bnd_len, ok.len]), ok.len]
      · intro q hq
        obtain ⟨⟨p, bs⟩, hz, rfl⟩ := List.mem_map.mp hq
        have hpm := (List.of_mem_zip hz).1
        exact ih p hpm (ok.part p hpm) (fun y w e => by
          unfold Sb.but at e
          split at e
          · cases e
          · exact hs y w e)
theorem hts_le {n : Nat} : ∀ {ps : List Tm}, (∀ p ∈ ps, ht p ≤ n) → hts ps ≤ n
  | [], _ => by unfold hts; exact Nat.zero_le _
  | p :: ps, h => by
    have h1 := h p List.mem_cons_self
    have h2 := hts_le fun q hq => h q (List.mem_cons_of_mem _ hq)
    unfold hts
    omega
theorem ht_subs {H : Nat} : ∀ {t : Tm} {σ : Sb}, (∀ y w, σ y = some w → ht w ≤ H + 1) → ht (TL.subs σ t) ≤ ht t + H := by
  intro t
  induction t using Tm.ind with
  | h hd ps ih =>
    intro σ hs
    cases hn : isName hd with
    | true =>
      cases hd <;> first | (cases hn; done) | skip
      rw [subs_name]
      cases e : σ ‹Str› with
      | none => exact Nat.le_add_right _ _
      | some w =>
        have := hs _ w e
        show ht w ≤ _
        rw [ht_eq]
        omega
    | false =>
      rw [subs_nd hn, subss_zip, ht_eq, ht_eq]
      have : hts ((ps.zip (bnd hd)).map fun p => TL.subs (σ.but p.2) p.1) ≤ hts ps + H := by
        apply hts_le
        intro q hq
        obtain ⟨⟨p, bs⟩, hz, rfl⟩ := List.mem_map.mp hq
        have hpm := (List.of_mem_zip hz).1
        have h1 := ih p hpm (σ := σ.but bs) (fun y w e => by
          unfold Sb.but at e
          split at e
          · cases e
          · exact hs y w e)
        have h2 := ht_part hpm
        show ht (TL.subs (σ.but bs) p) ≤ _
        omega
      omega
/-- free names behind putting -/
theorem fv_subs {y : Str} : ∀ {t : Tm} {σ : Sb}, y ∈ fv (TL.subs σ t) → (y ∈ fv t ∧ σ y = none) ∨ ∃ x w, x ∈ fv t ∧ σ x = some w ∧ y ∈ fv w := by
  intro t
  induction t using Tm.ind with
  | h hd ps ih =>
    intro σ h
    cases hn : isName hd with
    | true =>
      cases hd <;> first | (cases hn; done) | skip
      rename_i x
      rw [subs_name] at h
      rw [fv_name]
      cases e : σ x with
      | none =>
        rw [e] at h
        have h : y ∈ fv (.nd (.name x) ps) := h
        rw [fv_name] at h
        exact .inl ⟨h, by rw [List.mem_singleton.mp h]; exact e⟩
      | some w =>
        rw [e] at h
        exact .inr ⟨x, w, List.mem_singleton.mpr rfl, e, h⟩
    | false =>
      rw [subs_nd hn, fv_nd hn, subss_zip] at h
      rw [fv_nd hn]
      obtain ⟨q, bs, hz, hy, hb⟩ := fvs_inv h
      rw [zip_map_left (α := Unit) (β := Unit) (f := fun a b => TL.subs (σ.but b) a)] at hz
      obtain ⟨⟨p, cs⟩, hz2, e⟩ := List.mem_map.mp hz
      cases e
      have hpm := (List.of_mem_zip hz2).1
      rcases ih p hpm hy with ⟨h1, h2⟩ | ⟨x, w, h1, h2, h3⟩
      · left
        refine ⟨fvs_mem hz2 h1 hb, ?_⟩
        unfold Sb.but at h2
        rw [if_neg hb] at h2
        exact h2
      · right
        unfold Sb.but at h2
        split at h2
        · cases h2
        · rename_i hx
          exact ⟨x, w, fvs_mem hz2 h1 hx, h2, h3⟩
/-- tables -/
def lk (l : List (Str × Tm)) : Sb := fun y => (l.find? fun p => decide (p.1 = y)).map (·.2)
theorem lk_nil {y : Str} : lk [] y = none := rfl
theorem lk_cons {x y : Str} {v : Tm} {l : List (Str × Tm)} : lk ((x, v) :: l) y = if x = y then some v else lk l y := by
  unfold lk
  rw [List.find?_cons]
  by_cases h : x = y <;> simp [h]
theorem lk_app {y : Str} {m : List (Str × Tm)} : ∀ {l : List (Str × Tm)}, lk (l ++ m) y = (lk l y).or (lk m y)
  | [] => by rw [lk_nil]; rfl
  | (x, v) :: l => by
    rw [List.cons_append, lk_cons, lk_cons, lk_app]
    split <;> rfl
theorem lk_map {y : Str} {f : Tm → Tm} : ∀ {l : List (Str × Tm)}, lk (l.map fun p => (p.1, f p.2)) y = (lk l y).map f
  | [] => rfl
  | (x, v) :: l => by
    rw [List.map_cons, lk_cons, lk_cons, lk_map]
    split <;> rfl
theorem lk_one {x : Str} {v : Tm} : lk [(x, v)] = Sb.one x v := by
  funext y
  rw [lk_cons, lk_nil]
  unfold Sb.one
  by_cases h : x = y
  · rw [if_pos h, if_pos h.symm]
  · rw [if_neg h, if_neg (fun e => h e.symm)]
theorem lk_mem {y : Str} {w : Tm} : ∀ {l : List (Str × Tm)}, lk l y = some w → (y, w) ∈ l
  | [], h => by cases h
  | (x, v) :: l, h => by
    rw [lk_cons] at h
    split at h
    · rename_i e
      cases h
      rw [e]
      exact List.mem_cons_self
    · exact List.mem_cons_of_mem _ (lk_mem h)
theorem lk_none {y : Str} : ∀ {l : List (Str × Tm)}, (∀ p ∈ l, p.1 ≠ y) → lk l y = none
  | [], _ => rfl
  | (x, v) :: l, h => by
    rw [lk_cons, if_neg (h (x, v) List.mem_cons_self), lk_none fun p hp => h p (List.mem_cons_of_mem _ hp)]
end TL
end

section
set_option Elab.async false
set_option linter.all false
set_option maxRecDepth 100000
/-! put_all: all at once. -/
namespace TL
open PySem
/-- the names aside -/
def sixZ : Str := ⟨#[122, 122, 122, 122, 122, 122]⟩
def letters : List Str := k_abcdefghijklmnopqrstuvwxyz.cps.toList.map fun c => ⟨#[c]⟩
def asideL : List Str := letters.flatMap fun a => letters.map fun b => sixZ ++ a ++ b
def codeOf (x : Str) : Nat := ((x.cps.toList.getD 6 0) - 97) * 26 + ((x.cps.toList.getD 7 0) - 97)
theorem aside_code : asideL.map codeOf = List.range 676 := by decide +kernel
theorem nodup_of_map {α β : Type} {f : α → β} {l : List α} (h : (l.map f).Nodup) : l.Nodup := by
  rw [List.nodup_iff_pairwise_ne] at *
  rw [List.pairwise_map] at h
  exact h.imp fun h e => h (by rw [e])
theorem aside_nodup : asideL.Nodup := nodup_of_map (f := codeOf) (by rw [aside_code]; exact List.nodup_range)
theorem aside_ok : ∀ x ∈ asideL, strOk x = true := by decide +kernel
theorem aside_len : asideL.length = 676 := by decide +kernel
def asides (known : List Str) (n : Nat) : List Str := (asideL.filter fun x => decide (x ∉ known)).take n
theorem filter_len {l known m : List Str} (h : l.Nodup) (hk : ∀ x ∈ known, x ∈ m) : l.length ≤ (l.filter fun x => decide (x ∉ known)).length + m.length := by
  have h1 : (l.filter fun x => decide (x ∈ known)).length ≤ m.length := nodup_le (h.filter _) (fun x hx => hk x (by simpa using (List.mem_filter.mp hx).2))
  have h2 := List.length_eq_countP_add_countP (fun x => decide (x ∉ known)) (l := l)
  rw [List.countP_eq_length_filter, List.countP_eq_length_filter] at h2
  have h3 : (l.filter fun x => decide ¬(decide (x ∉ known)) = true) = l.filter fun x => decide (x ∈ known) := by
    congr 1
    funext x
    simp
  rw [h3] at h2
  omega
theorem asides_len {known m : List Str} {n : Nat} (hk : ∀ x ∈ known, x ∈ m) (hm : m.length + n ≤ 676) : (asides known n).length = n := by
  have := filter_len aside_nodup hk
  rw [aside_len] at this
  unfold asides
  rw [List.length_take]
  omega
theorem asides_mem {known : List Str} {n : Nat} {x : Str} (h : x ∈ asides known n) : x ∈ asideL ∧ x ∉ known := by
  have := List.mem_filter.mp (List.mem_of_mem_take h)
  exact ⟨this.1, by simpa using this.2⟩
theorem asides_nodup {known : List Str} {n : Nat} : (asides known n).Nodup := (aside_nodup.filter _).take
theorem listM_filter {f : T → M (Option T)} {p : Str → Bool} : ∀ {xs : List Str}, (∀ x ∈ xs, f (.str x) = M.ret (if p x then some (.str x) else none)) → listM f (xs.map .str) = M.ret ((xs.filter p).map T.str)
  | [], _ => rfl
  | x :: xs, h => by
    rw [List.map_cons]
    unfold listM
    rw [h x List.mem_cons_self, ret_bind, listM_filter fun y hy => h y (List.mem_cons_of_mem _ hy), ret_bind, List.filter_cons]
    cases p x <;> rfl
theorem nin_lst {xs : List Str} {x : Str} : cmpD .nin (.str x) (.lst (xs.map .str)) = some (decide (x ∉ xs)) := by
  rw [cmp_ninL, flat_strs, any_str]
  simp
theorem it_abc : iterD (.str k_abcdefghijklmnopqrstuvwxyz) = some (letters.map T.str) := by
  have e : szOk k_abcdefghijklmnopqrstuvwxyz.length = true := by decide +kernel
  show (if szOk k_abcdefghijklmnopqrstuvwxyz.length then some _ else none) = _
  rw [if_pos e]
  unfold letters
  rw [List.map_map]
  rfl
theorem six_sz : ∀ a ∈ letters, ∀ b ∈ letters, szOk ((k_zzzzzz ++ a).length + b.length) = true := by decide +kernel
theorem six_sz1 : ∀ a ∈ letters, szOk (k_zzzzzz.length + a.length) = true := by decide +kernel
theorem letters_len : letters.length = 26 := by decide +kernel
theorem names_aside (k : Nat) {known : List Str} {n : Nat} : den cfg tb (k + 1) i_names_aside [.lst (known.map .str), .int n] = M.ret (.own (.lst ((asides known n).map .str))) := by
  rw [den_fn (f := i_names_aside) rfl rfl]
  simp [it_abc]
  refine loopR_bind (fun (rest : List Str) ρ => ∃ l s3 s4 s5, ρ = [.fro (.lst (known.map .str)), .fro (.int n), .own (.lst (l.map .str)), s3, s4, s5] ∧ l ++ rest.flatMap (fun a => letters.map fun b => sixZ ++ a ++ b) = asideL) ?_ ⟨[], _, _, _, rfl, rfl⟩ ?_
  · rintro a rest ρ ha ⟨l, s3, s4, s5, rfl, hl⟩
    simp
    rw [listM_map (g := fun b => T.str (sixZ ++ a ++ b)) (by
      intro b hb
      simp [six_sz1 a ha, six_sz a ha b hb]
      rfl)]
    have hlen : l.length + 26 ≤ 676 := by
      have := congrArg List.length hl
      rw [aside_len, List.flatMap_cons, List.length_append, List.length_append, List.length_map, letters_len] at this
      omega
    simp [extM, letters_len, sz_of (n := l.length + 26) (by omega)]
    refine ⟨_, rfl, l ++ letters.map (fun b => sixZ ++ a ++ b), ⟨_, _, _, by simp; exact ⟨rfl, rfl, rfl⟩⟩, ?_⟩
    rw [← hl]
    simp
  · rintro ρ' ⟨l, s3, s4, s5, rfl, hl⟩
    simp at hl
    subst hl
    simp [nin_lst, -cmp_ninL]
    rw [listM_filter (p := fun x => decide (x ∉ known)) (by
      intro x hx
      by_cases h : x ∈ known <;> simp [nin_lst, -cmp_ninL, h])]
    simp only [val_o, ret_bind, slc_l, of_some, cut_hi, r_slcH, r_varF]
    simp [cut_hi, asides, List.map_take]
end TL
end

section
set_option Elab.async false
set_option linter.all false
set_option maxRecDepth 100000
namespace TL
open PySem
theorem fvs_nmis {y : Str} {ps : List Tm} {bss : List (List Str)} (hp : ∀ p ∈ ps, y ∈ fv p → y ∈ nmi p) (h : y ∈ fvs bss ps) : y ∈ nmis bss ps := by
  obtain ⟨p, bs, hz, hy, _⟩ := fvs_inv h
  exact nmis_mem hz (.inr (hp p (List.of_mem_zip hz).1 hy))
theorem fv_nmi {y : Str} : ∀ {t : Tm}, y ∈ fv t → y ∈ nmi t := by
  intro t
  induction t using Tm.ind with
  | h hd ps ih =>
    intro h
    cases hn : isName hd with
    | true =>
      cases hd <;> first | (cases hn; done) | skip
      rw [fv_name] at h
      rw [nmi_name]
      exact h
    | false =>
      rw [fv_nd hn] at h
      rw [nmi_nd hn]
      exact fvs_nmis ih h
section
variable {N F : List Str}
theorem nmi_names {y : Str} : ∀ {t : Tm}, Ok N F t → y ∈ nmi t → y ∈ N ++ F := by
  intro t
  induction t using Tm.ind with
  | h hd ps ih =>
    intro ok h
    cases hn : isName hd with
    | true =>
      cases hd <;> first | (cases hn; done) | skip
      rw [nmi_name] at h
      rw [List.mem_singleton.mp h]
      exact ok.hd
    | false =>
      rw [nmi_nd hn, nmis_flat] at h
      obtain ⟨⟨p, bs⟩, hz, h⟩ := List.mem_flatMap.mp h
      rcases List.mem_append.mp h with h | h
      · exact List.mem_append.mpr (.inl ((ok.hd.bnd bs (List.of_mem_zip hz).2).2 y h))
      · exact ih p (List.of_mem_zip hz).1 (ok.part p (List.of_mem_zip hz).1) h
theorem zip_bnd {ps : List Tm} {bss : List (List Str)} {bs : List Str} (hl : ps.length = bss.length) (h : bs ∈ bss) : ∃ p, (p, bs) ∈ ps.zip bss := by
  obtain ⟨i, hi, rfl⟩ := List.getElem_of_mem h
  refine ⟨ps[i]'(by omega), ?_⟩
  have hi2 : i < (ps.zip bss).length := by rw [List.length_zip]; omega
  have : (ps.zip bss)[i] = (ps[i]'(by omega), bss[i]) := by simp
  rw [← this]
  exact List.getElem_mem hi2
theorem hok.restrict {hd : Hh} {K : List Str} (e : hok N F hd) (hx : ∀ x, hd = .name x → x ∈ K) (hb : ∀ bs ∈ TL.bnd hd, ∀ x ∈ bs, x ∈ K) : hok (N.filter fun x => decide (x ∈ K)) F hd := by
  have key : ∀ x, x ∈ N → x ∈ K → x ∈ N.filter fun x => decide (x ∈ K) := fun x h1 h2 => List.mem_filter.mpr ⟨h1, by simpa using h2⟩
  cases hd with
  | name x =>
    rcases List.mem_append.mp (show x ∈ N ++ F from e) with h | h
    · exact List.mem_append.mpr (.inl (key x h (hx x rfl)))
    · exact List.mem_append.mpr (.inr h)
  | fn x => exact key x e (hb [x] (List.mem_singleton.mpr rfl) x (List.mem_singleton.mpr rfl))
  | lt x => exact key x e (hb [x] (by simp [TL.bnd]) x (List.mem_singleton.mpr rfl))
  | grp xs => exact ⟨e.1, e.2.1, fun x h => key x (e.2.2 x h) (hb xs (by simp [TL.bnd]) x h)⟩
  | mat bs => exact ⟨e.1, fun b h => ⟨(e.2 b h).1, (e.2 b h).2.1, (e.2 b h).2.2.1, fun x hx => key x ((e.2 b h).2.2.2 x hx) (hb b.2 (List.mem_cons_of_mem _ (List.mem_map.mpr ⟨b, h, rfl⟩)) x hx)⟩⟩
  | _ => exact e
theorem Ok.restrict {K : List Str} : ∀ {t : Tm}, Ok N F t → (∀ y ∈ nmi t, y ∈ K) → Ok (N.filter fun x => decide (x ∈ K)) F t := by
  intro t
  induction t using Tm.ind with
  | h hd ps ih =>
    intro ok hK
    cases hn : isName hd with
    | true =>
      cases hd <;> first | (cases hn; done) | skip
      rw [nmi_name] at hK
      obtain rfl := lq0 ok.len
      exact .mk rfl (hok.restrict ok.hd (fun x e => by cases e; exact hK _ (List.mem_singleton.mpr rfl)) (fun bs hb => by cases hb)) (fun p hp => by cases hp)
    | false =>
      rw [nmi_nd hn] at hK
      refine .mk ok.len (hok.restrict ok.hd (fun x e => by rw [e] at hn; cases hn) ?_) ?_
      · intro bs hb x hx
        obtain ⟨p, hz⟩ := zip_bnd (by rw [bnd_len, ok.len]) hb
        exact hK x (nmis_mem hz (.inl hx))
      · intro p hp
        apply ih p hp (ok.part p hp)
        intro y hy
        obtain ⟨i, hi, rfl⟩ := List.getElem_of_mem hp
        have hl : ps.length = (bnd hd).length := by rw [bnd_len, ok.len]
        have hi2 : i < (ps.zip (bnd hd)).length := by rw [List.length_zip]; omega
        have : (ps.zip (bnd hd))[i] = (ps[i], (bnd hd)[i]'(by omega)) := by simp
        have hz : (ps[i], (bnd hd)[i]'(by omega)) ∈ ps.zip (bnd hd) := by rw [← this]; exact List.getElem_mem hi2
        exact hK y (nmis_mem hz (.inr hy))
end
def prT (p : Str × Tm) : T := .tup [.str p.1, enc p.2]
theorem sz_lim {n : Nat} (h : n ≤ 16000000) : szOk n = true := Nat.ble_eq_true_of_le (Nat.le_trans h (by decide +kernel))
theorem flat_len {α β : Type} {n : Nat} {f : α → List β} : ∀ {l : List α}, (∀ a ∈ l, (f a).length ≤ n) → (l.flatMap f).length ≤ l.length * n
  | [], _ => by simp
  | a :: l, h => by
    have h1 := h a List.mem_cons_self
    have h2 := flat_len fun b hb => h b (List.mem_cons_of_mem _ hb)
    rw [List.flatMap_cons, List.length_append, List.length_cons, Nat.add_mul]
    omega
def nameT (x : Str) : Tm := .nd (.name x) []
theorem enc_nameT {x : Str} : enc (nameT x) = .tup [.str k_name, .str x] := enc_name
section
variable {N F : List Str}
/-- the plain steps -/
theorem stage1 {G : List Str} {t : Tm} (ok : Ok N G t) {L : List (Str × Tm)} {x : Str} {v : Tm} (hL : ∀ p ∈ L, Ok N G p.2 ∧ x ∉ fv p.2) : subs (Sb.one x v) (subs (lk L) t) = subs (lk (L ++ [(x, v)])) t := by
  rw [subs_comp ok (by
    intro y w e
    have := hL _ (lk_mem e)
    refine ⟨this.1, fun z hz => ?_⟩
    unfold Sb.one
    rw [if_neg (fun e : z = x => this.2 (e ▸ hz))])]
  congr 1
  funext y
  rw [lk_app, lk_one]
theorem stage2 {G : List Str} {t : Tm} {a x : Str} {v : Tm} (ha : a ∉ nmi t) {L M : List (Str × Tm)} (hL : ∀ p ∈ L ++ M, Ok N G p.2 ∧ a ∉ fv p.2) : subs (Sb.one a v) (subs (lk (L ++ (x, nameT a) :: M)) t) = subs (lk (L ++ (x, v) :: M)) t := by
  rw [subs_after ha]
  congr 1
  funext y
  rw [← lk_map]
  have e : ∀ p ∈ L ++ M, subs (Sb.one a v) p.2 = p.2 := fun p hp => subs_free (hL p hp).1 (fun z hz => by
    unfold Sb.one
    rw [if_neg (fun e : z = a => (hL p hp).2 (e ▸ hz))])
  congr 1
  rw [List.map_append, List.map_cons]
  have e1 : ∀ l : List (Str × Tm), (∀ p ∈ l, subs (Sb.one a v) p.2 = p.2) → l.map (fun p => (p.1, subs (Sb.one a v) p.2)) = l := fun l hl => by
    conv => rhs; rw [← List.map_id l]
    apply List.map_congr_left
    intro p hp
    rw [hl p hp]
    rfl
  rw [e1 L (fun p hp => e p (List.mem_append.mpr (.inl hp))), e1 M (fun p hp => e p (List.mem_append.mpr (.inr hp)))]
  have : subs (Sb.one a v) (nameT a) = v := by
    unfold nameT
    rw [subs_name]
    unfold Sb.one
    rw [if_pos rfl]
    rfl
  rw [this]
theorem put_all (hN : Nms N F) (hNF : (N ++ F).length ≤ 280) {H : Nat} {t : Tm} (ok : Ok N F t) (hc : cnt t ≤ 1000) {ps : List (Str × Tm)} (hlen : ps.length ≤ 16) (hnd : (ps.map (·.1)).Nodup)
    (hps : ∀ p ∈ ps, p.1 ∈ N ∧ Ok N F p.2 ∧ (∀ y ∈ fv p.2, y ∉ N) ∧ cnt p.2 ≤ 1000 ∧ ht p.2 ≤ H + 1) {k : Nat} (hk : ht t + H + 8 ≤ k) : den cfg tb k i_put_all [enc t, .lst (ps.map prT)] = M.ret (.fro (enc (subs (lk ps) t))) := by
  obtain ⟨k, rfl⟩ : ∃ j, k = j + 1 := ⟨k - 1, by omega⟩
  by_cases h1 : ps.length = 1
  · obtain ⟨⟨x, v⟩, rfl⟩ := lq1 h1
    obtain ⟨hx, hv, hf, hcv, hhv⟩ := hps _ List.mem_cons_self
    rw [den_fn (f := i_put_all) rfl rfl]
    have := put_for hN (hN.str x (List.mem_append.mpr (.inl hx))) hv hN hf ok (k := k) (by omega) (by omega)
    rw [lk_one]
    simp (decide := true) [prT, this]
  · have hm1 : ((ps.length : Int) = 1) = False := by simp; omega
    rw [den_fn (f := i_put_all) rfl rfl]
    generalize hkn : nmi t ++ ps.flatMap (fun p => p.1 :: nmi p.2) = known
    generalize hzs : ps.zip (asides known ps.length) = zs
    have hkl : known.length ≤ 16000000 := by
      have h1 := nmi_len ok
      have h2 := flat_len (n := 300001) (l := ps) (f := fun p => p.1 :: nmi p.2) (fun p hp => by
        obtain ⟨_, hv, _, hcv, _⟩ := hps p hp
        have := nmi_len hv
        rw [List.length_cons]
        omega)
      rw [← hkn, List.length_append]
      omega
    have hkN : ∀ x ∈ known, x ∈ N ++ F := by
      intro x hx
      rw [← hkn] at hx
      rcases List.mem_append.mp hx with hx | hx
      · exact nmi_names ok hx
      · obtain ⟨p, hp, hx⟩ := List.mem_flatMap.mp hx
        rcases List.mem_cons.mp hx with rfl | hx
        · exact List.mem_append.mpr (.inl (hps p hp).1)
        · exact nmi_names (hps p hp).2.1 hx
    have hkt : ∀ x ∈ nmi t, x ∈ known := fun x hx => by rw [← hkn]; exact List.mem_append.mpr (.inl hx)
    have hkp : ∀ p ∈ ps, p.1 ∈ known ∧ ∀ x ∈ nmi p.2, x ∈ known := fun p hp => by
      rw [← hkn]
      exact ⟨List.mem_append.mpr (.inr (List.mem_flatMap.mpr ⟨p, hp, List.mem_cons_self⟩)), fun x hx => List.mem_append.mpr (.inr (List.mem_flatMap.mpr ⟨p, hp, List.mem_cons_of_mem _ hx⟩))⟩
    have hal : (asides known ps.length).length = ps.length := asides_len hkN (by omega)
    have ezs : zs.map (·.1) = ps := by
      rw [← hzs, List.map_fst_zip]
      omega
    have hzm : ∀ q ∈ zs, q.1 ∈ ps ∧ q.2 ∉ known := fun q hq => by
      rw [← hzs] at hq
      exact ⟨(List.of_mem_zip (a := q.1) (b := q.2) hq).1, (asides_mem (List.of_mem_zip (a := q.1) (b := q.2) hq).2).2⟩
    have hz2 : (zs.map (·.2)).Nodup := by
      rw [← hzs, List.map_snd_zip (by omega)]
      exact asides_nodup
    have hG : Nms (N.filter fun x => decide (x ∈ known)) (F ++ asides known ps.length) := by
      constructor
      · intro x hx
        rcases List.mem_append.mp hx with hx | hx
        · exact hN.str x (List.mem_append.mpr (.inl (List.mem_filter.mp hx).1))
        · rcases List.mem_append.mp hx with hx | hx
          · exact hN.str x (List.mem_append.mpr (.inr hx))
          · exact aside_ok x (asides_mem hx).1
      · have := List.length_filter_le (fun x => decide (x ∈ known)) N
        rw [List.length_append] at hNF ⊢
        rw [List.length_append]
        omega
    have okG : ∀ {u : Tm}, Ok N F u → (∀ y ∈ nmi u, y ∈ known) → Ok (N.filter fun x => decide (x ∈ known)) (F ++ asides known ps.length) u := fun hu hy => Ok.mono (fun x hx => List.mem_append.mpr (.inl hx)) (Ok.restrict hu hy)
    have okA : ∀ q ∈ zs, Ok (N.filter fun x => decide (x ∈ known)) (F ++ asides known ps.length) (nameT q.2) := fun q hq => by
      rw [← hzs] at hq
      exact .mk rfl (List.mem_append.mpr (.inr (List.mem_append.mpr (.inr (List.of_mem_zip (a := q.1) (b := q.2) hq).2)))) (fun p hp => by cases hp)
    have hfA : ∀ {z a : Str}, z ∈ fv (nameT a) → z = a := fun hz => by
      unfold nameT at hz
      rw [fv_name] at hz
      exact List.mem_singleton.mp hz
    have hhA : ∀ a, ht (nameT a) = 1 := fun a => by unfold nameT; rw [ht_eq]; rfl
    have e0 : subs (lk []) t = t := subs_no ok (fun _ => rfl)
    simp [eqT, hm1, names_in ok (Nat.le_trans hc (by decide)) (k := k) (by omega)]
    -- the names known
    refine loopR_bind (fun (rest : List (Str × Tm)) ρ => ∃ l s3 s4, ρ = [.fro (enc t), .fro (.lst (ps.map prT)), .own (.lst (l.map .str)), s3, s4, .non, .non, .non] ∧ l ++ rest.flatMap (fun p => p.1 :: nmi p.2) = known ∧ rest.length ≤ 16) ?_ ⟨nmi t, _, _, rfl, hkn, hlen⟩ ?_
    · rintro ⟨x, v⟩ rest ρ hp ⟨l, s3, s4, rfl, hl, hr⟩
      obtain ⟨hx, hv, hf, hcv, hhv⟩ := hps _ hp
      have hv : Ok N F v := hv
      have hhv : ht v ≤ H + 1 := hhv
      have hcv : cnt v ≤ 1000 := hcv
      have h1 := nmi_len hv
      have hl2 : (l ++ x :: nmi v) ++ rest.flatMap (fun p => p.1 :: nmi p.2) = known := by rw [← hl]; simp
      have hl3 : l.length + (nmi v).length + 1 ≤ known.length := by
        have := congrArg List.length hl2
        rw [List.length_append, List.length_append, List.length_cons] at this
        omega
      simp [prT, names_in hv (Nat.le_trans hcv (by decide)) (k := k) (by show ht v + 2 ≤ k; omega), extM, sz_lim (n := 1 + (nmi v).length) (by show _ ≤ _; have : cnt v ≤ 1000 := hcv; omega), sz_lim (n := l.length + ((nmi v).length + 1)) (by omega)]
      exact ⟨_, rfl, l ++ x :: nmi v, ⟨_, _, by simp; exact ⟨rfl, rfl⟩⟩, hl2, by simp at hr; omega⟩
    · rintro ρ' ⟨l, s3, s4, rfl, hl, -⟩
      simp at hl
      rw [hl]
      have na := names_aside (k - 1) (known := known) (n := ps.length)
      rw [show k - 1 + 1 = k by omega] at na
      have ez : ((ps.map prT).zip ((asides known ps.length).map T.str)).map pairT = (ps.zip (asides known ps.length)).map fun q => T.tup [prT q.1, .str q.2] := by
        rw [List.zip_map, List.map_map]
        rfl
      simp [na, ez]
      try rw [hzs]
      refine loopR_bind (fun (rest : List ((Str × Tm) × Str)) ρ => ∃ pre s6 s7, ρ = [.fro (enc (subs (lk (pre.map fun q => (q.1.1, nameT q.2))) t)), .fro (.lst (ps.map prT)), .fro (.lst (known.map .str)), s3, s4, .fro (.lst ((asides known ps.length).map .str)), s6, s7] ∧ pre ++ rest = zs) ?_ ⟨[], _, _, by rw [List.map_nil, e0], rfl⟩ ?_
      · rintro ⟨⟨x, v⟩, a⟩ rest ρ hq ⟨pre, s6, s7, rfl, hl⟩
        have hpre : ∀ r ∈ pre, r ∈ zs := fun r hr => by rw [← hl]; exact List.mem_append.mpr (.inl hr)
        have hq2 := hzm _ hq
        have hxk : x ∈ known := (hkp _ hq2.1).1
        have hok1 : Ok (N.filter fun x => decide (x ∈ known)) (F ++ asides known ps.length) (subs (lk (pre.map fun q => (q.1.1, nameT q.2))) t) := Ok.subs (okG ok hkt) (fun y w e => by
          obtain ⟨r, hr, e⟩ := List.mem_map.mp (lk_mem e)
          cases e
          exact okA r (hpre r hr))
        have hh1 := ht_subs (H := 0) (t := t) (σ := lk (pre.map fun q => (q.1.1, nameT q.2))) (fun y w e => by
          obtain ⟨r, hr, e⟩ := List.mem_map.mp (lk_mem e)
          cases e
          rw [hhA]
          omega)
        have hpf := put_for hG (hN.str x (hkN x hxk)) (okA _ hq) hG (fun y hy hyN => hq2.2 (by rw [← hfA hy]; simpa using (List.mem_filter.mp hyN).2)) hok1 (k := k) (by omega) (by rw [hhA]; omega)
        rw [stage1 (okG ok hkt) (fun p hp => by
          obtain ⟨r, hr, rfl⟩ := List.mem_map.mp hp
          exact ⟨okA r (hpre r hr), fun hx => (hzm r (hpre r hr)).2 (by rw [← hfA hx]; exact hxk)⟩), enc_nameT] at hpf
        simp [prT, hpf]
        exact ⟨_, rfl, pre ++ [((x, v), a)], ⟨_, _, by simp; exact ⟨rfl, rfl⟩⟩, by rw [← hl]; simp⟩
      · rintro ρ' ⟨pre, s6, s7, rfl, hl⟩
        simp at hl
        rw [hl]
        simp [ez]
        try rw [hzs]
        refine loopR_bind (fun (rest : List ((Str × Tm) × Str)) ρ => ∃ pre s6 s7, ρ = [.fro (enc (subs (lk (pre.map (·.1) ++ rest.map fun q => (q.1.1, nameT q.2))) t)), .fro (.lst (ps.map prT)), .fro (.lst (known.map .str)), s3, s4, .fro (.lst ((asides known ps.length).map .str)), s6, s7] ∧ pre ++ rest = zs) ?_ ⟨[], _, _, rfl, rfl⟩ ?_
        · rintro ⟨⟨x, v⟩, a⟩ rest ρ hq ⟨pre, s6, s7, rfl, hl⟩
          have hpre : ∀ r ∈ pre, r ∈ zs := fun r hr => by rw [← hl]; exact List.mem_append.mpr (.inl hr)
          have hrest : ∀ r ∈ rest, r ∈ zs := fun r hr => by rw [← hl]; exact List.mem_append.mpr (.inr (List.mem_cons_of_mem _ hr))
          have hq2 := hzm _ hq
          obtain ⟨hxN, hvo, hvf, hvc, hvh⟩ := hps _ hq2.1
          have hpv : ∀ r ∈ pre, Ok (N.filter fun x => decide (x ∈ known)) (F ++ asides known ps.length) r.1.2 := fun r hr => okG (hps _ (hzm r (hpre r hr)).1).2.1 (hkp _ (hzm r (hpre r hr)).1).2
          have hok1 : Ok (N.filter fun x => decide (x ∈ known)) (F ++ asides known ps.length) (subs (lk (pre.map (·.1) ++ (((x, v), a) :: rest).map fun q => (q.1.1, nameT q.2))) t) := Ok.subs (okG ok hkt) (fun y w e => by
            rcases List.mem_append.mp (lk_mem e) with e | e
            · obtain ⟨r, hr, e⟩ := List.mem_map.mp e
              have e : r.1 = (y, w) := e
              have := hpv r hr
              rw [e] at this
              exact this
            · obtain ⟨r, hr, e⟩ := List.mem_map.mp e
              cases e
              exact okA r (by rw [← hl]; exact List.mem_append.mpr (.inr hr)))
          have hh1 := ht_subs (H := H) (t := t) (σ := lk (pre.map (·.1) ++ (((x, v), a) :: rest).map fun q => (q.1.1, nameT q.2))) (fun y w e => by
            rcases List.mem_append.mp (lk_mem e) with e | e
            · obtain ⟨r, hr, e⟩ := List.mem_map.mp e
              have e : r.1 = (y, w) := e
              have := (hps _ (hzm r (hpre r hr)).1).2.2.2.2
              rw [e] at this
              exact this
            · obtain ⟨r, hr, e⟩ := List.mem_map.mp e
              cases e
              rw [hhA]
              omega)
          have hpf := put_for hG (aside_ok a (asides_mem (by rw [← hzs] at hq; exact (List.of_mem_zip hq).2)).1) (okG hvo (hkp _ hq2.1).2) hG (fun y hy hyN => hvf y hy (List.mem_filter.mp hyN).1) hok1 (k := k) (by omega) (by have : ht v ≤ H + 1 := hvh; show ht v + 3 ≤ k; omega)
          have hnd2 : a ∉ rest.map (·.2) ∧ a ∉ pre.map (·.2) := by
            rw [← hl, List.map_append, List.map_cons, List.nodup_append] at hz2
            exact ⟨(List.nodup_cons.mp hz2.2.1).1, fun h => hz2.2.2 a h a List.mem_cons_self rfl⟩
          rw [List.map_cons, stage2 (fun h => hq2.2 (hkt _ h)) (fun p hp => by
            rcases List.mem_append.mp hp with hp | hp
            · obtain ⟨r, hr, rfl⟩ := List.mem_map.mp hp
              exact ⟨hpv r hr, fun hx => hq2.2 ((hkp _ (hzm r (hpre r hr)).1).2 a (fv_nmi hx))⟩
            · obtain ⟨r, hr, rfl⟩ := List.mem_map.mp hp
              exact ⟨okA r (hrest r hr), fun hx => hnd2.1 (by have e : a = r.2 := hfA hx; exact List.mem_map.mpr ⟨r, hr, e.symm⟩)⟩)] at hpf
          simp [prT, hpf]
          exact ⟨_, rfl, pre ++ [((x, v), a)], ⟨_, _, by simp; exact ⟨rfl, rfl⟩⟩, by rw [← hl]; simp⟩
        · rintro ρ' ⟨pre, s6, s7, rfl, hl⟩
          simp at hl
          rw [hl]
          simp [ezs]
end
end TL
end

section
set_option Elab.async false
set_option linter.all false
set_option maxRecDepth 100000
/-! Marks called, what is done. -/
namespace TL
open PySem
def spine : Tm → List Tm → Tm × List Tm
  | .nd .call [a, b], acc => spine a (b :: acc)
  | t, acc => (t, acc)
def mkA (t : Tm) : Option (Str × List Tm) := match spine t [] with
  | (.nd (.mark m) _, acc) => some (m, acc)
  | _ => none
theorem spine_call {a b : Tm} {acc : List Tm} : spine (.nd .call [a, b]) acc = spine a (b :: acc) := by
  rw [spine]
def isCall : Hh → Bool
  | .call => true
  | _ => false
theorem spine_other {h : Hh} {ps acc : List Tm} (e : isCall h = false) : spine (.nd h ps) acc = (.nd h ps, acc) := by
  cases h <;> first | (cases e; done) | (unfold spine; rfl)
def encM : Option (Str × List Tm) → T
  | some (m, l) => .tup [.str m, .lst (l.map enc)]
  | none => .non
theorem loopW_go {c : Env → M R} {b : Env → M Fl} {n : Nat} {ρ ρ' : Env} {r : M Fl} (h1 : c ρ = M.ret (.fro (.bl true))) (h2 : b ρ = M.ret (.nx ρ')) (h3 : loopW c b n ρ' = r) : loopW c b (n + 1) ρ = r := by
  unfold loopW
  rw [h1, ret_bind]
  show M.bind (b ρ) _ = _
  rw [h2, ret_bind]
  exact h3
theorem loopW_no {c : Env → M R} {b : Env → M Fl} {n : Nat} {ρ : Env} (h1 : c ρ = M.ret (.fro (.bl false))) : loopW c b (n + 1) ρ = M.ret (.nx ρ) := by
  unfold loopW
  rw [h1, ret_bind]
  rfl
theorem call_ne {h : Hh} (e : isCall h = false) : wordOf h ≠ k_call := by cases h <;> first | (cases e; done) | (simp only [wordOf]; decide +kernel)
section
variable {N F : List Str}
theorem marks_loop {C : Calls} : ∀ {t : Tm}, Ok N F t → ∀ {acc : List Tm} {n : Nat}, ht t + 1 ≤ n → acc.length + ht t ≤ 1000 → loopW (denE cfg C false (.cmp .eq (.idx (.var 0) (.int 0)) (.str k_call))) (denSs cfg C (.cons (.ins 1 (.int 0) (.idx (.var 0) (.int 2))) (.cons (.asg 0 (.idx (.var 0) (.int 1))) .nil))) n [.fro (enc t), .own (.lst (acc.map enc))] = M.ret (.nx [.fro (enc (spine t acc).1), .own (.lst ((spine t acc).2.map enc))]) := by
  intro t
  induction t using Tm.ind with
  | h hd ps ih =>
    intro ok acc n hn hl
    rw [ht_eq] at hn hl
    obtain ⟨n, rfl⟩ : ∃ j, n = j + 1 := ⟨n - 1, by omega⟩
    cases hc : isCall hd with
    | false =>
      rw [spine_other hc]
      obtain ⟨r, er⟩ := word_at ok.len
      rw [er]
      apply loopW_no
      simp [word_ok, call_ne hc]
    | true =>
      cases hd <;> first | (cases hc; done) | skip
      obtain ⟨a, b, rfl⟩ := lq2 ok.len
      have h1 := ht_part (p := a) (ps := [a, b]) List.mem_cons_self
      rw [enc_call, spine_call]
      refine loopW_go (ρ' := [.fro (enc a), .own (.lst ((b :: acc).map enc))]) (by simp (decide := true)) ?_ (ih a List.mem_cons_self (ok.part a List.mem_cons_self) (by omega) (by simp; omega))
      have h2 : acc.length < lim := Nat.lt_of_le_of_lt (by omega) (show 1000 < lim by decide +kernel)
      simp [insM, h2]
theorem spine_inv {P : Tm → Prop} (hP : ∀ a b, P (.nd .call [a, b]) → P a ∧ P b) : ∀ {t : Tm}, Ok N F t → P t → ∀ {acc : List Tm}, (∀ q ∈ acc, P q) → ∃ h ps, (spine t acc).1 = .nd h ps ∧ isCall h = false ∧ Ok N F (.nd h ps) ∧ P (.nd h ps) ∧ ∀ q ∈ (spine t acc).2, P q := by
  intro t
  induction t using Tm.ind with
  | h hd ps ih =>
    intro ok hp acc ha
    cases hc : isCall hd with
    | false =>
      rw [spine_other hc]
      exact ⟨hd, ps, rfl, hc, ok, hp, ha⟩
    | true =>
      cases hd <;> first | (cases hc; done) | skip
      obtain ⟨a, b, rfl⟩ := lq2 ok.len
      have h1 := hP a b hp
      rw [spine_call]
      refine ih a List.mem_cons_self (ok.part a List.mem_cons_self) h1.1 ?_
      intro q hq
      rcases List.mem_cons.mp hq with rfl | hq
      · exact h1.2
      · exact ha q hq
theorem mkA_none {t : Tm} {h : Hh} {ps : List Tm} (e : (spine t []).1 = .nd h ps) (n : ∀ m, h ≠ .mark m) : mkA t = none := by
  unfold mkA
  revert e
  cases spine t [] with
  | mk u l =>
    rintro ⟨⟩
    cases h <;> first | rfl | exact absurd rfl (n _)
theorem mkA_some {t : Tm} {m : Str} {ps : List Tm} (e : (spine t []).1 = .nd (.mark m) ps) : mkA t = some (m, (spine t []).2) := by
  unfold mkA
  revert e
  cases spine t [] with
  | mk u l =>
    rintro ⟨⟩
    rfl
theorem mark_of (hN : Nms N F) {t : Tm} (ok : Ok N F t) (h : ht t ≤ 900) (k : Nat) : den cfg tb (k + 1) i_mark_of [enc t] = M.ret (.fro (encM (mkA t))) := by
  rw [den_fn (f := i_mark_of) rfl rfl]
  have hm := marks_loop (C := den cfg tb k) ok (acc := []) (n := 1000) (by omega) (by simp; omega)
  simp at hm
  obtain ⟨hd, ps, e, hc, ok', -, -⟩ := spine_inv (P := fun _ => True) (fun _ _ _ => ⟨trivial, trivial⟩) ok trivial (acc := []) (by intro q hq; cases hq)
  rw [e] at hm
  obtain ⟨r, er⟩ := word_at ok'.len
  by_cases hw : wordOf hd = k_mark
  · obtain ⟨m, rfl⟩ : ∃ m, hd = .mark m := by
      cases hd <;> first | exact ⟨_, rfl⟩ | (exfalso; simp only [wordOf] at hw; revert hw; decide +kernel)
    rw [mkA_some e]
    rw [enc_mark] at hm
    simp (decide := true) [hm, encM]
  · rw [mkA_none e (fun m e => hw (by rw [e]; rfl))]
    rw [er] at hm
    simp [hm, word_ok, hw, encM]
theorem law_marks (hN : Nms N F) {t : Tm} (ok : Ok N F t) (h : ht t ≤ 900) (k : Nat) : den cfg tb (k + 1) i__law_marks [enc t] = M.ret (.fro (encM (mkA t))) := by
  rw [den_fn (f := i__law_marks) rfl rfl]
  have hm := marks_loop (C := den cfg tb k) ok (acc := []) (n := 1000) (by omega) (by simp; omega)
  simp at hm
  obtain ⟨hd, ps, e, hc, ok', -, -⟩ := spine_inv (P := fun _ => True) (fun _ _ _ => ⟨trivial, trivial⟩) ok trivial (acc := []) (by intro q hq; cases hq)
  rw [e] at hm
  obtain ⟨r, er⟩ := word_at ok'.len
  by_cases hw : wordOf hd = k_mark
  · obtain ⟨m, rfl⟩ : ∃ m, hd = .mark m := by
      cases hd <;> first | exact ⟨_, rfl⟩ | (exfalso; simp only [wordOf] at hw; revert hw; decide +kernel)
    rw [mkA_some e]
    rw [enc_mark] at hm
    simp (decide := true) [hm, encM]
  · rw [mkA_none e (fun m e => hw (by rw [e]; rfl))]
    rw [er] at hm
    simp [hm, word_ok, hw, encM]
end
/-- which names are values -/
def reck : List Str := [k_add, k_sub, k_less]
def nameOf : Tm → Option Str
  | .nd (.name x) _ => some x
  | _ => none
def isNum : Tm → Bool
  | .nd (.num _) _ => true
  | _ => false
mutual
/-- run out: a value when run -/
def dn (S : List Str) : Tm → Bool
  | .nd (.num _) _ => true
  | .nd (.tru _) _ => true
  | .nd (.mark _) _ => true
  | .nd (.fn _) _ => true
  | .nd (.name x) _ => decide (x ∈ S)
  | .nd (.rcd _) ps => dns S ps
  | .nd (.grp xs) ps => match ps.getLast? with
    | some (.nd (.name x) _) => decide (x ∈ xs)
    | _ => false
  | .nd .call [a, b] => match nameOf a with
    | some x => decide (x ∈ reck) && isNum b
    | none => (mkA (.nd .call [a, b])).isSome && (dn S a && dn S b)
  | _ => false
def dns (S : List Str) : List Tm → Bool
  | [] => true
  | p :: ps => dn S p && dns S ps
end
theorem dns_all {S : List Str} : ∀ {ps : List Tm}, dns S ps = ps.all (dn S)
  | [] => by unfold dns; rfl
  | p :: ps => by unfold dns; rw [dns_all]; rfl
section
variable {S : List Str} {ps : List Tm}
theorem dn_name {x : Str} : dn S (.nd (.name x) ps) = decide (x ∈ S) := by unfold dn; rfl
theorem dn_num {i : Int} : dn S (.nd (.num i) ps) = true := by unfold dn; rfl
theorem dn_tru {i : Bool} : dn S (.nd (.tru i) ps) = true := by unfold dn; rfl
theorem dn_mark {i : Str} : dn S (.nd (.mark i) ps) = true := by unfold dn; rfl
theorem dn_fn {i : Str} : dn S (.nd (.fn i) ps) = true := by unfold dn; rfl
theorem dn_rcd {xs : List Str} : dn S (.nd (.rcd xs) ps) = ps.all (dn S) := by rw [← dns_all]; unfold dn; rfl
theorem dn_grp {xs : List Str} {b : Tm} : dn S (.nd (.grp xs) (ps ++ [b])) = match nameOf b with
    | some x => decide (x ∈ xs)
    | none => false := by
  unfold dn
  rw [show (ps ++ [b]).getLast? = some b by simp]
  obtain ⟨h, qs⟩ := b
  cases h <;> rfl
theorem dn_call {a b : Tm} : dn S (.nd .call [a, b]) = match nameOf a with
    | some x => decide (x ∈ reck) && isNum b
    | none => (mkA (.nd .call [a, b])).isSome && (dn S a && dn S b) := by
  rw [dn]
theorem dn_lt {i : Str} : dn S (.nd (.lt i) ps) = false := by unfold dn; rfl
theorem dn_ite : dn S (.nd .ite ps) = false := by unfold dn; rfl
theorem dn_get {i : Str} : dn S (.nd (.get i) ps) = false := by unfold dn; rfl
theorem dn_put {i : Str} : dn S (.nd (.put i) ps) = false := by unfold dn; rfl
theorem dn_told {i : T} : dn S (.nd (.told i) ps) = false := by unfold dn; rfl
theorem dn_mat {i : List (Str × List Str)} : dn S (.nd (.mat i) ps) = false := by unfold dn; rfl
theorem dn_fault {i : List Int} : dn S (.nd (.fault i) ps) = false := by unfold dn; rfl
end
theorem nameOf_none {h : Hh} {ps : List Tm} (e : isName h = false) : nameOf (.nd h ps) = none := by cases h <;> first | (cases e; done) | rfl
theorem name_ne {h : Hh} (e : isName h = false) : wordOf h ≠ k_name := by cases h <;> first | (cases e; done) | (simp only [wordOf]; decide +kernel)
theorem bls_map {α : Type} {f : α → Bool} : ∀ {l : List α}, blsOf (l.map fun a => T.bl (f a)) = some (l.map f)
  | [] => rfl
  | a :: l => by
    rw [List.map_cons, List.map_cons]
    unfold blsOf
    rw [bls_map]
    rfl
theorem inn_lst {xs : List Str} {x : Str} : cmpD .inn (.str x) (.lst (xs.map .str)) = some (decide (x ∈ xs)) := by
  rw [cmp_inL, flat_strs, any_str]
  simp
theorem meth_obj {G : Cfg} {C : Calls} {c : Nat} {fs : List Str} {us ts : List T} {m : Str} : methM G C m ts (.obj c fs us) = (if fs.all (fun f => decide (f ≠ m)) then (match G.meth c m with
      | some f => C f (.obj c fs us :: ts)
      | none => M.fail) else M.fail) := rfl
/-- the rules, seen from the running part -/
structure RO (ro : T) (S : List Str) (tm : Str → Option Tm) (K : Nat) : Prop where
  stays : ∀ (k : Nat) (x : Str), strOk x = true → methM cfg (den cfg tb (k + K)) k_stays [.str x] ro = M.ret (.fro (.bl (decide (x ∈ S))))
  cls : ∀ (k : Nat) (x : Str), strOk x = true → methM cfg (den cfg tb (k + K)) k_class_told [.str x] ro = M.ret (.fro .non)
  term : ∀ (k : Nat) (x : Str), strOk x = true → methM cfg (den cfg tb (k + K)) k_term_told [.str x] ro = M.ret (.fro (match tm x with
    | some t => enc t
    | none => .non))
theorem last_app {ps : List Tm} {b : Tm} : (ps ++ [b]).getLast? = some b := by simp
section
variable {N F S : List Str} {tm : Str → Option Tm} {ro : T} {K : Nat}
theorem is_group_value (hN : Nms N F) {xs : List Str} {ps : List Tm} {b : Tm} (ok : Ok N F (.nd (.grp xs) (ps ++ [b]))) (k : Nat) : den cfg tb (k + 1) i_is_group_value [enc (.nd (.grp xs) (ps ++ [b]))] = M.ret (.fro (.bl (dn S (.nd (.grp xs) (ps ++ [b]))))) := by
  have hl : ps.length = xs.length := by have := ok.len; simp [ar] at this; exact this
  have hl' : (ps.map enc).length = xs.length := by simpa using hl
  rw [den_fn (f := i_is_group_value) rfl rfl, enc_grp hl]
  rw [dn_grp]
  obtain ⟨hb, qs⟩ := b
  have okb := ok.part (.nd hb qs) (by simp)
  obtain ⟨r, er⟩ := word_at okb.len
  cases hn : isName hb with
  | true =>
    cases hb <;> first | (cases hn; done) | skip
    rw [enc_name]
    simp (decide := true) [nameOf]
    rw [listM_zw (g := fun x t => T.str x) (by intro x hx t ht; simp [pr]), zw_fst hl']
    simp [any_str, -List.any_map]
  | false =>
    have hw : wordOf hb ≠ k_name := by cases hb <;> first | (cases hn; done) | (simp only [wordOf]; decide +kernel)
    rw [er]
    rw [nameOf_none hn]
    simp (decide := true) [word_ok, hw]
theorem listM_zp {α β : Type} {f : T → M (Option β)} {mk : α → T → T} {g : α → Tm → β} {bs : List α} {ps : List Tm} (h : ∀ b ∈ bs, ∀ p ∈ ps, f (mk b (enc p)) = M.ret (some (g b p))) : listM f (List.zipWith mk bs (ps.map enc)) = M.ret (List.zipWith g bs ps) := by
  rw [List.zipWith_map_right]
  exact listM_zw (mk := fun b p => mk b (enc p)) h
theorem zw_sndm {α β γ : Type} {f : β → γ} : ∀ {xs : List α} {ts : List β}, ts.length = xs.length → List.zipWith (fun _ t => f t) xs ts = ts.map f
  | [], [], _ => rfl
  | x :: xs, t :: ts, h => by simp only [List.zipWith_cons_cons, List.map_cons]; rw [zw_sndm (by simpa using h)]
theorem grp_ne {h : Hh} (e : wordOf h = k_group) : ∃ xs, h = .grp xs := by
  cases h <;> first | exact ⟨_, rfl⟩ | (exfalso; simp only [wordOf] at e; revert e; decide +kernel)
theorem is_group_false {h : Hh} {ps : List Tm} (ok : Ok N F (.nd h ps)) (e : wordOf h ≠ k_group) (k : Nat) : den cfg tb (k + 1) i_is_group_value [enc (.nd h ps)] = M.ret (.fro (.bl false)) := by
  obtain ⟨r, er⟩ := word_at ok.len
  rw [den_fn (f := i_is_group_value) rfl rfl, er]
  simp [word_ok, e]
theorem isNum_word {h : Hh} {ps : List Tm} : isNum (.nd h ps) = decide (wordOf h = k_num) := by
  cases h <;> first | rfl | (simp only [wordOf]; decide +kernel)
theorem reck_or {x : Str} : x ∈ reck ↔ (k_add = x ∨ k_sub = x ∨ k_less = x) := by
  unfold reck
  simp [eq_comm]
theorem is_run_out (hN : Nms N F) (hr : RO ro S tm K) : ∀ {t : Tm}, Ok N F t → ht t ≤ 900 → ∀ {k : Nat}, ht t + K + 2 ≤ k → den cfg tb k i_is_run_out [ro, enc t] = M.ret (.fro (.bl (dn S t))) := by
  intro t
  induction t using Tm.ind with
  | h hd ps ih =>
    intro ok hh k hk
    rw [ht_eq] at hk
    obtain ⟨k, rfl⟩ : ∃ j, k = j + 1 := ⟨k - 1, by omega⟩
    have ih' : ∀ p ∈ ps, den cfg tb k i_is_run_out [ro, enc p] = M.ret (.fro (.bl (dn S p))) := fun p hp => ih p hp (ok.part p hp) (by have := ht_nd (h := hd) hp; omega) (by have := ht_part hp; omega)
    rw [den_fn (f := i_is_run_out) rfl rfl]
    cases hd with
    | name x =>
      obtain rfl := lq0 ok.len
      have := hr.stays (k - K) x (hN.str x ok.hd)
      rw [show k - K + K = k by omega] at this
      rw [enc_name]
      simp (decide := true) [this, dn_name]
    | num i =>
      obtain rfl := lq0 ok.len
      rw [enc_num]
      simp (decide := true) [dn_num, dn_tru, dn_mark, dn_fn]
    | tru i =>
      obtain rfl := lq0 ok.len
      rw [enc_tru]
      simp (decide := true) [dn_num, dn_tru, dn_mark, dn_fn]
    | mark i =>
      obtain rfl := lq0 ok.len
      rw [enc_mark]
      simp (decide := true) [dn_num, dn_tru, dn_mark, dn_fn]
    | fn x =>
      obtain ⟨a, rfl⟩ := lq1 ok.len
      rw [enc_fn]
      simp (decide := true) [dn_num, dn_tru, dn_mark, dn_fn]
    | rcd xs =>
      rw [enc_rcd]
      simp (decide := true)
      rw [listM_zp (g := fun x p => T.bl (dn S p)) (by intro x hx p hp; simp [pr, ih' p hp]), zw_sndm ok.len]
      simp [bls_map, dn_rcd]
    | grp xs =>
      obtain ⟨qs, b, rfl, hl⟩ := lenE ok.len
      have := is_group_value (S := S) hN ok (k - 1)
      rw [show k - 1 + 1 = k by omega, enc_grp hl] at this
      rw [enc_grp hl]
      simp (decide := true) [this]
    | call =>
      obtain ⟨a, b, rfl⟩ := lq2 ok.len
      have h1 := ih' a (by simp)
      have h2 := ih' b (by simp)
      have h3 := mark_of hN ok hh (k - 1)
      rw [show k - 1 + 1 = k by omega, enc_call] at h3
      rw [enc_call]
      obtain ⟨ha, pa⟩ := a
      obtain ⟨hb, pb⟩ := b
      have oka := ok.part (.nd ha pa) (by simp)
      have okb := ok.part (.nd hb pb) (by simp)
      obtain ⟨ra, ea⟩ := word_at oka.len
      obtain ⟨rb, eb⟩ := word_at okb.len
      cases hn : isName ha with
      | true =>
        cases ha <;> first | (cases hn; done) | skip
        rename_i x
        have hx := hN.str x oka.hd
        rw [enc_name, eb, dn_call]
        simp (decide := true) [word_ok, hx]
        have e1 : isNum (.nd hb pb) = decide (wordOf hb = k_num) := isNum_word
        have e2 : nameOf (.nd (.name x) pa) = some x := rfl
        rw [e1, e2]
        by_cases hr : x ∈ reck
        · simp [hr, reck_or.mp hr]
        · simp [hr, mt reck_or.mpr hr]
      | false =>
        have hw : wordOf ha ≠ k_name := by cases ha <;> first | (cases hn; done) | (simp only [wordOf]; decide +kernel)
        rw [ea] at h1 h3 ⊢
        rw [dn_call, nameOf_none hn]
        cases e : mkA (.nd .call [.nd ha pa, .nd hb pb]) with
        | none => simp (decide := true) [hw, word_ok, h3, e, encM, isNon]
        | some q =>
          cases e2 : dn S (.nd ha pa) <;> simp (decide := true) [hw, word_ok, h3, e, encM, isNon, h1, h2, e2]
    | _ =>
      obtain ⟨r, er⟩ := word_at ok.len
      have := is_group_false ok (by simp only [wordOf]; decide +kernel) (k - 1)
      rw [show k - 1 + 1 = k by omega, er] at this
      simp only [wordOf] at er this
      rw [er]
      simp (decide := true) [this, dn_lt, dn_ite, dn_get, dn_put, dn_told, dn_mat, dn_fault]
end
end TL
end

section
set_option Elab.async false
set_option linter.all false
set_option maxRecDepth 100000
/-! The law's own: done, parts, a part put in. -/
namespace TL
open PySem
theorem dep_tup {xs : List T} : dep (.tup xs) = deps xs + 1 := by rw [dep]
theorem dep_lst {xs : List T} : dep (.lst xs) = deps xs + 1 := by rw [dep]
theorem deps_mem {x : T} : ∀ {xs : List T}, x ∈ xs → dep x ≤ deps xs
  | y :: xs, h => by
    rw [deps]
    rcases List.mem_cons.mp h with rfl | h
    · omega
    · have := deps_mem h
      omega
theorem deps_le {n : Nat} : ∀ {xs : List T}, (∀ x ∈ xs, dep x ≤ n) → deps xs ≤ n
  | [], _ => by rw [deps]; omega
  | y :: xs, h => by
    rw [deps]
    have h1 := h y List.mem_cons_self
    have h2 := deps_le fun x hx => h x (List.mem_cons_of_mem _ hx)
    omega
theorem dats_all : ∀ {xs : List T}, dats xs = xs.all dat
  | [] => by rw [dats]; rfl
  | x :: xs => by rw [dats, dats_all]; rfl
theorem zw_mem {α : Type} {f : α → T → T} : ∀ {xs : List α} {ts : List T} {t : T}, ts.length = xs.length → t ∈ ts → ∃ x ∈ xs, f x t ∈ List.zipWith f xs ts
  | [], [], t, _, h => by cases h
  | x :: xs, u :: ts, t, hl, h => by
    rw [List.zipWith_cons_cons]
    rcases List.mem_cons.mp h with rfl | h
    · exact ⟨x, List.mem_cons_self, List.mem_cons_self⟩
    · obtain ⟨y, hy, h⟩ := zw_mem (by simpa using hl) h
      exact ⟨y, List.mem_cons_of_mem _ hy, List.mem_cons_of_mem _ h⟩
theorem mem_zw {α : Type} {f : α → T → T} : ∀ {xs : List α} {ts : List T} {u : T}, u ∈ List.zipWith f xs ts → ∃ x ∈ xs, ∃ t ∈ ts, u = f x t
  | [], _, u, h => by simp at h
  | x :: xs, [], u, h => by simp at h
  | x :: xs, t :: ts, u, h => by
    rw [List.zipWith_cons_cons] at h
    rcases List.mem_cons.mp h with rfl | h
    · exact ⟨x, List.mem_cons_self, t, List.mem_cons_self, rfl⟩
    · obtain ⟨y, hy, v, hv, e⟩ := mem_zw h
      exact ⟨y, List.mem_cons_of_mem _ hy, v, List.mem_cons_of_mem _ hv, e⟩
theorem dep_part {h : Hh} {ps : List Tm} (hl : ps.length = ar h) : ∀ p ∈ ps, dep (enc p) + 1 ≤ dep (enc (.nd h ps)) := by
  refine Tm.byH (P := fun h ps => ∀ p ∈ ps, dep (enc p) + 1 ≤ dep (enc (.nd h ps))) ?_ ?_ ?_ ?_ ?_ ?_ ?_ ?_ ?_ ?_ ?_ ?_ ?_ ?_ ?_ hl
  case refine_12 =>
    intro xs ps e p hp
    rw [enc_rcd, dep_tup]
    have e' : (ps.map enc).length = xs.length := by simpa using e
    obtain ⟨x, hx, hm⟩ := zw_mem (f := pr) e' (List.mem_map.mpr ⟨p, hp, rfl⟩)
    have h1 := deps_mem hm
    have h2 : dep (pr x (enc p)) = deps [.str x, enc p] + 1 := dep_tup
    have h3 := deps_mem (x := enc p) (xs := [.str x, enc p]) (by simp)
    have h4 := deps_mem (x := .tup (List.zipWith pr xs (ps.map enc))) (xs := [.str k_rec, .tup (List.zipWith pr xs (ps.map enc))]) (by simp)
    rw [dep_tup] at h4
    omega
  case refine_13 =>
    intro xs ps b e p hp
    rw [enc_grp e, dep_tup]
    rcases List.mem_append.mp hp with hp | hp
    · have e' : (ps.map enc).length = xs.length := by simpa using e
      obtain ⟨x, hx, hm⟩ := zw_mem (f := pr) e' (List.mem_map.mpr ⟨p, hp, rfl⟩)
      have h1 := deps_mem hm
      have h2 : dep (pr x (enc p)) = deps [.str x, enc p] + 1 := dep_tup
      have h3 := deps_mem (x := enc p) (xs := [.str x, enc p]) (by simp)
      have h4 := deps_mem (x := .tup (List.zipWith pr xs (ps.map enc))) (xs := [.str k_group, .tup (List.zipWith pr xs (ps.map enc)), enc b]) (by simp)
      rw [dep_tup] at h4
      omega
    · rw [List.mem_singleton.mp hp]
      have h4 := deps_mem (x := enc b) (xs := [.str k_group, .tup (List.zipWith pr xs (ps.map enc)), enc b]) (by simp)
      omega
  case refine_14 =>
    intro xs a ps e p hp
    rw [enc_mat, dep_tup]
    rcases List.mem_cons.mp hp with rfl | hp
    · have h4 := deps_mem (x := enc p) (xs := [.str k_match, enc p, .tup (List.zipWith br xs (ps.map enc))]) (by simp)
      omega
    · have e' : (ps.map enc).length = xs.length := by simpa using e
      obtain ⟨x, hx, hm⟩ := zw_mem (f := br) e' (List.mem_map.mpr ⟨p, hp, rfl⟩)
      have h1 := deps_mem hm
      have h2 : dep (br x (enc p)) = deps [.str x.1, nsT x.2, enc p] + 1 := dep_tup
      have h3 := deps_mem (x := enc p) (xs := [.str x.1, nsT x.2, enc p]) (by simp)
      have h4 := deps_mem (x := .tup (List.zipWith br xs (ps.map enc))) (xs := [.str k_match, enc a, .tup (List.zipWith br xs (ps.map enc))]) (by simp)
      rw [dep_tup] at h4
      omega
  all_goals intros
  all_goals simp only [enc_name, enc_num, enc_tru, enc_mark, enc_fault, enc_fn, enc_call, enc_lt, enc_ite, enc_get, enc_put, enc_told, dep_tup]
  all_goals rename_i hp
  all_goals simp only [List.mem_cons, List.not_mem_nil, or_false] at hp
  all_goals (try exact absurd hp id)
  all_goals refine Nat.succ_le_succ (deps_mem ?_)
  all_goals simp [hp]
  all_goals (rcases hp with rfl | rfl | rfl <;> simp)
section
variable {N F S : List Str}
theorem dat_enc (hN : Nms N F) : ∀ {t : Tm}, Ok N F t → dat (enc t) = true := by
  intro t
  induction t using Tm.ind with
  | h hd ps ih =>
    intro ok
    have ih' := fun p hp => ih p hp (ok.part p hp)
    have hh := ok.hd
    cases hd with
    | rcd xs =>
      rw [enc_rcd]
      simp [dat, dats_all]
      intro u hu
      obtain ⟨x, hx, t, ht, rfl⟩ := mem_zw hu
      obtain ⟨p, hp, rfl⟩ := List.mem_map.mp ht
      simp [pr, dat, dats_all, hh.2.2 x hx, ih' p hp]
    | grp xs =>
      obtain ⟨qs, b, rfl, hl⟩ := lenE ok.len
      rw [enc_grp hl]
      simp [dat, dats_all]
      refine ⟨?_, ih' b (by simp)⟩
      intro u hu
      obtain ⟨x, hx, t, ht, rfl⟩ := mem_zw hu
      obtain ⟨p, hp, rfl⟩ := List.mem_map.mp ht
      simp [pr, dat, dats_all, hN.str x (List.mem_append.mpr (.inl (hh.2.2 x hx))), ih' p (List.mem_append.mpr (.inl hp))]
    | mat bs =>
      obtain ⟨a, qs, rfl, hl⟩ := lenS ok.len
      rw [enc_mat]
      simp [dat, dats_all]
      refine ⟨ih' a (by simp), ?_⟩
      intro u hu
      obtain ⟨x, hx, t, ht, rfl⟩ := mem_zw hu
      obtain ⟨p, hp, rfl⟩ := List.mem_map.mp ht
      simp [br, nsT, dat, dats_all, (hh.2 x hx).1, ih' p (List.mem_cons_of_mem _ hp)]
      exact fun y hy => hN.str y (List.mem_append.mpr (.inl ((hh.2 x hx).2.2.2 y hy)))
    | name x =>
      rw [enc_name]
      simp [dat, dats_all, hN.str x hh]
    | num x =>
      rw [enc_num]
      simp [dat, dats_all]
    | tru x =>
      rw [enc_tru]
      simp [dat, dats_all]
    | mark x =>
      rw [enc_mark]
      have : strOk x = true := hh
      simp [dat, dats_all, this]
    | fault x =>
      rw [enc_fault]
      simp [dat, dats_all]
    | fn x =>
      obtain ⟨a, rfl⟩ := lq1 ok.len
      rw [enc_fn]
      simp [dat, dats_all, hN.str x (List.mem_append.mpr (.inl hh)), ih' a (by simp)]
    | get x =>
      obtain ⟨a, rfl⟩ := lq1 ok.len
      have : strOk x = true := hh
      rw [enc_get]
      simp [dat, dats_all, this, ih' a (by simp)]
    | told x =>
      obtain ⟨a, rfl⟩ := lq1 ok.len
      have : dat x = true := hh.1
      rw [enc_told]
      simp [dat, dats_all, this, ih' a (by simp)]
    | call =>
      obtain ⟨a, b, rfl⟩ := lq2 ok.len
      rw [enc_call]
      simp [dat, dats_all, ih' a (by simp), ih' b (by simp)]
    | lt x =>
      obtain ⟨a, b, rfl⟩ := lq2 ok.len
      rw [enc_lt]
      simp [dat, dats_all, ih' a (by simp), ih' b (by simp), hN.str x (List.mem_append.mpr (.inl hh))]
    | put x =>
      obtain ⟨a, b, rfl⟩ := lq2 ok.len
      have : strOk x = true := hh
      rw [enc_put]
      simp [dat, dats_all, ih' a (by simp), ih' b (by simp), this]
    | ite =>
      obtain ⟨a, b, c, rfl⟩ := lq3 ok.len
      rw [enc_ite]
      simp [dat, dats_all, ih' a (by simp), ih' b (by simp), ih' c (by simp)]
theorem shp_enc (hN : Nms N F) {t : Tm} (ok : Ok N F t) (h : dep (enc t) ≤ 64) : shp (enc t) = true := by
  unfold shp
  rw [dat_enc hN ok, Nat.ble_eq_true_of_le h]
  rfl
theorem ht_dep : ∀ {t : Tm}, Ok N F t → ht t ≤ dep (enc t) := by
  intro t
  induction t using Tm.ind with
  | h hd ps ih =>
    intro ok
    rw [ht_eq]
    have h0 : 1 ≤ dep (enc (.nd hd ps)) := by
      obtain ⟨r, er⟩ := word_at ok.len
      rw [er, dep_tup]
      omega
    have : hts ps ≤ dep (enc (.nd hd ps)) - 1 := hts_le fun p hp => by
      have h1 := dep_part ok.len p hp
      have h2 := ih p hp (ok.part p hp)
      omega
    omega
end
end TL
end

section
set_option Elab.async false
set_option linter.all false
set_option maxRecDepth 100000
namespace TL
open PySem
section
variable {N F S : List Str}
theorem listM_filt {f : T → M (Option T)} {α : Type} {mk : α → T → T} {g : Tm → Bool} : ∀ {bs : List α} {ps : List Tm}, ps.length = bs.length → (∀ b ∈ bs, ∀ p ∈ ps, f (mk b (enc p)) = M.ret (if g p then some (enc p) else none)) → listM f (List.zipWith mk bs (ps.map enc)) = M.ret ((ps.filter g).map enc)
  | [], [], _, _ => rfl
  | b :: bs, p :: ps, hl, h => by
    rw [List.map_cons, List.zipWith_cons_cons]
    unfold listM
    rw [h b List.mem_cons_self p List.mem_cons_self, ret_bind, listM_filt (by simpa using hl) (fun x hx y hy => h x (List.mem_cons_of_mem _ hx) y (List.mem_cons_of_mem _ hy)), ret_bind, List.filter_cons]
    cases g p <;> rfl
theorem eqT_lnil {ts : List T} : eqT (.lst ts) (.lst []) = ts.isEmpty := by
  rw [eqT]
  cases ts <;> rfl
theorem shp_lst {ts : List T} (h1 : ∀ t ∈ ts, dat t = true) (h2 : ∀ t ∈ ts, dep t ≤ 63) : shp (.lst ts) = true := by
  unfold shp
  rw [show dat (.lst ts) = true by rw [dat, dats_all]; simpa using h1, dep_lst, Nat.ble_eq_true_of_le (Nat.succ_le_succ (deps_le h2))]
  rfl
theorem shp_tup {ts : List T} (h1 : ∀ t ∈ ts, dat t = true) (h2 : ∀ t ∈ ts, dep t ≤ 63) : shp (.tup ts) = true := by
  unfold shp
  rw [show dat (.tup ts) = true by rw [dat, dats_all]; simpa using h1, dep_tup, Nat.ble_eq_true_of_le (Nat.succ_le_succ (deps_le h2))]
  rfl
/-- a dict of names -/
def dT (l : List (Str × Tm)) : T := .dct (l.map fun p => .inr p.1) (l.map fun p => enc p.2)
theorem look_dT {y : Str} : ∀ {l : List (Str × Tm)}, look (l.map fun p => .inr p.1) (l.map fun p => enc p.2) (.inr y) = (lk l y).map enc
  | [] => rfl
  | (x, v) :: l => by
    rw [List.map_cons, List.map_cons, lk_cons]
    show (if (Sum.inr x : Key) = Sum.inr y then some (enc v) else look (l.map fun p => .inr p.1) (l.map fun p => enc p.2) (.inr y)) = _
    rw [look_dT]
    by_cases h : x = y
    · rw [if_pos (by rw [h]), if_pos h]; rfl
    · rw [if_neg (fun e => h (by cases e; rfl)), if_neg h]
theorem inn_dct {ks : List Key} {ts : List T} {x : Str} : cmpD .inn (.str x) (.dct ks ts) = some (look ks ts (.inr x)).isSome := rfl
theorem pairsOf_prT : ∀ {l : List (Str × Tm)}, pairsOf (l.map prT) = some (l.map fun p => (.inr p.1, enc p.2))
  | [] => rfl
  | (x, v) :: l => by
    rw [List.map_cons]
    show (match pairOf (prT (x, v)), pairsOf (l.map prT) with
      | some p, some r => some (p :: r)
      | _, _ => none) = _
    rw [pairsOf_prT]
    rfl
theorem pairsIn_new : ∀ {l : List (Key × T)} {ks : List Key} {ts : List T}, (ks ++ l.map (·.1)).Nodup → pairsIn l ks ts = (ks ++ l.map (·.1), ts ++ l.map (·.2))
  | [], ks, ts, _ => by simp
  | (k, v) :: l, ks, ts, h => by
    have hk : ks.any (fun q => decide (q = k)) = false := by
      rw [List.any_eq_false]
      intro q hq e
      rw [List.nodup_append] at h
      exact h.2.2 q hq k (by simp) (by simpa using e)
    unfold pairsIn putKs putTs
    rw [hk]
    simp only [Bool.false_eq_true, ↓reduceIte]
    rw [pairsIn_new (by simpa using h)]
    simp
theorem nodup_keys {l : List (Str × Tm)} (h : (l.map (·.1)).Nodup) : (l.map fun p => (Sum.inr p.1 : Key)).Nodup := by
  rw [show (l.map fun p => (Sum.inr p.1 : Key)) = (l.map (·.1)).map Sum.inr by rw [List.map_map]; rfl]
  rw [List.nodup_iff_pairwise_ne] at *
  rw [List.pairwise_map]
  exact h.imp fun h e => h (by cases e; rfl)
theorem dict_prT {l : List (Str × Tm)} (h : (l.map (·.1)).Nodup) : (pairsOf (l.map prT)).map (fun ps => R.own (.dct (pairsIn ps [] []).1 (pairsIn ps [] []).2)) = some (.own (dT l)) := by
  rw [pairsOf_prT, Option.map_some, pairsIn_new (by have := nodup_keys h; simpa [List.map_map, Function.comp_def] using this)]
  unfold dT
  simp [List.map_map, Function.comp_def]
theorem zw_prT {xs : List Str} {ps : List Tm} : List.zipWith pr xs (ps.map enc) = (xs.zip ps).map prT := by
  rw [List.zipWith_map_right, ← List.map_uncurry_zip_eq_zipWith]
  rfl
theorem lk_zip {y : Str} : ∀ {xs : List Str} {ps : List Tm}, ps.length = xs.length → (lk (xs.zip ps) y).isSome = decide (y ∈ xs)
  | [], [], _ => by simp [lk_nil]
  | x :: xs, p :: ps, h => by
    rw [List.zip_cons_cons, lk_cons]
    by_cases e : x = y
    · simp [e]
    · rw [if_neg e, lk_zip (by simpa using h)]
      have e2 : ¬ y = x := fun h => e h.symm
      simp [e2]
theorem filt_empty {ps : List Tm} : (ps.filter fun p => !dn S p).isEmpty = ps.all (dn S) := by
  induction ps with
  | nil => rfl
  | cons p ps ih =>
    rw [List.filter_cons, List.all_cons]
    cases e : dn S p
    · simp
    · simpa using ih
theorem law_done (hN : Nms N F) : ∀ {t : Tm}, Ok N F t → dep (enc t) ≤ 60 → ∀ {k : Nat}, ht t + 2 ≤ k → den cfg tb k i__law_done [enc t, nsT S] = M.ret (.fro (.bl (dn S t))) := by
  intro t
  induction t using Tm.ind with
  | h hd ps ih =>
    intro ok hdp k hk
    have hh : ht (.nd hd ps) ≤ 900 := Nat.le_trans (ht_dep ok) (by omega)
    rw [ht_eq] at hk
    obtain ⟨k, rfl⟩ : ∃ j, k = j + 1 := ⟨k - 1, by omega⟩
    have ih' : ∀ p ∈ ps, den cfg tb k i__law_done [enc p, nsT S] = M.ret (.fro (.bl (dn S p))) := fun p hp => ih p hp (ok.part p hp) (by have := dep_part ok.len p hp; omega) (by have := ht_part hp; omega)
    rw [den_fn (f := i__law_done) rfl rfl]
    cases hd with
    | name x =>
      obtain rfl := lq0 ok.len
      rw [enc_name]
      simp (decide := true) [dn_name]
    | num i =>
      obtain rfl := lq0 ok.len
      rw [enc_num]
      simp (decide := true) [dn_num]
    | tru i =>
      obtain rfl := lq0 ok.len
      rw [enc_tru]
      simp (decide := true) [dn_tru]
    | mark i =>
      obtain rfl := lq0 ok.len
      rw [enc_mark]
      simp (decide := true) [dn_mark]
    | fn x =>
      obtain ⟨a, rfl⟩ := lq1 ok.len
      rw [enc_fn]
      simp (decide := true) [dn_fn]
    | rcd xs =>
      rw [enc_rcd]
      simp (decide := true)
      rw [listM_filt (g := fun p => !dn S p) ok.len (by intro x hx p hp; cases e : dn S p <;> simp [pr, ih' p hp, e])]
      have hs : shp (.lst ((ps.filter fun p => !dn S p).map enc)) = true := shp_lst (by
        intro t ht
        obtain ⟨p, hp, rfl⟩ := List.mem_map.mp ht
        exact dat_enc hN (ok.part p (List.mem_filter.mp hp).1)) (by
        intro t ht
        obtain ⟨p, hp, rfl⟩ := List.mem_map.mp ht
        have := dep_part ok.len p (List.mem_filter.mp hp).1
        omega)
      have hs0 : shp (.lst []) = true := rfl
      simp [hs, hs0, eqT_lnil, dn_rcd]
      rw [filt_empty]
    | grp xs =>
      obtain ⟨qs, b, rfl, hl⟩ := lenE ok.len
      rw [enc_grp hl, dn_grp]
      obtain ⟨hb, pb⟩ := b
      have okb := ok.part (.nd hb pb) (by simp)
      obtain ⟨rb, eb⟩ := word_at okb.len
      have hp := dict_prT (l := xs.zip qs) (by rw [List.map_fst_zip (by omega)]; exact ok.hd.1)
      rw [zw_prT]
      cases hn : isName hb with
      | true =>
        cases hb <;> first | (cases hn; done) | skip
        rename_i x
        rw [enc_name]
        simp (decide := true) [nameOf, hp, dT, inn_dct, look_dT, lk_zip hl]
      | false =>
        rw [nameOf_none hn, eb]
        simp (decide := true) [word_ok, name_ne hn]
    | call =>
      obtain ⟨a, b, rfl⟩ := lq2 ok.len
      have h1 := ih' a (by simp)
      have h2 := ih' b (by simp)
      have h3 := law_marks hN ok hh (k - 1)
      rw [show k - 1 + 1 = k by omega, enc_call] at h3
      rw [enc_call]
      obtain ⟨ha, pa⟩ := a
      obtain ⟨hb, pb⟩ := b
      have oka := ok.part (.nd ha pa) (by simp)
      have okb := ok.part (.nd hb pb) (by simp)
      obtain ⟨ra, ea⟩ := word_at oka.len
      obtain ⟨rb, eb⟩ := word_at okb.len
      cases hn : isName ha with
      | true =>
        cases ha <;> first | (cases hn; done) | skip
        rename_i x
        have hx := hN.str x oka.hd
        rw [enc_name, eb, dn_call]
        have e1 : isNum (.nd hb pb) = decide (wordOf hb = k_num) := isNum_word
        have e2 : nameOf (.nd (.name x) pa) = some x := rfl
        simp (decide := true) [word_ok, hx]
        rw [e1, e2]
        by_cases hr : x ∈ reck
        · simp [hr, reck_or.mp hr]
        · simp [hr, mt reck_or.mpr hr]
      | false =>
        have hw : wordOf ha ≠ k_name := name_ne hn
        rw [ea] at h1 h3 ⊢
        rw [dn_call, nameOf_none hn]
        cases e : mkA (.nd .call [.nd ha pa, .nd hb pb]) with
        | none => simp (decide := true) [hw, word_ok, h3, e, encM, isNon]
        | some q =>
          cases e2 : dn S (.nd ha pa) <;> simp (decide := true) [hw, word_ok, h3, e, encM, isNon, h1, h2, e2]
    | _ =>
      obtain ⟨r, er⟩ := word_at ok.len
      simp only [wordOf] at er
      rw [er]
      simp (decide := true) [dn_lt, dn_ite, dn_get, dn_put, dn_told, dn_mat, dn_fault]
end
end TL
end

section
set_option Elab.async false
set_option linter.all false
set_option maxRecDepth 100000
namespace TL
open PySem
/-- how many parts are run first -/
def nf : Hh → Nat
  | .rcd xs => xs.length
  | .call | .put _ => 2
  | .lt _ | .ite | .get _ | .mat _ | .told _ => 1
  | _ => 0
theorem nf_le (h : Hh) : nf h ≤ ar h := by cases h <;> simp [nf, ar]
section
variable {N F S : List Str}
theorem parts_first {h : Hh} {ps : List Tm} (hl : ps.length = ar h) (k : Nat) : den cfg tb (k + 1) i_parts_first [enc (.nd h ps)] = M.ret (.fro (.int (nf h : Nat))) := by
  rw [den_fn (f := i_parts_first) rfl rfl]
  cases h with
  | rcd xs =>
    rw [enc_rcd]
    simp (decide := true) [nf]
    rw [show ps.length = xs.length from hl]
    simp
  | _ =>
    obtain ⟨r, er⟩ := word_at hl
    simp only [wordOf] at er
    rw [er]
    simp (decide := true) [nf]
theorem law_parts {h : Hh} {ps : List Tm} (hl : ps.length = ar h) (k : Nat) : den cfg tb (k + 1) i__law_parts [enc (.nd h ps)] = M.ret (.own (.lst ((ps.take (nf h)).map enc))) := by
  refine Tm.byH (P := fun h ps => den cfg tb (k + 1) i__law_parts [enc (.nd h ps)] = M.ret (.own (.lst ((ps.take (nf h)).map enc)))) ?_ ?_ ?_ ?_ ?_ ?_ ?_ ?_ ?_ ?_ ?_ ?_ ?_ ?_ ?_ hl
  all_goals intros
  all_goals rw [den_fn (f := i__law_parts) rfl rfl]
  case refine_12 xs ps e =>
    rw [enc_rcd]
    simp (decide := true) [nf]
    rw [listM_zp (g := fun x p => enc p) (by intro x hx p hp; simp [pr]), zw_sndm e, ← e, List.take_of_length_le (by simp)]
    simp
  case refine_13 xs ps b e =>
    rw [enc_grp e]
    simp (decide := true) [nf]
  all_goals simp only [enc_name, enc_num, enc_tru, enc_mark, enc_fault, enc_fn, enc_call, enc_lt, enc_ite, enc_get, enc_put, enc_told, enc_mat]
  all_goals simp (decide := true) [nf]
theorem zw_set {xs : List Str} {x : Str} {q : T} : ∀ {ts : List T} {i : Nat}, ts.length = xs.length → xs[i]? = some x → (List.zipWith pr xs ts).take i ++ pr x q :: (List.zipWith pr xs ts).drop (i + 1) = List.zipWith pr xs (ts.set i q) := by
  induction xs with
  | nil => intro ts i _ h; simp at h
  | cons y xs ih =>
    intro ts i hl h
    obtain ⟨t, r, rfl, hr⟩ := lenS (by simpa using hl)
    cases i with
    | zero =>
      simp at h
      simp [h]
    | succ i =>
      simp at h
      have := ih (ts := r) (i := i) hr h
      simp [this]
end
section
variable (k : Nat) (A B C q : T) (x : Str)
theorem with_call0 : den cfg tb (k + 1) i__law_with [.tup [.str k_call, A, B], .int 0, q] = M.ret (.fro (.tup [.str k_call, q, B])) := by
  funext s
  kernel_rfl
theorem with_call1 : den cfg tb (k + 1) i__law_with [.tup [.str k_call, A, B], .int 1, q] = M.ret (.fro (.tup [.str k_call, A, q])) := by
  funext s
  kernel_rfl
theorem with_put0 : den cfg tb (k + 1) i__law_with [.tup [.str k_put, A, B, C], .int 0, q] = M.ret (.fro (.tup [.str k_put, q, B, C])) := by
  funext s
  kernel_rfl
theorem with_put1 : den cfg tb (k + 1) i__law_with [.tup [.str k_put, A, B, C], .int 1, q] = M.ret (.fro (.tup [.str k_put, A, B, q])) := by
  funext s
  kernel_rfl
theorem with_lt : den cfg tb (k + 1) i__law_with [.tup [.str k_let, A, B, C], .int 0, q] = M.ret (.fro (.tup [.str k_let, A, q, C])) := by
  funext s
  kernel_rfl
theorem with_if : den cfg tb (k + 1) i__law_with [.tup [.str k_if, A, B, C], .int 0, q] = M.ret (.fro (.tup [.str k_if, q, B, C])) := by
  funext s
  kernel_rfl
theorem with_get : den cfg tb (k + 1) i__law_with [.tup [.str k_get, A, B], .int 0, q] = M.ret (.fro (.tup [.str k_get, q, B])) := by
  funext s
  kernel_rfl
theorem with_told : den cfg tb (k + 1) i__law_with [.tup [.str k_told, A, B], .int 0, q] = M.ret (.fro (.tup [.str k_told, q, B])) := by
  funext s
  kernel_rfl
theorem with_mat : den cfg tb (k + 1) i__law_with [.tup [.str k_match, A, B], .int 0, q] = M.ret (.fro (.tup [.str k_match, q, B])) := by
  funext s
  kernel_rfl
end
section
variable {N F S : List Str}
theorem law_with {h : Hh} {ps : List Tm} (hpl : ps.length = ar h) (hh : hok N F h) {i : Nat} (hi : i < nf h) (q : Tm) (k : Nat) : den cfg tb (k + 1) i__law_with [enc (.nd h ps), .int i, enc q] = M.ret (.fro (enc (.nd h (ps.set i q)))) := by
  cases h with
  | rcd xs =>
    have hl : ps.length = xs.length := hpl
    have hi : i < xs.length := hi
    have h16 := hh.2.1
    have hx : xs[i]? = some xs[i] := List.getElem?_eq_getElem hi
    have hlz : (List.zipWith pr xs (ps.map enc)).length = xs.length := by simp [hl]
    have hat : at_ (List.zipWith pr xs (ps.map enc)) (i : Int) = some (pr xs[i] (enc (ps[i]'(by omega)))) := by
      rw [at_of (by omega), List.getElem?_eq_getElem (by omega)]
      simp
    have hcut : cut (List.zipWith pr xs (ps.map enc)) (some ((i : Int) + 1)) none = (List.zipWith pr xs (ps.map enc)).drop (i + 1) := cut_lo (i + 1)
    have hset := zw_set (q := enc q) (ts := ps.map enc) (by simpa using hl) hx
    have z1 : szOk (min i xs.length + 1) = true := sz_of (by omega)
    have z2 : szOk (min i xs.length + 1 + (xs.length - (i + 1))) = true := sz_of (by omega)
    rw [den_fn (f := i__law_with) rfl rfl, enc_rcd, enc_rcd]
    simp (decide := true) [hat, cut_hi, hcut, -List.map_set, pr, z1, hl]
    rw [← show (ps.map enc).set i (enc q) = (ps.set i q).map enc by simp, ← hset]
    simp [pr, hl, z2]
  | call =>
    obtain ⟨a, b, rfl⟩ := lq2 hpl
    have hi : i < 2 := hi
    have : i = 0 ∨ i = 1 := by omega
    rcases this with rfl | rfl
    · rw [enc_call]; exact (with_call0 k _ _ _).trans (by rw [← enc_call]; rfl)
    · rw [enc_call]; exact (with_call1 k _ _ _).trans (by rw [← enc_call]; rfl)
  | put x =>
    obtain ⟨a, b, rfl⟩ := lq2 hpl
    have hi : i < 2 := hi
    have : i = 0 ∨ i = 1 := by omega
    rcases this with rfl | rfl
    · rw [enc_put]; exact (with_put0 k _ _ _ _).trans (by rw [← enc_put]; rfl)
    · rw [enc_put]; exact (with_put1 k _ _ _ _).trans (by rw [← enc_put]; rfl)
  | lt x =>
    obtain ⟨a, b, rfl⟩ := lq2 hpl
    obtain rfl : i = 0 := by have : i < 1 := hi; omega
    rw [enc_lt]; exact (with_lt k _ _ _ _).trans (by rw [← enc_lt]; rfl)
  | ite =>
    obtain ⟨a, b, c, rfl⟩ := lq3 hpl
    obtain rfl : i = 0 := by have : i < 1 := hi; omega
    rw [enc_ite]; exact (with_if k _ _ _ _).trans (by rw [← enc_ite]; rfl)
  | get x =>
    obtain ⟨a, rfl⟩ := lq1 hpl
    obtain rfl : i = 0 := by have : i < 1 := hi; omega
    rw [enc_get]; exact (with_get k _ _ _).trans (by rw [← enc_get]; rfl)
  | told x =>
    obtain ⟨a, rfl⟩ := lq1 hpl
    obtain rfl : i = 0 := by have : i < 1 := hi; omega
    rw [enc_told]; exact (with_told k _ _ _).trans (by rw [← enc_told]; rfl)
  | mat x =>
    obtain ⟨a, r, rfl, hr⟩ := lenS hpl
    obtain rfl : i = 0 := by have : i < 1 := hi; omega
    rw [enc_mat]; exact (with_mat k _ _ _).trans (by rw [← enc_mat]; rfl)
  | _ => exact absurd hi (by simp [nf])
end
end TL
end

section
set_option Elab.async false
set_option linter.all false
set_option maxRecDepth 100000
/-! The law's putting. -/
namespace TL
open PySem
def butL (l : List (Str × Tm)) (bs : List Str) : List (Str × Tm) := l.filter fun p => decide (p.1 ∉ bs)
theorem lk_but {bs : List Str} {y : Str} : ∀ {l : List (Str × Tm)}, lk (butL l bs) y = (lk l).but bs y
  | [] => by
    unfold Sb.but
    split <;> rfl
  | (x, v) :: l => by
    have ih := lk_but (bs := bs) (y := y) (l := l)
    unfold butL at ih ⊢
    unfold Sb.but at ih ⊢
    rw [List.filter_cons, lk_cons]
    by_cases hx : x ∈ bs
    · rw [if_neg (by simpa using hx), ih]
      by_cases e : x = y
      · rw [if_pos (e ▸ hx), if_pos (e ▸ hx)]
      · rw [if_neg e]
    · rw [if_pos (by simpa using hx), lk_cons, ih]
      by_cases e : x = y
      · rw [if_pos e, if_pos e, if_neg (e ▸ hx)]
      · rw [if_neg e, if_neg e]
theorem but_nodup {l : List (Str × Tm)} {bs : List Str} (h : (l.map (·.1)).Nodup) : ((butL l bs).map (·.1)).Nodup := by
  unfold butL
  rw [List.nodup_iff_pairwise_ne] at *
  exact h.sublist (List.Sublist.map _ List.filter_sublist)
theorem listM_keys {f : T → M (Option T)} {p : Str × Tm → Bool} : ∀ {l : List (Str × Tm)}, (∀ q ∈ l, f (.str q.1) = M.ret (if p q then some (prT q) else none)) → listM f (l.map fun q => T.str q.1) = M.ret ((l.filter p).map prT)
  | [], _ => rfl
  | q :: l, h => by
    rw [List.map_cons]
    unfold listM
    rw [h q List.mem_cons_self, ret_bind, listM_keys fun y hy => h y (List.mem_cons_of_mem _ hy), ret_bind, List.filter_cons]
    cases p q <;> rfl
theorem lk_self {q : Str × Tm} : ∀ {l : List (Str × Tm)}, (l.map (·.1)).Nodup → q ∈ l → lk l q.1 = some q.2
  | (x, v) :: l, h, hq => by
    rw [lk_cons]
    rcases List.mem_cons.mp hq with rfl | hq
    · rw [if_pos rfl]
    · have := List.nodup_cons.mp h
      rw [if_neg (fun e : x = q.1 => this.1 (by show x ∈ _; rw [e]; exact List.mem_map.mpr ⟨q, hq, rfl⟩)), lk_self this.2 hq]
theorem law_butL {l : List (Str × Tm)} (hl : (l.map (·.1)).Nodup) (bs : List Str) (k : Nat) : den cfg tb (k + 1) i__law_but [dT l, .lst (bs.map .str)] = M.ret (.own (dT (butL l bs))) := by
  rw [den_fn (f := i__law_but) rfl rfl]
  have e : ((l.map fun p => (Sum.inr p.1 : Key)).map ofKey) = l.map fun p => T.str p.1 := by rw [List.map_map]; rfl
  unfold dT
  simp only [r_lc, r_bif, s_cons, s_ret, s_nil]
  simp [e, -List.map_map, nin_lst, -cmp_ninL]
  rw [listM_keys (p := fun q => decide (q.1 ∉ bs)) (by
    intro q hq
    by_cases h : q.1 ∈ bs <;> simp [h, look_dT, keyOf, lk_self hl hq, prT, nin_lst, -cmp_ninL])]
  have h2 : (l.filter fun q => decide (q.1 ∉ bs)) = butL l bs := rfl
  rw [h2, ret_bind]
  simp only [val_o, bif_lst, b_dict_l, dict_prT (but_nodup hl), of_some, ret_bind, seq_rt, end_rt]
  rfl
theorem law_butN {l : List (Str × Tm)} (hl : (l.map (·.1)).Nodup) (bs : List Str) (k : Nat) : den cfg tb (k + 1) i__law_but [dT l, nsT bs] = M.ret (.own (dT (butL l bs))) := by
  rw [den_fn (f := i__law_but) rfl rfl]
  have e : ((l.map fun p => (Sum.inr p.1 : Key)).map ofKey) = l.map fun p => T.str p.1 := by rw [List.map_map]; rfl
  unfold dT
  simp only [r_lc, r_bif, s_cons, s_ret, s_nil]
  simp [e, -List.map_map]
  rw [listM_keys (p := fun q => decide (q.1 ∉ bs)) (by
    intro q hq
    by_cases h : q.1 ∈ bs <;> simp [h, look_dT, keyOf, lk_self hl hq, prT, nin_lst, -cmp_ninL])]
  have h2 : (l.filter fun q => decide (q.1 ∉ bs)) = butL l bs := rfl
  rw [h2, ret_bind]
  simp only [val_o, bif_lst, b_dict_l, dict_prT (but_nodup hl), of_some, ret_bind, seq_rt, end_rt]
  rfl
end TL
end

section
set_option Elab.async false
set_option linter.all false
set_option maxRecDepth 100000
namespace TL
open PySem
def lp : Hh → Bool
  | .call | .get _ | .put _ | .told _ | .rcd _ | .fault _ => true
  | _ => false
theorem lp_ne {h : Hh} (e : lp h = true) : wordOf h ≠ k_name ∧ wordOf h ≠ k_num ∧ wordOf h ≠ k_truth ∧ wordOf h ≠ k_mark ∧ wordOf h ≠ k_fun ∧ wordOf h ≠ k_let ∧ wordOf h ≠ k_group ∧ wordOf h ≠ k_if ∧ wordOf h ≠ k_match := by
  cases h <;> first | (cases e; done) | (simp only [wordOf]; decide +kernel)
theorem lp_bnd : ∀ {h : Hh}, lp h = true → bnd h = List.replicate (ar h) []
  | .call, _ | .get _, _ | .put _, _ | .told _, _ | .rcd _, _ | .fault _, _ => rfl
theorem lp_nf : ∀ {h : Hh}, lp h = true → nf h = ar h
  | .call, _ | .get _, _ | .put _, _ | .told _, _ | .rcd _, _ | .fault _, _ => rfl
theorem lp_name {h : Hh} (e : lp h = true) : isName h = false := by
  cases h <;> first | (cases e; done) | rfl
theorem but_nil {σ : Sb} : σ.but [] = σ := by
  funext y
  unfold Sb.but
  rw [if_neg (by simp)]
theorem but_lk {l : List (Str × Tm)} {bs : List Str} : (lk l).but bs = lk (butL l bs) := by
  funext y
  rw [lk_but]
theorem zip_rep {f : List Str → Tm → Tm} {xs : List Str} : ∀ {ps : List Tm}, (ps.zip (List.replicate ps.length xs)).map (fun p => f p.2 p.1) = ps.map (f xs)
  | [] => rfl
  | p :: ps => by
    rw [List.length_cons, List.replicate_succ, List.zip_cons_cons, List.map_cons, List.map_cons, zip_rep]
theorem zip_bs {f : List Str → Tm → Tm} : ∀ {bs : List (Str × List Str)} {qs : List Tm}, qs.length = bs.length → List.zipWith br bs (((qs.zip (bs.map (·.2))).map fun p => f p.2 p.1).map enc) = List.zipWith (fun x p => br x (enc (f x.2 p))) bs qs
  | [], [], _ => rfl
  | b :: bs, q :: qs, h => by
    rw [List.map_cons, List.zip_cons_cons, List.map_cons, List.map_cons, List.zipWith_cons_cons, List.zipWith_cons_cons, zip_bs (by simpa using h)]
theorem butL_nil {l : List (Str × Tm)} : butL l [] = l := by
  unfold butL
  simp
theorem subs_lp {h : Hh} {ps : List Tm} {σ : Sb} (hl : ps.length = ar h) (e : lp h = true) : subs σ (.nd h ps) = .nd h (ps.map (subs σ)) := by
  rw [subs_nd (lp_name e), subss_zip, lp_bnd e, ← hl]
  congr 1
  clear hl
  induction ps with
  | nil => rfl
  | cons p ps ih =>
    rw [List.length_cons, List.replicate_succ, List.zip_cons_cons, List.map_cons, List.map_cons, ih, but_nil]
theorem set_mid {A R : List Tm} {p q : Tm} : (A ++ p :: R).set A.length q = A ++ q :: R := by
  induction A with
  | nil => rfl
  | cons a A ih => simp
def enumL : Nat → List Tm → List (Nat × Tm)
  | _, [] => []
  | i, p :: ps => (i, p) :: enumL (i + 1) ps
theorem range_enum : ∀ {ps : List Tm} {i : Nat}, (List.range' i ps.length).zip ps = enumL i ps
  | [], i => rfl
  | p :: ps, i => by
    rw [List.length_cons, List.range'_succ, List.zip_cons_cons, range_enum]
    rfl
def enT (q : Nat × Tm) : T := .tup [.int (q.1 : Nat), enc q.2]
theorem enumD_lst {ps : List Tm} : enumD (.lst (ps.map enc)) = some ((enumL 0 ps).map enT) := by
  simp only [enumD, sq_l, Option.map_some]
  rw [List.length_map, List.range_eq_range', List.zip_map_right, range_enum, List.map_map]
  rfl
theorem enumD_tup {ps : List Tm} : enumD (.tup (ps.map enc)) = some ((enumL 0 ps).map enT) := enumD_lst
theorem loopE {f : T → Env → M Fl} {Inv : Nat → Env → Prop} : ∀ (as : List Tm) (i : Nat) {ρ : Env}, (∀ j a ρ, as[j]? = some a → Inv (i + j) ρ → ∃ ρ', f (enT (i + j, a)) ρ = M.ret (.nx ρ') ∧ Inv (i + j + 1) ρ') → Inv i ρ → ∃ ρ', loopF f ((enumL i as).map enT) ρ = M.ret (.nx ρ') ∧ Inv (i + as.length) ρ'
  | [], i, ρ, _, h => ⟨ρ, rfl, h⟩
  | a :: as, i, ρ, hs, h => by
    obtain ⟨ρ1, e1, h1⟩ := hs 0 a ρ rfl h
    obtain ⟨ρ2, e2, h2⟩ := loopE as (i + 1) (fun j x ρ hx hI => by
      have := hs (j + 1) x ρ (by simpa using hx)
      rw [show i + (j + 1) = i + 1 + j by omega] at this
      exact this hI) h1
    have e1 : f (enT (i, a)) ρ = _ := e1
    refine ⟨ρ2, ?_, by rw [List.length_cons, show i + (as.length + 1) = i + 1 + as.length by omega]; exact h2⟩
    show M.bind (f (enT (i, a)) ρ) _ = _
    rw [e1, ret_bind]
    exact e2
theorem loopE_bind {γ : Type} {f : T → Env → M Fl} {as : List Tm} {ρ : Env} {K : Fl → M γ} {res : M γ} (Inv : Nat → Env → Prop) (hs : ∀ j a ρ, as[j]? = some a → Inv j ρ → ∃ ρ', f (enT (j, a)) ρ = M.ret (.nx ρ') ∧ Inv (j + 1) ρ') (h0 : Inv 0 ρ) (hk : ∀ ρ', Inv as.length ρ' → K (.nx ρ') = res) : M.bind (loopF f ((enumL 0 as).map enT) ρ) K = res := by
  obtain ⟨ρ', e, h⟩ := loopE (f := f) (Inv := Inv) as 0 (fun j a ρ ha hI => by
    rw [Nat.zero_add] at hI ⊢
    exact hs j a ρ ha hI) h0
  rw [Nat.zero_add] at h
  rw [e, ret_bind, hk ρ' h]
section
variable {N F S : List Str}
theorem law_put (hN : Nms N F) : ∀ {t : Tm}, Ok N F t → ∀ {l : List (Str × Tm)}, (l.map (·.1)).Nodup → ∀ {k : Nat}, ht t + 3 ≤ k → den cfg tb k i__law_put [enc t, dT l] = M.ret (.fro (enc (subs (lk l) t))) := by
  intro t
  induction t using Tm.ind with
  | h hd ps ih =>
    intro ok l hl k hk
    rw [ht_eq] at hk
    obtain ⟨k, rfl⟩ : ∃ j, k = j + 2 := ⟨k - 2, by omega⟩
    have ih' : ∀ p ∈ ps, ∀ {l : List (Str × Tm)}, (l.map (·.1)).Nodup → den cfg tb (k + 1) i__law_put [enc p, dT l] = M.ret (.fro (enc (subs (lk l) p))) := fun p hp l hl => ih p hp (ok.part p hp) hl (by have := ht_part hp; omega)
    have hbL := fun bs => law_butL hl bs k
    have hbN := fun bs => law_butN hl bs k
    rw [den_fn (f := i__law_put) rfl rfl]
    cases hlp : lp hd with
    | true =>
      obtain ⟨n1, n2, n3, n4, n5, n6, n7, n8, n9⟩ := lp_ne hlp
      obtain ⟨r, er⟩ := word_at ok.len
      have hpt := law_parts ok.len k
      rw [lp_nf hlp, ← ok.len, List.take_of_length_le (Nat.le_refl _), er] at hpt
      rw [er]
      simp [word_ok, n1, n2.symm, n3.symm, n4.symm, n5, n6, n7, n8, n9, hpt, enumD_lst]
      rw [subs_lp ok.len hlp]
      refine loopE_bind (fun i ρ => ∃ s9 s10, ρ = [.fro (enc (.nd hd ((ps.take i).map (subs (lk l)) ++ ps.drop i))), .fro (dT l), .fro (.str (wordOf hd)), .non, .non, .non, .non, .non, .non, s9, s10]) ?_ ⟨_, _, by rw [← er]; rfl⟩ ?_
      · rintro i p ρ hp ⟨s9, s10, rfl⟩
        obtain ⟨hi, rfl⟩ := List.getElem?_eq_some_iff.mp hp
        have hw := law_with (h := hd) (ps := (ps.take i).map (subs (lk l)) ++ ps.drop i) (by rw [List.length_append, List.length_map, List.length_take, List.length_drop, ← ok.len]; omega) ok.hd (i := i) (by rw [lp_nf hlp, ← ok.len]; exact hi) (subs (lk l) ps[i]) k
        have hs := set_mid (A := (ps.take i).map (subs (lk l))) (R := ps.drop (i + 1)) (p := ps[i]) (q := subs (lk l) ps[i])
        rw [List.length_map, List.length_take, Nat.min_eq_left (by omega)] at hs
        rw [← List.drop_eq_getElem_cons hi] at hs
        rw [hs] at hw
        have ht : (ps.take (i + 1)).map (subs (lk l)) ++ ps.drop (i + 1) = (ps.take i).map (subs (lk l)) ++ subs (lk l) ps[i] :: ps.drop (i + 1) := by
          rw [List.take_succ_eq_append_getElem hi, List.map_append]
          simp only [List.map_cons, List.map_nil, List.append_assoc, List.cons_append, List.nil_append]
        rw [ht]
        simp [enT, ih' ps[i] (List.getElem_mem hi) hl, hw, -List.map_take]
        exact ⟨_, rfl, ⟨_, _, rfl⟩⟩
      · rintro ρ' ⟨s9, s10, rfl⟩
        simp
    | false =>
      cases hd with
      | name x =>
        obtain rfl := lq0 ok.len
        rw [enc_name, subs_name]
        simp (decide := true) [getD, dT, keyOf, look_dT]
        cases lk l x
        · exact congrArg (fun t => M.ret (R.fro t)) enc_name.symm
        · rfl
      | num x =>
        obtain rfl := lq0 ok.len
        rw [enc_num, subs_nd rfl, subss_zip]
        simp (decide := true) [enc_num]
      | tru x =>
        obtain rfl := lq0 ok.len
        rw [enc_tru, subs_nd rfl, subss_zip]
        simp (decide := true) [enc_tru]
      | mark x =>
        obtain rfl := lq0 ok.len
        rw [enc_mark, subs_nd rfl, subss_zip]
        simp (decide := true) [enc_mark]
      | fn x =>
        obtain ⟨a, rfl⟩ := lq1 ok.len
        rw [enc_fn, subs_nd rfl, subss_zip]
        have h1 := hbL [x]
        simp at h1
        simp (decide := true) [enc_fn, bnd, h1, ih' a (by simp) (but_nodup hl), but_lk]
      | lt x =>
        obtain ⟨a, b, rfl⟩ := lq2 ok.len
        rw [enc_lt, subs_nd rfl, subss_zip]
        have h1 := hbL [x]
        simp at h1
        simp (decide := true) [enc_lt, bnd, h1, ih' a (by simp) hl, ih' b (by simp) (but_nodup hl), but_lk, butL_nil]
      | ite =>
        obtain ⟨a, b, c, rfl⟩ := lq3 ok.len
        rw [enc_ite, subs_nd rfl, subss_zip]
        simp (decide := true) [enc_ite, bnd, ar, ih' a (by simp) hl, ih' b (by simp) hl, ih' c (by simp) hl, but_nil]
        rw [show [enc a, enc b, enc c] = [a, b, c].map enc from rfl, listM_map (g := fun p => enc (subs (lk l) p)) (by intro p hp; simp [ih' p hp hl])]
        simp (decide := true)
      | grp xs =>
        obtain ⟨qs, b, rfl, hq⟩ := lenE ok.len
        have hq' : (qs.map enc).length = xs.length := by simpa using hq
        rw [enc_grp hq]
        simp (decide := true)
        rw [listM_zw (g := fun x t => T.str x) (by intro x hx t ht; simp [pr]), zw_fst hq']
        simp [hbL]
        rw [listM_zp (g := fun x p => pr x (enc (subs (lk (butL l xs)) p))) (by intro x hx p hp; simp [pr, ih' p (List.mem_append.mpr (.inl hp)) (but_nodup hl)])]
        simp [ih' b (by simp) (but_nodup hl)]
        rw [subs_nd rfl, subss_zip]
        have e := zip_rep (f := fun bs p => subs ((lk l).but bs) p) (xs := xs) (ps := qs ++ [b])
        rw [List.length_append, List.length_singleton, hq] at e
        show _ = M.ret (R.fro (enc (.nd (.grp xs) (((qs ++ [b]).zip (List.replicate (xs.length + 1) xs)).map fun p => subs ((lk l).but p.2) p.1))))
        rw [e, List.map_append, List.map_cons, List.map_nil, enc_grp (by simpa using hq), but_lk, List.map_map, List.zipWith_map_right]
        rfl
      | mat bs =>
        obtain ⟨a, qs, rfl, hq⟩ := lenS ok.len
        have hq' : (qs.map enc).length = bs.length := by simpa using hq
        rw [enc_mat]
        simp (decide := true)
        rw [listM_zp (g := fun x p => br x (enc (subs (lk (butL l x.2)) p))) (by intro x hx p hp; simp [br, hbN, ih' p (by simp [hp]) (but_nodup hl)])]
        simp [ih' a (by simp) hl]
        rw [subs_nd rfl, subss_zip]
        show _ = M.ret (R.fro (enc (.nd (.mat bs) (subs ((lk l).but []) a :: (qs.zip (bs.map (·.2))).map fun p => subs ((lk l).but p.2) p.1))))
        rw [enc_mat, but_nil, zip_bs (f := fun bs p => subs ((lk l).but bs) p) hq]
        simp only [but_lk]
      | _ => cases hlp
end
end TL
end

section
set_option Elab.async false
set_option linter.all false
set_option maxRecDepth 100000
/-! What a term comes to whose parts are run out: plainly. -/
namespace TL
open PySem
def encO : Option Tm → T
  | some t => enc t
  | none => .non
def clQ (N : List Str) (t : Tm) : Prop := ∀ y ∈ fv t, y ∉ N
def gv (xs : List Str) (qs : List Tm) : List (Str × Tm) := xs.map fun x => (x, .nd (.grp xs) (qs ++ [nameT x]))
def numOf : Tm → Option Int
  | .nd (.num i) _ => some i
  | _ => none
def truOf : Tm → Option Bool
  | .nd (.tru i) _ => some i
  | _ => none
def reckT (w : Str) (i j : Int) : Tm := if w = k_add then .nd (.num (i + j)) [] else if w = k_sub then .nd (.num (i - j)) [] else .nd (.tru (decide (i < j))) []
def calledT (a b : Tm) : Option Tm := match a with
  | .nd (.fn x) [c] => some (subs (Sb.one x b) c)
  | .nd (.grp xs) ps => (ps.getLast?.bind nameOf).bind fun y => (lk (xs.zip ps.dropLast) y).map fun c => .nd .call [subs (lk (gv xs ps.dropLast)) c, b]
  | .nd .call [c, d] => (nameOf c).bind fun w => (numOf d).bind fun i => (numOf b).map fun j => reckT w i j
  | _ => none
def matchedT (bs : List (Str × List Str)) (a : Tm) (qs : List Tm) : Option Tm := (mkA a).bind fun m => ((bs.zip qs).find? fun b => decide (b.1.1 = m.1) && decide (b.1.2.length = m.2.length)).map fun b => subs (lk (b.1.2.zip m.2)) b.2
def recOf : Tm → Option (List Str × List Tm)
  | .nd (.rcd xs) ps => some (xs, ps)
  | _ => none
def actT (tm : Str → Option Tm) : Tm → Option Tm
  | .nd (.name x) _ => tm x
  | .nd .call [a, b] => calledT a b
  | .nd (.lt x) [a, b] => some (subs (Sb.one x a) b)
  | .nd (.grp xs) ps => ps.getLast?.map fun b => subs (lk (gv xs ps.dropLast)) b
  | .nd .ite [a, b, c] => (truOf a).map fun v => if v then b else c
  | .nd (.get x) [a] => (recOf a).bind fun r => lk (r.1.zip r.2) x
  | .nd (.put x) [a, v] => (recOf a).bind fun r => if x ∈ r.1 then some (.nd (.rcd r.1) (List.zipWith (fun y p => if y = x then v else p) r.1 r.2)) else none
  | .nd (.mat bs) (a :: qs) => matchedT bs a qs
  | .nd (.told _) [a] => some a
  | _ => none
section
variable {N F S : List Str}
theorem cl_part {h : Hh} {ps : List Tm} (hc : clQ N (.nd h ps)) (hn : isName h = false) {p : Tm} {bs : List Str} (hz : (p, bs) ∈ ps.zip (bnd h)) {y : Str} (hy : y ∈ fv p) (hb : y ∉ bs) : y ∉ N := hc y (by rw [fv_nd hn]; exact fvs_mem hz hy hb)
theorem reckT_ok {w : Str} {i j : Int} : Ok N F (reckT w i j) ∧ clQ N (reckT w i j) := by
  unfold reckT
  split
  · exact ⟨.mk rfl trivial (fun p hp => by cases hp), fun y hy => by rw [fv_nd rfl] at hy; cases hy⟩
  · split
    · exact ⟨.mk rfl trivial (fun p hp => by cases hp), fun y hy => by rw [fv_nd rfl] at hy; cases hy⟩
    · exact ⟨.mk rfl trivial (fun p hp => by cases hp), fun y hy => by rw [fv_nd rfl] at hy; cases hy⟩
theorem nameT_ok {x : Str} (h : x ∈ N ++ F) : Ok N F (nameT x) := .mk rfl h fun p hp => by cases hp
theorem zip_grp {xs : List Str} {qs : List Tm} {b p : Tm} {bs : List Str} (hl : qs.length = xs.length) : (p, bs) ∈ (qs ++ [b]).zip (bnd (.grp xs)) ↔ (p ∈ qs ∨ p = b) ∧ bs = xs := by
  have hlen : (qs ++ [b]).length = xs.length + 1 := by simp [hl]
  show (p, bs) ∈ (qs ++ [b]).zip (List.replicate (xs.length + 1) xs) ↔ _
  rw [← hlen]
  have : ∀ l : List Tm, (p, bs) ∈ l.zip (List.replicate l.length xs) ↔ p ∈ l ∧ bs = xs := by
    intro l
    induction l with
    | nil => simp
    | cons a l ih =>
      rw [List.length_cons, List.replicate_succ, List.zip_cons_cons, List.mem_cons, List.mem_cons, ih]
      constructor
      · rintro (h | ⟨h1, h2⟩)
        · cases h; exact ⟨.inl rfl, rfl⟩
        · exact ⟨.inr h1, h2⟩
      · rintro ⟨rfl | h1, rfl⟩
        · exact .inl rfl
        · exact .inr ⟨h1, rfl⟩
  rw [this]
  simp
/-- a group's values are as good as the group -/
theorem gv_good {xs : List Str} {qs : List Tm} {b : Tm} (ok : Ok N F (.nd (.grp xs) (qs ++ [b]))) (hc : clQ N (.nd (.grp xs) (qs ++ [b]))) : ∀ p ∈ gv xs qs, p.1 ∈ N ∧ Ok N F p.2 ∧ clQ N p.2 ∧ cnt p.2 ≤ cnt (.nd (.grp xs) (qs ++ [b])) ∧ ht p.2 ≤ ht (.nd (.grp xs) (qs ++ [b])) := by
  intro p hp
  have hl : qs.length = xs.length := by have := ok.len; simp [ar] at this; exact this
  obtain ⟨x, hx, rfl⟩ := List.mem_map.mp hp
  have hxN := ok.hd.2.2 x hx
  refine ⟨hxN, .mk (by simp [ar, hl]) ok.hd ?_, ?_, ?_, ?_⟩
  · intro q hq
    rcases List.mem_append.mp hq with hq | hq
    · exact ok.part q (List.mem_append.mpr (.inl hq))
    · rw [List.mem_singleton.mp hq]
      exact nameT_ok (List.mem_append.mpr (.inl hxN))
  · intro y hy
    rw [fv_nd rfl] at hy
    obtain ⟨q, bs, hz, hq, hb⟩ := fvs_inv hy
    obtain ⟨hz', e⟩ := (zip_grp hl).mp hz
    subst e
    rcases hz' with hz' | rfl
    · exact cl_part hc rfl ((zip_grp hl).mpr ⟨.inl hz', rfl⟩) hq hb
    · unfold nameT at hq
      rw [fv_name] at hq
      exact absurd (List.mem_singleton.mp hq ▸ hx) hb
  · have hA : ∀ (l : List Tm) (t u : Tm), cnt u ≤ cnt t → cnts (l ++ [u]) ≤ cnts (l ++ [t]) := by
      intro l t u h
      induction l with
      | nil => simp only [List.nil_append, cnts]; omega
      | cons a l ih => simp only [List.cons_append, cnts]; omega
    have h1 : cnt (nameT x) ≤ cnt b := by
      have e : cnt (nameT x) = 1 := by unfold nameT cnt cnts; rfl
      rw [e]
      obtain ⟨h, r⟩ := b
      rw [cnt]
      omega
    have := hA qs b (nameT x) h1
    show cnt (.nd (.grp xs) (qs ++ [nameT x])) ≤ _
    rw [cnt, cnt]
    omega
  · have hA : ∀ (l : List Tm) (t u : Tm), ht u ≤ ht t → hts (l ++ [u]) ≤ hts (l ++ [t]) := by
      intro l t u h
      induction l with
      | nil => simp only [List.nil_append, hts]; omega
      | cons a l ih => simp only [List.cons_append, hts]; omega
    have h1 : ht (nameT x) ≤ ht b := by
      have e : ht (nameT x) = 1 := by unfold nameT; rw [ht_eq]; rfl
      rw [e]
      obtain ⟨h, r⟩ := b
      rw [ht_eq]
      omega
    have := hA qs b (nameT x) h1
    show ht (.nd (.grp xs) (qs ++ [nameT x])) ≤ _
    rw [ht_eq, ht_eq]
    omega
/-- values put into a term that is closed but for their names -/
theorem put_good {l : List (Str × Tm)} {t : Tm} (ok : Ok N F t) (hl : ∀ p ∈ l, Ok N F p.2 ∧ clQ N p.2) (hf : ∀ y ∈ fv t, y ∈ N → ∃ p ∈ l, p.1 = y) : Ok N F (subs (lk l) t) ∧ clQ N (subs (lk l) t) := by
  refine ⟨Ok.subs ok fun y w e => (hl _ (lk_mem e)).1, fun y hy hN => ?_⟩
  rcases fv_subs hy with ⟨h1, h2⟩ | ⟨x, w, h1, h2, h3⟩
  · obtain ⟨p, hp, rfl⟩ := hf y h1 hN
    have : ∀ l : List (Str × Tm), p ∈ l → lk l p.1 ≠ none := by
      intro l
      induction l with
      | nil => intro h; cases h
      | cons q l ih =>
        intro h
        rw [lk_cons]
        split
        · simp
        · rename_i hne
          rcases List.mem_cons.mp h with rfl | h
          · exact absurd rfl hne
          · exact ih h
    exact this l hp h2
  · exact (hl _ (lk_mem h2)).2 y h3 hN
theorem one_good {x : Str} {v t : Tm} (ok : Ok N F t) (hv : Ok N F v) (hcv : clQ N v) (hf : ∀ y ∈ fv t, y ≠ x → y ∉ N) : Ok N F (subs (Sb.one x v) t) ∧ clQ N (subs (Sb.one x v) t) := by
  rw [← lk_one]
  refine put_good ok (fun p hp => by rw [List.mem_singleton.mp hp]; exact ⟨hv, hcv⟩) fun y hy hN => ⟨_, List.mem_singleton.mpr rfl, ?_⟩
  exact Classical.byContradiction fun h => hf y hy (fun e => h e.symm) hN
theorem lk_zip_mem {xs : List Str} {ps : List Tm} {y : Str} {c : Tm} (h : lk (xs.zip ps) y = some c) : c ∈ ps := (List.of_mem_zip (lk_mem h)).2
theorem call_good {a b : Tm} {bs : List Str} (ok : Ok N F (.nd .call [a, b])) (hc : clQ N (.nd .call [a, b])) : (Ok N F a ∧ clQ N a) ∧ Ok N F b ∧ clQ N b := by
  refine ⟨⟨ok.part a (by simp), fun y hy => cl_part hc rfl (p := a) (bs := []) (by simp [bnd, ar]) hy (by simp)⟩, ok.part b (by simp), fun y hy => cl_part hc rfl (p := b) (bs := []) (by simp [bnd, ar, List.replicate]) hy (by simp)⟩
/-- the parts of a term that are run first are closed -/
theorem first_cl {h : Hh} {ps : List Tm} (ok : Ok N F (.nd h ps)) (hc : clQ N (.nd h ps)) : ∀ p ∈ ps.take (nf h), clQ N p := by
  intro p hp y hy
  have key : nf h ≠ 0 → isName h = false ∧ (bnd h).take (nf h) = List.replicate (nf h) [] := by
    intro h0
    cases h <;> first | exact absurd rfl h0 | exact ⟨rfl, rfl⟩ | exact ⟨rfl, by simp [bnd, ar, nf]⟩
  by_cases h0 : nf h = 0
  · rw [h0] at hp
    cases hp
  · obtain ⟨hn, hb⟩ := key h0
    have hl : ps.length = (bnd h).length := by rw [bnd_len, ok.len]
    obtain ⟨i, hi, rfl⟩ := List.getElem_of_mem hp
    have hi' : i < ps.length ∧ i < nf h := by
      rw [List.length_take] at hi
      omega
    have hbi : (bnd h)[i]? = some [] := by
      have := congrArg (fun l => l[i]?) hb
      simp only [List.getElem?_take, hi'.2, ↓reduceIte, List.getElem?_replicate] at this
      exact this
    have hz : (ps[i], ([] : List Str)) ∈ ps.zip (bnd h) := by
      obtain ⟨hbi1, hbi2⟩ := List.getElem?_eq_some_iff.mp hbi
      have hi2 : i < (ps.zip (bnd h)).length := by rw [List.length_zip]; omega
      have : (ps.zip (bnd h))[i] = (ps[i], (bnd h)[i]) := by simp
      rw [hbi2] at this
      rw [← this]
      exact List.getElem_mem hi2
    rw [List.getElem_take] at hy
    exact cl_part hc hn hz hy (by simp)
end
end TL
end

section
set_option Elab.async false
set_option linter.all false
set_option maxRecDepth 100000
namespace TL
open PySem
section
variable {N F S : List Str} {tm : Str → Option Tm}
theorem mkA_good {P : Tm → Prop} (hP : ∀ a b, P (.nd .call [a, b]) → P a ∧ P b) {t : Tm} (ok : Ok N F t) (hp : P t) {m : Str} {l : List Tm} (e : mkA t = some (m, l)) : ∀ q ∈ l, P q := by
  obtain ⟨h, ps, e1, _, _, _, h3⟩ := spine_inv hP ok hp (acc := []) (by intro q hq; cases hq)
  unfold mkA at e
  revert e e1 h3
  cases spine t [] with
  | mk u acc =>
    intro e e1 h3
    cases u with
    | nd hd qs =>
      cases hd <;> first | (cases e; done) | skip
      cases e
      exact h3
theorem zip_mat {bs : List (Str × List Str)} {a p : Tm} {qs : List Tm} {b : Str × List Str} (hz : (b, p) ∈ bs.zip qs) : (p, b.2) ∈ (a :: qs).zip (bnd (.mat bs)) := by
  show (p, b.2) ∈ (a, []) :: qs.zip (bs.map (·.2))
  refine List.mem_cons_of_mem _ ?_
  obtain ⟨i, hi, e⟩ := List.getElem_of_mem hz
  rw [List.length_zip] at hi
  have e2 : (bs.zip qs)[i]'(by rw [List.length_zip]; exact hi) = (bs[i]'(by omega), qs[i]'(by omega)) := by simp
  rw [e2] at e
  cases e
  have hi2 : i < (qs.zip (bs.map (·.2))).length := by rw [List.length_zip, List.length_map]; omega
  have : (qs.zip (bs.map (·.2)))[i] = (qs[i]'(by omega), (bs[i]'(by omega)).2) := by simp
  rw [← this]
  exact List.getElem_mem hi2
theorem act_good (htm : ∀ x t, tm x = some t → Ok N F t ∧ clQ N t) {t r : Tm} (ok : Ok N F t) (hc : clQ N t) (e : actT tm t = some r) : Ok N F r ∧ clQ N r := by
  obtain ⟨h, ps⟩ := t
  have hfc := first_cl ok hc
  cases h with
  | name x => exact htm x r (by simpa [actT] using e)
  | num x => obtain rfl := lq0 ok.len; simp [actT] at e
  | tru x => obtain rfl := lq0 ok.len; simp [actT] at e
  | mark x => obtain rfl := lq0 ok.len; simp [actT] at e
  | fault x => obtain rfl := lq0 ok.len; simp [actT] at e
  | rcd x => simp [actT] at e
  | fn x => simp [actT] at e
  | lt x =>
    obtain ⟨a, b, rfl⟩ := lq2 ok.len
    simp [actT] at e
    subst e
    refine one_good (ok.part b (by simp)) (ok.part a (by simp)) (hfc a (by simp [nf])) fun y hy hne => cl_part hc rfl (p := b) (bs := [x]) (by simp [bnd]) hy (by simpa using hne)
  | ite =>
    obtain ⟨a, b, c, rfl⟩ := lq3 ok.len
    simp only [actT, Option.map_eq_some_iff] at e
    obtain ⟨v, -, rfl⟩ := e
    cases v
    · exact ⟨ok.part c (by simp), fun y hy => cl_part hc rfl (p := c) (bs := []) (by simp [bnd, ar, List.replicate]) hy (by simp)⟩
    · exact ⟨ok.part b (by simp), fun y hy => cl_part hc rfl (p := b) (bs := []) (by simp [bnd, ar, List.replicate]) hy (by simp)⟩
  | told x =>
    obtain ⟨a, rfl⟩ := lq1 ok.len
    simp [actT] at e
    subst e
    exact ⟨ok.part a (by simp), hfc a (by simp [nf])⟩
  | get x =>
    obtain ⟨a, rfl⟩ := lq1 ok.len
    have oka := ok.part a (by simp)
    have hca := hfc a (by simp [nf])
    obtain ⟨ha, pa⟩ := a
    cases ha <;> first | (simp [actT, recOf] at e; done) | skip
    rename_i xs
    simp [actT, recOf] at e
    have hm := lk_zip_mem e
    exact ⟨oka.part r hm, first_cl oka hca r (by rw [show nf (.rcd xs) = xs.length from rfl, ← show pa.length = xs.length from oka.len, List.take_of_length_le (Nat.le_refl _)]; exact hm)⟩
  | put x =>
    obtain ⟨a, b, rfl⟩ := lq2 ok.len
    have oka := ok.part a (by simp)
    have hca := hfc a (by simp [nf])
    have okb := ok.part b (by simp)
    have hcb := hfc b (by simp [nf])
    obtain ⟨ha, pa⟩ := a
    cases ha <;> first | (simp [actT, recOf] at e; done) | skip
    rename_i xs
    simp [actT, recOf] at e
    obtain ⟨hx, rfl⟩ := e
    have hl : pa.length = xs.length := oka.len
    have hg : ∀ q ∈ List.zipWith (fun y p => if y = x then b else p) xs pa, Ok N F q ∧ clQ N q := by
      intro q hq
      obtain ⟨i, hi, e⟩ := List.getElem_of_mem hq
      rw [List.getElem_zipWith] at e
      rw [List.length_zipWith] at hi
      have hm : pa[i]'(by omega) ∈ pa := List.getElem_mem _
      subst e
      split
      · exact ⟨okb, hcb⟩
      · exact ⟨oka.part _ hm, first_cl oka hca _ (by rw [show nf (.rcd xs) = xs.length from rfl, ← hl, List.take_of_length_le (Nat.le_refl _)]; exact hm)⟩
    refine ⟨.mk (by simp [ar, hl]) oka.hd (fun q hq => (hg q hq).1), fun y hy => ?_⟩
    rw [fv_nd rfl] at hy
    obtain ⟨q, bs, hz, hq, -⟩ := fvs_inv hy
    exact (hg q (List.of_mem_zip hz).1).2 y hq
  | grp xs =>
    obtain ⟨qs, b, rfl, hl⟩ := lenE ok.len
    simp [actT] at e
    subst e
    have hg := gv_good ok hc
    refine put_good (ok.part b (by simp)) (fun p hp => ⟨(hg p hp).2.1, (hg p hp).2.2.1⟩) fun y hy hN => ?_
    by_cases hx : y ∈ xs
    · exact ⟨_, List.mem_map.mpr ⟨y, hx, rfl⟩, rfl⟩
    · exact absurd hN (cl_part hc rfl ((zip_grp hl).mpr ⟨.inr rfl, rfl⟩) hy hx)
  | mat bs =>
    obtain ⟨a, qs, rfl, hl⟩ := lenS ok.len
    have oka := ok.part a (by simp)
    have hca := hfc a (by simp [nf])
    simp only [actT, matchedT, Option.map_eq_some_iff, Option.bind_eq_some_iff] at e
    obtain ⟨⟨m, l⟩, e1, ⟨⟨b, c⟩, p⟩, e2, rfl⟩ := e
    have hgl := mkA_good (P := fun q => Ok N F q ∧ clQ N q) (fun a b h => call_good (bs := []) h.1 h.2) oka ⟨oka, hca⟩ e1
    have hm := List.mem_of_find?_eq_some e2
    have hpp := List.find?_some e2
    simp at hpp
    refine put_good (ok.part p (List.mem_cons_of_mem _ (List.of_mem_zip hm).2)) (fun q hq => hgl q.2 (List.of_mem_zip (a := q.1) (b := q.2) hq).2) fun y hy hN => ?_
    by_cases hx : y ∈ c
    · obtain ⟨i, hi, rfl⟩ := List.getElem_of_mem hx
      refine ⟨(c[i], l[i]'(by omega)), ?_, rfl⟩
      have hi2 : i < (c.zip l).length := by rw [List.length_zip]; omega
      have : (c.zip l)[i] = (c[i], l[i]'(by omega)) := by simp
      rw [← this]
      exact List.getElem_mem hi2
    · exact absurd hN (cl_part hc rfl (zip_mat hm) hy hx)
  | call =>
    obtain ⟨a, b, rfl⟩ := lq2 ok.len
    obtain ⟨⟨oka, hca⟩, okb, hcb⟩ := call_good (bs := []) ok hc
    obtain ⟨ha, pa⟩ := a
    cases ha with
    | fn x =>
      obtain ⟨c, rfl⟩ := lq1 oka.len
      simp [actT, calledT] at e
      subst e
      exact one_good (oka.part c (by simp)) okb hcb fun y hy hne => cl_part hca rfl (p := c) (bs := [x]) (by simp [bnd]) hy (by simpa using hne)
    | grp xs =>
      obtain ⟨qs, d, rfl, hl⟩ := lenE oka.len
      simp only [actT, calledT, Option.map_eq_some_iff, Option.bind_eq_some_iff, List.dropLast_concat] at e
      obtain ⟨y, -, c, e2, rfl⟩ := e
      have hg := gv_good oka hca
      have hm := lk_zip_mem e2
      have h1 := put_good (l := gv xs qs) (oka.part c (List.mem_append.mpr (.inl hm))) (fun p hp => ⟨(hg p hp).2.1, (hg p hp).2.2.1⟩) fun y hy hN => by
        by_cases hx : y ∈ xs
        · exact ⟨_, List.mem_map.mpr ⟨y, hx, rfl⟩, rfl⟩
        · exact absurd hN (cl_part hca rfl ((zip_grp hl).mpr ⟨.inl hm, rfl⟩) hy hx)
      refine ⟨.mk rfl trivial ?_, ?_⟩
      · intro q hq
        rcases List.mem_cons.mp hq with rfl | hq
        · exact h1.1
        · rw [List.mem_singleton.mp hq]; exact okb
      · intro z hz
        rw [fv_nd rfl] at hz
        obtain ⟨q, bs, hz', hq, -⟩ := fvs_inv hz
        have := (List.of_mem_zip hz').1
        rcases List.mem_cons.mp this with rfl | h
        · exact h1.2 z hq
        · rw [List.mem_singleton.mp h] at hq; exact hcb z hq
    | call =>
      obtain ⟨c, d, rfl⟩ := lq2 oka.len
      simp only [actT, calledT, Option.map_eq_some_iff, Option.bind_eq_some_iff] at e
      obtain ⟨w, -, i, -, j, -, rfl⟩ := e
      exact reckT_ok
    | _ => simp [actT, calledT] at e
end
end TL
end

section
set_option Elab.async false
set_option linter.all false
set_option maxRecDepth 100000
/-! What is done at a place: the program's. -/
namespace TL
open PySem
theorem gv_keys {xs : List Str} {qs : List Tm} : (gv xs qs).map (·.1) = xs := by
  unfold gv
  rw [List.map_map]
  exact List.map_id xs
theorem gv_prT {xs : List Str} {qs : List Tm} (hl : qs.length = xs.length) : (gv xs qs).map prT = xs.map fun x => T.tup [.str x, .tup [.str k_group, .tup (List.zipWith pr xs (qs.map enc)), .tup [.str k_name, .str x]]] := by
  unfold gv
  rw [List.map_map]
  apply List.map_congr_left
  intro x hx
  show T.tup [.str x, enc (.nd (.grp xs) (qs ++ [nameT x]))] = _
  rw [enc_grp hl, enc_nameT]
theorem group_values {xs : List Str} {qs : List Tm} (hl : qs.length = xs.length) (k : Nat) : den cfg tb (k + 1) i_group_values [.tup (List.zipWith pr xs (qs.map enc))] = M.ret (.own (.lst ((gv xs qs).map prT))) := by
  have hl' : (qs.map enc).length = xs.length := by simpa using hl
  rw [den_fn (f := i_group_values) rfl rfl, gv_prT hl]
  simp
  rw [listM_zw (g := fun x t => T.tup [.str x, .tup [.str k_group, .tup (List.zipWith pr xs (qs.map enc)), .tup [.str k_name, .str x]]]) (by intro x hx t ht; simp [pr]), zw_fst (f := fun x => T.tup [.str x, .tup [.str k_group, .tup (List.zipWith pr xs (qs.map enc)), .tup [.str k_name, .str x]]]) hl']
  simp
theorem law_whole {xs : List Str} {qs : List Tm} (hl : qs.length = xs.length) (hn : xs.Nodup) (k : Nat) : den cfg tb (k + 1) i__law_whole [.tup (List.zipWith pr xs (qs.map enc))] = M.ret (.own (dT (gv xs qs))) := by
  have hl' : (qs.map enc).length = xs.length := by simpa using hl
  rw [den_fn (f := i__law_whole) rfl rfl]
  simp
  rw [listM_zw (g := fun x t => T.tup [.str x, .tup [.str k_group, .tup (List.zipWith pr xs (qs.map enc)), .tup [.str k_name, .str x]]]) (by intro x hx t ht; simp [pr]), zw_fst (f := fun x => T.tup [.str x, .tup [.str k_group, .tup (List.zipWith pr xs (qs.map enc)), .tup [.str k_name, .str x]]]) hl', ← gv_prT hl, ret_bind]
  have := dict_prT (l := gv xs qs) (by rw [gv_keys]; exact hn)
  simp only [val_o, bif_lst, b_dict_l, this, of_some, ret_bind, seq_rt, end_rt]
theorem reckoned {w : Str} (hw : strOk w = true) (i j : Int) (k : Nat) : den cfg tb (k + 1) i_reckoned [.str w, .int i, .int j] = M.ret (.fro (enc (reckT w i j))) := by
  rw [den_fn (f := i_reckoned) rfl rfl]
  unfold reckT
  by_cases h1 : w = k_add
  · simp [h1, enc_num]
  · by_cases h2 : w = k_sub
    · simp (decide := true) [h2, enc_num]
    · simp [h1, h2, hw, enc_tru, cmpD]
theorem find_lk {xs : List Str} {qs : List Tm} {y : Str} (hl : qs.length = xs.length) (hy : y ∈ xs) : ∃ c, lk (xs.zip qs) y = some c := by
  have := lk_zip (y := y) hl
  rw [decide_eq_true hy] at this
  exact Option.isSome_iff_exists.mp this
section
variable {N F S : List Str} {tm : Str → Option Tm} {ro : T} {K : Nat}
theorem fun_of_group (hN : Nms N F) (hNF : (N ++ F).length ≤ 280) {xs : List Str} {qs : List Tm} {d : Tm} (ok : Ok N F (.nd (.grp xs) (qs ++ [d]))) (hc : clQ N (.nd (.grp xs) (qs ++ [d]))) (hcn : cnt (.nd (.grp xs) (qs ++ [d])) ≤ 1000) (hh : ht (.nd (.grp xs) (qs ++ [d])) ≤ 31) {y : Str} {pd : List Tm} (e : d = .nd (.name y) pd) (hy : y ∈ xs) {c : Tm} (ec : lk (xs.zip qs) y = some c) {k : Nat} (hk : 80 ≤ k) : den cfg tb k i_fun_of_group [enc (.nd (.grp xs) (qs ++ [d]))] = M.ret (.fro (enc (subs (lk (gv xs qs)) c))) := by
  subst e
  obtain ⟨k, rfl⟩ : ∃ j, k = j + 1 := ⟨k - 1, by omega⟩
  have hl : qs.length = xs.length := by have := ok.len; simp [ar] at this; exact this
  have hg := gv_good ok hc
  have hp := dict_prT (l := xs.zip qs) (by rw [List.map_fst_zip (by omega)]; exact ok.hd.1)
  have hm := lk_zip_mem ec
  have hv := group_values hl (k - 1)
  rw [show k - 1 + 1 = k by omega] at hv
  have h2 := ht_nd (h := .grp xs) (p := c) (List.mem_append.mpr (.inl hm) : c ∈ qs ++ [Tm.nd (.name y) pd])
  have hcc : cnt c ≤ 1000 := by
    have := cnt_part (p := c) (List.mem_append.mpr (.inl hm) : c ∈ qs ++ [Tm.nd (.name y) pd])
    have e3 : cnt (.nd (.grp xs) (qs ++ [.nd (.name y) pd])) = cnts (qs ++ [.nd (.name y) pd]) + 1 := by rw [cnt]
    omega
  have hpa := put_all hN hNF (H := 31) (ok.part c (List.mem_append.mpr (.inl hm))) hcc (ps := gv xs qs) (by unfold gv; rw [List.length_map]; exact ok.hd.2.1) (by rw [gv_keys]; exact ok.hd.1) (fun p hp => by
    obtain ⟨h1, h2, h3, h4, h5⟩ := hg p hp
    exact ⟨h1, h2, h3, by omega, by omega⟩) (k := k) (by omega)
  rw [den_fn (f := i_fun_of_group) rfl rfl, enc_grp hl, enc_name]
  rw [zw_prT] at hv ⊢
  simp (decide := true) [hp, dT, keyOf, look_dT, ec, hv, hpa]
end
end TL
end

section
set_option Elab.async false
set_option linter.all false
set_option maxRecDepth 100000
namespace TL
open PySem
theorem isNum_of {t : Tm} (h : isNum t = true) : ∃ i ps, t = .nd (.num i) ps := by
  obtain ⟨hd, ps⟩ := t
  cases hd <;> first | (cases h; done) | exact ⟨_, _, rfl⟩
theorem nameOf_of {t : Tm} {x : Str} (h : nameOf t = some x) : ∃ ps, t = .nd (.name x) ps := by
  obtain ⟨hd, ps⟩ := t
  cases hd <;> first | (cases h; done) | skip
  cases h
  exact ⟨_, rfl⟩
section
variable {N F S : List Str} {tm : Str → Option Tm} {ro : T} {K : Nat}
theorem grp_called (hd : dn S (.nd (.grp xs) (qs ++ [d])) = true) : ∃ y pd, d = .nd (.name y) pd ∧ y ∈ xs := by
  rw [dn_grp] at hd
  cases e : nameOf d with
  | none => rw [e] at hd; cases hd
  | some y =>
    rw [e] at hd
    obtain ⟨pd, rfl⟩ := nameOf_of e
    exact ⟨y, pd, rfl, by simpa using hd⟩
theorem called_term (hN : Nms N F) (hNF : (N ++ F).length ≤ 280) (hr : RO ro S tm K) {a b : Tm} (ok : Ok N F (.nd .call [a, b])) (hc : clQ N (.nd .call [a, b])) (hcn : cnt (.nd .call [a, b]) ≤ 1000) (hh : ht (.nd .call [a, b]) ≤ 31) (da : dn S a = true) {k : Nat} (hk : 90 + K ≤ k) : den cfg tb k i_called_term [ro, enc a, enc b] = M.ret (.fro (encO (calledT a b))) := by
  obtain ⟨k, rfl⟩ : ∃ j, k = j + 1 := ⟨k - 1, by omega⟩
  obtain ⟨⟨oka, hca⟩, okb, hcb⟩ := call_good (bs := []) ok hc
  have hha := ht_nd (h := .call) (ps := [a, b]) (p := a) (by simp)
  have hhb := ht_nd (h := .call) (ps := [a, b]) (p := b) (by simp)
  have hcna := cnt_part (ps := [a, b]) (p := a) (by simp)
  have e3 : cnt (.nd .call [a, b]) = cnts [a, b] + 1 := by rw [cnt]
  rw [den_fn (f := i_called_term) rfl rfl]
  obtain ⟨ha, pa⟩ := a
  cases ha with
  | fn x =>
    obtain ⟨c, rfl⟩ := lq1 oka.len
    have h1 := ht_nd (h := .fn x) (ps := [c]) (p := c) (by simp)
    have := put_for hN (hN.str x (List.mem_append.mpr (.inl oka.hd))) okb hN hcb (oka.part c (by simp)) (k := k) (by omega) (by omega)
    rw [enc_fn]
    simp (decide := true) [this, calledT, encO]
  | grp xs =>
    obtain ⟨qs, d, rfl, hl⟩ := lenE oka.len
    obtain ⟨y, pd, rfl, hy⟩ := grp_called da
    obtain ⟨c, ec⟩ := find_lk hl hy
    have := fun_of_group hN hNF oka hca (by omega) (by omega) rfl hy ec (k := k) (by omega)
    rw [enc_grp hl] at this ⊢
    simp (decide := true) [this, calledT, encO, nameOf, ec, enc_call]
  | name x =>
    obtain rfl := lq0 oka.len
    have := hr.cls (k - K) x (hN.str x oka.hd)
    rw [show k - K + K = k by omega] at this
    rw [enc_name]
    simp (decide := true) [this, calledT, encO, isNon]
  | call =>
    obtain ⟨c, d, rfl⟩ := lq2 oka.len
    rw [enc_call]
    rw [dn_call] at da
    obtain ⟨hc', pc⟩ := c
    have okc := oka.part (.nd hc' pc) (by simp)
    obtain ⟨hb, pb⟩ := b
    obtain ⟨rb, eb⟩ := word_at okb.len
    cases hn : isName hc' with
    | true =>
      cases hc' <;> first | (cases hn; done) | skip
      rename_i w
      have hw := hN.str w okc.hd
      simp only [nameOf, Bool.and_eq_true] at da
      obtain ⟨i, pd, rfl⟩ := isNum_of da.2
      rw [enc_name, enc_num]
      by_cases hnb : isNum (.nd hb pb) = true
      · obtain ⟨j, pb', e⟩ := isNum_of hnb
        rw [e, enc_num]
        have := reckoned hw i j (k - 1)
        rw [show k - 1 + 1 = k by omega] at this
        simp (decide := true) [calledT, nameOf, numOf, this, encO]
      · have hwb : wordOf hb ≠ k_num := by
          rw [isNum_word] at hnb
          simpa using hnb
        have : numOf (.nd hb pb) = none := by cases hb <;> first | rfl | exact absurd rfl hnb
        rw [eb]
        simp (decide := true) [calledT, nameOf, this, word_ok, hwb, encO]
    | false =>
      obtain ⟨rc, ec⟩ := word_at okc.len
      rw [ec]
      simp (decide := true) [calledT, nameOf_none hn, word_ok, name_ne hn, encO]
  | _ =>
    obtain ⟨r, er⟩ := word_at oka.len
    simp only [wordOf] at er
    rw [er]
    simp (decide := true) [calledT, encO]
theorem field_get (hN : Nms N F) {x : Str} {a : Tm} (ok : Ok N F (.nd (.get x) [a])) (k : Nat) : den cfg tb (k + 1) i_field_term [enc (.nd (.get x) [a])] = M.ret (.fro (encO ((recOf a).bind fun r => lk (r.1.zip r.2) x))) := by
  have oka := ok.part a (by simp)
  have hx : strOk x = true := ok.hd
  rw [den_fn (f := i_field_term) rfl rfl, enc_get]
  obtain ⟨ha, pa⟩ := a
  by_cases hw : wordOf ha = k_rec
  · obtain ⟨xs, rfl⟩ : ∃ xs, ha = .rcd xs := by
      cases ha <;> first | exact ⟨_, rfl⟩ | (exfalso; simp only [wordOf] at hw; revert hw; decide +kernel)
    have hl : pa.length = xs.length := oka.len
    have hp := dict_prT (l := xs.zip pa) (by rw [List.map_fst_zip (by omega)]; exact oka.hd.1)
    rw [enc_rcd, zw_prT]
    have hnin : cmpD .nin (.str x) (dT (xs.zip pa)) = some (!(lk (xs.zip pa) x).isSome) := by
      unfold dT
      show (some (look _ _ (Sum.inr x)).isSome).map (!·) = _
      rw [look_dT, Option.isSome_map]
      rfl
    simp (decide := true) [hp, recOf, hnin]
    cases e : lk (xs.zip pa) x with
    | none => simp [encO]
    | some c => simp (decide := true) [encO, dT, keyOf, look_dT, e]
  · obtain ⟨r, er⟩ := word_at oka.len
    have : recOf (.nd ha pa) = none := by cases ha <;> first | rfl | exact absurd rfl hw
    rw [er]
    simp (decide := true) [word_ok, hw, this, encO]
end
end TL
end

section
set_option Elab.async false
set_option linter.all false
set_option maxRecDepth 100000
namespace TL
open PySem
def updL (x : Str) (b : Tm) (l : List (Str × Tm)) : List (Str × Tm) := l.map fun q => (q.1, if q.1 = x then b else q.2)
theorem zip_upd {x : Str} {b : Tm} : ∀ {xs : List Str} {pa : List Tm}, xs.zip (List.zipWith (fun y p => if y = x then b else p) xs pa) = updL x b (xs.zip pa)
  | [], _ => by simp [updL]
  | _ :: _, [] => by simp [updL]
  | y :: xs, p :: pa => by
    rw [List.zipWith_cons_cons, List.zip_cons_cons, List.zip_cons_cons, zip_upd]
    rfl
theorem upd_keys {x : Str} {b : Tm} {l : List (Str × Tm)} : (updL x b l).map (·.1) = l.map (·.1) := by
  unfold updL
  rw [List.map_map]
  rfl
theorem repl_dT {x : Str} {b : Tm} : ∀ {l : List (Str × Tm)}, replTs (l.map fun p => (Sum.inr p.1 : Key)) (l.map fun p => enc p.2) (.inr x) (enc b) = (updL x b l).map fun p => enc p.2
  | [] => rfl
  | (y, v) :: l => by
    show (if (Sum.inr y : Key) = Sum.inr x then enc b else enc v) :: replTs (l.map fun p => (Sum.inr p.1 : Key)) (l.map fun p => enc p.2) (.inr x) (enc b) = _
    rw [repl_dT]
    show _ = enc (if y = x then b else v) :: _
    by_cases h : y = x
    · rw [if_pos (by rw [h]), if_pos h]; rfl
    · rw [if_neg (fun e => h (by cases e; rfl)), if_neg h]; rfl
theorem any_dT {x : Str} {l : List (Str × Tm)} (h : x ∈ l.map (·.1)) : (l.map fun p => (Sum.inr p.1 : Key)).any (fun k => decide (k = Sum.inr x)) = true := by
  obtain ⟨q, hq, rfl⟩ := List.mem_map.mp h
  rw [List.any_eq_true]
  exact ⟨_, List.mem_map.mpr ⟨q, hq, rfl⟩, by simp⟩
theorem setM_dT {a c d : Slot} {l : List (Str × Tm)} {x : Str} {b : Tm} (hl : l.length < lim) (h : x ∈ l.map (·.1)) : setM [a, .own (dT l), c, d] 1 (.str x) (enc b) = M.ret (.nx [a, .own (dT (updL x b l)), c, d]) := by
  funext s
  have e : setD s (.own (dT l)) (.str x) (enc b) = some (.own (dT (updL x b l)), s) := by
    show (if (l.map fun p => (Sum.inr p.1 : Key)).length < lim then some (Slot.own (.dct (putKs (l.map fun p => (Sum.inr p.1 : Key)) (.inr x)) (putTs (l.map fun p => (Sum.inr p.1 : Key)) (l.map fun p => enc p.2) (.inr x) (enc b))), s) else none) = _
    rw [if_pos (by rw [List.length_map]; exact hl)]
    unfold putKs putTs
    rw [any_dT h, if_pos rfl, if_pos rfl, repl_dT]
    unfold dT
    rw [show (updL x b l).map (fun p => (Sum.inr p.1 : Key)) = l.map fun p => (Sum.inr p.1 : Key) by unfold updL; rw [List.map_map]; rfl]
  show (match setD s (.own (dT l)) (.str x) (enc b) with
    | some (sl, s') => some (Fl.nx ([a, .own (dT l), c, d].set 1 sl), s')
    | none => none) = _
  rw [e]
  rfl
section
variable {N F S : List Str} {tm : Str → Option Tm} {ro : T} {K : Nat}
theorem field_put (hN : Nms N F) {x : Str} {a b : Tm} (ok : Ok N F (.nd (.put x) [a, b])) (k : Nat) : den cfg tb (k + 1) i_field_term [enc (.nd (.put x) [a, b])] = M.ret (.fro (encO (actT tm (.nd (.put x) [a, b])))) := by
  have oka := ok.part a (by simp)
  have hx : strOk x = true := ok.hd
  rw [den_fn (f := i_field_term) rfl rfl, enc_put]
  obtain ⟨ha, pa⟩ := a
  by_cases hw : wordOf ha = k_rec
  · obtain ⟨xs, rfl⟩ : ∃ xs, ha = .rcd xs := by
      cases ha <;> first | exact ⟨_, rfl⟩ | (exfalso; simp only [wordOf] at hw; revert hw; decide +kernel)
    have hl : pa.length = xs.length := oka.len
    have hkeys : (xs.zip pa).map (·.1) = xs := List.map_fst_zip (by omega)
    have hnd : ((xs.zip pa).map (·.1)).Nodup := by rw [hkeys]; exact oka.hd.1
    have hp := dict_prT hnd
    rw [enc_rcd, zw_prT]
    have hnin : cmpD .nin (.str x) (dT (xs.zip pa)) = some (!(decide (x ∈ xs))) := by
      unfold dT
      show (some (look _ _ (Sum.inr x)).isSome).map (!·) = _
      rw [look_dT, Option.isSome_map, lk_zip hl]
      rfl
    have hlim : (xs.zip pa).length < lim := by
      rw [List.length_zip]
      have := oka.hd.2.1
      exact Nat.lt_of_le_of_lt (by omega) (show 16 < lim by decide +kernel)
    by_cases hxx : x ∈ xs
    · simp (decide := true) [hp, hnin, hxx, setM_dT hlim (by rw [hkeys]; exact hxx)]
      rw [listM_map (mk := prT) (g := fun q => prT (q.1, if q.1 = x then b else q.2)) (by
        intro q hq
        have hk2 : lk (updL x b (xs.zip pa)) q.1 = some (if q.1 = x then b else q.2) := lk_self (q := (q.1, if q.1 = x then b else q.2)) (by rw [upd_keys]; exact hnd) (List.mem_map.mpr ⟨q, hq, rfl⟩)
        simp [prT, dT, keyOf, look_dT, hk2])]
      have : actT tm (.nd (.put x) [.nd (.rcd xs) pa, b]) = some (.nd (.rcd xs) (List.zipWith (fun y p => if y = x then b else p) xs pa)) := by
        simp [actT, recOf, hxx]
      rw [this]
      show _ = M.ret (R.fro (enc _))
      rw [enc_rcd, zw_prT, zip_upd]
      unfold updL
      rw [List.map_map]
      simp
      rfl
    · have : actT tm (.nd (.put x) [.nd (.rcd xs) pa, b]) = none := by simp [actT, recOf, hxx]
      rw [this]
      simp (decide := true) [hp, hnin, hxx, encO]
  · obtain ⟨r, er⟩ := word_at oka.len
    have : actT tm (.nd (.put x) [.nd ha pa, b]) = none := by cases ha <;> first | rfl | exact absurd rfl hw
    rw [er]
    simp (decide := true) [word_ok, hw, this, encO]
theorem loop_find {α : Type} {f : T → Env → M Fl} {mk : α → T} {Inv : Env → Prop} {p : α → Bool} {r : α → R} : ∀ (l : List α) {ρ : Env}, (∀ q ∈ l, ∀ ρ, Inv ρ → if p q = true then f (mk q) ρ = M.ret (.rt (r q)) else ∃ ρ', f (mk q) ρ = M.ret (.nx ρ') ∧ Inv ρ') → Inv ρ → (match l.find? p with
    | some q => loopF f (l.map mk) ρ = M.ret (.rt (r q))
    | none => ∃ ρ', loopF f (l.map mk) ρ = M.ret (.nx ρ') ∧ Inv ρ')
  | [], ρ, _, h => ⟨ρ, rfl, h⟩
  | a :: l, ρ, hs, h => by
    have h1 := hs a List.mem_cons_self ρ h
    rw [List.find?_cons]
    cases e : p a with
    | true =>
      rw [e, if_pos rfl] at h1
      show M.bind (f (mk a) ρ) _ = _
      rw [h1, ret_bind]
    | false =>
      rw [e, if_neg (by simp)] at h1
      obtain ⟨ρ1, e1, h1⟩ := h1
      have h2 := loop_find l (fun q hq => hs q (List.mem_cons_of_mem _ hq)) h1
      have e2 : loopF f ((a :: l).map mk) ρ = loopF f (l.map mk) ρ1 := by
        show M.bind (f (mk a) ρ) _ = _
        rw [e1, ret_bind]
      rw [e2]
      exact h2
theorem loopF_bind {α γ : Type} {f : T → Env → M Fl} {mk : α → T} {l : List α} {ρ : Env} {K : Fl → M γ} {res : M γ} (Inv : Env → Prop) (p : α → Bool) (r : α → R) (hs : ∀ q ∈ l, ∀ ρ, Inv ρ → if p q = true then f (mk q) ρ = M.ret (.rt (r q)) else ∃ ρ', f (mk q) ρ = M.ret (.nx ρ') ∧ Inv ρ') (h0 : Inv ρ) (h1 : ∀ q, l.find? p = some q → K (.rt (r q)) = res) (h2 : ∀ ρ', l.find? p = none → Inv ρ' → K (.nx ρ') = res) : M.bind (loopF f (l.map mk) ρ) K = res := by
  have := loop_find (f := f) (mk := mk) (Inv := Inv) (p := p) (r := r) l hs h0
  cases e : l.find? p with
  | some q =>
    rw [e] at this
    have this : loopF f (l.map mk) ρ = M.ret (.rt (r q)) := this
    rw [this, ret_bind, h1 q e]
  | none =>
    rw [e] at this
    obtain ⟨ρ', e1, h⟩ := this
    rw [e1, ret_bind, h2 ρ' e h]
def brq (q : (Str × List Str) × Tm) : T := br q.1 (enc q.2)
theorem zw_brq {bs : List (Str × List Str)} {qs : List Tm} : List.zipWith br bs (qs.map enc) = (bs.zip qs).map brq := by
  rw [List.zipWith_map_right, ← List.map_uncurry_zip_eq_zipWith]
  rfl
theorem zip_prT {xs : List Str} {l : List Tm} : ((xs.map T.str).zip (l.map enc)).map pairT = (xs.zip l).map prT := by
  rw [List.zip_map, List.map_map]
  rfl
theorem mkA_str {a : Tm} (oka : Ok N F a) {m : Str} {l : List Tm} (e : mkA a = some (m, l)) : strOk m = true := by
  obtain ⟨h, ps, e1, _, okh, _, _⟩ := spine_inv (P := fun _ => True) (fun _ _ _ => ⟨trivial, trivial⟩) oka trivial (acc := []) (by intro q hq; cases hq)
  unfold mkA at e
  revert e e1
  cases spine a [] with
  | mk u acc =>
    intro e e1
    have e1 : u = .nd h ps := e1
    subst e1
    cases h <;> first | (cases e; done) | skip
    cases e
    exact okh.hd
/-- what a branch needs -/
theorem branch_ok (hN : Nms N F) {bs : List (Str × List Str)} {a : Tm} {qs : List Tm} (ok : Ok N F (.nd (.mat bs) (a :: qs))) (hc : clQ N (.nd (.mat bs) (a :: qs))) (hcn : cnt (.nd (.mat bs) (a :: qs)) ≤ 1000) (hh : ht (.nd (.mat bs) (a :: qs)) ≤ 31) {m : Str} {l : List Tm} (e : mkA a = some (m, l)) {q : (Str × List Str) × Tm} (hq : q ∈ bs.zip qs) (hle : q.1.2.length = l.length) :
    strOk m = true ∧ Ok N F q.2 ∧ cnt q.2 ≤ 1000 ∧ ht q.2 ≤ 31 ∧ strOk q.1.1 = true ∧ (q.1.2.zip l).length ≤ 16 ∧ ((q.1.2.zip l).map (·.1)).Nodup ∧ (∀ p ∈ q.1.2.zip l, p.1 ∈ N ∧ Ok N F p.2 ∧ (∀ y ∈ fv p.2, y ∉ N) ∧ cnt p.2 ≤ 1000 ∧ ht p.2 ≤ 31 + 1) := by
  have oka := ok.part a (by simp)
  have hca := first_cl ok hc a (by simp [nf])
  have hca2 : cnt a ≤ 1000 := by
    have := cnt_part (ps := a :: qs) (p := a) (by simp)
    rw [cnt] at hcn
    omega
  have hha := ht_nd (h := .mat bs) (ps := a :: qs) (p := a) (by simp)
  have hgl := mkA_good (P := fun q => (Ok N F q ∧ clQ N q) ∧ cnt q ≤ 1000 ∧ ht q ≤ 32) (fun a b h => by
    have h1 := call_good (bs := []) h.1.1 h.1.2
    have h2 := ht_nd (h := .call) (ps := [a, b]) (p := a) (by simp)
    have h3 := ht_nd (h := .call) (ps := [a, b]) (p := b) (by simp)
    have h4 := cnt_part (ps := [a, b]) (p := a) (by simp)
    have h5 := cnt_part (ps := [a, b]) (p := b) (by simp)
    have h6 := h.2.1
    rw [cnt] at h6
    exact ⟨⟨h1.1, by omega, by omega⟩, h1.2, by omega, by omega⟩) oka ⟨⟨oka, hca⟩, hca2, by omega⟩ e
  have hqm := (List.of_mem_zip (a := q.1) (b := q.2) hq)
  have hb := ok.hd.2 q.1 hqm.1
  have hqq : q.2 ∈ a :: qs := List.mem_cons_of_mem _ hqm.2
  have hm : strOk m = true := by
    obtain ⟨h, ps, e1, _, okh, _, _⟩ := spine_inv (P := fun _ => True) (fun _ _ _ => ⟨trivial, trivial⟩) oka trivial (acc := []) (by intro q hq; cases hq)
    unfold mkA at e
    revert e e1
    cases spine a [] with
    | mk u acc =>
      intro e e1
      have e1 : u = .nd h ps := e1
      subst e1
      cases h <;> first | (cases e; done) | skip
      cases e
      exact okh.hd
  refine ⟨hm, ok.part q.2 hqq, ?_, ?_, hb.1, ?_, ?_, ?_⟩
  · have := cnt_part hqq
    rw [cnt] at hcn
    omega
  · have := ht_nd (h := .mat bs) hqq
    omega
  · rw [List.length_zip]
    have := hb.2.2.1
    omega
  · rw [List.map_fst_zip (by omega)]
    exact hb.2.1
  · intro p hp
    obtain ⟨h1, h2⟩ := List.of_mem_zip (a := p.1) (b := p.2) hp
    obtain ⟨⟨h3, h4⟩, h5, h6⟩ := hgl p.2 h2
    exact ⟨hb.2.2.2 p.1 h1, h3, h4, h5, by omega⟩
theorem matched_term (hN : Nms N F) (hNF : (N ++ F).length ≤ 280) {bs : List (Str × List Str)} {a : Tm} {qs : List Tm} (ok : Ok N F (.nd (.mat bs) (a :: qs))) (hc : clQ N (.nd (.mat bs) (a :: qs))) (hcn : cnt (.nd (.mat bs) (a :: qs)) ≤ 1000) (hh : ht (.nd (.mat bs) (a :: qs)) ≤ 31) {k : Nat} (hk : 90 ≤ k) : den cfg tb k i_matched_term [enc (.nd (.mat bs) (a :: qs))] = M.ret (.fro (encO (matchedT bs a qs))) := by
  obtain ⟨k, rfl⟩ : ∃ j, k = j + 1 := ⟨k - 1, by omega⟩
  have oka := ok.part a (by simp)
  have hha := ht_nd (h := .mat bs) (ps := a :: qs) (p := a) (by simp)
  have hmk := mark_of hN oka (by omega) (k - 1)
  rw [show k - 1 + 1 = k by omega] at hmk
  rw [den_fn (f := i_matched_term) rfl rfl, enc_mat, zw_brq]
  unfold matchedT
  cases e : mkA a with
  | none =>
    rw [e] at hmk
    simp (decide := true) [hmk, encM, isNon, encO]
  | some ml =>
    obtain ⟨m, l⟩ := ml
    rw [e] at hmk
    simp (decide := true) [hmk, encM, isNon]
    refine loopF_bind (fun ρ => ∃ s2 s3 s4, ρ = [.fro (.tup [.str k_match, enc a, .tup ((bs.zip qs).map brq)]), .fro (.tup [.str m, .lst (l.map enc)]), s2, s3, s4]) (fun b => decide (b.1.1 = m) && decide (b.1.2.length = l.length)) (fun q => .fro (enc (subs (lk (q.1.2.zip l)) q.2))) ?_ ⟨_, _, _, rfl⟩ ?_ ?_
    · rintro ⟨⟨mk, ns⟩, q⟩ hq ρ ⟨s2, s3, s4, rfl⟩
      have hb := ok.hd.2 (mk, ns) (List.of_mem_zip hq).1
      have hsm : strOk m = true := mkA_str oka e
      by_cases h1 : mk = m
      · by_cases h2 : ns.length = l.length
        · obtain ⟨_, h3, h4, h5, h6, h7, h8, h9⟩ := branch_ok hN ok hc hcn hh e hq h2
          have := put_all hN hNF (H := 31) h3 h4 h7 h8 h9 (k := k) (by have : ht q ≤ 31 := h5; omega)
          simp [h1, h2, brq, br, nsT, hsm, zip_prT, this, eqT]
        · have hne : ¬ ((ns.length : Int) = l.length) := by omega
          simp [h1, h2, brq, br, nsT, hsm, eqT, hne]
          exact ⟨_, rfl, _, _, _, rfl⟩
      · simp [h1, brq, br, nsT, hsm, hb.1]
        exact ⟨_, rfl, _, _, _, rfl⟩
    · intro q hq
      simp [hq, encO]
    · rintro ρ' hf ⟨s2, s3, s4, rfl⟩
      simp [hf, encO]
end
end TL
end

section
set_option Elab.async false
set_option linter.all false
set_option maxRecDepth 100000
namespace TL
open PySem
section
variable {N F S : List Str} {tm : Str → Option Tm} {ro : T} {K : Nat}
/-- a term small enough to be stepped -/
structure Gd (N F : List Str) (t : Tm) : Prop where
  ok : Ok N F t
  cl : clQ N t
  cnt : cnt t ≤ 1000
  dep : dep (enc t) ≤ 31
theorem Gd.ht {t : Tm} (h : Gd N F t) : ht t ≤ 31 := Nat.le_trans (ht_dep h.ok) h.dep
theorem Gd.first {h : Hh} {ps : List Tm} (g : Gd N F (.nd h ps)) : ∀ p ∈ ps.take (nf h), Gd N F p := fun p hp =>
  have hm : p ∈ ps := List.mem_of_mem_take hp
  ⟨g.ok.part p hm, first_cl g.ok g.cl p hp, by
    have h1 := cnt_part hm
    have h2 := g.cnt
    rw [TL.cnt] at h2
    omega, by
    have h1 := dep_part g.ok.len p hm
    have h2 := g.dep
    omega⟩
theorem acted (hN : Nms N F) (hNF : (N ++ F).length ≤ 280) (hr : RO ro S tm K) {t : Tm} (g : Gd N F t) (hf : ∀ h ps, t = .nd h ps → ∀ p ∈ ps.take (nf h), dn S p = true) {k : Nat} (hk : 100 + K ≤ k) : den cfg tb k i_acted [ro, enc t] = M.ret (.fro (encO (actT tm t))) := by
  obtain ⟨k, rfl⟩ : ∃ j, k = j + 1 := ⟨k - 1, by omega⟩
  obtain ⟨h, ps⟩ := t
  have hf := hf h ps rfl
  have ok := g.ok
  have hh := g.ht
  have hc := g.cl
  have hcn := g.cnt
  rw [den_fn (f := i_acted) rfl rfl]
  cases h with
  | name x =>
    obtain rfl := lq0 ok.len
    have := hr.term (k - K) x (hN.str x ok.hd)
    rw [show k - K + K = k by omega] at this
    rw [enc_name]
    simp (decide := true) [this, actT]
    rfl
  | call =>
    obtain ⟨a, b, rfl⟩ := lq2 ok.len
    have := called_term hN hNF hr ok hc hcn hh (hf a (by simp [nf])) (k := k) (by omega)
    rw [enc_call]
    simp (decide := true) [this, actT]
  | lt x =>
    obtain ⟨a, b, rfl⟩ := lq2 ok.len
    have h1 := ht_nd (h := .lt x) (ps := [a, b]) (p := a) (by simp)
    have h2 := ht_nd (h := .lt x) (ps := [a, b]) (p := b) (by simp)
    have := put_for hN (hN.str x (List.mem_append.mpr (.inl ok.hd))) (ok.part a (by simp)) hN (first_cl ok hc a (by simp [nf])) (ok.part b (by simp)) (k := k) (by omega) (by omega)
    rw [enc_lt]
    simp (decide := true) [this, actT, encO]
  | grp xs =>
    obtain ⟨qs, b, rfl, hl⟩ := lenE ok.len
    have hg := gv_good ok hc
    have hv := group_values hl (k - 1)
    rw [show k - 1 + 1 = k by omega] at hv
    have h2 := ht_nd (h := .grp xs) (ps := qs ++ [b]) (p := b) (by simp)
    have h3 := cnt_part (ps := qs ++ [b]) (p := b) (by simp)
    have h4 : cnt (.nd (.grp xs) (qs ++ [b])) = cnts (qs ++ [b]) + 1 := by rw [TL.cnt]
    have hpa := put_all hN hNF (H := 31) (ok.part b (by simp)) (by omega) (ps := gv xs qs) (by unfold gv; rw [List.length_map]; exact ok.hd.2.1) (by rw [gv_keys]; exact ok.hd.1) (fun p hp => by
      obtain ⟨h1, h2, h3, h4, h5⟩ := hg p hp
      exact ⟨h1, h2, h3, by omega, by omega⟩) (k := k) (by omega)
    rw [enc_grp hl]
    simp (decide := true) [hv, hpa, actT, encO]
  | ite =>
    obtain ⟨a, b, c, rfl⟩ := lq3 ok.len
    obtain ⟨ha, pa⟩ := a
    have oka := ok.part (.nd ha pa) (by simp)
    rw [enc_ite]
    by_cases hw : wordOf ha = k_truth
    · obtain ⟨v, rfl⟩ : ∃ v, ha = .tru v := by
        cases ha <;> first | exact ⟨_, rfl⟩ | (exfalso; simp only [wordOf] at hw; revert hw; decide +kernel)
      rw [enc_tru]
      cases v <;> simp (decide := true) [actT, truOf, encO]
    · have : truOf (.nd ha pa) = none := by cases ha <;> first | rfl | exact absurd rfl hw
      obtain ⟨r, er⟩ := word_at oka.len
      rw [er]
      simp (decide := true) [word_ok, hw, actT, this, encO]
  | get x =>
    obtain ⟨a, rfl⟩ := lq1 ok.len
    have := field_get hN ok (k - 1)
    rw [show k - 1 + 1 = k by omega, enc_get] at this
    rw [enc_get]
    simp (decide := true) [this, actT]
  | put x =>
    obtain ⟨a, b, rfl⟩ := lq2 ok.len
    have := field_put (tm := tm) hN ok (k - 1)
    rw [show k - 1 + 1 = k by omega, enc_put] at this
    rw [enc_put]
    simp (decide := true) [this]
  | mat bs =>
    obtain ⟨a, qs, rfl, hl⟩ := lenS ok.len
    have := matched_term hN hNF ok hc hcn hh (k := k) (by omega)
    rw [enc_mat] at this ⊢
    simp (decide := true) [this, actT]
  | told x =>
    obtain ⟨a, rfl⟩ := lq1 ok.len
    rw [enc_told]
    simp (decide := true) [actT, encO]
  | _ =>
    obtain ⟨r, er⟩ := word_at ok.len
    simp only [wordOf] at er
    rw [er]
    simp (decide := true) [actT, encO]
/-! the law's -/
theorem dsp_one {x : Str} {v : Tm} : (altOf [.str x, enc v]).bind (fun ps => if ps.length ≤ 15 then some (R.own (.dct (pairsIn ps [] []).1 (pairsIn ps [] []).2)) else none) = some (.own (dT [(x, v)])) := rfl
theorem law_called (hN : Nms N F) {a b : Tm} (ok : Ok N F (.nd .call [a, b])) (hh : ht (.nd .call [a, b]) ≤ 31) (da : dn S a = true) {k : Nat} (hk : 90 ≤ k) : den cfg tb k i__law_called [enc (.nd .call [a, b])] = M.ret (.fro (encO (calledT a b))) := by
  obtain ⟨k, rfl⟩ : ∃ j, k = j + 1 := ⟨k - 1, by omega⟩
  have oka := ok.part a (by simp)
  have okb := ok.part b (by simp)
  have hha := ht_nd (h := .call) (ps := [a, b]) (p := a) (by simp)
  have hhb := ht_nd (h := .call) (ps := [a, b]) (p := b) (by simp)
  rw [den_fn (f := i__law_called) rfl rfl, enc_call]
  obtain ⟨ha, pa⟩ := a
  cases ha with
  | fn x =>
    obtain ⟨c, rfl⟩ := lq1 oka.len
    have h1 := ht_nd (h := .fn x) (ps := [c]) (p := c) (by simp)
    have := law_put hN (oka.part c (by simp)) (l := [(x, b)]) (by simp) (k := k) (by omega)
    rw [enc_fn]
    rw [lk_one] at this
    simp (decide := true) [dsp_one, this, calledT, encO]
  | grp xs =>
    obtain ⟨qs, d, rfl, hl⟩ := lenE oka.len
    obtain ⟨y, pd, rfl, hy⟩ := grp_called da
    obtain ⟨c, ec⟩ := find_lk hl hy
    have hm := lk_zip_mem ec
    have h1 := ht_nd (h := .grp xs) (p := c) (List.mem_append.mpr (.inl hm) : c ∈ qs ++ [Tm.nd (.name y) pd])
    have hp := dict_prT (l := xs.zip qs) (by rw [List.map_fst_zip (by omega)]; exact oka.hd.1)
    have hw := law_whole hl oka.hd.1 (k - 1)
    rw [show k - 1 + 1 = k by omega] at hw
    have := law_put hN (oka.part c (List.mem_append.mpr (.inl hm))) (l := gv xs qs) (by rw [gv_keys]; exact oka.hd.1) (k := k) (by omega)
    rw [enc_grp hl, enc_name]
    rw [zw_prT] at hw ⊢
    simp (decide := true) [hp, hw, dT, keyOf, look_dT, ec]
    simp only [dT] at this
    simp (decide := true) [this, calledT, encO, nameOf, ec, enc_call]
  | name x =>
    obtain rfl := lq0 oka.len
    rw [enc_name]
    simp (decide := true) [calledT, encO]
  | call =>
    obtain ⟨c, d, rfl⟩ := lq2 oka.len
    rw [enc_call]
    rw [dn_call] at da
    obtain ⟨hc', pc⟩ := c
    have okc := oka.part (.nd hc' pc) (by simp)
    obtain ⟨hb, pb⟩ := b
    obtain ⟨rb, eb⟩ := word_at okb.len
    cases hn : isName hc' with
    | true =>
      cases hc' <;> first | (cases hn; done) | skip
      rename_i w
      have hw := hN.str w okc.hd
      simp only [nameOf, Bool.and_eq_true] at da
      obtain ⟨i, pd, rfl⟩ := isNum_of da.2
      have hwr : w ∈ reck := by simpa using da.1
      rw [enc_name, enc_num]
      by_cases hnb : isNum (.nd hb pb) = true
      · obtain ⟨j, pb', e⟩ := isNum_of hnb
        rw [e, enc_num]
        have : w = k_add ∨ w = k_sub ∨ w = k_less := by simpa [reck] using hwr
        rcases this with rfl | rfl | rfl
        · simp (decide := true) [calledT, nameOf, numOf, encO, reckT, enc_num, altOf, keyOf]
          rfl
        · simp (decide := true) [calledT, nameOf, numOf, encO, reckT, enc_num, altOf, keyOf]
          rfl
        · simp (decide := true) [calledT, nameOf, numOf, encO, reckT, enc_tru, cmpD]
      · have hwb : wordOf hb ≠ k_num := by
          rw [isNum_word] at hnb
          simpa using hnb
        have : numOf (.nd hb pb) = none := by cases hb <;> first | rfl | exact absurd rfl hnb
        rw [eb]
        simp (decide := true) [calledT, nameOf, this, word_ok, hwb, encO]
    | false =>
      obtain ⟨rc, ec⟩ := word_at okc.len
      rw [ec]
      simp (decide := true) [calledT, nameOf_none hn, word_ok, name_ne hn, encO]
  | _ =>
    obtain ⟨r, er⟩ := word_at oka.len
    simp only [wordOf] at er
    rw [er]
    simp (decide := true) [calledT, encO]
end
end TL
end

section
set_option Elab.async false
set_option linter.all false
set_option maxRecDepth 100000
namespace TL
open PySem
section
variable {N F S : List Str} {L : List (Str × Tm)}
theorem get_dT {x : Str} : getD (dT L) (.str x) .non = some (encO (lk L x)) := by
  show (some (Sum.inr x)).map (fun k => (look (L.map fun p => .inr p.1) (L.map fun p => enc p.2) k).getD .non) = _
  rw [Option.map_some, look_dT]
  cases lk L x <;> rfl
theorem dzip_dT {xs : List Str} {l : List Tm} (h : (( xs.zip l).map (·.1)).Nodup) : (pairsOf (((xs.map T.str).zip (l.map enc)).map pairT)).map (fun qs => R.own (.dct (pairsIn qs [] []).1 (pairsIn qs [] []).2)) = some (.own (dT (xs.zip l))) := by
  rw [zip_prT, dict_prT h]
theorem law_acted (hN : Nms N F) {t : Tm} (g : Gd N F t) (hf : ∀ h ps, t = .nd h ps → ∀ p ∈ ps.take (nf h), dn S p = true) {k : Nat} (hk : 100 ≤ k) : den cfg tb k i__law_acted [enc t, dT L] = M.ret (.fro (encO (actT (lk L) t))) := by
  obtain ⟨k, rfl⟩ : ∃ j, k = j + 1 := ⟨k - 1, by omega⟩
  obtain ⟨h, ps⟩ := t
  have hf := hf h ps rfl
  have ok := g.ok
  have hh := g.ht
  have hc := g.cl
  have hcn := g.cnt
  rw [den_fn (f := i__law_acted) rfl rfl]
  cases h with
  | name x =>
    obtain rfl := lq0 ok.len
    rw [enc_name]
    simp (decide := true) [get_dT, actT]
  | call =>
    obtain ⟨a, b, rfl⟩ := lq2 ok.len
    have := law_called hN ok hh (hf a (by simp [nf])) (k := k) (by omega)
    rw [enc_call] at this ⊢
    simp (decide := true) [this, actT]
  | lt x =>
    obtain ⟨a, b, rfl⟩ := lq2 ok.len
    have h2 := ht_nd (h := .lt x) (ps := [a, b]) (p := b) (by simp)
    have := law_put hN (ok.part b (by simp)) (l := [(x, a)]) (by simp) (k := k) (by omega)
    rw [lk_one] at this
    rw [enc_lt]
    simp (decide := true) [dsp_one, this, actT, encO]
  | grp xs =>
    obtain ⟨qs, b, rfl, hl⟩ := lenE ok.len
    have hw := law_whole hl ok.hd.1 (k - 1)
    rw [show k - 1 + 1 = k by omega] at hw
    have h2 := ht_nd (h := .grp xs) (ps := qs ++ [b]) (p := b) (by simp)
    have := law_put hN (ok.part b (by simp)) (l := gv xs qs) (by rw [gv_keys]; exact ok.hd.1) (k := k) (by omega)
    rw [enc_grp hl]
    simp (decide := true) [hw, this, actT, encO]
  | ite =>
    obtain ⟨a, b, c, rfl⟩ := lq3 ok.len
    obtain ⟨ha, pa⟩ := a
    have oka := ok.part (.nd ha pa) (by simp)
    rw [enc_ite]
    by_cases hw : wordOf ha = k_truth
    · obtain ⟨v, rfl⟩ : ∃ v, ha = .tru v := by
        cases ha <;> first | exact ⟨_, rfl⟩ | (exfalso; simp only [wordOf] at hw; revert hw; decide +kernel)
      rw [enc_tru]
      cases v <;> simp (decide := true) [actT, truOf, encO]
    · have : truOf (.nd ha pa) = none := by cases ha <;> first | rfl | exact absurd rfl hw
      obtain ⟨r, er⟩ := word_at oka.len
      rw [er]
      simp (decide := true) [word_ok, hw, actT, this, encO]
  | get x =>
    obtain ⟨a, rfl⟩ := lq1 ok.len
    have oka := ok.part a (by simp)
    obtain ⟨ha, pa⟩ := a
    rw [enc_get]
    by_cases hw : wordOf ha = k_rec
    · obtain ⟨xs, rfl⟩ : ∃ xs, ha = .rcd xs := by
        cases ha <;> first | exact ⟨_, rfl⟩ | (exfalso; simp only [wordOf] at hw; revert hw; decide +kernel)
      have hl : pa.length = xs.length := oka.len
      have hp := dict_prT (l := xs.zip pa) (by rw [List.map_fst_zip (by omega)]; exact oka.hd.1)
      rw [enc_rcd, zw_prT]
      have hin : cmpD .inn (.str x) (dT (xs.zip pa)) = some (lk (xs.zip pa) x).isSome := by
        unfold dT
        show some (look _ _ (Sum.inr x)).isSome = _
        rw [look_dT, Option.isSome_map]
      cases e : lk (xs.zip pa) x with
      | none => simp (decide := true) [hp, hin, e, actT, recOf, encO]
      | some c => simp (decide := true) [hp, hin, e, actT, recOf, encO]; simp (decide := true) [dT, keyOf, look_dT, e]
    · have : recOf (.nd ha pa) = none := by cases ha <;> first | rfl | exact absurd rfl hw
      obtain ⟨r, er⟩ := word_at oka.len
      rw [er]
      simp (decide := true) [word_ok, hw, actT, this, encO]
  | put x =>
    obtain ⟨a, b, rfl⟩ := lq2 ok.len
    have hx : strOk x = true := ok.hd
    have oka := ok.part a (by simp)
    obtain ⟨ha, pa⟩ := a
    rw [enc_put]
    by_cases hw : wordOf ha = k_rec
    · obtain ⟨xs, rfl⟩ : ∃ xs, ha = .rcd xs := by
        cases ha <;> first | exact ⟨_, rfl⟩ | (exfalso; simp only [wordOf] at hw; revert hw; decide +kernel)
      have hl : pa.length = xs.length := oka.len
      have hp := dict_prT (l := xs.zip pa) (by rw [List.map_fst_zip (by omega)]; exact oka.hd.1)
      rw [enc_rcd, zw_prT]
      have hin : cmpD .inn (.str x) (dT (xs.zip pa)) = some (decide (x ∈ xs)) := by
        unfold dT
        show some (look _ _ (Sum.inr x)).isSome = _
        rw [look_dT, Option.isSome_map, lk_zip hl]
      by_cases e : x ∈ xs
      · simp (decide := true) [hp, hin, e, actT, recOf, encO]
        rw [listM_map (mk := prT) (g := fun q => prT (q.1, if q.1 = x then b else q.2)) (by
          intro q hq
          have hq1 := oka.hd.2.2 q.1 (List.of_mem_zip (a := q.1) (b := q.2) hq).1
          by_cases h : q.1 = x <;> simp [prT, hq1, hx, h])]
        rw [enc_rcd, zw_prT, zip_upd]
        unfold updL
        rw [List.map_map]
        simp
        rfl
      · simp (decide := true) [hp, hin, e, actT, recOf, encO]
    · have : recOf (.nd ha pa) = none := by cases ha <;> first | rfl | exact absurd rfl hw
      obtain ⟨r, er⟩ := word_at oka.len
      rw [er]
      simp (decide := true) [word_ok, hw, actT, this, encO]
  | mat bs =>
    obtain ⟨a, qs, rfl, hl⟩ := lenS ok.len
    have oka := ok.part a (by simp)
    have hha := ht_nd (h := .mat bs) (ps := a :: qs) (p := a) (by simp)
    have hmk := law_marks hN oka (by omega) (k - 1)
    rw [show k - 1 + 1 = k by omega] at hmk
    rw [enc_mat, zw_brq]
    have eact : actT (lk L) (.nd (.mat bs) (a :: qs)) = matchedT bs a qs := rfl
    rw [eact]
    unfold matchedT
    cases e : mkA a with
    | none =>
      rw [e] at hmk
      simp (decide := true) [hmk, encM, isNon, encO]
    | some ml =>
      obtain ⟨m, l⟩ := ml
      rw [e] at hmk
      simp (decide := true) [hmk, encM, isNon]
      refine loopF_bind (fun ρ => ∃ s5 s6 s7, ρ = [.fro (.tup [.str k_match, enc a, .tup ((bs.zip qs).map brq)]), .fro (dT L), .fro (.str k_match), .fro (.str m), .fro (.lst (l.map enc)), s5, s6, s7, .non, .non]) (fun b => decide (b.1.1 = m) && decide (b.1.2.length = l.length)) (fun q => .fro (enc (subs (lk (q.1.2.zip l)) q.2))) ?_ ⟨_, _, _, rfl⟩ ?_ ?_
      · rintro ⟨⟨mk, ns⟩, q⟩ hq ρ ⟨s2, s3, s4, rfl⟩
        have hb := ok.hd.2 (mk, ns) (List.of_mem_zip hq).1
        have hsm : strOk m = true := mkA_str oka e
        by_cases h1 : mk = m
        · by_cases h2 : ns.length = l.length
          · obtain ⟨_, h3, h4, h5, h6, h7, h8, h9⟩ := branch_ok hN ok hc hcn hh e hq h2
            have := law_put hN h3 (l := ns.zip l) h8 (k := k) (by have : ht q ≤ 31 := h5; omega)
            have hz := zip_prT (xs := ns) (l := l)
            have hd := dict_prT h8
            simp only [] at hd
            simp [h1, h2, brq, br, nsT, hsm, hz, hd, this, eqT]
          · have hne : ¬ ((ns.length : Int) = l.length) := by omega
            simp [h1, h2, brq, br, nsT, hsm, eqT, hne]
            exact ⟨_, rfl, _, _, _, rfl⟩
        · simp [h1, brq, br, nsT, hsm, hb.1]
          exact ⟨_, rfl, _, _, _, rfl⟩
      · intro q hq
        simp [hq, encO]
      · rintro ρ' hf ⟨s2, s3, s4, rfl⟩
        simp (decide := true) [hf, encO]
  | told x =>
    obtain ⟨a, rfl⟩ := lq1 ok.len
    rw [enc_told]
    simp (decide := true) [actT, encO]
  | _ =>
    obtain ⟨r, er⟩ := word_at ok.len
    simp only [wordOf] at er
    rw [er]
    simp (decide := true) [actT, encO]
end
end TL
end

section
set_option Elab.async false
set_option linter.all false
set_option maxRecDepth 100000
/-! One step. -/
namespace TL
open PySem
def flt (q : List Int) : Tm := .nd (.fault q) []
def pathOf : Tm → Option (List Int)
  | .nd (.fault q) _ => some q
  | _ => none
inductive Stp (S : List Str) (tm : Str → Option Tm) : Tm → Option Tm → Prop where
  | done {t : Tm} (h : dn S t = true) : Stp S tm t none
  | act {h : Hh} {ps : List Tm} (hd : dn S (.nd h ps) = false) (hf : ∀ p ∈ ps.take (nf h), dn S p = true) : Stp S tm (.nd h ps) (some ((actT tm (.nd h ps)).getD (flt [])))
  | inn {h : Hh} {ps : List Tm} {i : Nat} {p r : Tm} (hd : dn S (.nd h ps) = false) (hi : (ps.take (nf h))[i]? = some p) (hb : ∀ j q, j < i → (ps.take (nf h))[j]? = some q → dn S q = true) (hp : dn S p = false) (hs : Stp S tm p (some r)) : Stp S tm (.nd h ps) (some (match pathOf r with
    | some q => flt ((i : Int) :: q)
    | none => .nd h (ps.set i r)))
theorem first_ex {S : List Str} : ∀ l : List Tm, (∀ p ∈ l, dn S p = true) ∨ ∃ (i : Nat) (p : Tm), l[i]? = some p ∧ (∀ (j : Nat) (q : Tm), j < i → l[j]? = some q → dn S q = true) ∧ dn S p = false
  | [] => .inl (fun p hp => by cases hp)
  | p :: l => by
    cases e : dn S p with
    | false => exact .inr ⟨0, p, rfl, fun j q hj _ => absurd hj (Nat.not_lt_zero j), e⟩
    | true =>
      rcases first_ex (S := S) l with h | ⟨i, q, h1, h2, h3⟩
      · exact .inl fun q hq => by
          rcases List.mem_cons.mp hq with rfl | hq
          · exact e
          · exact h q hq
      · refine .inr ⟨i + 1, q, by simpa using h1, fun j r hj hr => ?_, h3⟩
        cases j with
        | zero =>
          have hr : some p = some r := by simpa using hr
          cases hr
          exact e
        | succ j => exact h2 j r (by omega) (by simpa using hr)
section
variable {N F S : List Str} {tm : Str → Option Tm} {ro : T} {K : Nat}
theorem stp_ex : ∀ t : Tm, ∃ r, Stp S tm t r ∧ (dn S t = false → ∃ r', r = some r') := by
  intro t
  induction t using Tm.ind with
  | h hd ps ih =>
    cases e : dn S (.nd hd ps) with
    | true => exact ⟨none, .done e, fun h => by cases h⟩
    | false =>
      rcases first_ex (S := S) (ps.take (nf hd)) with h | ⟨i, p, h1, h2, h3⟩
      · exact ⟨_, .act e h, fun _ => ⟨_, rfl⟩⟩
      · have hm : p ∈ ps := List.mem_of_mem_take (List.mem_of_getElem? h1)
        obtain ⟨r, hs, hr⟩ := ih p hm
        obtain ⟨r', rfl⟩ := hr h3
        exact ⟨_, .inn e h1 h2 h3 hs, fun _ => ⟨_, rfl⟩⟩
theorem flt_ok : Ok N F (flt []) ∧ clQ N (flt []) := ⟨.mk rfl rfl (fun p hp => by cases hp), fun y hy => by unfold flt at hy; rw [fv_nd rfl] at hy; cases hy⟩
theorem set_good {h : Hh} {ps : List Tm} {i : Nat} {r : Tm} (ok : Ok N F (.nd h ps)) (hc : clQ N (.nd h ps)) (hr : Ok N F r) (hcr : clQ N r) (hi : i < nf h) : Ok N F (.nd h (ps.set i r)) ∧ clQ N (.nd h (ps.set i r)) := by
  refine ⟨.mk (by rw [List.length_set]; exact ok.len) ok.hd fun p hp => ?_, fun y hy => ?_⟩
  · rcases List.mem_or_eq_of_mem_set hp with h | rfl
    · exact ok.part p h
    · exact hr
  · have hn : isName h = false := by cases h <;> first | rfl | exact absurd hi (Nat.not_lt_zero _)
    rw [fv_nd hn] at hy
    obtain ⟨q, bs, hz, hq, hb⟩ := fvs_inv hy
    obtain ⟨j, hj, e⟩ := List.getElem_of_mem hz
    rw [List.length_zip, List.length_set] at hj
    simp at e
    obtain ⟨e1, e2⟩ := e
    rw [List.getElem_set] at e1
    split at e1
    · subst e1; exact hcr y hq
    · have hz2 : (q, bs) ∈ ps.zip (bnd h) := by
        have hi2 : j < (ps.zip (bnd h)).length := by rw [List.length_zip]; omega
        have : (ps.zip (bnd h))[j] = (ps[j]'(by omega), (bnd h)[j]'(by omega)) := by simp
        rw [e1, e2] at this
        rw [← this]
        exact List.getElem_mem hi2
      exact cl_part hc hn hz2 hq hb
/-- what a step comes to: a good term, or a fault -/
def ResQ (N F : List Str) (n : Nat) (r : Tm) : Prop := (Ok N F r ∧ clQ N r) ∨ ∃ q, r = flt q ∧ q.length ≤ n
theorem path_len {n : Nat} {r : Tm} (h : ResQ N F n r) {q : List Int} (e : pathOf r = some q) : q.length ≤ n := by
  rcases h with ⟨h, -⟩ | ⟨p, rfl, hl⟩
  · obtain ⟨hd, ps⟩ := r
    cases hd <;> first | (cases e; done) | skip
    cases e
    have : q = [] := h.hd
    rw [this]
    exact Nat.zero_le _
  · cases e
    exact hl
theorem stp_good (htm : ∀ x t, tm x = some t → Ok N F t ∧ clQ N t) {t : Tm} {r : Option Tm} (h : Stp S tm t r) : Ok N F t → clQ N t → ∀ r', r = some r' → ResQ N F (ht t) r' := by
  induction h with
  | done h => intro _ _ r' e; cases e
  | @act h ps hd hf =>
    intro ok hc r' e
    cases e
    left
    cases e : actT tm (.nd h ps) with
    | none => exact flt_ok
    | some u => exact act_good htm ok hc e
  | @inn h ps i p r hd hi hb hp hs ih =>
    intro ok hc r' e
    cases e
    have hm := List.mem_of_getElem? hi
    have hR := ih (ok.part p (List.mem_of_mem_take hm)) (first_cl ok hc p hm) r rfl
    have hh := ht_nd (h := h) (List.mem_of_mem_take hm)
    cases e : pathOf r with
    | some q =>
      right
      exact ⟨_, rfl, by have := path_len hR e; rw [List.length_cons]; omega⟩
    | none =>
      left
      rcases hR with ⟨h1, h2⟩ | ⟨q, rfl, -⟩
      · obtain ⟨hi2, -⟩ := List.getElem?_eq_some_iff.mp hi
        rw [List.length_take] at hi2
        exact set_good ok hc h1 h2 (by omega)
      · cases e
theorem loopE_ret {f : T → Env → M Fl} {Inv : Env → Prop} {r : R} {p : Tm} : ∀ (as : List Tm) (o i : Nat) {ρ : Env}, as[i]? = some p → (∀ j a ρ, j < i → as[j]? = some a → Inv ρ → ∃ ρ', f (enT (o + j, a)) ρ = M.ret (.nx ρ') ∧ Inv ρ') → (∀ ρ, Inv ρ → f (enT (o + i, p)) ρ = M.ret (.rt r)) → Inv ρ → loopF f ((enumL o as).map enT) ρ = M.ret (.rt r)
  | [], o, i, ρ, h, _, _, _ => by simp at h
  | a :: as, o, 0, ρ, h, hs, hr, h0 => by
    have h : some a = some p := h
    cases h
    show M.bind (f (enT (o, p)) ρ) _ = _
    rw [show f (enT (o, p)) ρ = _ from hr ρ h0, ret_bind]
  | a :: as, o, i + 1, ρ, h, hs, hr, h0 => by
    obtain ⟨ρ1, e1, h1⟩ := hs 0 a ρ (by omega) rfl h0
    have := loopE_ret (f := f) (Inv := Inv) (r := r) (p := p) as (o + 1) i (ρ := ρ1) (by simpa using h) (fun j x ρ hj hx hI => by
      have := hs (j + 1) x ρ (by omega) (by simpa using hx) hI
      rw [show o + (j + 1) = o + 1 + j by omega] at this
      exact this) (fun ρ hI => by
      have := hr ρ hI
      rw [show o + (i + 1) = o + 1 + i by omega] at this
      exact this) h1
    show M.bind (f (enT (o, a)) ρ) _ = _
    rw [show f (enT (o, a)) ρ = _ from e1, ret_bind]
    exact this
theorem loopER_bind {γ : Type} {f : T → Env → M Fl} {as : List Tm} {ρ : Env} {K : Fl → M γ} {res : M γ} (Inv : Env → Prop) (r : R) (i : Nat) (p : Tm) (hi : as[i]? = some p) (hs : ∀ j a ρ, j < i → as[j]? = some a → Inv ρ → ∃ ρ', f (enT (j, a)) ρ = M.ret (.nx ρ') ∧ Inv ρ') (hr : ∀ ρ, Inv ρ → f (enT (i, p)) ρ = M.ret (.rt r)) (h0 : Inv ρ) (hk : K (.rt r) = res) : M.bind (loopF f ((enumL 0 as).map enT) ρ) K = res := by
  have := loopE_ret (f := f) (Inv := Inv) (r := r) as 0 i hi (fun j a ρ hj ha hI => by rw [Nat.zero_add]; exact hs j a ρ hj ha hI) (fun ρ hI => by rw [Nat.zero_add]; exact hr ρ hI) h0
  rw [this, ret_bind, hk]
theorem next_part (hN : Nms N F) (hr : RO ro S tm K) {h : Hh} {ps : List Tm} (g : Gd N F (.nd h ps)) {k : Nat} (hk : 60 + K ≤ k) : ((∀ p ∈ ps.take (nf h), dn S p = true) → den cfg tb k i_next_part [ro, enc (.nd h ps)] = M.ret (.fro .non)) ∧ (∀ i p, (ps.take (nf h))[i]? = some p → (∀ j q, j < i → (ps.take (nf h))[j]? = some q → dn S q = true) → dn S p = false → den cfg tb k i_next_part [ro, enc (.nd h ps)] = M.ret (.fro (.int (i : Nat)))) := by
  obtain ⟨k, rfl⟩ : ∃ j, k = j + 2 := ⟨k - 2, by omega⟩
  have h1 := parts_of k g.ok.len g.ok.small
  have h2 := parts_first g.ok.len k
  have hro : ∀ p ∈ ps.take (nf h), den cfg tb (k + 1) i_is_run_out [ro, enc p] = M.ret (.fro (.bl (dn S p))) := fun p hp => by
    have gp := g.first p hp
    have := gp.ht
    exact is_run_out hN hr gp.ok (by omega) (by omega)
  constructor
  · intro hd
    rw [den_fn (f := i_next_part) rfl rfl]
    simp [h1, h2, cut_hi]
    rw [← List.map_take, enumD_tup]
    simp
    refine loopE_bind (fun _ ρ => ∃ s2 s3, ρ = [.fro ro, .fro (enc (.nd h ps)), s2, s3]) ?_ ⟨_, _, rfl⟩ ?_
    · rintro j a ρ ha ⟨s2, s3, rfl⟩
      have hm := List.mem_of_getElem? ha
      simp [enT, hro a hm, hd a hm]
      exact ⟨_, rfl, _, _, rfl⟩
    · rintro ρ' ⟨s2, s3, rfl⟩
      simp
  · intro i p hi hb hp
    rw [den_fn (f := i_next_part) rfl rfl]
    simp [h1, h2, cut_hi]
    rw [← List.map_take, enumD_tup]
    simp
    refine loopER_bind (fun ρ => ∃ s2 s3, ρ = [.fro ro, .fro (enc (.nd h ps)), s2, s3]) (.fro (.int (i : Nat))) i p hi ?_ ?_ ⟨_, _, rfl⟩ ?_
    · rintro j a ρ hj ha ⟨s2, s3, rfl⟩
      have hm := List.mem_of_getElem? ha
      simp [enT, hro a hm, hb j a hj ha]
      exact ⟨_, rfl, _, _, rfl⟩
    · rintro ρ ⟨s2, s3, rfl⟩
      have hm := List.mem_of_getElem? hi
      simp [enT, hro p hm, hp]
    · simp
theorem with_part {h : Hh} {ps : List Tm} (ok : Ok N F (.nd h ps)) {i : Nat} (hi : i < ps.length) (r : Tm) (k : Nat) : den cfg tb (k + 2) i_with_part [enc (.nd h ps), .int i, enc r] = M.ret (.fro (enc (.nd h (ps.set i r)))) := by
  have h1 := parts_of k ok.len ok.small
  have h2 := with_parts k ok.len (qs := ps.set i r) (by rw [List.length_set]; exact ok.len) ok.small
  rw [den_fn (f := i_with_part) rfl rfl]
  have hset : setM [.fro (enc (.nd h ps)), .fro (.int i), .fro (enc r), .own (.lst (ps.map enc))] 3 (.int i) (enc r) = M.ret (.nx [.fro (enc (.nd h ps)), .fro (.int i), .fro (enc r), .own (.lst ((ps.set i r).map enc))]) := by
    funext s
    have e : setD s (.own (.lst (ps.map enc))) (.int i) (enc r) = some (.own (.lst ((ps.set i r).map enc)), s) := by
      show ((ixN (ps.map enc).length (i : Int)).map fun j => (Slot.own (.lst ((ps.map enc).set j (enc r))), s)) = _
      rw [ixq_of (by rw [List.length_map]; exact hi), List.map_set]
      rfl
    show (match setD s (.own (.lst (ps.map enc))) (.int i) (enc r) with
      | some (sl, s') => some (Fl.nx ([_, _, _, _].set 3 sl), s')
      | none => none) = _
    rw [e]
    rfl
  simp [h1, hset, h2, -List.map_set]
theorem path_word {r : Tm} {n : Nat} (h : ResQ N F n r) : (∃ q, pathOf r = some q ∧ enc r = .tup [.str k_fault, .tup (q.map .int)]) ∨ (pathOf r = none ∧ ∃ w l, enc r = .tup (.str w :: l) ∧ w ≠ k_fault ∧ strOk w = true) := by
  rcases h with ⟨h, -⟩ | ⟨p, rfl, hl⟩
  · obtain ⟨hd, ps⟩ := r
    by_cases hw : wordOf hd = k_fault
    · obtain ⟨q, rfl⟩ : ∃ q, hd = .fault q := by
        cases hd <;> first | exact ⟨_, rfl⟩ | (exfalso; simp only [wordOf] at hw; revert hw; decide +kernel)
      exact .inl ⟨q, rfl, enc_fault⟩
    · obtain ⟨l, el⟩ := word_at h.len
      refine .inr ⟨?_, _, _, el, hw, word_ok hd⟩
      cases hd <;> first | rfl | exact absurd rfl hw
  · exact .inl ⟨p, rfl, enc_fault⟩
/-- the program's step -/
theorem step_by (hN : Nms N F) (hNF : (N ++ F).length ≤ 280) (hr : RO ro S tm K) (htm : ∀ x t, tm x = some t → Ok N F t ∧ clQ N t) {t : Tm} {r : Option Tm} (h : Stp S tm t r) : Gd N F t → ∀ {k : Nat}, 110 + K + ht t ≤ k → den cfg tb k i_step_by [ro, enc t] = M.ret (.fro (encO r)) := by
  induction h with
  | @done t h =>
    intro g k hk
    obtain ⟨k, rfl⟩ : ∃ j, k = j + 1 := ⟨k - 1, by omega⟩
    have := is_run_out hN hr g.ok (by have := g.ht; omega) (k := k) (by omega)
    rw [den_fn (f := i_step_by) rfl rfl]
    simp [this, h, encO]
  | @act h ps hd hf =>
    intro g k hk
    obtain ⟨k, rfl⟩ : ∃ j, k = j + 1 := ⟨k - 1, by omega⟩
    have h1 := is_run_out hN hr g.ok (by have := g.ht; omega) (k := k) (by omega)
    have h2 := (next_part hN hr g (k := k) (by omega)).1 hf
    have h3 := acted hN hNF hr g (fun h' ps' e => by cases e; exact hf) (k := k) (by omega)
    rw [den_fn (f := i_step_by) rfl rfl]
    cases e : actT tm (.nd h ps) with
    | none =>
      rw [e] at h3
      simp [h1, hd, h2, isNon, h3, encO, flt, enc_fault]
    | some u =>
      obtain ⟨hu, pu⟩ := u
      obtain ⟨l, el⟩ := word_at (act_good htm g.ok g.cl e).1.len
      rw [e] at h3
      simp [encO, el] at h3
      simp [h1, hd, h2, isNon, h3, encO, el]
  | @inn h ps i p r hd hi hb hp hs ih =>
    intro g k hk
    obtain ⟨k, rfl⟩ : ∃ j, k = j + 2 := ⟨k - 2, by omega⟩
    have hm := List.mem_of_getElem? hi
    have hm' := List.mem_of_mem_take hm
    have gp := g.first p hm
    have hh := ht_nd (h := h) hm'
    have h1 := is_run_out hN hr g.ok (by have := g.ht; omega) (k := k + 1) (by omega)
    have h2 := (next_part hN hr g (k := k + 1) (by omega)).2 i p hi hb hp
    have h3 := ih gp (k := k + 1) (by omega)
    have h4 := parts_of k g.ok.len g.ok.small
    have hR := stp_good htm hs gp.ok gp.cl r rfl
    obtain ⟨hi2, hi3⟩ := List.getElem?_eq_some_iff.mp hi
    rw [List.length_take] at hi2
    have h5 := with_part g.ok (i := i) (by omega) r (k - 1)
    rw [show k - 1 + 2 = k + 1 by omega] at h5
    rw [den_fn (f := i_step_by) rfl rfl]
    have hat : at_ (ps.map enc) (i : Int) = some (enc p) := by
      have hpi : ps[i]? = some p := by
        rw [← List.getElem?_take_of_lt (show i < nf h by omega)]
        exact hi
      rw [at_of (by rw [List.length_map]; omega), List.getElem?_map, hpi]
      rfl
    rcases path_word hR with ⟨q, e1, e2⟩ | ⟨e1, w, l, e2, e3, e4⟩
    · have hz : szOk (1 + q.length) = true := sz_of (by have := path_len hR e1; have := gp.ht; omega)
      simp only [encO, e2] at h3
      simp [h1, hd, h2, isNon, h4, hat, h3, hz, e1, encO, flt, enc_fault]
    · rw [e1]
      simp only [encO] at h3 ⊢
      rw [e2] at h3 h5
      simp [h1, hd, h2, isNon, h4, hat, h3, e3, e4, h5]
theorem law_step (hN : Nms N F) {L : List (Str × Tm)} (htm : ∀ x t, lk L x = some t → Ok N F t ∧ clQ N t) {t : Tm} {r : Option Tm} (h : Stp S (lk L) t r) : Gd N F t → ∀ {k : Nat}, 110 + ht t ≤ k → den cfg tb k i__law_step [enc t, dT L, nsT S] = M.ret (.fro (encO r)) := by
  induction h with
  | @done t h =>
    intro g k hk
    obtain ⟨k, rfl⟩ : ∃ j, k = j + 1 := ⟨k - 1, by omega⟩
    have := law_done (S := S) hN g.ok (by have := g.dep; omega) (k := k) (by omega)
    rw [den_fn (f := i__law_step) rfl rfl]
    simp [this, h, encO]
  | @act h ps hd hf =>
    intro g k hk
    obtain ⟨k, rfl⟩ : ∃ j, k = j + 1 := ⟨k - 1, by omega⟩
    have h1 := law_done (S := S) hN g.ok (by have := g.dep; omega) (k := k) (by omega)
    have h2 := law_parts g.ok.len (k - 1)
    rw [show k - 1 + 1 = k by omega] at h2
    have h3 := law_acted (S := S) (L := L) hN g (fun h' ps' e => by cases e; exact hf) (k := k) (by omega)
    have hro : ∀ p ∈ ps.take (nf h), den cfg tb k i__law_done [enc p, nsT S] = M.ret (.fro (.bl (dn S p))) := fun p hp => by
      have gp := g.first p hp
      have := gp.ht
      exact law_done hN gp.ok (by have := gp.dep; omega) (by omega)
    rw [den_fn (f := i__law_step) rfl rfl]
    simp [h1, hd, h2]
    rw [← List.map_take, enumD_lst]
    simp
    refine loopE_bind (fun _ ρ => ∃ s3 s4 s5, ρ = [.fro (enc (.nd h ps)), .fro (dT L), .fro (nsT S), s3, s4, s5]) ?_ ⟨_, _, _, rfl⟩ ?_
    · rintro j a ρ ha ⟨s3, s4, s5, rfl⟩
      have hm := List.mem_of_getElem? ha
      simp [enT, hro a hm, hf a hm]
      exact ⟨_, rfl, _, _, _, rfl⟩
    · rintro ρ' ⟨s3, s4, s5, rfl⟩
      cases e : actT (lk L) (.nd h ps) with
      | none =>
        rw [e] at h3
        simp [isNon, h3, encO, flt, enc_fault]
      | some u =>
        obtain ⟨hu, pu⟩ := u
        obtain ⟨l, el⟩ := word_at (act_good htm g.ok g.cl e).1.len
        rw [e] at h3
        simp [encO, el] at h3
        simp [isNon, h3, encO, el]
  | @inn h ps i p r hd hi hb hp hs ih =>
    intro g k hk
    obtain ⟨k, rfl⟩ : ∃ j, k = j + 1 := ⟨k - 1, by omega⟩
    have hm := List.mem_of_getElem? hi
    have hm' := List.mem_of_mem_take hm
    have gp := g.first p hm
    have hh := ht_nd (h := h) hm'
    have h1 := law_done (S := S) hN g.ok (by have := g.dep; omega) (k := k) (by omega)
    have h2 := law_parts g.ok.len (k - 1)
    rw [show k - 1 + 1 = k by omega] at h2
    have h3 := ih gp (k := k) (by omega)
    have hR := stp_good htm hs gp.ok gp.cl r rfl
    obtain ⟨hi2, hi3⟩ := List.getElem?_eq_some_iff.mp hi
    rw [List.length_take] at hi2
    have h5 := law_with g.ok.len g.ok.hd (i := i) (by omega) r (k - 1)
    rw [show k - 1 + 1 = k by omega] at h5
    have hro : ∀ p ∈ ps.take (nf h), den cfg tb k i__law_done [enc p, nsT S] = M.ret (.fro (.bl (dn S p))) := fun p hp => by
      have gp := g.first p hp
      have := gp.ht
      exact law_done hN gp.ok (by have := gp.dep; omega) (by omega)
    rw [den_fn (f := i__law_step) rfl rfl]
    simp [h1, hd, h2]
    rw [← List.map_take, enumD_lst]
    simp
    refine loopER_bind (fun ρ => ∃ s3 s4 s5, ρ = [.fro (enc (.nd h ps)), .fro (dT L), .fro (nsT S), s3, s4, s5]) (.fro (encO (some (match pathOf r with
      | some q => flt ((i : Int) :: q)
      | none => .nd h (ps.set i r))))) i p hi ?_ ?_ ⟨_, _, _, rfl⟩ ?_
    · rintro j a ρ hj ha ⟨s3, s4, s5, rfl⟩
      have hm := List.mem_of_getElem? ha
      simp [enT, hro a hm, hb j a hj ha]
      exact ⟨_, rfl, _, _, _, rfl⟩
    · rintro ρ ⟨s3, s4, s5, rfl⟩
      rcases path_word hR with ⟨q, e1, e2⟩ | ⟨e1, w, l, e2, e3, e4⟩
      · have hz : szOk (1 + q.length) = true := sz_of (by have := path_len hR e1; have := gp.ht; omega)
        simp only [encO, e2] at h3
        simp [enT, hro p hm, hp, h3, hz, e1, encO, flt, enc_fault]
      · rw [e1]
        simp only [encO] at h3 ⊢
        rw [e2] at h3 h5
        simp [enT, hro p hm, hp, h3, e3, e4, h5]
    · simp
end
end TL
end

section
set_option Elab.async false
set_option linter.all false
set_option maxRecDepth 100000
/-! The world's rules; a step in it. -/
namespace TL
open PySem
def numT : T := .tup [.str k_num]
def twoT (k : T) : T := .tup [.tup [], .tup [], .tup [.str k_fun, numT, .tup [.str k_fun, numT, k]]]
def leastN : T := .tup [.tup [.str k_add, twoT numT, .non, .non], .tup [.str k_sub, twoT numT, .non, .non], .tup [.str k_less, twoT (.tup [.str k_truth]), .non, .non]]
def worldT (sh : T) : T := .obj 2 [k_shapes, k_classes, k_houses, k_names] [sh, .tup [], .tup [], leastN]
def rulesT (sh : T) : T := .obj 1 [k_world] [worldT sh]
theorem least_world (k : Nat) : den cfg tb (k + 2) i_least_world [] = M.ret (.own (worldT (.tup []))) := by
  funext s
  kernel_rfl
theorem mk_world (k : Nat) (sh : T) : mkM cfg (den cfg tb (k + 1)) 2 [sh, .tup [], .tup [], leastN] = M.ret (.own (worldT sh)) := by
  funext s
  kernel_rfl
theorem mk_rules (k : Nat) (sh : T) : mkM cfg (den cfg tb (k + 1)) 1 [worldT sh] = M.ret (.own (rulesT sh)) := by
  funext s
  kernel_rfl
theorem loopF_cons {f : T → Env → M Fl} {t : T} {ts : List T} {ρ : Env} : loopF f (t :: ts) ρ = M.bind (f t ρ) (seqM (loopF f ts)) := by
  show M.bind (f t ρ) _ = _
  congr 1
theorem bind_ret {α : Type} {m : M α} : M.bind m (fun a => M.ret a) = m := by
  funext s
  unfold M.bind
  cases m s <;> rfl
theorem step_den (k : Nat) (sh t : T) : den cfg tb (k + 2) i_step [worldT sh, t] = den cfg tb (k + 1) i_step_by [rulesT sh, t] := by
  rw [den_fn (f := i_step) rfl rfl]
  simp [mk_rules]
  exact bind_ret
theorem world_cls (k : Nat) (sh : T) (x : Str) : methM cfg (den cfg tb (k + 1)) k_class_told [.str x] (rulesT sh) = M.ret (.fro .non) := by
  funext s
  kernel_rfl
theorem world_ro (sh : T) : RO (rulesT sh) reck (fun _ => none) 3 where
  stays k x hx := by
    have h := world_cls (k + 1) sh x
    have : methM cfg (den cfg tb (k + 3)) k_stays [.str x] (rulesT sh) = den cfg tb (k + 3) i_Rules_stays [rulesT sh, .str x] := by
      funext s
      kernel_rfl
    rw [this, den_fn (f := i_Rules_stays) rfl rfl]
    by_cases hr : x ∈ reck
    · simp [reck_or.mp hr, hr]
    · simp [mt reck_or.mpr hr, hr, h, isNon]
  cls k x hx := world_cls (k + 2) sh x
  term k x hx := by
    have e1 : methM cfg (den cfg tb (k + 3)) k_term_told [.str x] (rulesT sh) = den cfg tb (k + 3) i_WorldRules_term_told [rulesT sh, .str x] := by
      funext s
      kernel_rfl
    have e2 : methM cfg (den cfg tb (k + 2)) k_name_called [.str x] (worldT sh) = den cfg tb (k + 2) i_World_name_called [worldT sh, .str x] := by
      funext s
      kernel_rfl
    rw [e1, den_fn (f := i_WorldRules_term_told) rfl rfl]
    by_cases h1 : k_add = x
    · subst h1
      funext s
      kernel_rfl
    · by_cases h2 : k_sub = x
      · subst h2
        funext s
        kernel_rfl
      · by_cases h3 : k_less = x
        · subst h3
          funext s
          kernel_rfl
        · have : den cfg tb (k + 2) i_World_name_called [worldT sh, .str x] = M.ret (.fro .non) := by
            rw [den_fn (f := i_World_name_called) rfl rfl]
            have e3 : ∀ f : Str, f = k_names → fldM f (worldT sh) = M.ret (.fro leastN) := fun f e => by subst e; funext s; kernel_rfl
            simp [e3 k_names rfl, leastN, loopF_cons, hx, h1, h2, h3]
          have e4 : ∀ f : Str, f = k_world → fldM f (rulesT sh) = M.ret (.fro (worldT sh)) := fun f e => by subst e; funext s; kernel_rfl
          simp [e4 k_world rfl, e2, this, isNon]
end TL
end

section
set_option Elab.async false
set_option linter.all false
set_option maxRecDepth 100000
/-! Sizes. -/
namespace TL
open PySem
mutual
def szT : T → Nat → Nat
  | .tup xs, d => if 30 < d then 1000 else 1 + szTs xs (d + 1)
  | _, d => if 30 < d then 1000 else 0
def szTs : List T → Nat → Nat
  | [], _ => 0
  | x :: xs, d => szT x d + szTs xs d
end
theorem szT_tup {xs : List T} {d : Nat} (h : d ≤ 30) : szT (.tup xs) d = 1 + szTs xs (d + 1) := by
  rw [szT, if_neg (by omega)]
theorem szT_deep {x : T} {d : Nat} (h : 30 < d) : szT x d = 1000 := by
  cases x <;> (rw [szT, if_pos h]; try (intro xs e; cases e))
theorem szT_leaf {x : T} {d : Nat} (h : ¬ 30 < d) (hx : ∀ xs, x ≠ .tup xs) : szT x d = 0 := by
  cases x <;> first | exact absurd rfl (hx _) | (rw [szT, if_neg h]; intro xs e; cases e)
theorem dep_leaf {x : T} (ht : tdat x = true) (hx : ∀ xs, x ≠ .tup xs) : dep x = 0 := by
  cases x <;> first | exact absurd rfl (hx _) | (cases ht; done) | rfl
theorem isT_leaf {x : T} (ht : tdat x = true) (hx : ∀ xs, x ≠ .tup xs) : isTD x = some (.fro (.bl false)) := by
  cases x <;> first | exact absurd rfl (hx _) | (cases ht; done) | rfl
theorem szTs_sum : ∀ {xs : List T} {d : Nat}, szTs xs d = (xs.map fun x => szT x d).sum
  | [], d => by rw [szTs]; rfl
  | x :: xs, d => by rw [szTs, szTs_sum, List.map_cons, List.sum_cons]
theorem szTs_mem {x : T} {d : Nat} : ∀ {xs : List T}, x ∈ xs → szT x d ≤ szTs xs d
  | y :: xs, h => by
    rw [szTs]
    rcases List.mem_cons.mp h with rfl | h
    · omega
    · have := szTs_mem (d := d) h
      omega
theorem tdats_all : ∀ {xs : List T}, tdats xs = xs.all tdat
  | [] => by rw [tdats]; rfl
  | x :: xs => by rw [tdats, tdats_all]; rfl
theorem tdat_tup {xs : List T} : tdat (.tup xs) = xs.all tdat := by rw [tdat, tdats_all]
theorem ints_map {α : Type} {f : α → Int} : ∀ {l : List α}, intsOf (l.map fun a => T.int (f a)) = some (l.map f)
  | [] => rfl
  | a :: l => by
    rw [List.map_cons, List.map_cons]
    unfold intsOf
    rw [ints_map]
    rfl
theorem sum_cast {α : Type} {f : α → Nat} : ∀ {l : List α}, (l.map fun a => ((f a : Nat) : Int)).sum = ((l.map f).sum : Nat)
  | [] => rfl
  | a :: l => by
    rw [List.map_cons, List.map_cons, List.sum_cons, List.sum_cons, sum_cast]
    simp
/-- induction over values -/
theorem T.tind {P : T → Prop} (leaf : ∀ x, (∀ xs, x ≠ .tup xs) → P x) (tup : ∀ xs, (∀ x ∈ xs, P x) → P (.tup xs)) : ∀ x, P x := fun x => by
  refine T.rec (motive_1 := P) (motive_2 := fun xs => ∀ x ∈ xs, P x) ?_ ?_ ?_ ?_ ?_ ?_ ?_ ?_ ?_ ?_ ?_ x
  case refine_5 => exact fun xs ih => tup xs ih
  case refine_10 => intro x hx; cases hx
  case refine_11 =>
    intro x xs hx hxs y hy
    rcases List.mem_cons.mp hy with rfl | hy
    · exact hx
    · exact hxs y hy
  all_goals intros
  all_goals exact leaf _ (by intro xs e; cases e)
theorem sz_dep : ∀ {x : T}, tdat x = true → ∀ {d : Nat}, szT x d < 1000 → dep x + d ≤ 31 := by
  intro x
  induction x using T.tind with
  | leaf x hx =>
    intro ht d h
    by_cases hd : 30 < d
    · rw [szT_deep hd] at h; omega
    · rw [dep_leaf ht hx]; omega
  | tup xs ih =>
    intro ht d h
    by_cases hd : 30 < d
    · rw [szT_deep hd] at h; omega
    · rw [szT_tup (by omega)] at h
      rw [tdat_tup, List.all_eq_true] at ht
      have : deps xs ≤ 30 - d := deps_le fun x hx => by
        have h1 := szTs_mem (d := d + 1) hx
        have h2 := ih x hx (ht x hx) (d := d + 1) (by omega)
        omega
      rw [dep_tup]
      omega
theorem law_size : ∀ {x : T}, tdat x = true → ∀ {d k : Nat}, 33 ≤ k + d → 1 ≤ k → den cfg tb k i__law_size [x, .int d] = M.ret (.fro (.int (szT x d : Nat))) := by
  intro x
  induction x using T.tind with
  | leaf x hx =>
    intro ht d k hk hk1
    obtain ⟨k, rfl⟩ : ∃ j, k = j + 1 := ⟨k - 1, by omega⟩
    rw [den_fn (f := i__law_size) rfl rfl]
    by_cases hd : 30 < d
    · have e : decide ((30 : Int) < d) = true := by simp; omega
      rw [szT_deep hd]
      simp (decide := true) [isT_leaf ht hx, cmpD, e]
    · have e : decide ((30 : Int) < d) = false := by simp; omega
      rw [szT_leaf hd hx]
      simp (decide := true) [isT_leaf ht hx, cmpD, e]
  | tup xs ih =>
    intro ht d k hk hk1
    obtain ⟨k, rfl⟩ : ∃ j, k = j + 1 := ⟨k - 1, by omega⟩
    rw [den_fn (f := i__law_size) rfl rfl]
    by_cases hd : 30 < d
    · have e : decide ((30 : Int) < d) = true := by simp; omega
      rw [szT_deep hd]
      simp (decide := true) [isTD, cmpD, e]
    · have e : decide ((30 : Int) < d) = false := by simp; omega
      rw [szT_tup (by omega)]
      rw [tdat_tup, List.all_eq_true] at ht
      have ih' : ∀ x ∈ xs, den cfg tb k i__law_size [x, .int ((d : Int) + 1)] = M.ret (.fro (.int (szT x (d + 1) : Nat))) := fun x hx => by
        have := ih x hx (ht x hx) (d := d + 1) (k := k) (by omega) (by omega)
        exact this
      simp (decide := true) [isTD, cmpD, e]
      have := listM_map (mk := id) (f := fun v => M.bind (den cfg tb k i__law_size [v, .int ((d : Int) + 1)]) fun x => M.ret (some x.val)) (g := fun x => T.int (szT x (d + 1) : Nat)) (ts := xs) (by intro x hx; simp [ih' x hx])
      rw [List.map_id] at this
      rw [this, szTs_sum]
      have e2 : intsOf (xs.map fun x => T.int (szT x (d + 1) : Nat)) = some (xs.map fun x => ((szT x (d + 1) : Nat) : Int)) := ints_map
      simp [e2, sum_cast]
section
variable {N F S : List Str}
theorem tdat_enc : ∀ {t : Tm}, Ok N F t → tdat (enc t) = true := by
  intro t
  induction t using Tm.ind with
  | h hd ps ih =>
    intro ok
    have ih' := fun p hp => ih p hp (ok.part p hp)
    have hh := ok.hd
    cases hd with
    | rcd xs =>
      rw [enc_rcd]
      simp [tdat, tdats_all]
      intro u hu
      obtain ⟨x, hx, t, ht, rfl⟩ := mem_zw hu
      obtain ⟨p, hp, rfl⟩ := List.mem_map.mp ht
      simp [pr, tdat, tdats_all, ih' p hp]
    | grp xs =>
      obtain ⟨qs, b, rfl, hl⟩ := lenE ok.len
      rw [enc_grp hl]
      simp [tdat, tdats_all]
      refine ⟨?_, ih' b (by simp)⟩
      intro u hu
      obtain ⟨x, hx, t, ht, rfl⟩ := mem_zw hu
      obtain ⟨p, hp, rfl⟩ := List.mem_map.mp ht
      simp [pr, tdat, tdats_all, ih' p (List.mem_append.mpr (.inl hp))]
    | mat bs =>
      obtain ⟨a, qs, rfl, hl⟩ := lenS ok.len
      rw [enc_mat]
      simp [tdat, tdats_all]
      refine ⟨ih' a (by simp), ?_⟩
      intro u hu
      obtain ⟨x, hx, t, ht, rfl⟩ := mem_zw hu
      obtain ⟨p, hp, rfl⟩ := List.mem_map.mp ht
      simp [br, nsT, tdat, tdats_all, ih' p (List.mem_cons_of_mem _ hp)]
    | name x => rw [enc_name]; simp [tdat, tdats_all]
    | num x => rw [enc_num]; simp [tdat, tdats_all]
    | tru x => rw [enc_tru]; simp [tdat, tdats_all]
    | mark x => rw [enc_mark]; simp [tdat, tdats_all]
    | fault x => rw [enc_fault]; simp [tdat, tdats_all]
    | fn x =>
      obtain ⟨a, rfl⟩ := lq1 ok.len
      rw [enc_fn]
      simp [tdat, tdats_all, ih' a (by simp)]
    | get x =>
      obtain ⟨a, rfl⟩ := lq1 ok.len
      rw [enc_get]
      simp [tdat, tdats_all, ih' a (by simp)]
    | told x =>
      obtain ⟨a, rfl⟩ := lq1 ok.len
      rw [enc_told]
      simp [tdat, tdats_all, hh.2, ih' a (by simp)]
    | call =>
      obtain ⟨a, b, rfl⟩ := lq2 ok.len
      rw [enc_call]
      simp [tdat, tdats_all, ih' a (by simp), ih' b (by simp)]
    | lt x =>
      obtain ⟨a, b, rfl⟩ := lq2 ok.len
      rw [enc_lt]
      simp [tdat, tdats_all, ih' a (by simp), ih' b (by simp)]
    | put x =>
      obtain ⟨a, b, rfl⟩ := lq2 ok.len
      rw [enc_put]
      simp [tdat, tdats_all, ih' a (by simp), ih' b (by simp)]
    | ite =>
      obtain ⟨a, b, c, rfl⟩ := lq3 ok.len
      rw [enc_ite]
      simp [tdat, tdats_all, ih' a (by simp), ih' b (by simp), ih' c (by simp)]
theorem sz_le30 {xs : List T} {d : Nat} (h : szT (.tup xs) d < 1000) : d ≤ 30 := by
  by_cases hd : 30 < d
  · rw [szT_deep hd] at h; omega
  · omega
theorem cnts_zw {α : Type} {mk : α → T → T} {d : Nat} (hm : ∀ x t, szT (mk x t) d < 1000 → szT t (d + 1) < 1000 ∧ szT t (d + 1) ≤ szT (mk x t) d) : ∀ {xs : List α} {ps : List Tm}, ps.length = xs.length → (∀ p ∈ ps, ∀ d, szT (enc p) d < 1000 → cnt p ≤ szT (enc p) d) → szTs (List.zipWith mk xs (ps.map enc)) d < 1000 → cnts ps ≤ szTs (List.zipWith mk xs (ps.map enc)) d
  | [], [], _, _, _ => by rw [cnts]; exact Nat.zero_le _
  | x :: xs, p :: ps, hl, ih, h => by
    rw [List.map_cons, List.zipWith_cons_cons, szTs] at h ⊢
    have h1 := hm x (enc p) (by omega)
    have h2 := ih p List.mem_cons_self (d + 1) h1.1
    have h3 := cnts_zw hm (xs := xs) (ps := ps) (by simpa using hl) (fun q hq => ih q (List.mem_cons_of_mem _ hq)) (by omega)
    rw [cnts]
    omega
theorem pr_sz {d : Nat} (x : Str) (t : T) (h : szT (pr x t) d < 1000) : szT t (d + 1) < 1000 ∧ szT t (d + 1) ≤ szT (pr x t) d := by
  have hd := sz_le30 h
  unfold pr at *
  rw [szT_tup hd] at *
  have := szTs_mem (x := t) (d := d + 1) (xs := [.str x, t]) (by simp)
  omega
theorem br_sz {d : Nat} (x : Str × List Str) (t : T) (h : szT (br x t) d < 1000) : szT t (d + 1) < 1000 ∧ szT t (d + 1) ≤ szT (br x t) d := by
  have hd := sz_le30 h
  unfold br at *
  rw [szT_tup hd] at *
  have := szTs_mem (x := t) (d := d + 1) (xs := [.str x.1, nsT x.2, t]) (by simp)
  omega
theorem cnt_sz : ∀ {t : Tm}, Ok N F t → ∀ {d : Nat}, szT (enc t) d < 1000 → cnt t ≤ szT (enc t) d := by
  intro t
  induction t using Tm.ind with
  | h hd ps ih =>
    intro ok d h
    have ih' : ∀ p ∈ ps, ∀ d, szT (enc p) d < 1000 → cnt p ≤ szT (enc p) d := fun p hp d h => ih p hp (ok.part p hp) h
    have e : cnt (.nd hd ps) = cnts ps + 1 := by rw [cnt]
    rw [e]
    obtain ⟨r, er⟩ := word_at ok.len
    have hdd : d ≤ 30 := by rw [er] at h; exact sz_le30 h
    cases hd with
    | rcd xs =>
      rw [enc_rcd, szT_tup hdd, szTs, szTs, szTs] at h ⊢
      have h2 := sz_le30 (show szT (.tup (List.zipWith pr xs (ps.map enc))) (d + 1) < 1000 by omega)
      rw [szT_tup h2] at h ⊢
      have := cnts_zw pr_sz ok.len ih' (d := d + 2) (show szTs (List.zipWith pr xs (ps.map enc)) (d + 1 + 1) < 1000 by omega)
      have e2 : d + 2 = d + 1 + 1 := rfl
      rw [e2] at this
      omega
    | grp xs =>
      obtain ⟨qs, b, rfl, hl⟩ := lenE ok.len
      rw [enc_grp hl, szT_tup hdd, szTs, szTs, szTs, szTs] at h ⊢
      have h2 := sz_le30 (show szT (.tup (List.zipWith pr xs (qs.map enc))) (d + 1) < 1000 by omega)
      rw [szT_tup h2] at h ⊢
      have := cnts_zw pr_sz hl (fun p hp => ih' p (List.mem_append.mpr (.inl hp))) (d := d + 2) (show szTs (List.zipWith pr xs (qs.map enc)) (d + 1 + 1) < 1000 by omega)
      have e2 : d + 2 = d + 1 + 1 := rfl
      rw [e2] at this
      have h3 := ih' b (by simp) (d + 1) (by omega)
      have h4 : cnts (qs ++ [b]) = cnts qs + cnt b := by
        clear ih ih' ok e er h this hl
        induction qs with
        | nil => simp only [List.nil_append, cnts]; omega
        | cons a l ih => simp only [List.cons_append, cnts, ih]; omega
      omega
    | mat bs =>
      obtain ⟨a, qs, rfl, hl⟩ := lenS ok.len
      rw [enc_mat, szT_tup hdd, szTs, szTs, szTs, szTs] at h ⊢
      have h2 := sz_le30 (show szT (.tup (List.zipWith br bs (qs.map enc))) (d + 1) < 1000 by omega)
      rw [szT_tup h2] at h ⊢
      have := cnts_zw br_sz hl (fun p hp => ih' p (List.mem_cons_of_mem _ hp)) (d := d + 2) (show szTs (List.zipWith br bs (qs.map enc)) (d + 1 + 1) < 1000 by omega)
      have e2 : d + 2 = d + 1 + 1 := rfl
      rw [e2] at this
      have h3 := ih' a (by simp) (d + 1) (by omega)
      have h4 : cnts (a :: qs) = cnt a + cnts qs := by rw [cnts]
      omega
    | name x => obtain rfl := lq0 ok.len; rw [enc_name, szT_tup hdd, cnts]; omega
    | num x => obtain rfl := lq0 ok.len; rw [enc_num, szT_tup hdd, cnts]; omega
    | tru x => obtain rfl := lq0 ok.len; rw [enc_tru, szT_tup hdd, cnts]; omega
    | mark x => obtain rfl := lq0 ok.len; rw [enc_mark, szT_tup hdd, cnts]; omega
    | fault x => obtain rfl := lq0 ok.len; rw [enc_fault, szT_tup hdd, cnts]; omega
    | fn x =>
      obtain ⟨a, rfl⟩ := lq1 ok.len
      rw [enc_fn, szT_tup hdd] at h ⊢
      simp only [szTs] at h ⊢
      have := ih' a (by simp) (d + 1) (by omega)
      simp only [cnts]
      omega
    | get x =>
      obtain ⟨a, rfl⟩ := lq1 ok.len
      rw [enc_get, szT_tup hdd] at h ⊢
      simp only [szTs] at h ⊢
      have := ih' a (by simp) (d + 1) (by omega)
      simp only [cnts]
      omega
    | told x =>
      obtain ⟨a, rfl⟩ := lq1 ok.len
      rw [enc_told, szT_tup hdd] at h ⊢
      simp only [szTs] at h ⊢
      have := ih' a (by simp) (d + 1) (by omega)
      simp only [cnts]
      omega
    | call =>
      obtain ⟨a, b, rfl⟩ := lq2 ok.len
      rw [enc_call, szT_tup hdd] at h ⊢
      simp only [szTs] at h ⊢
      have := ih' a (by simp) (d + 1) (by omega)
      have := ih' b (by simp) (d + 1) (by omega)
      simp only [cnts]
      omega
    | lt x =>
      obtain ⟨a, b, rfl⟩ := lq2 ok.len
      rw [enc_lt, szT_tup hdd] at h ⊢
      simp only [szTs] at h ⊢
      have := ih' a (by simp) (d + 1) (by omega)
      have := ih' b (by simp) (d + 1) (by omega)
      simp only [cnts]
      omega
    | put x =>
      obtain ⟨a, b, rfl⟩ := lq2 ok.len
      rw [enc_put, szT_tup hdd] at h ⊢
      simp only [szTs] at h ⊢
      have := ih' a (by simp) (d + 1) (by omega)
      have := ih' b (by simp) (d + 1) (by omega)
      simp only [cnts]
      omega
    | ite =>
      obtain ⟨a, b, c, rfl⟩ := lq3 ok.len
      rw [enc_ite, szT_tup hdd] at h ⊢
      simp only [szTs] at h ⊢
      have := ih' a (by simp) (d + 1) (by omega)
      have := ih' b (by simp) (d + 1) (by omega)
      have := ih' c (by simp) (d + 1) (by omega)
      simp only [cnts]
      omega
theorem Gd.of {t : Tm} (ok : Ok N F t) (hc : TL.clQ N t) (h : szT (enc t) 0 ≤ 280) : Gd N F t := ⟨ok, hc, by
  have := cnt_sz ok (d := 0) (by omega)
  omega, by
  have := sz_dep (tdat_enc ok) (d := 0) (by omega)
  omega⟩
end
end TL
end

section
set_option Elab.async false
set_option linter.all false
set_option maxRecDepth 100000
/-! Depths. -/
namespace TL
open PySem
theorem eqTs_cons {x y : T} {xs ys : List T} : eqTs (x :: xs) (y :: ys) = (eqT x y && eqTs xs ys) := by rw [eqTs]
mutual
theorem eqT_refl : ∀ x : T, dat x = true → eqT x x = true
  | .non, _ => by rw [eqT]
  | .bl b, _ => by rw [eqT]; simp
  | .int i, _ => by rw [eqT]; simp
  | .str s, _ => by rw [eqT]; simp
  | .tup xs, h => by rw [eqT]; rw [dat] at h; exact eqTs_refl xs h
  | .lst xs, h => by rw [eqT]; rw [dat] at h; exact eqTs_refl xs h
  | .dct _ _, h => by simp [dat] at h
  | .obj _ _ _, h => by simp [dat] at h
  | .ref _, h => by simp [dat] at h
theorem eqTs_refl : ∀ xs : List T, dats xs = true → eqTs xs xs = true
  | [], _ => by rw [eqTs]
  | x :: xs, h => by
    rw [dats, Bool.and_eq_true] at h
    rw [eqTs, eqT_refl x h.1, eqTs_refl xs h.2]
    rfl
end
section
variable {N F S : List Str} {δ : Nat}
theorem zw_lip {α : Type} {mk : α → T → T} (hm : ∀ x t u, dep u ≤ dep t + δ → dep (mk x u) ≤ dep (mk x t) + δ) : ∀ {xs : List α} {ps qs : List Tm}, qs.length = ps.length → (∀ (i : Nat) p q, ps[i]? = some p → qs[i]? = some q → dep (enc q) ≤ dep (enc p) + δ) → deps (List.zipWith mk xs (qs.map enc)) ≤ deps (List.zipWith mk xs (ps.map enc)) + δ
  | [], _, _, _, _ => by simp [deps]
  | x :: xs, [], qs, hl, _ => by obtain rfl : qs = [] := lq0 (by simpa using hl); simp [deps]
  | x :: xs, p :: ps, qs, hl, h => by
    obtain ⟨q, r, rfl, hr⟩ := lenS (by simpa using hl)
    rw [List.map_cons, List.map_cons, List.zipWith_cons_cons, List.zipWith_cons_cons, deps, deps]
    have h1 := hm x (enc p) (enc q) (h 0 p q rfl rfl)
    have h2 := zw_lip hm (xs := xs) (ps := ps) (qs := r) hr (fun i a b ha hb => h (i + 1) a b (by simpa using ha) (by simpa using hb))
    omega
theorem pr_lip (x : Str) (t u : T) (h : dep u ≤ dep t + δ) : dep (pr x u) ≤ dep (pr x t) + δ := by
  unfold pr
  rw [dep_tup, dep_tup]
  simp only [deps]
  omega
theorem br_lip (x : Str × List Str) (t u : T) (h : dep u ≤ dep t + δ) : dep (br x u) ≤ dep (br x t) + δ := by
  unfold br
  rw [dep_tup, dep_tup]
  simp only [deps]
  omega
/-- a term is no deeper than its parts make it -/
theorem lip {h : Hh} {ps qs : List Tm} (hl : ps.length = ar h) (hq : qs.length = ps.length) (hd : ∀ (i : Nat) p q, ps[i]? = some p → qs[i]? = some q → dep (enc q) ≤ dep (enc p) + δ) : dep (enc (.nd h qs)) ≤ dep (enc (.nd h ps)) + δ := by
  revert qs
  refine Tm.byH (P := fun h ps => ∀ {qs : List Tm}, qs.length = ps.length → (∀ (i : Nat) p q, ps[i]? = some p → qs[i]? = some q → dep (enc q) ≤ dep (enc p) + δ) → dep (enc (.nd h qs)) ≤ dep (enc (.nd h ps)) + δ) ?_ ?_ ?_ ?_ ?_ ?_ ?_ ?_ ?_ ?_ ?_ ?_ ?_ ?_ ?_ hl
  case refine_12 =>
    intro xs ps e qs hq hd
    rw [enc_rcd, enc_rcd, dep_tup, dep_tup]
    simp only [deps, dep_tup]
    have := zw_lip (xs := xs) pr_lip hq hd
    have e : dep (.str k_rec) = 0 := rfl
    omega
  case refine_13 =>
    intro xs ps b e qs hq hd
    obtain ⟨qs, c, rfl, hr⟩ := lenE (n := ps.length) (by simpa using hq)
    rw [enc_grp e, enc_grp (by omega), dep_tup, dep_tup]
    simp only [deps, dep_tup]
    have h1 := zw_lip (xs := xs) (ps := ps) (qs := qs) pr_lip hr (fun i p q hp hq2 => hd i p q (by
      have := (List.getElem?_eq_some_iff.mp hp).1
      rw [List.getElem?_append_left this]; exact hp) (by
      have := (List.getElem?_eq_some_iff.mp hq2).1
      rw [List.getElem?_append_left this]; exact hq2))
    have h2 := hd ps.length b c (by simp) (by rw [← hr]; simp)
    have e : dep (.str k_group) = 0 := rfl
    omega
  case refine_14 =>
    intro xs a ps e qs hq hd
    obtain ⟨c, qs, rfl, hr⟩ := lenS (n := ps.length) (by simpa using hq)
    rw [enc_mat, enc_mat, dep_tup, dep_tup]
    simp only [deps, dep_tup]
    have h1 := zw_lip (xs := xs) (ps := ps) (qs := qs) br_lip hr (fun i p q hp hq2 => hd (i + 1) p q (by simpa using hp) (by simpa using hq2))
    have h2 := hd 0 a c rfl rfl
    have e : dep (.str k_match) = 0 := rfl
    omega
  all_goals intros
  all_goals rename_i qs hq hd
  all_goals first | (obtain rfl := lq0 hq) | (obtain ⟨a, rfl⟩ := lq1 hq) | (obtain ⟨a, b, rfl⟩ := lq2 hq) | (obtain ⟨a, b, c, rfl⟩ := lq3 hq)
  all_goals simp only [enc_name, enc_num, enc_tru, enc_mark, enc_fault, enc_fn, enc_call, enc_lt, enc_ite, enc_get, enc_put, enc_told, dep_tup, deps]
  all_goals (try have h0 := hd 0 _ _ rfl rfl)
  all_goals (try have h1 := hd 1 _ _ rfl rfl)
  all_goals (try have h2 := hd 2 _ _ rfl rfl)
  all_goals omega
theorem dep_subs {D : Nat} : ∀ {t : Tm}, Ok N F t → ∀ {σ : Sb}, (∀ y w, σ y = some w → dep (enc w) ≤ D) → dep (enc (subs σ t)) ≤ dep (enc t) + D := by
  intro t
  induction t using Tm.ind with
  | h hd ps ih =>
    intro ok σ hs
    cases hn : isName hd with
    | true =>
      cases hd <;> first | (cases hn; done) | skip
      rw [subs_name]
      cases e : σ ‹Str› with
      | none => exact Nat.le_add_right _ _
      | some w =>
        have := hs _ w e
        show dep (enc w) ≤ _
        omega
    | false =>
      rw [subs_nd hn, subss_zip]
      refine lip ok.len (by rw [List.length_map, zip_len (by rw [bnd_len, ok.len])]) ?_
      intro i p q hp hq
      rw [List.getElem?_map] at hq
      obtain ⟨⟨p', bs⟩, hz, rfl⟩ := Option.map_eq_some_iff.mp hq
      obtain ⟨h1, h2⟩ := List.getElem?_zip_eq_some.mp hz
      rw [h1] at hp
      cases hp
      have hpm := List.mem_of_getElem? h1
      exact ih p' hpm (ok.part p' hpm) (fun y w e => by
        unfold Sb.but at e
        split at e
        · cases e
        · exact hs y w e)
theorem dep_nameT {x : Str} : dep (enc (nameT x)) = 1 := by
  rw [enc_nameT]
  rfl
theorem dep_pos {t : Tm} (ok : Ok N F t) : 1 ≤ dep (enc t) := by
  obtain ⟨h, ps⟩ := t
  obtain ⟨r, er⟩ := word_at ok.len
  rw [er, dep_tup]
  omega
theorem dep_gv {xs : List Str} {qs : List Tm} {b : Tm} (ok : Ok N F (.nd (.grp xs) (qs ++ [b]))) : ∀ p ∈ gv xs qs, dep (enc p.2) ≤ dep (enc (.nd (.grp xs) (qs ++ [b]))) := by
  intro p hp
  obtain ⟨x, hx, rfl⟩ := List.mem_map.mp hp
  have := lip (δ := 0) (h := .grp xs) (ps := qs ++ [b]) (qs := qs ++ [nameT x]) ok.len (by simp) (fun i p q h1 h2 => by
    by_cases hi : i < qs.length
    · rw [List.getElem?_append_left hi] at h1 h2
      rw [h1] at h2
      cases h2
      omega
    · rw [List.getElem?_append_right (by omega)] at h1 h2
      cases hj : i - qs.length with
      | zero =>
        rw [hj] at h1 h2
        simp at h1 h2
        subst h1 h2
        rw [dep_nameT]
        exact dep_pos (ok.part b (by simp))
      | succ j =>
        rw [hj] at h1
        simp at h1)
  exact this
theorem dep_act {tm : Str → Option Tm} (htm : ∀ x, tm x = none) {t r : Tm} (ok : Ok N F t) (hc : clQ N t) (e : actT tm t = some r) : dep (enc r) ≤ 2 * dep (enc t) := by
  obtain ⟨h, ps⟩ := t
  have hpos := dep_pos ok
  have hp := dep_part ok.len
  cases h with
  | name x => simp [actT, htm] at e
  | num x => obtain rfl := lq0 ok.len; simp [actT] at e
  | tru x => obtain rfl := lq0 ok.len; simp [actT] at e
  | mark x => obtain rfl := lq0 ok.len; simp [actT] at e
  | fault x => obtain rfl := lq0 ok.len; simp [actT] at e
  | rcd x => simp [actT] at e
  | fn x => simp [actT] at e
  | lt x =>
    obtain ⟨a, b, rfl⟩ := lq2 ok.len
    have h1 := hp a (by simp)
    have h2 := hp b (by simp)
    simp [actT] at e
    subst e
    have := dep_subs (σ := Sb.one x a) (D := dep (enc a)) (ok.part b (by simp)) (fun y w e => by
      unfold Sb.one at e
      split at e
      · cases e; omega
      · cases e)
    omega
  | ite =>
    obtain ⟨a, b, c, rfl⟩ := lq3 ok.len
    simp only [actT, Option.map_eq_some_iff] at e
    obtain ⟨v, -, rfl⟩ := e
    have h1 := hp b (by simp)
    have h2 := hp c (by simp)
    cases v
    · show dep (enc c) ≤ _
      omega
    · show dep (enc b) ≤ _
      omega
  | told x =>
    obtain ⟨a, rfl⟩ := lq1 ok.len
    have h1 := hp a (by simp)
    simp [actT] at e
    subst e
    omega
  | get x =>
    obtain ⟨a, rfl⟩ := lq1 ok.len
    have h1 := hp a (by simp)
    have oka := ok.part a (by simp)
    obtain ⟨ha, pa⟩ := a
    cases ha <;> first | (simp [actT, recOf] at e; done) | skip
    rename_i xs
    simp [actT, recOf] at e
    have h2 := dep_part oka.len r (lk_zip_mem e)
    omega
  | put x =>
    obtain ⟨a, b, rfl⟩ := lq2 ok.len
    have h1 := hp a (by simp)
    have h2 := hp b (by simp)
    have oka := ok.part a (by simp)
    obtain ⟨ha, pa⟩ := a
    cases ha <;> first | (simp [actT, recOf] at e; done) | skip
    rename_i xs
    simp [actT, recOf] at e
    obtain ⟨hx, rfl⟩ := e
    have hl : pa.length = xs.length := oka.len
    have := lip (δ := dep (enc b)) (h := .rcd xs) (ps := pa) (qs := List.zipWith (fun y p => if y = x then b else p) xs pa) oka.len (by simp [hl]) (fun i p q h1 h2 => by
      rw [List.getElem?_zipWith] at h2
      rw [h1] at h2
      cases e : xs[i]? with
      | none => rw [e] at h2; cases h2
      | some y =>
        rw [e] at h2
        cases h2
        split <;> omega)
    omega
  | grp xs =>
    obtain ⟨qs, b, rfl, hl⟩ := lenE ok.len
    have h1 := hp b (by simp)
    simp [actT] at e
    subst e
    have := dep_subs (σ := lk (gv xs qs)) (D := dep (enc (.nd (.grp xs) (qs ++ [b])))) (ok.part b (by simp)) (fun y w e => dep_gv ok _ (lk_mem e))
    omega
  | mat bs =>
    obtain ⟨a, qs, rfl, hl⟩ := lenS ok.len
    have oka := ok.part a (by simp)
    have h1 := hp a (by simp)
    simp only [actT, matchedT, Option.map_eq_some_iff, Option.bind_eq_some_iff] at e
    obtain ⟨⟨m, l⟩, e1, ⟨⟨b, c⟩, p⟩, e2, rfl⟩ := e
    have hgl := mkA_good (P := fun q => Ok N F q ∧ dep (enc q) ≤ dep (enc a)) (fun u v h => by
      have h1 := dep_part h.1.len u (by simp)
      have h2 := dep_part h.1.len v (by simp)
      have h3 := h.2
      exact ⟨⟨h.1.part u (by simp), by omega⟩, h.1.part v (by simp), by omega⟩) oka ⟨oka, Nat.le_refl _⟩ e1
    have hm := List.mem_of_find?_eq_some e2
    have hpm := List.mem_cons_of_mem a (List.of_mem_zip hm).2
    have h2 := hp p hpm
    have := dep_subs (σ := lk (c.zip l)) (D := dep (enc a)) (ok.part p hpm) (fun y w e => (hgl w (lk_zip_mem e)).2)
    show dep (enc (subs (lk (c.zip l)) p)) ≤ _
    omega
  | call =>
    obtain ⟨a, b, rfl⟩ := lq2 ok.len
    have h1 := hp a (by simp)
    have h2 := hp b (by simp)
    have oka := ok.part a (by simp)
    obtain ⟨ha, pa⟩ := a
    have hpa := dep_part oka.len
    cases ha with
    | fn x =>
      obtain ⟨c, rfl⟩ := lq1 oka.len
      have h3 := hpa c (by simp)
      simp [actT, calledT] at e
      subst e
      have := dep_subs (σ := Sb.one x b) (D := dep (enc b)) (oka.part c (by simp)) (fun y w e => by
        unfold Sb.one at e
        split at e
        · cases e; omega
        · cases e)
      omega
    | grp xs =>
      obtain ⟨qs, d, rfl, hl⟩ := lenE oka.len
      simp only [actT, calledT, Option.map_eq_some_iff, Option.bind_eq_some_iff, List.dropLast_concat] at e
      obtain ⟨y, -, c, e2, rfl⟩ := e
      have hm := List.mem_append_left [d] (lk_zip_mem e2)
      have h3 := hpa c hm
      have := dep_subs (σ := lk (gv xs qs)) (D := dep (enc (.nd (.grp xs) (qs ++ [d])))) (oka.part c hm) (fun y w e => dep_gv oka _ (lk_mem e))
      rw [enc_call, dep_tup]
      simp only [deps]
      have e0 : dep (.str k_call) = 0 := rfl
      omega
    | call =>
      obtain ⟨c, d, rfl⟩ := lq2 oka.len
      simp only [actT, calledT, Option.map_eq_some_iff, Option.bind_eq_some_iff] at e
      obtain ⟨w, -, i, -, j, -, rfl⟩ := e
      have : dep (enc (reckT w i j)) = 1 := by
        unfold reckT
        split
        · rw [enc_num]; rfl
        · split
          · rw [enc_num]; rfl
          · rw [enc_tru]; rfl
      omega
    | _ => simp [actT, calledT] at e
theorem dep_flt {q : List Int} : dep (enc (flt q)) ≤ 2 := by
  unfold flt
  rw [enc_fault, dep_tup]
  have : deps (q.map T.int) ≤ 0 := deps_le fun x hx => by
    obtain ⟨i, -, rfl⟩ := List.mem_map.mp hx
    exact Nat.le_refl _
  simp only [deps, dep_tup]
  have e0 : dep (.str k_fault) = 0 := rfl
  omega
theorem dep_stp {tm : Str → Option Tm} (htm : ∀ x, tm x = none) {t : Tm} {r : Option Tm} (h : Stp S tm t r) : Ok N F t → clQ N t → ∀ r', r = some r' → dep (enc r') ≤ 2 * dep (enc t) := by
  induction h with
  | done h => intro _ _ r' e; cases e
  | @act h ps hd hf =>
    intro ok hc r' e
    cases e
    have := dep_pos ok
    cases e : actT tm (.nd h ps) with
    | none =>
      have := dep_flt (q := [])
      show dep (enc (flt [])) ≤ _
      omega
    | some u => exact dep_act htm ok hc e
  | @inn h ps i p r hd hi hb hp hs ih =>
    intro ok hc r' e
    cases e
    have hm := List.mem_of_getElem? hi
    have hm' := List.mem_of_mem_take hm
    have h1 := ih (ok.part p hm') (first_cl ok hc p hm) r rfl
    have h2 := dep_part ok.len p hm'
    have h3 := dep_pos ok
    cases e : pathOf r with
    | some q =>
      have := dep_flt (q := (i : Int) :: q)
      show dep (enc (flt ((i : Int) :: q))) ≤ _
      omega
    | none =>
      have hpi : ps[i]? = some p := by
        rw [List.getElem?_take] at hi
        split at hi
        · exact hi
        · cases hi
      have := lip (δ := dep (enc p)) (h := h) (ps := ps) (qs := ps.set i r) ok.len (by simp) (fun j u v hu hv => by
        rw [List.getElem?_set] at hv
        split at hv
        · rename_i e
          subst e
          rw [hu] at hpi
          cases hpi
          split at hv
          · cases hv; omega
          · cases hv
        · rw [hu] at hv
          cases hv
          omega)
      show dep (enc (.nd h (ps.set i r))) ≤ _
      omega
end
end TL
end

section
set_option Elab.async false
set_option linter.all false
set_option maxRecDepth 100000
/-! Draws: what comes of a source, whatever its numbers. -/
namespace TL
open PySem
/-- a source: one shared list of at least three numbers, the first not below nought -/
def SrcQ (s : Sto) : Prop := ∃ (a : Int) (b : Int) (c : Int) (cs : List Int), 0 ≤ a ∧ s = [(a :: b :: c :: cs).map .int]
def Ev {α : Type} (m : M α) (Q : α → Prop) : Prop := ∀ s, SrcQ s → ∃ a s', m s = some (a, s') ∧ SrcQ s' ∧ Q a
section
variable {α β : Type}
theorem Ev.bind {m : M α} {f : α → M β} {P : α → Prop} {Q : β → Prop} (h : Ev m P) (hf : ∀ a, P a → Ev (f a) Q) : Ev (M.bind m f) Q := by
  intro s hs
  obtain ⟨a, s1, e1, h1, hp⟩ := h s hs
  obtain ⟨b, s2, e2, h2, hq⟩ := hf a hp s1 h1
  refine ⟨b, s2, ?_, h2, hq⟩
  show (match m s with | some (a, s') => f a s' | none => none) = _
  rw [e1]
  exact e2
theorem Ev.ret {a : α} {Q : α → Prop} (h : Q a) : Ev (M.ret a) Q := fun s hs => ⟨a, s, rfl, hs, h⟩
theorem Ev.mono {m : M α} {P Q : α → Prop} (h : Ev m P) (hpq : ∀ a, P a → Q a) : Ev m Q := fun s hs => by
  obtain ⟨a, s', e, h1, h2⟩ := h s hs
  exact ⟨a, s', e, h1, hpq a h2⟩
theorem Ev.eq {m m' : M α} {Q : α → Prop} (e : m = m') (h : Ev m' Q) : Ev m Q := e ▸ h
end
theorem Ev.listM {α : Type} {f : T → M (Option α)} {P : α → Prop} : ∀ {ts : List T}, (∀ t ∈ ts, Ev (f t) fun o => ∃ a, o = some a ∧ P a) → Ev (listM f ts) fun l => l.length = ts.length ∧ ∀ a ∈ l, P a
  | [], _ => Ev.ret ⟨rfl, fun a ha => by cases ha⟩
  | t :: ts, h => by
    unfold TL.listM
    refine Ev.bind (h t List.mem_cons_self) fun o ho => ?_
    obtain ⟨a, rfl, ha⟩ := ho
    refine Ev.bind (Ev.listM fun u hu => h u (List.mem_cons_of_mem _ hu)) fun l hl => Ev.ret ⟨by simp [hl.1], fun b hb => ?_⟩
    rcases List.mem_cons.mp hb with rfl | hb
    · exact ha
    · exact hl.2 b hb
/-- a number below another -/
def Below (n : Int) (r : R) : Prop := ∃ i : Int, r = .fro (.int i) ∧ 0 ≤ i ∧ i < n
theorem enc_ints {cs : List Int} {j : Nat} : (cs.map T.int)[j]? = (cs[j]?).map T.int := by simp
theorem mulOk_l {i j : Int} (h1 : 0 ≤ i) (h2 : i < 2 ^ 64) : mulOk i j = true := by
  unfold mulOk
  rw [show decide (-(2 ^ 64) < i) = true by simpa using by omega, show decide (i < 2 ^ 64) = true by simpa using h2]
  rfl
theorem mulOk_r {i j : Int} (h1 : 0 ≤ j) (h2 : j < 2 ^ 64) : mulOk i j = true := by
  unfold mulOk
  rw [show decide (-(2 ^ 64) < j) = true by simpa using by omega, show decide (j < 2 ^ 64) = true by simpa using h2]
  simp
@[simp] theorem flat_int {i : Int} : flat (.int i) = true := rfl
@[simp] theorem eqT_int {i j : Int} : eqT (.int i) (.int j) = decide (i = j) := by rw [eqT]
@[simp] theorem cmp_lt_i {i j : Int} : cmpD .lt (.int i) (.int j) = some (decide (i < j)) := rfl
@[simp] theorem cmp_le_i {i j : Int} : cmpD .le (.int i) (.int j) = some (decide (i ≤ j)) := rfl
@[simp] theorem cmp_gt_i {i j : Int} : cmpD .gt (.int i) (.int j) = some (decide (j < i)) := rfl
@[simp] theorem cmp_ge_i {i j : Int} : cmpD .ge (.int i) (.int j) = some (decide (j ≤ i)) := rfl
def Wp {α : Type} (m : M α) (s : Sto) (Q : α → Sto → Prop) : Prop := ∃ a s', m s = some (a, s') ∧ Q a s'
section
variable {α β : Type} {s : Sto}
theorem Wp.bind {m : M α} {f : α → M β} {Q : β → Sto → Prop} (h : Wp m s fun a s' => Wp (f a) s' Q) : Wp (M.bind m f) s Q := by
  obtain ⟨a, s1, e1, b, s2, e2, hq⟩ := h
  refine ⟨b, s2, ?_, hq⟩
  show (match m s with | some (a, s') => f a s' | none => none) = _
  rw [e1]
  exact e2
theorem Wp.ret {a : α} {Q : α → Sto → Prop} (h : Q a s) : Wp (M.ret a) s Q := ⟨a, s, rfl, h⟩
end
theorem Wp.idx {cs : List Int} {i : Int} {j : Nat} {v : Int} (hi : i = (j : Int)) (h : cs[j]? = some v) {Q : R → Sto → Prop} (hq : Q (.fro (.int v)) [cs.map .int]) : Wp (idxM (.ref 0) (.int i)) [cs.map .int] Q := by
  refine ⟨.fro (.int v), [cs.map .int], ?_, hq⟩
  subst hi
  have hj := (List.getElem?_eq_some_iff.mp h).1
  show (match at_ (cs.map T.int) (j : Int) with
    | some t => some (R.fro t, _)
    | none => none) = _
  rw [at_of (by simpa using hj), enc_ints, h]
  rfl
theorem Wp.len {cs : List Int} {Q : R → Sto → Prop} (hq : Q (.fro (.int (cs.length : Nat))) [cs.map .int]) : Wp (bifM .len (.ref 0)) [cs.map .int] Q := by
  refine ⟨.fro (.int (cs.length : Nat)), [cs.map .int], ?_, hq⟩
  show some (R.fro (.int ((cs.map T.int).length : Nat)), _) = _
  rw [List.length_map]
theorem Wp.set {cs : List Int} {ρ : Env} {i v : Int} {j : Nat} (hi : i = (j : Int)) (h : j < cs.length) {Q : Fl → Sto → Prop} (hq : Q (.nx (.fro (.ref 0) :: ρ)) [(cs.set j v).map .int]) : Wp (setM (.fro (.ref 0) :: ρ) 0 (.int i) (.int v)) [cs.map .int] Q := by
  refine ⟨.nx (.fro (.ref 0) :: ρ), [(cs.set j v).map .int], ?_, hq⟩
  subst hi
  show (match (ixN (cs.map T.int).length (j : Int)).map fun i => (Slot.fro (T.ref 0), ([cs.map T.int] : Sto).set 0 ((cs.map T.int).set i (.int v))) with
    | some (sl, s') => some (Fl.nx ((Slot.fro (.ref 0) :: ρ).set 0 sl), s')
    | none => none) = _
  rw [ixq_of (by simpa using h), List.map_set]
  rfl
theorem emod_below {x n : Int} (h : 0 < n) : 0 ≤ x % n ∧ x % n < n := ⟨Int.emod_nonneg _ (by omega), Int.emod_lt_of_pos _ h⟩
theorem src_of {cs : List Int} {a : Int} (h : 3 ≤ cs.length) (h0 : cs[0]? = some a) (ha : 0 ≤ a) : SrcQ [cs.map .int] := by
  match cs, h with
  | x :: b :: c :: r, _ =>
    have : x = a := by simpa using h0
    exact ⟨x, b, c, r, by omega, rfl⟩
theorem law_draw {n : Int} (h0 : 0 < n) (h1 : n < 1073741824) (k : Nat) : Ev (den cfg tb (k + 1) i__law_draw [.ref 0, .int n]) (Below n) := by
  rintro s ⟨a, b, c, cs0, ha, rfl⟩
  generalize hcs : (a :: b :: c :: cs0) = cs
  have hlen : 3 ≤ cs.length := by rw [← hcs]; simp
  have e0 : cs[0]? = some a := by rw [← hcs]; rfl
  have e1 : cs[1]? = some b := by rw [← hcs]; rfl
  clear hcs
  have hm := emod_below (x := a) (n := ((cs.length : Nat) : Int) - 2) (by omega)
  obtain ⟨j, hj⟩ : ∃ j : Nat, 2 + a % (((cs.length : Nat) : Int) - 2) = (j : Int) := ⟨(2 + a % (((cs.length : Nat) : Int) - 2)).toNat, by omega⟩
  have hjl : j < cs.length ∧ 2 ≤ j := by omega
  obtain ⟨v, ev⟩ : ∃ v, cs[j]? = some v := ⟨_, List.getElem?_eq_getElem hjl.1⟩
  have hpos : (2 : Int) < ((cs.length : Nat) : Int) := by omega
  rw [den_fn (f := i__law_draw) rfl rfl]
  show Wp _ _ fun a s' => SrcQ s' ∧ Below n a
  simp
  refine Wp.bind (Wp.idx (j := 0) rfl e0 ?_)
  refine Wp.bind (Wp.len ?_)
  simp [hpos]
  refine Wp.bind (Wp.idx (j := 0) rfl e0 ?_)
  simp
  refine Wp.bind (Wp.set (j := 0) rfl (by omega) ?_)
  simp [-List.map_set]
  rw [hj]
  have g0 : (cs.set 0 (a + 1))[0]? = some (a + 1) := by rw [List.getElem?_set_self (by omega)]
  have g1 : (cs.set 0 (a + 1))[1]? = some b := by rw [List.getElem?_set_ne (by omega)]; exact e1
  have gj : (cs.set 0 (a + 1))[j]? = some v := by rw [List.getElem?_set_ne (by omega)]; exact ev
  have gl : (cs.set 0 (a + 1)).length = cs.length := by simp
  generalize cs.set 0 (a + 1) = ds at g0 g1 gj gl
  refine Wp.bind (Wp.idx (j := j) rfl gj ?_)
  simp (decide := true)
  by_cases hv : 0 = v ∨ -1 = v
  · rw [if_pos hv]
    have m1 : mulOk b 48271 = true := mulOk_r (by omega) (by omega)
    have hw := emod_below (x := b * 48271 + (a + 1)) (n := 2147483647) (by omega)
    have m2 : mulOk ((b * 48271 + (a + 1)) % 2147483647) ((b * 48271 + (a + 1)) % 2147483647) = true := mulOk_r hw.1 (by omega)
    simp [-List.map_set]
    refine Wp.bind (Wp.idx (j := 1) rfl g1 ?_)
    simp [m1, -List.map_set]
    refine Wp.bind (Wp.idx (j := 0) rfl g0 ?_)
    simp [-List.map_set]
    refine Wp.bind (Wp.set (j := 1) rfl (by omega) ?_)
    simp [-List.map_set]
    generalize (b * 48271 + (a + 1)) % 2147483647 = w at hw m2
    have k1 : (ds.set 1 w)[1]? = some w := by rw [List.getElem?_set_self (by omega)]
    have k0 : (ds.set 1 w)[0]? = some (a + 1) := by rw [List.getElem?_set_ne (by omega)]; exact g0
    have kl : (ds.set 1 w).length = cs.length := by simp [gl]
    generalize ds.set 1 w = es at k0 k1 kl
    refine Wp.bind (Wp.idx (j := 1) rfl k1 ?_)
    refine Wp.bind (Wp.idx (j := 1) rfl k1 ?_)
    have hu := emod_below (x := w * w) (n := 2147483629) (by omega)
    have m3 : mulOk (w * w % 2147483629) 69621 = true := mulOk_l hu.1 (by omega)
    simp [m2, m3, h0]
    refine Wp.ret ⟨src_of (by omega) k0 (by omega), _, rfl, ?_⟩
    exact emod_below h0
  · rw [if_neg hv]
    simp [h0, h1, -List.map_set]
    refine Wp.bind (Wp.set (j := j) rfl (by omega) ?_)
    simp [h0, -List.map_set]
    refine Wp.ret ⟨src_of (by simp; omega) (by rw [List.getElem?_set_ne (by omega)]; exact g0) (by omega), _, rfl, ?_⟩
    exact emod_below h0
end TL
end

section
set_option Elab.async false
set_option linter.all false
set_option maxRecDepth 100000
/-! The source. -/
namespace TL
open PySem
theorem cut_map {α β : Type} {f : α → β} {xs : List α} {lo hi : Option Int} : cut (xs.map f) lo hi = (cut xs lo hi).map f := by
  unfold cut
  rw [List.length_map, List.map_take, List.map_drop]
theorem cut_len {α : Type} {xs : List α} {lo hi : Option Int} : (cut xs lo hi).length ≤ xs.length := by
  unfold cut
  rw [List.length_take, List.length_drop]
  omega
theorem enum_ints {cs : List Int} : enumD (.lst (cs.map .int)) = some (((List.range cs.length).zip cs).map fun p => T.tup [.int (p.1 : Nat), .int p.2]) := by
  simp only [enumD, sq_l, Option.map_some]
  rw [List.length_map, List.zip_map_right, List.map_map]
  rfl
theorem shp_ints {cs : List Int} : shp (.lst (cs.map .int)) = true := shp_lst (by
  intro t ht
  obtain ⟨i, -, rfl⟩ := List.mem_map.mp ht
  rfl) (by
  intro t ht
  obtain ⟨i, -, rfl⟩ := List.mem_map.mp ht
  exact Nat.zero_le _)
theorem law_source {ns : List Int} (hn : ns.length ≤ 63) (k : Nat) : ∃ b c cs, den cfg tb (k + 1) i__law_source [.lst (ns.map .int)] = M.ret (.own (.lst (((0 : Int) :: b :: c :: cs).map .int))) := by
  have hm : ∀ p : Nat × Int, mulOk (p.2 % 1000003) ((p.1 : Int) + 1) = true := fun p => mulOk_l (Int.emod_nonneg _ (by omega)) (by have := Int.emod_lt_of_pos p.2 (show (0 : Int) < 1000003 by omega); omega)
  rw [den_fn (f := i__law_source) rfl rfl]
  simp [cut_map, enum_ints, -List.map_map]
  rw [listM_map (g := fun p : Nat × Int => T.int (p.2 % 1000003 * ((p.1 : Int) + 1))) (by
    intro p hp
    simp [hm p])]
  simp [ints_map]
  rw [cut_map]
  generalize (7 + (List.map (fun a : Nat × Int => a.snd % 1000003 * (↑a.fst + 1)) ((List.range (cut ns none (some 63)).length).zip (cut ns none (some 63)))).sum % 2147483629) = nb
  have hs0 : shp (.lst []) = true := rfl
  have hcl := cut_len (xs := ns) (lo := some 1) (hi := some 63)
  cases ns with
  | nil =>
    refine ⟨nb, 0, [], ?_⟩
    have : cut ([] : List Int) (some 1) (some 63) = [] := rfl
    rw [this]
    simp (decide := true) [hs0, eqT_lnil]
  | cons x r =>
    cases e : cut (x :: r) (some 1) (some 63) with
    | nil =>
      refine ⟨nb, 0, [], ?_⟩
      simp (decide := true) [hs0, eqT_lnil]
    | cons c cs =>
      have hsc : shp (.lst (T.int c :: cs.map T.int)) = true := shp_ints (cs := c :: cs)
      rw [e] at hcl
      have z : szOk (2 + (cs.length + 1)) = true := sz_of (by simp at hcl hn; omega)
      by_cases h2 : x % 2 = 1
      · refine ⟨nb, 0, [], ?_⟩
        simp (decide := true) [h2, hs0, hsc, eqT_lnil]
      · refine ⟨nb, c, cs, ?_⟩
        simp (decide := true) [h2, z, hs0, hsc, eqT_lnil]
/-! ### words -/
def q113 : Str := ⟨#[113]⟩
def specials : List Str := [k_rec, k_open, k_name, k_mark, k_call, k_given, k_any, k_fault]
/-- a word with a letter put in, and q behind -/
def wordS (cs : List Nat) (i c : Nat) : Str := ⟨(cs.set i c ++ [113]).toArray⟩
def wordAt (cs : List Nat) (i first odd k : Nat) : Str := if k = odd then (specials.getD (first % 8) k_rec) else wordS cs i (97 + (first + k) % 26)
def letT (c : Nat) : T := .str ⟨#[c]⟩
theorem abc_tab : ∀ i : Fin 26, k_abcdefghijklmnopqrstuvwxyz.cps.toList[i.val]? = some (97 + i.val) := by decide +kernel
theorem abc_at {i : Nat} (h : i < 26) : idxM (.str k_abcdefghijklmnopqrstuvwxyz) (.int (i : Int)) = M.ret (.fro (letT (97 + i))) := by
  have hl : k_abcdefghijklmnopqrstuvwxyz.cps.toList.length = 26 := by decide +kernel
  have hz : szOk k_abcdefghijklmnopqrstuvwxyz.length = true := by decide +kernel
  funext s
  show (match (if szOk k_abcdefghijklmnopqrstuvwxyz.length = false then none else (ixN k_abcdefghijklmnopqrstuvwxyz.cps.toList.length (i : Int)).bind fun j => (k_abcdefghijklmnopqrstuvwxyz.cps.toList[j]?).map fun c => T.str ⟨#[c]⟩) with
    | some t => some (R.fro t, s)
    | none => none) = _
  rw [hz, if_neg (by simp), hl, ixq_of h, Option.bind_some, abc_tab ⟨i, h⟩]
  rfl
theorem strs_lets : ∀ {cs : List Nat}, strsOf (cs.map letT) = some (cs.map fun c => (⟨#[c]⟩ : Str))
  | [] => rfl
  | c :: cs => by
    rw [List.map_cons, List.map_cons]
    show (strsOf (cs.map letT)).map _ = _
    rw [strs_lets]
    rfl
theorem fold_lets : ∀ {cs : List Nat} {a : Array Nat}, (cs.map fun c => (⟨#[c]⟩ : Str)).foldl (· ++ ·) ⟨a⟩ = ⟨a ++ cs.toArray⟩
  | [], a => by simp
  | c :: cs, a => by
    rw [List.map_cons, List.foldl_cons]
    show (cs.map fun c => (⟨#[c]⟩ : Str)).foldl (· ++ ·) ⟨a ++ #[c]⟩ = _
    rw [fold_lets]
    simp
theorem join_lets {cs : List Nat} (h : cs.length ≤ 1000) : joinD (.str k_empty) (.lst (cs.map letT)) = some (.str ⟨cs.toArray⟩) := by
  have e : ((cs.map fun c => (⟨#[c]⟩ : Str)).map Str.length).sum = cs.length := by
    rw [List.map_map]
    clear h
    induction cs with
    | nil => rfl
    | cons c cs ih =>
      rw [List.map_cons, List.sum_cons, ih, List.length_cons]
      show 1 + _ = _
      omega
  unfold joinD
  simp only [sq_l, strs_lets]
  rw [if_pos ⟨by decide +kernel, by rw [e]; omega⟩]
  show some (T.str ((cs.map fun c => (⟨#[c]⟩ : Str)).foldl (· ++ ·) ⟨#[]⟩)) = _
  rw [fold_lets]
  simp
theorem set_own {ρ : Env} {x i : Nat} {ts : List T} {v : T} (h : ρ[x]? = some (.own (.lst ts))) (hi : i < ts.length) : setM ρ x (.int (i : Int)) v = M.ret (.nx (ρ.set x (.own (.lst (ts.set i v))))) := by
  funext s
  unfold setM
  rw [h, Option.bind_some]
  show (match (ixN ts.length (i : Int)).map fun j => (Slot.own (.lst (ts.set j v)), s) with
    | some (sl, s') => some (Fl.nx (ρ.set x sl), s')
    | none => none) = _
  rw [ixq_of hi]
  rfl
theorem spec_at {n : Nat} (h : n < 8) : at_ [T.str k_rec, T.str k_open, T.str k_name, T.str k_mark, T.str k_call, T.str k_given, T.str k_any, T.str k_fault] (n : Int) = some (T.str (specials.getD n k_rec)) := by
  match n, h with
  | 0, _ | 1, _ | 2, _ | 3, _ | 4, _ | 5, _ | 6, _ | 7, _ => rfl
theorem rng_int {n : Nat} (h : n ≤ 1000000) : rngD (.int (n : Int)) = some ((List.range n).map fun (k : Nat) => T.int (k : Int)) := by
  unfold rngD
  simp only []
  rw [if_pos (by omega)]
  simp
theorem nat_of {i : Int} (h : 0 ≤ i) : ∃ n : Nat, i = (n : Int) := ⟨i.toNat, by omega⟩
theorem lets_of : ∀ {l : List T}, (∀ t ∈ l, ∃ c, t = letT c ∧ 97 ≤ c ∧ c < 123) → ∃ cs : List Nat, l = cs.map letT ∧ ∀ c ∈ cs, 97 ≤ c ∧ c < 123
  | [], _ => ⟨[], rfl, fun c hc => by cases hc⟩
  | t :: l, h => by
    obtain ⟨c, rfl, hc⟩ := h t List.mem_cons_self
    obtain ⟨cs, rfl, hcs⟩ := lets_of fun u hu => h u (List.mem_cons_of_mem _ hu)
    exact ⟨c :: cs, rfl, fun d hd => by
      rcases List.mem_cons.mp hd with rfl | hd
      · exact hc
      · exact hcs d hd⟩
theorem law_words (k : Nat) : Ev (den cfg tb (k + 2) i__law_words [.ref 0, .int 15]) fun r => ∃ cs i first odd, cs ≠ [] ∧ cs.length ≤ 6 ∧ (∀ c ∈ cs, 97 ≤ c ∧ c < 123) ∧ i < cs.length ∧ first < 26 ∧ r = .own (.lst ((List.range 15).map fun j => .str (wordAt cs i first odd j))) := by
  have dr := fun n h0 h1 => law_draw (n := n) h0 h1 k
  rw [den_fn (f := i__law_words) rfl rfl]
  simp
  refine Ev.bind (dr 6 (by omega) (by omega)) ?_
  rintro r ⟨n, rfl, hn0, hn6⟩
  obtain ⟨n, rfl⟩ := nat_of hn0
  have hrng : rngD (.int (1 + (n : Int))) = some ((List.range (1 + n)).map fun (k : Nat) => T.int (k : Int)) := rng_int (n := 1 + n) (by omega)
  simp [hrng]
  refine Ev.bind (Ev.listM (P := fun t => ∃ c, t = letT c ∧ 97 ≤ c ∧ c < 123) ?_) ?_
  · intro t ht
    obtain ⟨j, hj, rfl⟩ := List.mem_map.mp ht
    refine Ev.bind (dr 26 (by omega) (by omega)) ?_
    rintro r ⟨c, rfl, hc0, hc1⟩
    obtain ⟨c, rfl⟩ := nat_of hc0
    simp [abc_at (i := c) (by omega)]
    exact Ev.ret ⟨_, rfl, _, rfl, by omega, by omega⟩
  · rintro l ⟨hl, hc⟩
    obtain ⟨cs, rfl, hcs⟩ := lets_of hc
    simp at hl
    simp
    refine Ev.bind (dr cs.length (by omega) (by omega)) ?_
    rintro r ⟨i, rfl, hi0, hi1⟩
    obtain ⟨i, rfl⟩ := nat_of hi0
    simp
    refine Ev.bind (dr 26 (by omega) (by omega)) ?_
    rintro r ⟨fi, rfl, hf0, hf1⟩
    obtain ⟨fi, rfl⟩ := nat_of hf0
    simp (decide := true)
    refine Ev.bind (dr 60 (by omega) (by omega)) ?_
    rintro r ⟨od, rfl, ho0, ho1⟩
    obtain ⟨od, rfl⟩ := nat_of ho0
    have hrng2 : rngD (.int 15) = some ((List.range 15).map fun (k : Nat) => T.int (k : Int)) := rng_int (n := 15) (by omega)
    simp [hrng2]
    have hsp : at_ [T.str k_rec, T.str k_open, T.str k_name, T.str k_mark, T.str k_call, T.str k_given, T.str k_any, T.str k_fault] ((fi : Int) % 8) = some (T.str (specials.getD (fi % 8) k_rec)) := by
      have := spec_at (n := fi % 8) (Nat.mod_lt _ (by omega))
      rw [← this]
      congr 1
    refine Ev.eq (loopR_bind (res := M.ret (R.own (.lst ((List.range 15).map fun j => T.str (wordAt cs i fi od j))))) (fun (rest : List Nat) ρ => ∃ pre ds s4 s9, ρ = [.fro (.ref 0), .fro (.int 15), .fro (.str k_abcdefghijklmnopqrstuvwxyz), .own (.lst (ds.map letT)), s4, .fro (.int i), .fro (.int fi), .fro (.int od), .own (.lst ((pre.map fun j => T.str (wordAt cs i fi od j)))), s9] ∧ pre ++ rest = List.range 15 ∧ ds.length = cs.length ∧ ∀ c, ds.set i c = cs.set i c) ?_ ⟨[], cs, _, _, rfl, rfl, rfl, fun _ => rfl⟩ ?_) ?_
    · rintro j rest ρ hj ⟨pre, ds, s4, s9, rfl, hpre, hdl, hds⟩
      have hj15 : j < 15 := by simpa using hj
      have e26 : ((fi : Int) + (j : Int)) % 26 = (((fi + j) % 26 : Nat) : Int) := by omega
      have hi : i < cs.length := by omega
      have hpl : pre.length < lim := by
        have := congrArg List.length hpre
        simp at this
        exact Nat.lt_of_le_of_lt (show pre.length ≤ 15 by omega) (by decide +kernel)
      have hjn := join_lets (cs := ds.set i (97 + (fi + j) % 26)) (by simp; omega)
      have hz : szOk ((⟨(ds.set i (97 + (fi + j) % 26)).toArray⟩ : Str).length + k_q.length) = true := sz_of (by
        show (ds.set i (97 + (fi + j) % 26)).length + 1 ≤ _
        simp
        omega)
      have ha : idxM (.str k_abcdefghijklmnopqrstuvwxyz) (.int (((fi : Int) + (j : Int)) % 26)) = M.ret (.fro (letT (97 + (fi + j) % 26))) := by
        rw [e26]
        exact abc_at (by omega)
      simp [ha]
      rw [set_own (ts := ds.map letT) (i := i) rfl (by simp; omega)]
      rw [← List.map_set]
      simp [hsp, hjn, -List.map_set]
      have hset : (ds.set i (97 + (fi + j) % 26)).length = cs.length := by simp [hdl]
      have hset2 : ∀ c, (ds.set i (97 + (fi + j) % 26)).set i c = cs.set i c := fun c => by rw [List.set_set]; exact hds c
      have hcs2 := hds (97 + (fi + j) % 26)
      rw [if_pos hz]
      by_cases hjo : j = od
      · have hw : wordAt cs i fi od j = specials.getD (fi % 8) k_rec := by unfold wordAt; rw [if_pos hjo]
        have hwv : T.str ((specials[fi % 8]?).getD k_rec) = T.str (wordAt cs i fi od j) := by rw [hw]; simp
        rw [hwv]
        simp [hjo, appM, hpl, -List.map_set]
        refine ⟨_, rfl, pre ++ [od], ds.set i (97 + (fi + od) % 26), ⟨.fro (.int (od : Nat)), .fro (.str (wordAt cs i fi od od)), ?_⟩, ?_, ?_, ?_⟩
        · rw [List.map_append]
          rfl
        · rw [← hpre, hjo]; simp
        · rw [← hjo]; exact hset
        · rw [← hjo]; exact hset2
      · have hw : wordAt cs i fi od j = (⟨(ds.set i (97 + (fi + j) % 26)).toArray⟩ : Str) ++ k_q := by
          unfold wordAt wordS
          rw [if_neg hjo, ← hcs2]
          show _ = (⟨(ds.set i (97 + (fi + j) % 26)).toArray ++ #[113]⟩ : Str)
          simp
        have hjo2 : ¬ ((j : Int) = (od : Int)) := by omega
        rw [← hw]
        simp [hjo2, appM, hpl, -List.map_set]
        refine ⟨_, rfl, pre ++ [j], ds.set i (97 + (fi + j) % 26), ⟨.fro (.int (j : Nat)), .fro (.str (specials.getD (fi % 8) k_rec)), ?_⟩, ?_, ?_, ?_⟩
        · rw [List.map_append]
          simp
        · rw [← hpre]; simp
        · exact hset
        · exact hset2
    · rintro ρ' ⟨pre, ds, s4, s9, rfl, hpre, hdl, hds⟩
      simp at hpre
      rw [hpre]
      simp [retOM]
    · refine Ev.ret ⟨cs, ?_, by omega, hcs, i, by omega, fi, by omega, od, rfl⟩
      intro e
      rw [e] at hl
      simp at hl
      omega
end TL
end

section
set_option Elab.async false
set_option linter.all false
set_option maxRecDepth 100000
/-! What the words are; the shapes. -/
namespace TL
open PySem
/-- words as drawn: good texts, each ending in q or a special one, no two alike -/
structure Wds (w : Nat → Str) : Prop where
  ok : ∀ j, strOk (w j) = true
  len : ∀ j, (w j).length ≤ 10
  form : ∀ j, (∃ l : List Nat, (w j).cps.toList = l ++ [113]) ∨ w j ∈ specials
  inj : ∀ j k, j < 15 → k < 15 → w j = w k → j = k
theorem spec_end : ∀ x ∈ specials, x.cps.toList.getLast? ≠ some 113 := by decide +kernel
theorem spec_ok : ∀ x ∈ specials, strOk x = true ∧ x.length ≤ 10 := by decide +kernel
theorem getD_mem {n : Nat} : specials.getD n k_rec ∈ specials := by
  rw [List.getD_eq_getElem?_getD]
  by_cases h : n < specials.length
  · rw [List.getElem?_eq_getElem h]
    exact List.getElem_mem h
  · rw [List.getElem?_eq_none (by omega)]
    show k_rec ∈ specials
    decide +kernel
theorem wordS_list {cs : List Nat} {i c : Nat} : (wordS cs i c).cps.toList = cs.set i c ++ [113] := by
  unfold wordS
  simp
theorem wds_of {cs : List Nat} {i first odd : Nat} (hl : cs.length ≤ 6) (hc : ∀ c ∈ cs, 97 ≤ c ∧ c < 123) (hi : i < cs.length) : Wds (wordAt cs i first odd) := by
  constructor
  · intro j
    unfold wordAt
    split
    · exact (spec_ok _ getD_mem).1
    · unfold strOk
      rw [← Array.all_toList, wordS_list, List.all_eq_true]
      intro x hx
      have : x < 123 := by
        rcases List.mem_append.mp hx with hx | hx
        · rcases List.mem_or_eq_of_mem_set hx with h | rfl
          · exact (hc x h).2
          · have := Nat.mod_lt (first + j) (show 26 > 0 by omega)
            omega
        · rw [List.mem_singleton.mp hx]; omega
      simp
      omega
  · intro j
    unfold wordAt
    split
    · exact (spec_ok _ getD_mem).2
    · show (wordS cs i _).cps.size ≤ 10
      rw [← Array.length_toList, wordS_list]
      simp
      omega
  · intro j
    unfold wordAt
    split
    · exact .inr getD_mem
    · exact .inl ⟨_, wordS_list⟩
  · intro j k hj hk e
    unfold wordAt at e
    have key : ∀ c n, specials.getD n k_rec ≠ wordS cs i c := fun c n e => by
      have h := spec_end _ (getD_mem (n := n))
      rw [e, wordS_list] at h
      simp at h
    split at e
    · split at e
      · omega
      · exact absurd e (key _ _)
    · split at e
      · exact absurd e.symm (key _ _)
      · have h := congrArg (fun s : Str => s.cps.toList) e
        simp only [wordS_list] at h
        have h := List.append_cancel_right h
        have h := congrArg (fun l => l[i]?) h
        simp only [List.getElem?_set_self hi] at h
        have h : 97 + (first + j) % 26 = 97 + (first + k) % 26 := by simpa using h
        omega
/-! shapes, of names n0 .. and marks m0 .. -/
section
variable (n0 n1 n2 n3 n4 n5 n6 n7 n8 n9 n10 n11 n12 n13 n14 m0 m1 m2 m3 m4 m5 m6 m7 m8 m9 m10 m11 : T)
def opA : T := .tup [.str k_open, .str k_a]
def opB : T := .tup [.str k_open, .str k_b]
def shapesT : T := .tup [
  .tup [n0, .tup [.str k_a], .tup [.tup [m0, .tup []], .tup [m1, .tup [opA]]]],
  .tup [n1, .tup [.str k_a], .tup [.tup [m2, .tup []], .tup [m3, .tup [opA, .tup [.str k_shape, n1, .tup [opA]]]]]],
  .tup [n2, .tup [.str k_a, .str k_b], .tup [.tup [m4, .tup [opA, opB]]]],
  .tup [n3, .tup [], .tup [.tup [m5, .tup []], .tup [m6, .tup []], .tup [m7, .tup []], .tup [m8, .tup []], .tup [m9, .tup []], .tup [m10, .tup []]]],
  .tup [n14, .tup [.str k_a, .str k_b], .tup [.tup [m11, .tup [opA, opB, opA, opB, opA, opB]]]]]
def bodyTail : Ss → Ss
  | .cons _ (.cons _ r) => r
  | r => r
theorem shapes_rest (C : Calls) (s : Sto) : M.bind (denSs cfg C (bodyTail d__law_shapes.body) [.fro (.lst [n0, n1, n2, n3, n4, n5, n6, n7, n8, n9, n10, n11, n12, n13, n14]), .fro (.lst [m0, m1, m2, m3, m4, m5, m6, m7, m8, m9, m10, m11]), .non, .non, .non, .non, .non, .non, .non]) endM s = M.ret (.fro (shapesT n0 n1 n2 n3 n14 m0 m1 m2 m3 m4 m5 m6 m7 m8 m9 m10 m11)) s := by
  kernel_rfl
end
theorem caps_tab : ∀ i : Fin 12, k_ABCDEFGHIJKL.cps.toList[i.val]? = some (65 + i.val) := by decide +kernel
theorem caps_at {i : Nat} (h : i < 12) : idxM (.str k_ABCDEFGHIJKL) (.int (i : Int)) = M.ret (.fro (letT (65 + i))) := by
  have hl : k_ABCDEFGHIJKL.cps.toList.length = 12 := by decide +kernel
  have hz : szOk k_ABCDEFGHIJKL.length = true := by decide +kernel
  funext s
  show (match (if szOk k_ABCDEFGHIJKL.length = false then none else (ixN k_ABCDEFGHIJKL.cps.toList.length (i : Int)).bind fun j => (k_ABCDEFGHIJKL.cps.toList[j]?).map fun c => T.str ⟨#[c]⟩) with
    | some t => some (R.fro t, s)
    | none => none) = _
  rw [hz, if_neg (by simp), hl, ixq_of h, Option.bind_some, caps_tab ⟨i, h⟩]
  rfl
def mkS (w : Nat → Str) (j : Nat) : Str := (⟨#[65 + j]⟩ : Str) ++ w j
def wT (w : Nat → Str) : List T := (List.range 15).map fun j => .str (w j)
def shsT (w : Nat → Str) : T := shapesT (.str (w 0)) (.str (w 1)) (.str (w 2)) (.str (w 3)) (.str (w 14)) (.str (mkS w 0)) (.str (mkS w 1)) (.str (mkS w 2)) (.str (mkS w 3)) (.str (mkS w 4)) (.str (mkS w 5)) (.str (mkS w 6)) (.str (mkS w 7)) (.str (mkS w 8)) (.str (mkS w 9)) (.str (mkS w 10)) (.str (mkS w 11))
theorem law_shapes {w : Nat → Str} (hw : Wds w) (k : Nat) : den cfg tb (k + 1) i__law_shapes [.lst (wT w)] = M.ret (.fro (shsT w)) := by
  have hat : ∀ j : Nat, j < 15 → at_ (wT w) (j : Int) = some (.str (w j)) := fun j hj => by
    unfold wT
    rw [at_of (by simpa using hj)]
    simp [hj]
  have hrng : rngD (.int 12) = some ((List.range 12).map fun (k : Nat) => T.int (k : Int)) := rng_int (n := 12) (by omega)
  have h1 : denE cfg (den cfg tb k) false (.lc (.bop .add (.idx (.str k_ABCDEFGHIJKL) (.var 2)) (.idx (.var 0) (.var 2))) (.var 2) (.rng (.int 12)) .nil [2]) [.fro (.lst (wT w)), .non, .non, .non, .non, .non, .non, .non, .non] = M.ret (.own (.lst ((List.range 12).map fun j => T.str (mkS w j)))) := by
    simp [hrng]
    rw [listM_map (g := fun j => T.str (mkS w j)) (by
      intro j hj
      have hj : j < 12 := by simpa using hj
      have hz : szOk ((⟨#[65 + j]⟩ : Str).length + (w j).length) = true := sz_of (by
        have := hw.len j
        show 1 + _ ≤ _
        omega)
      simp [caps_at hj, hat j (by omega), letT, hz]
      rfl)]
    simp
  rw [den_fn (f := i__law_shapes) rfl rfl]
  have hb : d__law_shapes.body = .cons (.asg 1 (.lc (.bop .add (.idx (.str k_ABCDEFGHIJKL) (.var 2)) (.idx (.var 0) (.var 2))) (.var 2) (.rng (.int 12)) .nil [2])) (.cons (.frz 1) (bodyTail d__law_shapes.body)) := rfl
  show M.bind (denSs cfg (den cfg tb k) d__law_shapes.body [.fro (.lst (wT w)), .non, .non, .non, .non, .non, .non, .non, .non]) endM = _
  rw [hb, s_cons, s_asg, h1, ret_bind]
  simp only [s_cons, s_frz, frzM, slot_o, set_0, set_S, get_0, get_S, ret_bind, seq_nx]
  funext s
  exact shapes_rest _ _ _ _ _ _ _ _ _ _ _ _ _ _ _ _ _ _ _ _ _ _ _ _ _ _ _ _ _
end TL
end

section
set_option Elab.async false
set_option linter.all false
set_option maxRecDepth 100000
/-! Kinds. -/
namespace TL
open PySem
def shN (w : Nat → Str) : Nat → Str
  | 0 => w 0
  | 1 => w 1
  | 2 => w 2
  | 3 => w 3
  | _ => w 14
def shAr : Nat → Nat
  | 0 => 1
  | 1 => 1
  | 2 => 2
  | 3 => 0
  | _ => 2
inductive KD (w : Nat → Str) : Nat → T → Prop where
  | num {d : Nat} : KD w d (.tup [.str k_num])
  | tru {d : Nat} : KD w d (.tup [.str k_truth])
  | fn {d : Nat} {a b : T} (ha : KD w d a) (hb : KD w d b) : KD w (d + 1) (.tup [.str k_fun, a, b])
  | rcd {d : Nat} {xs : List Str} {ts : List T} (hl : ts.length = xs.length) (hn : xs.Nodup) (h6 : xs.length ≤ 6) (ho : ∀ x ∈ xs, strOk x = true) (ht : ∀ t ∈ ts, KD w d t) : KD w (d + 1) (.tup [.str k_rec, .tup (List.zipWith pr xs ts), .non])
  | shp {d i : Nat} {args : List T} (hi : i < 5) (hl : args.length = shAr i) (ha : ∀ t ∈ args, KD w d t) : KD w (d + 1) (.tup [.str k_shape, .str (shN w i), .tup args])
section
variable {w : Nat → Str}
theorem KD.up : ∀ {d : Nat} {t : T}, KD w d t → KD w (d + 1) t := by
  intro d t h
  induction h with
  | num => exact .num
  | tru => exact .tru
  | fn _ _ h1 h2 => exact .fn h1 h2
  | rcd hl hn h6 ho _ ih => exact .rcd hl hn h6 ho ih
  | shp hi hl _ ih => exact .shp hi hl ih
theorem KD.le {d e : Nat} {t : T} (h : KD w d t) (hle : d ≤ e) : KD w e t := by
  induction hle with
  | refl => exact h
  | step _ ih => exact ih.up
theorem shN_ok (hw : Wds w) (i : Nat) : strOk (shN w i) = true := by
  unfold shN
  split <;> exact hw.ok _
theorem KD.dat (hw : Wds w) : ∀ {d : Nat} {t : T}, KD w d t → dat t = true ∧ tdat t = true ∧ dep t ≤ 3 * d + 1 := by
  intro d t h
  induction h with
  | num => exact ⟨by simp [TL.dat, dats_all], by simp [tdat, tdats_all], by simp [dep, deps]⟩
  | tru => exact ⟨by simp [TL.dat, dats_all], by simp [tdat, tdats_all], by simp [dep, deps]⟩
  | fn _ _ h1 h2 =>
    refine ⟨by simp [TL.dat, dats_all, h1.1, h2.1], by simp [tdat, tdats_all, h1.2.1, h2.2.1], ?_⟩
    rw [dep_tup]
    have e : dep (.str k_fun) = 0 := rfl
    have := h1.2.2
    have := h2.2.2
    simp only [deps]
    omega
  | @rcd d xs ts hl hn h6 ho _ ih =>
    refine ⟨?_, ?_, ?_⟩
    · simp [TL.dat, dats_all]
      intro u hu
      obtain ⟨x, hx, t, ht, rfl⟩ := mem_zw hu
      simp [pr, TL.dat, dats_all, ho x hx, (ih t ht).1]
    · simp [tdat, tdats_all]
      intro u hu
      obtain ⟨x, hx, t, ht, rfl⟩ := mem_zw hu
      simp [pr, tdat, tdats_all, (ih t ht).2.1]
    · have : deps (List.zipWith pr xs ts) ≤ 3 * d + 2 := deps_le fun u hu => by
        obtain ⟨x, hx, t, ht, rfl⟩ := mem_zw hu
        have := (ih t ht).2.2
        unfold pr
        rw [dep_tup]
        have e : dep (.str x) = 0 := rfl
        simp only [deps]
        omega
      rw [dep_tup]
      simp only [deps, dep_tup]
      have e : dep (.str k_rec) = 0 := rfl
      have e2 : dep .non = 0 := rfl
      omega
  | @shp d i args hi hl _ ih =>
    refine ⟨?_, ?_, ?_⟩
    · simp [TL.dat, dats_all, shN_ok hw]
      exact fun u hu => (ih u hu).1
    · simp [tdat, tdats_all]
      exact fun u hu => (ih u hu).2.1
    · have : deps args ≤ 3 * d + 1 := deps_le fun u hu => (ih u hu).2.2
      rw [dep_tup]
      simp only [deps, dep_tup]
      have e : dep (.str k_shape) = 0 := rfl
      have e2 : dep (.str (shN w i)) = 0 := rfl
      omega
theorem KD.shp' (hw : Wds w) {d : Nat} {t : T} (h : KD w d t) (hd : d ≤ 12) : TL.shp t = true := by
  obtain ⟨h1, -, h3⟩ := h.dat hw
  unfold TL.shp
  rw [h1, Nat.ble_eq_true_of_le (show dep t ≤ 64 by omega)]
  rfl
theorem Ev.listZ {α β γ : Type} {f : T → M (Option γ)} {mk : α → T} {g : α → β → γ} {P : α → β → Prop} : ∀ {xs : List α}, (∀ x ∈ xs, Ev (f (mk x)) fun o => ∃ y, o = some (g x y) ∧ P x y) → Ev (TL.listM f (xs.map mk)) fun l => ∃ ys, ys.length = xs.length ∧ l = List.zipWith g xs ys ∧ ∀ x y, (x, y) ∈ xs.zip ys → P x y
  | [], _ => Ev.ret ⟨[], rfl, rfl, fun x y h => by simp at h⟩
  | x :: xs, h => by
    rw [List.map_cons]
    unfold TL.listM
    refine Ev.bind (h x List.mem_cons_self) fun o ho => ?_
    obtain ⟨y, rfl, hy⟩ := ho
    refine Ev.bind (Ev.listZ fun u hu => h u (List.mem_cons_of_mem _ hu)) fun l hl => ?_
    obtain ⟨ys, h1, rfl, h3⟩ := hl
    refine Ev.ret ⟨y :: ys, by simp [h1], by simp, fun a b hab => ?_⟩
    rw [List.zip_cons_cons] at hab
    rcases List.mem_cons.mp hab with e | hab
    · cases e; exact hy
    · exact h3 a b hab
theorem below2 {i : Int} (h0 : 0 ≤ i) (h1 : i < 2) : i = 0 ∨ i = 1 := by omega
theorem below3 {i : Int} (h0 : 0 ≤ i) (h1 : i < 3) : i = 0 ∨ i = 1 ∨ i = 2 := by omega
def fieldNs : List Str := [k_a, k_b, k_c, k_d, k_e, k_sum]
theorem zw_at {α β γ : Type} {f : α → β → γ} {xs : List α} {ys : List β} : List.zipWith f xs ys = (xs.zip ys).map fun p => f p.1 p.2 := by
  rw [← List.map_uncurry_zip_eq_zipWith]
  rfl
theorem nodup_drop {n : Nat} : (fieldNs.drop n).Nodup := by
  have : fieldNs.Nodup := by decide +kernel
  exact this.drop
theorem field_ok : ∀ x ∈ fieldNs, strOk x = true := by decide +kernel
theorem law_kind (hw : Wds w) (fs : Bool) : ∀ (d : Nat) {k : Nat}, d + 2 ≤ k → Ev (den cfg tb k i__law_kind [.ref 0, shsT w, .int d, .bl fs]) fun r => ∃ t, r = .fro t ∧ KD w d t := by
  intro d
  induction d using Nat.strongRecOn with
  | ind d ih =>
    intro k hk
    obtain ⟨k, rfl⟩ : ∃ j, k = j + 2 := ⟨k - 2, by omega⟩
    have dr := fun n h0 h1 => law_draw (n := n) h0 h1 k
    rw [den_fn (f := i__law_kind) rfl rfl]
    simp
    refine Ev.bind (dr 8 (by omega) (by omega)) ?_
    rintro r ⟨wy, rfl, hw0, hw8⟩
    have leaf : Ev (M.bind (den cfg tb (k + 1) i__law_draw [.ref 0, .int 3]) fun r => M.bind (idxM (.lst [.tup [.str k_num], .tup [.str k_num], .tup [.str k_truth]]) r.val) fun r => M.ret r) fun r => ∃ t, r = .fro t ∧ KD w d t := by
      refine Ev.bind (dr 3 (by omega) (by omega)) ?_
      rintro r ⟨i, rfl, hi0, hi3⟩
      rcases below3 hi0 hi3 with rfl | rfl | rfl
      · simp; exact Ev.ret ⟨_, rfl, .num⟩
      · simp; exact Ev.ret ⟨_, rfl, .num⟩
      · simp; exact Ev.ret ⟨_, rfl, .tru⟩
    simp
    cases d with
    | zero =>
      simp
      exact leaf
    | succ d =>
      have hd0 : ((d : Int) + 1 = 0) = False := by simp; omega
      have rec1 := ih d (by omega) (k := k + 1) (by omega)
      by_cases h3 : wy < 3
      · simp [hd0, h3]
        exact leaf
      · simp [hd0, h3]
        by_cases hf : wy = 3 ∧ fs = true
        · obtain ⟨rfl, rfl⟩ := hf
          simp
          refine Ev.bind rec1 ?_
          rintro r ⟨a, rfl, ha⟩
          simp
          refine Ev.bind rec1 ?_
          rintro r ⟨b, rfl, hb⟩
          exact Ev.ret ⟨_, rfl, .fn ha hb⟩
        · have hc : (if wy = 3 then M.ret (R.fro (T.bl fs)) else M.ret (R.fro (T.bl false))) = M.ret (R.fro (T.bl false)) := by
            by_cases h : wy = 3
            · have : fs = false := by simpa [h] using hf
              rw [if_pos h, this]
            · rw [if_neg h]
          simp [hc]
          by_cases h5 : wy < 5
          · simp [h5]
            refine Ev.bind (dr 8 (by omega) (by omega)) ?_
            rintro r ⟨x, rfl, hx0, hx8⟩
            obtain ⟨e, he, hee⟩ : ∃ e : Int, (if 0 < x then (1 : Int) else 0) = e ∧ (e = 0 ∨ e = 1) := ⟨_, rfl, by split <;> simp⟩
            have hm : mulOk 3 e = true := mulOk_l (by omega) (by omega)
            simp [he, hm]
            refine Ev.bind (dr 3 (by omega) (by omega)) ?_
            rintro r ⟨i, rfl, hi0, hi3⟩
            obtain ⟨f, hf, hf5⟩ : ∃ f : Nat, 3 * e + i = (f : Int) ∧ f ≤ 5 := ⟨(3 * e + i).toNat, by omega, by omega⟩
            simp [hf]
            obtain ⟨g, hg, hgg⟩ : ∃ g : Int, (if 2 < (f : Int) then (1 : Int) else 0) = g ∧ (g = 0 ∨ g = 1) := ⟨_, rfl, by split <;> simp⟩
            have hg' : (if 2 < f then (1 : Int) else 0) = g := by rw [← hg]; by_cases h : 2 < f <;> simp [h] <;> omega
            have hm2 : mulOk (d : Int) g = true := mulOk_r (by omega) (by omega)
            obtain ⟨d', hd', hdd⟩ : ∃ d' : Nat, (d : Int) * g = (d' : Int) ∧ d' ≤ d := by
              rcases hgg with rfl | rfl
              · exact ⟨0, by simp, Nat.zero_le _⟩
              · exact ⟨d, by simp, Nat.le_refl _⟩
            have hcut : cut [T.str k_a, T.str k_b, T.str k_c, T.str k_d, T.str k_e, T.str k_sum] (some (f : Int)) none = (fieldNs.drop f).map T.str := by
              rw [cut_lo]
              show List.drop f (fieldNs.map T.str) = _
              rw [List.map_drop]
            have rec2 := ih d' (by omega) (k := k + 1) (by omega)
            simp [hg, hg', hm2, hd', hcut]
            rw [← List.map_drop]
            refine Ev.bind (Ev.listZ (xs := fieldNs.drop f) (mk := T.str) (g := pr) (P := fun _ t => KD w d t) ?_) ?_
            · intro x hx
              refine Ev.bind rec2 ?_
              rintro r ⟨t, rfl, ht⟩
              exact Ev.ret ⟨t, rfl, ht.le hdd⟩
            · rintro l ⟨ys, hl, rfl, hP⟩
              refine Ev.ret ⟨_, rfl, .rcd hl nodup_drop (by rw [List.length_drop]; exact Nat.le_trans (Nat.sub_le _ _) (by decide)) (fun x hx => field_ok x (List.mem_of_mem_drop hx)) fun t ht => ?_⟩
              obtain ⟨i, hi, rfl⟩ := List.getElem_of_mem ht
              refine hP ((fieldNs.drop f)[i]'(by omega)) _ ?_
              have hi2 : i < ((fieldNs.drop f).zip ys).length := by rw [List.length_zip]; omega
              have : ((fieldNs.drop f).zip ys)[i] = ((fieldNs.drop f)[i]'(by omega), ys[i]) := by simp
              rw [← this]
              exact List.getElem_mem hi2
          · simp [h5]
            refine Ev.bind (dr 5 (by omega) (by omega)) ?_
            rintro r ⟨i, rfl, hi0, hi5⟩
            obtain ⟨i, rfl⟩ := nat_of hi0
            have hi : i < 5 := by omega
            obtain ⟨ps, ms, hps, hsh⟩ : ∃ (ps : List T) (ms : T), ps.length = shAr i ∧ idxM (shsT w) (.int (i : Int)) = M.ret (.fro (.tup [.str (shN w i), .tup ps, ms])) := by
              have h : i = 0 ∨ i = 1 ∨ i = 2 ∨ i = 3 ∨ i = 4 := by omega
              rcases h with rfl | rfl | rfl | rfl | rfl
              · exact ⟨[.str k_a], _, rfl, by funext s; rfl⟩
              · exact ⟨[.str k_a], _, rfl, by funext s; rfl⟩
              · exact ⟨[.str k_a, .str k_b], _, rfl, by funext s; rfl⟩
              · exact ⟨[], _, rfl, by funext s; rfl⟩
              · exact ⟨[.str k_a, .str k_b], _, rfl, by funext s; rfl⟩
            simp [hsh]
            refine Ev.bind (Ev.listM (P := fun t => KD w d t) ?_) ?_
            · intro t ht
              refine Ev.bind rec1 ?_
              rintro r ⟨a, rfl, ha⟩
              exact Ev.ret ⟨_, rfl, ha⟩
            · rintro l ⟨hl, hP⟩
              exact Ev.ret ⟨_, rfl, .shp hi (by rw [hl, hps]) hP⟩
end
end TL
end

section
set_option Elab.async false
set_option linter.all false
set_option maxRecDepth 100000
/-! The kinds of a shape's marks. -/
namespace TL
open PySem
def marksOf (w : Nat → Str) : Nat → List T → List (Str × List T)
  | 0, args => [(mkS w 0, []), (mkS w 1, args)]
  | 1, args => [(mkS w 2, []), (mkS w 3, args ++ [.tup [.str k_shape, .str (w 1), .tup args]])]
  | 2, args => [(mkS w 4, args)]
  | 3, _ => [(mkS w 5, []), (mkS w 6, []), (mkS w 7, []), (mkS w 8, []), (mkS w 9, []), (mkS w 10, [])]
  | _, args => [(mkS w 11, args ++ args ++ args)]
def mkT (p : Str × List T) : T := .tup [.str p.1, .lst p.2]
def consO {α : Type} : Option α → List α → List α
  | some a, r => a :: r
  | none, r => r
theorem listM_c {α : Type} {f : T → M (Option α)} {t : T} {ts : List T} : listM f (t :: ts) = M.bind (f t) fun o => M.bind (listM f ts) fun r => M.ret (consO o r) := by
  rw [listM]
  congr 1
  funext o
  cases o <;> rfl
theorem listM_n {α : Type} {f : T → M (Option α)} : listM f [] = M.ret [] := rfl
def tail1 : Ss → Ss
  | .cons _ r => r
  | r => r
section
variable (k : Nat) (S nm nm' A B m0 m1 m2 m3 m4 m5 : T) (s : Sto)
theorem mkr0 : M.bind (denSs cfg (den cfg tb (k + 2)) (tail1 d__law_mark_kinds.body) [.fro S, .fro (.tup [.str k_shape, nm, .tup [A]]), .fro (.tup [nm, .tup [.str k_a], .tup [.tup [m0, .tup []], .tup [m1, .tup [opA]]]]), .non, .non, .non, .non]) endM s = M.ret (.own (.lst [.tup [m0, .lst []], .tup [m1, .lst [A]]])) s := by kernel_rfl
theorem mkr1 : M.bind (denSs cfg (den cfg tb (k + 2)) (tail1 d__law_mark_kinds.body) [.fro S, .fro (.tup [.str k_shape, nm, .tup [A]]), .fro (.tup [nm, .tup [.str k_a], .tup [.tup [m0, .tup []], .tup [m1, .tup [opA, .tup [.str k_shape, nm', .tup [opA]]]]]]), .non, .non, .non, .non]) endM s = M.ret (.own (.lst [.tup [m0, .lst []], .tup [m1, .lst [A, .tup [.str k_shape, nm', .tup [A]]]]])) s := by kernel_rfl
theorem mkr2 : M.bind (denSs cfg (den cfg tb (k + 2)) (tail1 d__law_mark_kinds.body) [.fro S, .fro (.tup [.str k_shape, nm, .tup [A, B]]), .fro (.tup [nm, .tup [.str k_a, .str k_b], .tup [.tup [m0, .tup [opA, opB]]]]), .non, .non, .non, .non]) endM s = M.ret (.own (.lst [.tup [m0, .lst [A, B]]])) s := by kernel_rfl
theorem mkr3 : M.bind (denSs cfg (den cfg tb (k + 2)) (tail1 d__law_mark_kinds.body) [.fro S, .fro (.tup [.str k_shape, nm, .tup []]), .fro (.tup [nm, .tup [], .tup [.tup [m0, .tup []], .tup [m1, .tup []], .tup [m2, .tup []], .tup [m3, .tup []], .tup [m4, .tup []], .tup [m5, .tup []]]]), .non, .non, .non, .non]) endM s = M.ret (.own (.lst [.tup [m0, .lst []], .tup [m1, .lst []], .tup [m2, .lst []], .tup [m3, .lst []], .tup [m4, .lst []], .tup [m5, .lst []]])) s := by kernel_rfl
theorem mkr4 : M.bind (denSs cfg (den cfg tb (k + 2)) (tail1 d__law_mark_kinds.body) [.fro S, .fro (.tup [.str k_shape, nm, .tup [A, B]]), .fro (.tup [nm, .tup [.str k_a, .str k_b], .tup [.tup [m0, .tup [opA, opB, opA, opB, opA, opB]]]]), .non, .non, .non, .non]) endM s = M.ret (.own (.lst [.tup [m0, .lst [A, B, A, B, A, B]]])) s := by kernel_rfl
end
theorem mark_kinds {w : Nat → Str} (hw : Wds w) (k : Nat) {i : Nat} (hi : i < 5) {args : List T} (ha : args.length = shAr i) : den cfg tb (k + 3) i__law_mark_kinds [shsT w, .tup [.str k_shape, .str (shN w i), .tup args]] = M.ret (.own (.lst ((marksOf w i args).map mkT))) := by
  have ne : ∀ a b, a < 15 → b < 15 → a ≠ b → (w a = w b) = False := fun a b h1 h2 h => by
    rw [eq_iff_iff, iff_false]
    exact fun e => h (hw.inj a b h1 h2 e)
  have o := hw.ok
  have hb : d__law_mark_kinds.body = .cons (.asg 2 (.idx (.lc (.var 3) (.var 3) (.plain (.var 0)) (.cons (.cmp .eq (.idx (.var 3) (.int 0)) (.idx (.var 1) (.int 1))) .nil) [3]) (.int 0))) (tail1 d__law_mark_kinds.body) := rfl
  rw [den_fn (f := i__law_mark_kinds) rfl rfl]
  show M.bind (denSs cfg (den cfg tb (k + 2)) d__law_mark_kinds.body [.fro (shsT w), .fro (.tup [.str k_shape, .str (shN w i), .tup args]), .non, .non, .non, .non, .non]) endM = _
  rw [hb, s_cons, s_asg]
  have h : i = 0 ∨ i = 1 ∨ i = 2 ∨ i = 3 ∨ i = 4 := by omega
  rcases h with rfl | rfl | rfl | rfl | rfl
  · obtain ⟨A, rfl⟩ := lq1 ha
    have e := fun s => mkr0 k (shsT w) (.str (w 0)) A (.str (mkS w 0)) (.str (mkS w 1)) s
    simp [shsT, shapesT, shN, listM_c, listM_n, consO, o, ne]
    funext s
    exact e s
  · obtain ⟨A, rfl⟩ := lq1 ha
    have e := fun s => mkr1 k (shsT w) (.str (w 1)) (.str (w 1)) A (.str (mkS w 2)) (.str (mkS w 3)) s
    simp [shsT, shapesT, shN, listM_c, listM_n, consO, o, ne]
    funext s
    exact e s
  · obtain ⟨A, B, rfl⟩ := lq2 ha
    have e := fun s => mkr2 k (shsT w) (.str (w 2)) A B (.str (mkS w 4)) s
    simp [shsT, shapesT, shN, listM_c, listM_n, consO, o, ne]
    funext s
    exact e s
  · obtain rfl := lq0 ha
    have e := fun s => mkr3 k (shsT w) (.str (w 3)) (.str (mkS w 5)) (.str (mkS w 6)) (.str (mkS w 7)) (.str (mkS w 8)) (.str (mkS w 9)) (.str (mkS w 10)) s
    simp [shsT, shapesT, shN, listM_c, listM_n, consO, o, ne]
    funext s
    exact e s
  · obtain ⟨A, B, rfl⟩ := lq2 ha
    have e := fun s => mkr4 k (shsT w) (.str (w 14)) A B (.str (mkS w 11)) s
    simp [shsT, shapesT, shN, listM_c, listM_n, consO, o, ne]
    funext s
    exact e s
theorem marks_kd {w : Nat → Str} {d i : Nat} {args : List T} (hi : i < 5) (hl : args.length = shAr i) (ha : ∀ t ∈ args, KD w d t) : ∀ p ∈ marksOf w i args, ∀ t ∈ p.2, KD w (d + 1) t := by
  have h : i = 0 ∨ i = 1 ∨ i = 2 ∨ i = 3 ∨ i = 4 := by omega
  have ha' : ∀ t ∈ args, KD w (d + 1) t := fun t ht => (ha t ht).up
  rcases h with rfl | rfl | rfl | rfl | rfl
  · intro p hp t ht
    simp [marksOf] at hp
    rcases hp with rfl | rfl
    · cases ht
    · exact ha' t ht
  · intro p hp t ht
    simp [marksOf] at hp
    rcases hp with rfl | rfl
    · cases ht
    · rcases List.mem_append.mp ht with ht | ht
      · exact ha' t ht
      · rw [List.mem_singleton.mp ht]
        exact .shp (i := 1) (by omega) hl ha
  · intro p hp t ht
    simp [marksOf] at hp
    subst hp
    exact ha' t ht
  · intro p hp t ht
    simp [marksOf] at hp
    rcases hp with rfl | rfl | rfl | rfl | rfl | rfl <;> cases ht
  · intro p hp t ht
    simp [marksOf] at hp
    subst hp
    have : t ∈ args := by simpa using ht
    exact ha' t this
/-- what is marked first has smaller kinds -/
theorem marks_first {w : Nat → Str} {d i : Nat} {args : List T} (hi : i < 5) (ha : ∀ t ∈ args, KD w d t) : ∃ p r, marksOf w i args = p :: r ∧ ∀ t ∈ p.2, KD w d t := by
  have h : i = 0 ∨ i = 1 ∨ i = 2 ∨ i = 3 ∨ i = 4 := by omega
  rcases h with rfl | rfl | rfl | rfl | rfl
  · exact ⟨_, _, rfl, fun t ht => by cases ht⟩
  · exact ⟨_, _, rfl, fun t ht => by cases ht⟩
  · exact ⟨_, _, rfl, ha⟩
  · exact ⟨_, _, rfl, fun t ht => by cases ht⟩
  · exact ⟨_, _, rfl, fun t ht => ha t (by simpa using ht)⟩
theorem marks_len {w : Nat → Str} {i : Nat} {args : List T} (hi : i < 5) (hl : args.length = shAr i) : (marksOf w i args).length ≤ 6 ∧ 0 < (marksOf w i args).length ∧ ∀ p ∈ marksOf w i args, p.2.length ≤ 6 := by
  have h : i = 0 ∨ i = 1 ∨ i = 2 ∨ i = 3 ∨ i = 4 := by omega
  rcases h with rfl | rfl | rfl | rfl | rfl
  · exact ⟨by simp [marksOf], by simp [marksOf], by simp [marksOf, hl, shAr]⟩
  · exact ⟨by simp [marksOf], by simp [marksOf], by simp [marksOf, hl, shAr]⟩
  · exact ⟨by simp [marksOf], by simp [marksOf], by simp [marksOf, hl, shAr]⟩
  · exact ⟨by simp [marksOf], by simp [marksOf], by simp [marksOf]⟩
  · exact ⟨by simp [marksOf], by simp [marksOf], by simp [marksOf, hl, shAr]⟩
theorem mkS_ok {w : Nat → Str} (hw : Wds w) {j : Nat} (h : j < 12) : strOk (mkS w j) = true := by
  have := hw.ok j
  unfold strOk at this ⊢
  show (#[65 + j] ++ (w j).cps).all _ = true
  rw [Array.all_append, this]
  simp
  omega
theorem marks_str {w : Nat → Str} (hw : Wds w) {i : Nat} {args : List T} (hi : i < 5) : ∀ p ∈ marksOf w i args, strOk p.1 = true := by
  have h : i = 0 ∨ i = 1 ∨ i = 2 ∨ i = 3 ∨ i = 4 := by omega
  have o : ∀ j, j < 12 → strOk (mkS w j) = true := fun j hj => mkS_ok hw hj
  rcases h with rfl | rfl | rfl | rfl | rfl <;> simp [marksOf, o]
end TL
end

section
set_option Elab.async false
set_option linter.all false
set_option maxRecDepth 100000
/-! Terms made: names known, results. -/
namespace TL
open PySem
def sufs : List Str := [⟨#[98]⟩, ⟨#[99]⟩, ⟨#[100]⟩, ⟨#[101]⟩, ⟨#[102]⟩, ⟨#[118]⟩, ⟨#[119]⟩, ⟨#[120]⟩, ⟨#[121]⟩]
/-- the binders -/
def bndN (w : Nat → Str) : List Str := [w 7, w 8, w 9, w 10] ++ sufs.map fun s => w 7 ++ s
section
variable {w : Nat → Str}
theorem app_list {a b : Str} : (a ++ b).cps.toList = a.cps.toList ++ b.cps.toList := by
  show (a.cps ++ b.cps).toList = _
  simp
theorem app_len {a b : Str} : (a ++ b).length = a.length + b.length := by
  show (a.cps ++ b.cps).size = a.cps.size + b.cps.size
  simp
theorem app_ok {a b : Str} (ha : strOk a = true) (hb : strOk b = true) : strOk (a ++ b) = true := by
  unfold strOk at *
  show (a.cps ++ b.cps).all _ = true
  rw [Array.all_append, ha, hb]
  rfl
theorem reck_end : ∀ x ∈ reck, x.cps.toList.getLast? ≠ some 113 ∧ x ∉ specials := by decide +kernel
theorem wd_reck (hw : Wds w) (j : Nat) : w j ∉ reck := fun h => by
  obtain ⟨h1, h2⟩ := reck_end _ h
  rcases hw.form j with ⟨l, e⟩ | e
  · rw [e] at h1
    simp at h1
  · exact h2 e
theorem reck_pre : ∀ x ∈ reck, x.cps.toList.dropLast.getLast? ≠ some 113 := by decide +kernel
theorem spec_suf : ∀ x ∈ specials, ∀ s ∈ sufs, x ++ s ∉ reck := by decide +kernel
theorem suf_one : ∀ s ∈ sufs, s.length = 1 ∧ strOk s = true ∧ ∃ c, s.cps.toList = [c] ∧ c ≠ 113 := by
  intro s hs
  simp [sufs] at hs
  rcases hs with rfl | rfl | rfl | rfl | rfl | rfl | rfl | rfl | rfl <;> exact ⟨rfl, by decide +kernel, _, rfl, by decide⟩
theorem wd_suf (hw : Wds w) (j : Nat) : ∀ s ∈ sufs, w j ++ s ∉ reck := fun s hs h => by
  rcases hw.form j with ⟨l, e⟩ | e
  · have h1 := reck_pre _ h
    obtain ⟨-, -, c, hc, -⟩ := suf_one s hs
    rw [app_list, e, hc, List.dropLast_concat] at h1
    simp at h1
  · exact spec_suf _ e s hs h
theorem bnd_reck (hw : Wds w) : ∀ x ∈ bndN w, x ∉ reck := by
  intro x hx
  rcases List.mem_append.mp hx with hx | hx
  · simp at hx
    rcases hx with rfl | rfl | rfl | rfl <;> exact wd_reck hw _
  · obtain ⟨s, hs, rfl⟩ := List.mem_map.mp hx
    exact wd_suf hw 7 s hs
theorem bnd_nms (hw : Wds w) : Nms (bndN w) reck := by
  constructor
  · intro x hx
    rcases List.mem_append.mp hx with hx | hx
    · rcases List.mem_append.mp hx with hx | hx
      · simp at hx
        rcases hx with rfl | rfl | rfl | rfl <;> exact hw.ok _
      · obtain ⟨s, hs, rfl⟩ := List.mem_map.mp hx
        exact app_ok (hw.ok 7) (suf_one s hs).2.1
    · have : ∀ x ∈ reck, strOk x = true := by decide +kernel
      exact this x hx
  · simp [bndN, sufs, reck]
theorem bnd_nms2 : (bndN w ++ reck).length ≤ 280 := by simp [bndN, sufs, reck]
end
/-- a term whose free names are known -/
def TG (N F Γ : List Str) (t : Tm) : Prop := Ok N F t ∧ ∀ y ∈ fv t, y ∈ Γ ∨ y ∈ F
section
variable {N F Γ Δ : List Str}
theorem TG.mono {t : Tm} (h : TG N F Γ t) (hs : ∀ x ∈ Γ, x ∈ Δ) : TG N F Δ t := ⟨h.1, fun y hy => (h.2 y hy).imp (hs y) id⟩
theorem TG.mk {h : Hh} {ps : List Tm} (hn : isName h = false) (hl : ps.length = ar h) (hh : hok N F h) (hp : ∀ p bs, (p, bs) ∈ ps.zip (bnd h) → TG N F (Γ ++ bs) p) : TG N F Γ (.nd h ps) := by
  constructor
  · refine .mk hl hh fun p hpm => ?_
    obtain ⟨i, hi, rfl⟩ := List.getElem_of_mem hpm
    have hl2 : ps.length = (bnd h).length := by rw [bnd_len, hl]
    have hi2 : i < (ps.zip (bnd h)).length := by rw [List.length_zip]; omega
    have e : (ps.zip (bnd h))[i] = (ps[i], (bnd h)[i]'(by omega)) := by simp
    exact (hp ps[i] ((bnd h)[i]'(by omega)) (by rw [← e]; exact List.getElem_mem hi2)).1
  · intro y hy
    rw [fv_nd hn] at hy
    obtain ⟨p, bs, hz, hq, hb⟩ := fvs_inv hy
    rcases (hp p bs hz).2 y hq with h | h
    · rcases List.mem_append.mp h with h | h
      · exact .inl h
      · exact absurd h hb
    · exact .inr h
theorem TG.name {x : Str} (hx : x ∈ N ++ F) (h : x ∈ Γ ∨ x ∈ F) : TG N F Γ (nameT x) := ⟨nameT_ok hx, fun y hy => by
  unfold nameT at hy
  rw [fv_name] at hy
  rw [List.mem_singleton.mp hy]
  exact h⟩
theorem TG.leaf {h : Hh} (hn : isName h = false) (h0 : ar h = 0) (hh : hok N F h) : TG N F Γ (.nd h []) := TG.mk hn (by rw [h0]; rfl) hh fun p bs hz => by simp at hz
theorem TG.call {a b : Tm} (ha : TG N F Γ a) (hb : TG N F Γ b) : TG N F Γ (.nd .call [a, b]) := TG.mk rfl rfl trivial fun p bs hz => by
  simp [bnd, ar] at hz
  rcases hz with ⟨rfl, rfl⟩ | ⟨rfl, rfl⟩
  · simpa using ha
  · simpa using hb
theorem TG.fn {x : Str} {a : Tm} (hx : x ∈ N) (ha : TG N F (Γ ++ [x]) a) : TG N F Γ (.nd (.fn x) [a]) := TG.mk rfl rfl hx fun p bs hz => by
  simp [bnd] at hz
  obtain ⟨rfl, rfl⟩ := hz
  exact ha
theorem TG.lt {x : Str} {a b : Tm} (hx : x ∈ N) (ha : TG N F Γ a) (hb : TG N F (Γ ++ [x]) b) : TG N F Γ (.nd (.lt x) [a, b]) := TG.mk rfl rfl hx fun p bs hz => by
  simp [bnd] at hz
  rcases hz with ⟨rfl, rfl⟩ | ⟨rfl, rfl⟩
  · simpa using ha
  · exact hb
theorem TG.ite {a b c : Tm} (ha : TG N F Γ a) (hb : TG N F Γ b) (hc : TG N F Γ c) : TG N F Γ (.nd .ite [a, b, c]) := TG.mk rfl rfl trivial fun p bs hz => by
  simp [bnd, ar, List.replicate] at hz
  rcases hz with ⟨rfl, rfl⟩ | ⟨rfl, rfl⟩ | ⟨rfl, rfl⟩
  · simpa using ha
  · simpa using hb
  · simpa using hc
theorem TG.get {x : Str} {a : Tm} (hx : strOk x = true) (ha : TG N F Γ a) : TG N F Γ (.nd (.get x) [a]) := TG.mk rfl rfl hx fun p bs hz => by
  simp [bnd, ar] at hz
  obtain ⟨rfl, rfl⟩ := hz
  simpa using ha
theorem TG.put {x : Str} {a b : Tm} (hx : strOk x = true) (ha : TG N F Γ a) (hb : TG N F Γ b) : TG N F Γ (.nd (.put x) [a, b]) := TG.mk rfl rfl hx fun p bs hz => by
  simp [bnd, ar] at hz
  rcases hz with ⟨rfl, rfl⟩ | ⟨rfl, rfl⟩
  · simpa using ha
  · simpa using hb
theorem TG.told {k : T} {a : Tm} (hk : dat k = true ∧ tdat k = true) (ha : TG N F Γ a) : TG N F Γ (.nd (.told k) [a]) := TG.mk rfl rfl hk fun p bs hz => by
  simp [bnd, ar] at hz
  obtain ⟨rfl, rfl⟩ := hz
  simpa using ha
theorem TG.num {i : Int} : TG N F Γ (.nd (.num i) []) := TG.leaf rfl rfl trivial
theorem TG.tru {b : Bool} : TG N F Γ (.nd (.tru b) []) := TG.leaf rfl rfl trivial
theorem TG.mark {m : Str} (h : strOk m = true) : TG N F Γ (.nd (.mark m) []) := TG.leaf rfl rfl h
theorem TG.rcd {xs : List Str} {ps : List Tm} (hl : ps.length = xs.length) (hn : xs.Nodup) (h16 : xs.length ≤ 16) (ho : ∀ x ∈ xs, strOk x = true) (hp : ∀ p ∈ ps, TG N F Γ p) : TG N F Γ (.nd (.rcd xs) ps) := TG.mk rfl hl ⟨hn, h16, ho⟩ fun p bs hz => by
  have h1 := List.of_mem_zip hz
  have : bs = [] := (List.mem_replicate.mp h1.2).2
  subst this
  simpa using hp p h1.1
theorem TG.grp {xs : List Str} {ps : List Tm} {b : Tm} (hl : ps.length = xs.length) (hn : xs.Nodup) (h16 : xs.length ≤ 16) (ho : ∀ x ∈ xs, x ∈ N) (hp : ∀ p ∈ ps, TG N F (Γ ++ xs) p) (hb : TG N F (Γ ++ xs) b) : TG N F Γ (.nd (.grp xs) (ps ++ [b])) := TG.mk rfl (by simp [ar, hl]) ⟨hn, h16, ho⟩ fun p bs hz => by
  obtain ⟨h, rfl⟩ := (zip_grp hl).mp hz
  rcases h with h | rfl
  · exact hp p h
  · exact hb
theorem TG.mat {bs : List (Str × List Str)} {a : Tm} {ps : List Tm} (hl : ps.length = bs.length) (h16 : bs.length ≤ 16) (hb : ∀ b ∈ bs, strOk b.1 = true ∧ b.2.Nodup ∧ b.2.length ≤ 16 ∧ ∀ x ∈ b.2, x ∈ N) (ha : TG N F Γ a) (hp : ∀ b p, (b, p) ∈ bs.zip ps → TG N F (Γ ++ b.2) p) : TG N F Γ (.nd (.mat bs) (a :: ps)) := TG.mk rfl (by simp [ar, hl]) ⟨h16, hb⟩ fun p cs hz => by
  have hz : (p, cs) ∈ (a, []) :: ps.zip (bs.map (·.2)) := hz
  rcases List.mem_cons.mp hz with e | hz
  · cases e
    simpa using ha
  · obtain ⟨i, hi, e⟩ := List.getElem_of_mem hz
    rw [List.length_zip, List.length_map] at hi
    have e2 : (ps.zip (bs.map (·.2)))[i]'(by rw [List.length_zip, List.length_map]; exact hi) = (ps[i]'(by omega), (bs[i]'(by omega)).2) := by simp
    rw [e2] at e
    cases e
    refine hp (bs[i]'(by omega)) _ ?_
    have hi2 : i < (bs.zip ps).length := by rw [List.length_zip]; omega
    have : (bs.zip ps)[i] = (bs[i]'(by omega), ps[i]'(by omega)) := by simp
    rw [← this]
    exact List.getElem_mem hi2
end
/-! names known -/
def knT (p : Str × T) : T := .tup [.str p.1, p.2]
def kvK (l : List (Str × T)) : List Key := l.map fun p => .inr p.1
def kvV (l : List (Str × T)) : List T := l.map (·.2)
theorem pairsOf_kn : ∀ {l : List (Str × T)}, pairsOf (l.map knT) = some (l.map fun p => (.inr p.1, p.2))
  | [] => rfl
  | p :: l => by
    rw [List.map_cons]
    show (match pairOf (knT p), pairsOf (l.map knT) with
      | some p, some r => some (p :: r)
      | _, _ => none) = _
    rw [pairsOf_kn]
    rfl
theorem repl_kv {x : Str} {v : T} : ∀ {l : List (Str × T)}, replTs (kvK l) (kvV l) (.inr x) v = (l.map fun p => if p.1 = x then v else p.2)
  | [] => rfl
  | (y, u) :: l => by
    show (if (Sum.inr y : Key) = Sum.inr x then v else u) :: replTs (kvK l) (kvV l) (.inr x) v = _
    rw [repl_kv, List.map_cons]
    by_cases h : y = x
    · rw [if_pos (by rw [h]), if_pos h]
    · rw [if_neg (fun e => h (by cases e; rfl)), if_neg h]
theorem pairsIn_kn : ∀ {kn l : List (Str × T)}, ∃ l' : List (Str × T), pairsIn (kn.map fun p => (.inr p.1, p.2)) (kvK l) (kvV l) = (kvK l', kvV l') ∧ (∀ p ∈ l', p ∈ l ∨ p ∈ kn) ∧ l'.length ≤ l.length + kn.length
  | [], l => ⟨l, rfl, fun p hp => .inl hp, by simp⟩
  | (x, v) :: kn, l => by
    rw [List.map_cons]
    unfold pairsIn putKs putTs
    by_cases h : (kvK l).any (fun k => decide (k = Sum.inr x)) = true
    · simp only [h, ↓reduceIte]
      rw [repl_kv]
      obtain ⟨l', e, h2, h3⟩ := pairsIn_kn (kn := kn) (l := l.map fun p => (p.1, if p.1 = x then v else p.2))
      refine ⟨l', ?_, fun p hp => ?_, by simp at h3 ⊢; omega⟩
      · have e1 : kvK (l.map fun p => (p.1, if p.1 = x then v else p.2)) = kvK l := by
          unfold kvK
          rw [List.map_map]
          rfl
        have e2 : kvV (l.map fun p => (p.1, if p.1 = x then v else p.2)) = l.map fun p => if p.1 = x then v else p.2 := by
          unfold kvV
          rw [List.map_map]
          rfl
        rw [e1, e2] at e
        exact e
      · rcases h2 p hp with h | h
        · obtain ⟨q, hq, rfl⟩ := List.mem_map.mp h
          by_cases hx : q.1 = x
          · right
            rw [if_pos hx, hx]
            exact List.mem_cons_self
          · left
            rw [if_neg hx]
            exact hq
        · exact .inr (List.mem_cons_of_mem _ h)
    · simp only [h]
      obtain ⟨l', e, h2, h3⟩ := pairsIn_kn (kn := kn) (l := l ++ [(x, v)])
      refine ⟨l', ?_, fun p hp => ?_, by simp at h3 ⊢; omega⟩
      · have e1 : kvK (l ++ [(x, v)]) = kvK l ++ [Sum.inr x] := by unfold kvK; simp
        have e2 : kvV (l ++ [(x, v)]) = kvV l ++ [v] := by unfold kvV; simp
        rw [e1, e2] at e
        simpa using e
      · rcases h2 p hp with h | h
        · rcases List.mem_append.mp h with h | h
          · exact .inl h
          · rw [List.mem_singleton.mp h]
            exact .inr List.mem_cons_self
        · exact .inr (List.mem_cons_of_mem _ h)
/-- dict(known) -/
theorem dict_kn (kn : List (Str × T)) : ∃ l : List (Str × T), (pairsOf (kn.map knT)).map (fun ps => R.own (.dct (pairsIn ps [] []).1 (pairsIn ps [] []).2)) = some (.own (.dct (kvK l) (kvV l))) ∧ (∀ p ∈ l, p ∈ kn) ∧ l.length ≤ kn.length := by
  obtain ⟨l, e, h, h3⟩ := pairsIn_kn (kn := kn) (l := [])
  refine ⟨l, ?_, fun p hp => (h p hp).resolve_left (by simp), by simpa using h3⟩
  rw [pairsOf_kn, Option.map_some]
  have e : pairsIn (kn.map fun p => (Sum.inr p.1, p.2)) [] [] = (kvK l, kvV l) := e
  rw [e]
theorem items_kn {l : List (Str × T)} : itemsD (.dct (kvK l) (kvV l)) = some (l.map knT) := by
  simp only [itemsD, kvK, kvV]
  rw [List.zip_map, List.map_map]
  have : l.zip l = l.map fun p => (p, p) := by
    induction l with
    | nil => rfl
    | cons a l ih => rw [List.zip_cons_cons, ih]; rfl
  rw [this, List.map_map]
  rfl
theorem look_kn {y : Str} : ∀ {l : List (Str × T)}, (∀ p ∈ l, p.1 ≠ y) → look (kvK l) (kvV l) (.inr y) = none
  | [], _ => rfl
  | (x, v) :: l, h => by
    show (if (Sum.inr x : Key) = Sum.inr y then some v else look (kvK l) (kvV l) (.inr y)) = none
    rw [if_neg (fun e => h (x, v) List.mem_cons_self (by cases e; rfl)), look_kn fun p hp => h p (List.mem_cons_of_mem _ hp)]
/-- names known: binders with kinds -/
def KnOk (w : Nat → Str) (kn : List (Str × T)) : Prop := ∀ p ∈ kn, p.1 ∈ bndN w ∧ KD w 2 p.2
end TL
end

section
set_option Elab.async false
set_option linter.all false
set_option maxRecDepth 100000
/-! Terms made: plain ones, marks. -/
namespace TL
open PySem
def toolsT (w : Nat → Str) : T := .tup [shsT w, .lst [.str (w 7), .str (w 8), .str (w 9), .str (w 10)]]
def Made (w : Nat → Str) (kn : List (Str × T)) (r : R) : Prop := ∃ t, r = .fro (enc t) ∧ TG (bndN w) reck (kn.map (·.1)) t
/-- make, below a bound -/
def Mk (w : Nat → Str) (k : Nat) (n : Nat) (C : Nat → Int → Prop) : Prop := ∀ (kn : List (Str × T)) (d : Nat) (K : T) (deep : Int), KnOk w kn → kn.length ≤ n → KD w d K → d ≤ 2 → C d deep → Ev (den cfg tb k i__law_make [.ref 0, toolsT w, .lst (kn.map knT), K, .int deep]) (Made w kn)
def dropS : Nat → Ss → Ss
  | 0, s => s
  | n + 1, .cons _ r => dropS n r
  | _ + 1, .nil => .nil
theorem Ev.loop {f : T → Env → M Fl} {Inv : Env → Prop} : ∀ (ts : List T) {ρ : Env}, (∀ t ∈ ts, ∀ ρ, Inv ρ → Ev (f t ρ) fun fl => ∃ ρ', fl = .nx ρ' ∧ Inv ρ') → Inv ρ → Ev (loopF f ts ρ) fun fl => ∃ ρ', fl = .nx ρ' ∧ Inv ρ'
  | [], ρ, _, h => Ev.ret ⟨ρ, rfl, h⟩
  | t :: ts, ρ, hs, h => by
    rw [loopF_cons]
    refine Ev.bind (hs t List.mem_cons_self ρ h) ?_
    rintro fl ⟨ρ', rfl, h'⟩
    exact Ev.loop ts (fun u hu => hs u (List.mem_cons_of_mem _ hu)) h'
section
variable {w : Nat → Str}
theorem tool_w {i : Nat} (h : i < 4) : at_ [T.str (w 7), .str (w 8), .str (w 9), .str (w 10)] (i : Int) = some (.str (w (7 + i))) := by
  have : i = 0 ∨ i = 1 ∨ i = 2 ∨ i = 3 := by omega
  rcases this with rfl | rfl | rfl | rfl <;> rfl
theorem tool_mem {i : Nat} (h : i < 4) : w (7 + i) ∈ bndN w := by
  have : i = 0 ∨ i = 1 ∨ i = 2 ∨ i = 3 := by omega
  rcases this with rfl | rfl | rfl | rfl <;> simp [bndN]
theorem kd_num : KD w 0 (.tup [.str k_num]) := .num
theorem kn_add {kn : List (Str × T)} {x : Str} {K : T} : (kn ++ [(x, K)]).map knT = kn.map knT ++ [.tup [.str x, K]] := by simp [knT]
theorem KnOk.add {kn : List (Str × T)} (h : KnOk w kn) {x : Str} {K : T} (hx : x ∈ bndN w) (hk : KD w 2 K) : KnOk w (kn ++ [(x, K)]) := fun p hp => by
  rcases List.mem_append.mp hp with hp | hp
  · exact h p hp
  · rw [List.mem_singleton.mp hp]
    exact ⟨hx, hk⟩
theorem reck_N {x : Str} (h : x ∈ reck) : x ∈ bndN w ++ reck := List.mem_append.mpr (.inr h)
theorem law_marked (hw : Wds w) {kn : List (Str × T)} (hk : KnOk w kn) {n : Nat} (hn : kn.length ≤ n) {d i : Nat} {args : List T} (hi : i < 5) (hl : args.length = shAr i) (ha : ∀ t ∈ args, KD w d t) (hd : d + 1 ≤ 2) {deep : Int} {k : Nat} (hkk : 3 ≤ k) (hm : Mk w k n (fun d' deep' => deep' < deep ∧ (d' < d + 1 ∨ 0 < deep))) : Ev (den cfg tb (k + 1) i__law_marked [.ref 0, toolsT w, .lst (kn.map knT), .tup [.str k_shape, .str (shN w i), .tup args], .int deep]) (Made w kn) := by
  obtain ⟨k, rfl⟩ : ∃ j, k = j + 3 := ⟨k - 3, by omega⟩
  have hmk := mark_kinds hw k hi hl
  obtain ⟨hl6, hl0, hl6p⟩ := marks_len (w := w) hi hl
  obtain ⟨p0, r0, e0, hp0⟩ := marks_first (w := w) hi ha
  have hkd := marks_kd hi hl ha
  have hst := marks_str hw (args := args) hi
  rw [den_fn (f := i__law_marked) rfl rfl]
  simp [toolsT, hmk]
  refine Ev.bind (law_draw (n := (marksOf w i args).length) (by omega) (by omega) (k + 2)) ?_
  rintro r ⟨j, rfl, hj0, hjl⟩
  obtain ⟨j, rfl⟩ := nat_of hj0
  have hj : j < (marksOf w i args).length := by omega
  have hat : at_ ((marksOf w i args).map mkT) (j : Int) = some (mkT ((marksOf w i args)[j])) := by
    rw [at_of (by simpa using hj), List.getElem?_map, List.getElem?_eq_getElem hj]
    rfl
  have hat0 : at_ ((marksOf w i args).map mkT) 0 = some (mkT p0) := by
    rw [e0]
    simp
  have key : ∀ (m : Str) (ks : List T), strOk m = true → (∀ t ∈ ks, ∃ d', KD w d' t ∧ d' ≤ d + 1 ∧ (d' < d + 1 ∨ 0 < deep)) → ks.length ≤ 6 → Ev (M.bind (denSs cfg (den cfg tb (k + 3)) (dropS 4 d__law_marked.body) [.fro (.ref 0), .fro (toolsT w), .fro (.lst (kn.map knT)), .fro (.tup [.str k_shape, .str (shN w i), .tup args]), .fro (.int deep), .fro (.lst ((marksOf w i args).map mkT)), .fro (.str m), .fro (.lst ks), .non, .non]) endM) (Made w kn) := by
    intro m ks hm0 hks hk6
    simp [d__law_marked, dropS]
    obtain ⟨g, hg, hgg⟩ : ∃ g : Int, (if 2 < ks.length then (1 : Int) else 0) = g ∧ (g = 0 ∨ g = 1) := ⟨_, rfl, by split <;> simp⟩
    have hg' : (if (2 : Int) < (ks.length : Int) then (1 : Int) else 0) = g := by rw [← hg]; by_cases h : 2 < ks.length <;> simp [h] <;> omega
    refine Ev.bind (Ev.loop (Inv := fun ρ => ∃ t s9, ρ = [.fro (.ref 0), .fro (toolsT w), .fro (.lst (kn.map knT)), .fro (.tup [.str k_shape, .str (shN w i), .tup args]), .fro (.int deep), .fro (.lst ((marksOf w i args).map mkT)), .fro (.str m), .fro (.lst ks), .fro (enc t), s9] ∧ TG (bndN w) reck (kn.map (·.1)) t) ks ?_ ⟨.nd (.mark m) [], _, by rw [enc_mark], TG.mark hm0⟩) ?_
    · rintro K hK ρ ⟨t, s9, rfl, ht⟩
      obtain ⟨d', hKd, hd1, hd2⟩ := hks K hK
      simp [hg, hg']
      refine Ev.bind (hm kn d' K (deep - 1 - g) hk hn hKd (by omega) ⟨by omega, hd2⟩) ?_
      rintro r ⟨u, rfl, hu⟩
      simp
      refine Ev.ret ⟨_, rfl, .nd .call [t, u], ⟨_, by rw [enc_call]⟩, TG.call ht hu⟩
    · rintro fl ⟨ρ', rfl, t, s9, rfl, ht⟩
      simp
      exact Ev.ret ⟨t, rfl, ht⟩
  simp [hat, mkT]
  by_cases hdp : deep ≤ 0
  · rw [if_pos hdp]
    simp only [mkT] at hat0
    simp only [hat0, Option.map_some, of_some, ret_bind, val_f, unp_t, many_c, many_n, set_0, set_S, seq_nx]
    exact key p0.1 p0.2 (hst p0 (by rw [e0]; simp)) (fun t ht => ⟨d, hp0 t ht, by omega, by omega⟩) (hl6p p0 (by rw [e0]; simp))
  · rw [if_neg hdp]
    simp only [ret_bind, seq_nx]
    have hjm := List.getElem_mem hj
    exact key _ _ (hst _ hjm) (fun t ht => ⟨d + 1, hkd _ hjm t ht, by omega, by omega⟩) (hl6p _ hjm)
end
end TL
end

section
set_option Elab.async false
set_option linter.all false
set_option maxRecDepth 100000
namespace TL
open PySem
section
variable {w : Nat → Str}
theorem nin_dct {ks : List Key} {ts : List T} {x : Str} : cmpD .nin (.str x) (.dct ks ts) = some (!(look ks ts (.inr x)).isSome) := rfl
theorem zw_zip {xs : List Str} : ∀ {ts : List T} {ys : List Tm}, ts.length = xs.length → ys.length = xs.length → List.zipWith (fun (p : Str × T) y => pr p.1 (enc y)) (xs.zip ts) ys = List.zipWith pr xs (ys.map enc) := by
  induction xs with
  | nil => intro ts ys _ _; simp
  | cons x xs ih =>
    intro ts ys h1 h2
    obtain ⟨t, r, rfl, hr⟩ := lenS (by simpa using h1)
    obtain ⟨y, r2, rfl, hr2⟩ := lenS (by simpa using h2)
    simp [ih hr hr2]
theorem kn_nin (hw : Wds w) {l : List (Str × T)} (h : ∀ p ∈ l, p.1 ∈ bndN w) {x : Str} (hx : x ∈ reck) : look (kvK l) (kvV l) (.inr x) = none := look_kn fun p hp e => bnd_reck hw p.1 (h p hp) (e ▸ hx)
theorem law_plain (hw : Wds w) {kn : List (Str × T)} (hk : KnOk w kn) {n : Nat} (hn : kn.length + 1 ≤ n) (hn2 : n ≤ 1000) {d : Nat} {K : T} (hK : KD w d K) (hd : d ≤ 2 ∨ (d ≤ 3 ∧ ∃ r, K = .tup (.str k_rec :: r))) {deep : Int} {k k0 : Nat} (hkk : 5 ≤ k) (hk0 : k0 + 2 ≤ k) (hm : ∀ k', k0 ≤ k' → Mk w k' n (fun d' deep' => deep' < deep ∧ (d' < d ∨ 0 < deep))) : Ev (den cfg tb k i__law_plain [.ref 0, toolsT w, .lst (kn.map knT), K, .int deep]) (Made w kn) := by
  obtain ⟨k, rfl⟩ : ∃ j, k = j + 2 := ⟨k - 2, by omega⟩
  have hm1 := hm (k + 1) (by omega)
  have hm2 := hm k (by omega)
  have dr := fun n h0 h1 => law_draw (n := n) h0 h1 k
  have numK : KD w 0 (.tup [.str k_num]) := .num
  obtain ⟨l, hl, hlk, hll⟩ := dict_kn kn
  have hlN : ∀ p ∈ l, p.1 ∈ bndN w := fun p hp => (hk p (hlk p hp)).1
  have htl : idxM (toolsT w) (.int 1) = M.ret (.fro (.lst [.str (w 7), .str (w 8), .str (w 9), .str (w 10)])) := by funext s; rfl
  rw [den_fn (f := i__law_plain) rfl rfl]
  cases hK with
  | num =>
    simp (decide := true)
    refine Ev.bind (dr 2 (by omega) (by omega)) ?_
    rintro r ⟨i, rfl, hi0, hi2⟩
    obtain ⟨wd, hwd, hat⟩ : ∃ wd ∈ reck, at_ [T.str k_add, .str k_sub] i = some (.str wd) := by
      rcases below2 hi0 hi2 with rfl | rfl
      · exact ⟨k_add, by decide +kernel, rfl⟩
      · exact ⟨k_sub, by decide +kernel, rfl⟩
    have hlook := kn_nin hw hlN hwd
    have numend : Ev (M.bind (den cfg tb (k + 1) i__law_draw [.ref 0, .int 10]) fun r => M.ret (.fro (.tup [.str k_num, r.val]))) (Made w kn) := by
      refine Ev.bind (dr 10 (by omega) (by omega)) ?_
      rintro r ⟨i, rfl, -, -⟩
      exact Ev.ret ⟨.nd (.num i) [], by rw [enc_num]; rfl, TG.num⟩
    simp (decide := true) [hat]
    by_cases h0 : 0 < deep
    · simp [h0]
      refine Ev.bind (dr 2 (by omega) (by omega)) ?_
      rintro r ⟨j, rfl, hj0, hj2⟩
      by_cases hj : j = 1
      · simp (decide := true) [hj, hl, nin_dct, hlook]
        refine Ev.bind (hm1 kn 0 _ (deep - 1) hk (by omega) numK (by omega) ⟨by omega, .inr h0⟩) ?_
        rintro r ⟨a, rfl, ha⟩
        simp
        refine Ev.bind (hm1 kn 0 _ (deep - 1) hk (by omega) numK (by omega) ⟨by omega, .inr h0⟩) ?_
        rintro r ⟨b, rfl, hb⟩
        exact Ev.ret ⟨.nd .call [.nd .call [nameT wd, a], b], by rw [enc_call, enc_call, enc_nameT]; rfl, TG.call (TG.call (TG.name (reck_N hwd) (.inr hwd)) ha) hb⟩
      · simp (decide := true) [hj]
        exact numend
    · simp (decide := true) [h0]
      exact numend
  | tru =>
    simp (decide := true)
    refine Ev.bind (dr 2 (by omega) (by omega)) ?_
    rintro r ⟨i, rfl, hi0, hi2⟩
    obtain ⟨wd, hat⟩ : ∃ wd, at_ [T.str k_add, .str k_sub] i = some (.str wd) := by
      rcases below2 hi0 hi2 with rfl | rfl
      · exact ⟨k_add, rfl⟩
      · exact ⟨k_sub, rfl⟩
    have hwd : k_less ∈ reck := by decide +kernel
    have hlook := kn_nin hw hlN hwd
    have truend : Ev (M.bind (den cfg tb (k + 1) i__law_draw [.ref 0, .int 2]) fun r => M.bind (M.of (if TL.shp r.val = true then some (R.fro (.bl (eqT r.val (.int 1)))) else none)) fun r => M.ret (.fro (.tup [.str k_truth, r.val]))) (Made w kn) := by
      refine Ev.bind (dr 2 (by omega) (by omega)) ?_
      rintro r ⟨i, rfl, -, -⟩
      simp
      exact Ev.ret ⟨.nd (.tru (decide (i = 1))) [], by rw [enc_tru], TG.tru⟩
    simp (decide := true) [hat]
    by_cases h0 : 0 < deep
    · simp [h0]
      refine Ev.bind (dr 2 (by omega) (by omega)) ?_
      rintro r ⟨j, rfl, hj0, hj2⟩
      by_cases hj : j = 1
      · simp (decide := true) [hj, hl, nin_dct, hlook]
        refine Ev.bind (hm1 kn 0 _ (deep - 1) hk (by omega) numK (by omega) ⟨by omega, .inr h0⟩) ?_
        rintro r ⟨a, rfl, ha⟩
        simp
        refine Ev.bind (hm1 kn 0 _ (deep - 1) hk (by omega) numK (by omega) ⟨by omega, .inr h0⟩) ?_
        rintro r ⟨b, rfl, hb⟩
        exact Ev.ret ⟨.nd .call [.nd .call [nameT k_less, a], b], by rw [enc_call, enc_call, enc_nameT]; rfl, TG.call (TG.call (TG.name (reck_N hwd) (.inr hwd)) ha) hb⟩
      · simp (decide := true) [hj]
        exact truend
    · simp (decide := true) [h0]
      exact truend
  | @fn d a b ha hb =>
    have hd2 : d + 1 ≤ 2 := by
      rcases hd with h | ⟨-, r, h⟩
      · exact h
      · injection h with h
        injection h with h
        injection h with h
        exact absurd h (by decide +kernel)
    simp (decide := true) [htl]
    refine Ev.bind (dr 4 (by omega) (by omega)) ?_
    rintro r ⟨i, rfl, hi0, hi4⟩
    obtain ⟨i, rfl⟩ := nat_of hi0
    have hz : szOk (kn.length + 1) = true := sz_of (by omega)
    simp [tool_w (w := w) (i := i) (by omega), hz]
    have h1 := (hm1 (kn ++ [(w (7 + i), a)]) d b (deep - 1) (hk.add (tool_mem (by omega)) (ha.le (by omega))) (by simp; omega) hb (by omega) ⟨by omega, .inl (by omega)⟩)
    rw [kn_add] at h1
    refine Ev.bind h1 ?_
    rintro r ⟨u, rfl, hu⟩
    refine Ev.ret ⟨.nd (.fn (w (7 + i))) [u], by rw [enc_fn]; rfl, TG.fn (tool_mem (by omega)) (by simpa using hu)⟩
  | @rcd d xs ts hl hn h6 ho ht =>
    have hd2 : d ≤ 2 := by
      rcases hd with h | ⟨h, -⟩ <;> omega
    obtain ⟨g, hg, hgg⟩ : ∃ g : Int, (if 3 < xs.length then (1 : Int) else 0) = g ∧ (g = 0 ∨ g = 1) := ⟨_, rfl, by split <;> simp⟩
    have hg' : (if (3 : Int) < (xs.length : Int) then (1 : Int) else 0) = g := by rw [← hg]; by_cases h : 3 < xs.length <;> simp [h] <;> omega
    have hmin : min xs.length ts.length = xs.length := by omega
    simp (decide := true) [hl, hg']
    rw [zw_at]
    refine Ev.bind (Ev.listZ (xs := xs.zip ts) (mk := fun p => pr p.1 p.2) (g := fun p y => pr p.1 (enc y)) (P := fun _ t => TG (bndN w) reck (kn.map (·.1)) t) ?_) ?_
    · rintro ⟨x, t⟩ hxt
      simp [pr]
      refine Ev.bind (hm1 kn d t (deep - 1 - g) hk (by omega) (ht t (List.of_mem_zip hxt).2) (by omega) ⟨by omega, .inl (by omega)⟩) ?_
      rintro r ⟨u, rfl, hu⟩
      exact Ev.ret ⟨u, rfl, hu⟩
    · rintro l ⟨ys, hyl, rfl, hP⟩
      rw [List.length_zip] at hyl
      have e : List.zipWith (fun (p : Str × T) y => pr p.1 (enc y)) (xs.zip ts) ys = List.zipWith pr xs (ys.map enc) := zw_zip (by omega) (by omega)
      rw [e]
      refine Ev.ret ⟨.nd (.rcd xs) ys, by rw [enc_rcd], TG.rcd (by omega) hn (by omega) ho fun p hp => ?_⟩
      obtain ⟨i, hi, rfl⟩ := List.getElem_of_mem hp
      refine hP ((xs.zip ts)[i]'(by rw [List.length_zip]; omega)) _ ?_
      have hi2 : i < ((xs.zip ts).zip ys).length := by rw [List.length_zip, List.length_zip]; omega
      have : ((xs.zip ts).zip ys)[i] = ((xs.zip ts)[i]'(by rw [List.length_zip]; omega), ys[i]) := by simp
      rw [← this]
      exact List.getElem_mem hi2
  | @shp d i args hi hl ha =>
    have hd2 : d + 1 ≤ 2 := by
      rcases hd with h | ⟨-, r, h⟩
      · exact h
      · injection h with h
        injection h with h
        injection h with h
        exact absurd h (by decide +kernel)
    have := law_marked hw hk (n := n) (by omega) hi hl ha hd2 (k := k) (by omega) hm2
    simp (decide := true)
    exact Ev.eq bind_ret this
end
end TL
end

section
set_option Elab.async false
set_option linter.all false
set_option maxRecDepth 100000
namespace TL
open PySem
section
variable {w : Nat → Str}
theorem Mk.mono {k n : Nat} {C C' : Nat → Int → Prop} (h : Mk w k n C) (hc : ∀ d e, C' d e → C d e) : Mk w k n C' := fun kn d K deep h1 h2 h3 h4 h5 => h kn d K deep h1 h2 h3 h4 (hc d deep h5)
theorem tool0 : idxM (toolsT w) (.int 0) = M.ret (.fro (shsT w)) := by funext s; rfl
theorem tool1 : idxM (toolsT w) (.int 1) = M.ret (.fro (.lst [.str (w 7), .str (w 8), .str (w 9), .str (w 10)])) := by funext s; rfl
theorem ok_a : strOk k_a = true := by decide +kernel
theorem law_field (hw : Wds w) {kn : List (Str × T)} (hk : KnOk w kn) {n : Nat} (hn : kn.length + 7 ≤ n) (hn2 : n ≤ 1000) {d : Nat} {K : T} (hK : KD w d K) (hd : d ≤ 2) {deep : Int} (h0 : 0 < deep) {k k0 : Nat} (hkk : 8 ≤ k) (hk0 : k0 + 4 ≤ k) (hm : ∀ k', k0 ≤ k' → Mk w k' n (fun d' deep' => deep'.toNat < deep.toNat)) : Ev (den cfg tb k i__law_field [.ref 0, toolsT w, .lst (kn.map knT), K, .int deep]) (Made w kn) := by
  obtain ⟨k, rfl⟩ : ∃ j, k = j + 2 := ⟨k - 2, by omega⟩
  have dr := fun n h0 h1 => law_draw (n := n) h0 h1 k
  have hkd := law_kind hw false 1 (k := k + 1) (by omega)
  rw [den_fn (f := i__law_field) rfl rfl]
  simp [tool0]
  refine Ev.bind hkd ?_
  rintro r ⟨K2, rfl, hK2⟩
  simp
  have hrec : KD w 3 (.tup [.str k_rec, .tup [.tup [.str k_a, K], .tup [.str k_sum, K2]], .non]) := KD.rcd (d := 2) (xs := [k_a, k_sum]) (ts := [K, K2]) rfl (by decide +kernel) (by simp) (by decide +kernel) (fun t ht => by
    simp at ht
    rcases ht with rfl | rfl
    · exact hK.le hd
    · exact hK2.le (by omega))
  refine Ev.bind (law_plain hw hk (n := n) (by omega) hn2 hrec (.inr ⟨by omega, _, rfl⟩) (deep := deep - 1) (k := k + 1) (k0 := k0) (by omega) (by omega) (fun k' hk' => (hm k' hk').mono fun d e h => by omega)) ?_
  rintro r ⟨row, rfl, hrow⟩
  simp
  refine Ev.bind (dr 2 (by omega) (by omega)) ?_
  rintro r ⟨i, rfl, hi0, hi2⟩
  by_cases hi : i = 1
  · simp [hi]
    refine Ev.bind (hm (k + 1) (by omega) kn d K (deep - 1) hk (by omega) hK hd (by omega)) ?_
    rintro r ⟨u, rfl, hu⟩
    simp
    exact Ev.ret ⟨.nd (.get k_a) [.nd (.put k_a) [row, u]], by rw [enc_get, enc_put], TG.get ok_a (TG.put ok_a hrow hu)⟩
  · simp [hi]
    exact Ev.ret ⟨.nd (.get k_a) [row], by rw [enc_get], TG.get ok_a hrow⟩
theorem law_bound (hw : Wds w) {kn : List (Str × T)} (hk : KnOk w kn) {n : Nat} (hn : kn.length + 7 ≤ n) (hn2 : n ≤ 1000) {d : Nat} {K : T} (hK : KD w d K) (hd : d ≤ 2) {deep : Int} (h0 : 0 < deep) {k k0 : Nat} (hkk : 8 ≤ k) (hk0 : k0 + 4 ≤ k) (hm : ∀ k', k0 ≤ k' → Mk w k' n (fun d' deep' => deep'.toNat < deep.toNat)) : Ev (den cfg tb k i__law_bound [.ref 0, toolsT w, .lst (kn.map knT), K, .int deep]) (Made w kn) := by
  obtain ⟨k, rfl⟩ : ∃ j, k = j + 2 := ⟨k - 2, by omega⟩
  have dr := fun n h0 h1 => law_draw (n := n) h0 h1 k
  have hkd := law_kind hw true 1 (k := k + 1) (by omega)
  rw [den_fn (f := i__law_bound) rfl rfl]
  simp [tool0, tool1]
  refine Ev.bind (dr 4 (by omega) (by omega)) ?_
  rintro r ⟨i, rfl, hi0, hi4⟩
  obtain ⟨i, rfl⟩ := nat_of hi0
  have hin := tool_mem (w := w) (i := i) (by omega)
  simp [tool_w (w := w) (i := i) (by omega)]
  refine Ev.bind hkd ?_
  rintro r ⟨K2, rfl, hK2⟩
  simp
  refine Ev.bind (hm (k + 1) (by omega) kn 1 K2 (deep - 1) hk (by omega) hK2 (by omega) (by omega)) ?_
  rintro r ⟨a, rfl, ha⟩
  have hz : szOk (kn.length + 1) = true := sz_of (by omega)
  simp [hz]
  have h1 := hm (k + 1) (by omega) (kn ++ [(w (7 + i), K2)]) d K (deep - 1) (hk.add hin (hK2.le (by omega))) (by simp; omega) hK hd (by omega)
  rw [kn_add] at h1
  refine Ev.bind h1 ?_
  rintro r ⟨b, rfl, hb⟩
  simp
  refine Ev.bind (dr 2 (by omega) (by omega)) ?_
  rintro r ⟨j, rfl, hj0, hj2⟩
  by_cases hj : j = 1
  · simp [hj]
    exact Ev.ret ⟨.nd (.lt (w (7 + i))) [a, b], by rw [enc_lt], TG.lt hin ha (by simpa using hb)⟩
  · simp [hj]
    exact Ev.ret ⟨.nd .call [.nd (.fn (w (7 + i))) [b], a], by rw [enc_call, enc_fn], TG.call (TG.fn hin (by simpa using hb)) ha⟩
end
end TL
end

section
set_option Elab.async false
set_option linter.all false
set_option maxRecDepth 100000
namespace TL
open PySem
def vs4 : List Str := [⟨#[118]⟩, ⟨#[119]⟩, ⟨#[120]⟩, ⟨#[121]⟩]
def vs5 : List Str := [⟨#[98]⟩, ⟨#[99]⟩, ⟨#[100]⟩, ⟨#[101]⟩, ⟨#[102]⟩]
def base6 (w : Nat → Str) : List Str := w 7 :: w 8 :: vs4.map fun s => w 7 ++ s
def memb6 (w : Nat → Str) : List Str := w 7 :: vs5.map fun s => w 7 ++ s
section
variable {w : Nat → Str}
theorem app_inj {a s t : Str} (h : a ++ s = a ++ t) : s.cps.toList = t.cps.toList := by
  have := congrArg (fun x : Str => x.cps.toList) h
  simp only [app_list] at this
  exact List.append_cancel_left this
theorem app_ne {a s : Str} (hs : s.length = 1) : a ≠ a ++ s := fun h => by
  have := congrArg Str.length h
  rw [app_len] at this
  omega
theorem vs4_in : ∀ s ∈ vs4, s ∈ sufs := by decide +kernel
theorem vs5_in : ∀ s ∈ vs5, s ∈ sufs := by decide +kernel
theorem vs4_nd : (vs4.map fun s => s.cps.toList).Nodup := by decide +kernel
theorem vs5_nd : (vs5.map fun s => s.cps.toList).Nodup := by decide +kernel
/-- the special words less their last letter -/
theorem spec_any : ∀ x ∈ specials, ∀ y ∈ specials, ∀ s ∈ vs4, x ++ s ≠ y := by decide +kernel
theorem spec_q : ∀ x ∈ specials, ∀ s ∈ vs4, x.cps.toList.getLast? = s.cps.toList.getLast? → x.cps.toList.dropLast.getLast? ≠ some 113 := by decide +kernel
theorem other_ne (hw : Wds w) {s : Str} (hs : s ∈ vs4) : w 8 ≠ w 7 ++ s := fun h => by
  obtain ⟨h1, -, c, hc, hcq⟩ := suf_one s (vs4_in s hs)
  have hl := congrArg (fun x : Str => x.cps.toList) h
  simp only [app_list, hc] at hl
  rcases hw.form 8 with ⟨l, e⟩ | e
  · rw [e] at hl
    have := congrArg List.getLast? hl
    simp at this
    exact hcq this.symm
  · rcases hw.form 7 with ⟨l, e7⟩ | e7
    · have h2 := spec_q _ e s hs (by rw [hl, hc]; simp)
      rw [hl, e7, List.dropLast_concat] at h2
      simp at h2
    · exact spec_any _ e7 _ e s hs h.symm
theorem nodup_app {l : List Str} {a : Str} (h : (l.map fun s => s.cps.toList).Nodup) : (l.map fun s => a ++ s).Nodup := by
  rw [List.nodup_iff_pairwise_ne] at *
  rw [List.pairwise_map] at *
  exact h.imp fun h e => h (app_inj e)
theorem base6_nodup (hw : Wds w) : (base6 w).Nodup := by
  unfold base6
  rw [List.nodup_cons, List.nodup_cons]
  refine ⟨?_, ?_, nodup_app vs4_nd⟩
  · intro h
    rcases List.mem_cons.mp h with h | h
    · have := hw.inj 7 8 (by omega) (by omega) h
      omega
    · obtain ⟨s, hs, e⟩ := List.mem_map.mp h
      exact app_ne (suf_one s (vs4_in s hs)).1 e.symm
  · intro h
    obtain ⟨s, hs, e⟩ := List.mem_map.mp h
    exact other_ne hw hs e.symm
theorem memb6_nodup : (memb6 w).Nodup := by
  unfold memb6
  rw [List.nodup_cons]
  refine ⟨?_, nodup_app vs5_nd⟩
  intro h
  obtain ⟨s, hs, e⟩ := List.mem_map.mp h
  exact app_ne (suf_one s (vs5_in s hs)).1 e.symm
theorem base6_in : ∀ x ∈ base6 w, x ∈ bndN w := by
  intro x hx
  rcases List.mem_cons.mp hx with rfl | hx
  · simp [bndN]
  · rcases List.mem_cons.mp hx with rfl | hx
    · simp [bndN]
    · obtain ⟨s, hs, rfl⟩ := List.mem_map.mp hx
      exact List.mem_append.mpr (.inr (List.mem_map.mpr ⟨s, vs4_in s hs, rfl⟩))
theorem memb6_in : ∀ x ∈ memb6 w, x ∈ bndN w := by
  intro x hx
  rcases List.mem_cons.mp hx with rfl | hx
  · simp [bndN]
  · obtain ⟨s, hs, rfl⟩ := List.mem_map.mp hx
    exact List.mem_append.mpr (.inr (List.mem_map.mpr ⟨s, vs5_in s hs, rfl⟩))
theorem Ev.loopR {α : Type} {f : T → Env → M Fl} {mk : α → T} {Inv : List α → Env → Prop} : ∀ (as : List α) {ρ : Env}, (∀ a rest ρ, a ∈ as → Inv (a :: rest) ρ → Ev (f (mk a) ρ) fun fl => ∃ ρ', fl = .nx ρ' ∧ Inv rest ρ') → Inv as ρ → Ev (loopF f (as.map mk) ρ) fun fl => ∃ ρ', fl = .nx ρ' ∧ Inv [] ρ'
  | [], ρ, _, h => Ev.ret ⟨ρ, rfl, h⟩
  | a :: as, ρ, hs, h => by
    rw [List.map_cons, loopF_cons]
    refine Ev.bind (hs a as ρ List.mem_cons_self h) ?_
    rintro fl ⟨ρ', rfl, h'⟩
    exact Ev.loopR as (fun x r ρ hx => hs x r ρ (List.mem_cons_of_mem _ hx)) h'
theorem zip_fs {α β : Type} : ∀ {l : List (α × β)}, (l.map (·.1)).zip (l.map (·.2)) = l
  | [] => rfl
  | q :: l => by rw [List.map_cons, List.map_cons, List.zip_cons_cons, zip_fs]
theorem it_vwxy : iterD (.str k_vwxy) = some (vs4.map T.str) := by
  have e : szOk k_vwxy.length = true := by decide +kernel
  show (if szOk k_vwxy.length then some _ else none) = _
  rw [if_pos e]
  rfl
theorem shp_shape {t : T} {d : Nat} (h : KD w d t) : (∃ r wd, t = .tup (.str wd :: r) ∧ wd ≠ k_shape ∧ strOk wd = true) ∨ ∃ e i args, d = e + 1 ∧ i < 5 ∧ args.length = shAr i ∧ (∀ a ∈ args, KD w e a) ∧ t = .tup [.str k_shape, .str (shN w i), .tup args] := by
  cases h with
  | num => exact .inl ⟨_, _, rfl, by decide +kernel, by decide +kernel⟩
  | tru => exact .inl ⟨_, _, rfl, by decide +kernel, by decide +kernel⟩
  | fn _ _ => exact .inl ⟨_, _, rfl, by decide +kernel, by decide +kernel⟩
  | rcd _ _ _ _ _ => exact .inl ⟨_, _, rfl, by decide +kernel, by decide +kernel⟩
  | shp hi hl ha => exact .inr ⟨_, _, _, rfl, hi, hl, ha, rfl⟩
theorem law_branched (hw : Wds w) {kn : List (Str × T)} (hk : KnOk w kn) {n : Nat} (hn : kn.length + 7 ≤ n) (hn2 : n ≤ 1000) {d : Nat} {K : T} (hK : KD w d K) (hd : d ≤ 2) {deep : Int} (h0 : 0 < deep) {k k0 : Nat} (hkk : 8 ≤ k) (hk0 : k0 + 4 ≤ k) (hm : ∀ k', k0 ≤ k' → Mk w k' n (fun d' deep' => deep'.toNat < deep.toNat)) : Ev (den cfg tb k i__law_branched [.ref 0, toolsT w, .lst (kn.map knT), K, .int deep]) (Made w kn) := by
  obtain ⟨k, rfl⟩ : ∃ j, k = j + 4 := ⟨k - 4, by omega⟩
  have dr := fun n h0 h1 => law_draw (n := n) h0 h1 (k + 2)
  have hkd := law_kind hw false 1 (k := k + 3) (by omega)
  rw [den_fn (f := i__law_branched) rfl rfl]
  simp [tool0]
  refine Ev.bind hkd ?_
  rintro r ⟨K2, rfl, hK2⟩
  rcases shp_shape hK2 with ⟨r, wd, rfl, hne, hok⟩ | ⟨e, i, args, he, hi, hl, ha, rfl⟩
  · simp [hne, hok]
    exact Ev.eq bind_ret (law_plain hw hk (n := n) (by omega) hn2 hK (.inl hd) (k := k + 3) (k0 := k0) (by omega) (by omega) (fun k' hk' => (hm k' hk').mono fun d e h => by omega))
  · have he0 : e = 0 := by omega
    subst he0
    have hmk := mark_kinds hw k hi hl
    obtain ⟨hl6, hl0, hl6p⟩ := marks_len (w := w) hi hl
    have hkd := marks_kd hi hl ha
    have hst := marks_str hw (args := args) hi
    obtain ⟨g, hg, hgg⟩ : ∃ g : Int, (if 2 < (marksOf w i args).length then (1 : Int) else 0) = g ∧ (g = 0 ∨ g = 1) := ⟨_, rfl, by split <;> simp⟩
    have hg' : (if (2 : Int) < ((marksOf w i args).length : Int) then (1 : Int) else 0) = g := by rw [← hg]; by_cases h : 2 < (marksOf w i args).length <;> simp [h] <;> omega
    simp (decide := true) [tool0, hmk]
    refine Ev.bind (Ev.loopR (mk := mkT) (Inv := fun (rest : List (Str × List T)) ρ => ∃ (l : List ((Str × List Str) × Tm)) (s8 s9 s10 s12 : Slot), ρ = [.fro (.ref 0), .fro (toolsT w), .fro (.lst (kn.map knT)), .fro K, .fro (.int deep), .fro (.tup [.str k_shape, .str (shN w i), .tup args]), .own (.lst (l.map brq)), .fro (.lst ((marksOf w i args).map mkT)), s8, s9, s10, .non, s12] ∧ l.length + rest.length ≤ 6 ∧ ∀ q ∈ l, strOk q.1.1 = true ∧ (∃ m, q.1.2 = (base6 w).take m) ∧ TG (bndN w) reck (kn.map (·.1) ++ q.1.2) q.2) (marksOf w i args) ?_ ⟨[], _, _, _, _, rfl, by simp; omega, fun q hq => by cases hq⟩) ?_
    · rintro ⟨m, ks⟩ rest ρ hp ⟨l, s8, s9, s10, s12, rfl, hlen, hl⟩
      have hks := hl6p _ hp
      have hks : ks.length ≤ 6 := hks
      have hkk2 := hkd _ hp
      have hmo : strOk m = true := hst _ hp
      have z1 : ∀ s ∈ vs4, szOk ((w 7).length + s.length) = true := fun s hs => sz_of (by
        have := hw.len 7
        have := (suf_one s (vs4_in s hs)).1
        omega)
      have z6 : szOk (2 + vs4.length) = true := by decide +kernel
      have e6 : (T.str (w 7) :: T.str (w 8) :: vs4.map fun s => T.str (w 7 ++ s)) = (base6 w).map T.str := by unfold base6; simp
      have l6 : (base6 w).length = 6 := rfl
      have hnl : ((base6 w).take ks.length).length = ks.length := by rw [List.length_take, l6]; omega
      have hznk : (((base6 w).take ks.length).zip ks).map (·.1) = (base6 w).take ks.length := List.map_fst_zip (by omega)
      have h1 := hm (k + 3) (by omega) (kn ++ ((base6 w).take ks.length).zip ks) d K (deep - 1 - g) (fun p hp => by
        rcases List.mem_append.mp hp with hp | hp
        · exact hk p hp
        · obtain ⟨h1, h2⟩ := List.of_mem_zip (a := p.1) (b := p.2) hp
          exact ⟨base6_in _ (List.mem_of_mem_take h1), (hkk2 _ h2).le (by omega)⟩) (by rw [List.length_append, List.length_zip]; omega) hK hd (by omega)
      have ezk : ((((base6 w).take ks.length).map T.str).zip ks).map pairT = (((base6 w).take ks.length).zip ks).map knT := by
        rw [List.zip_map_left, List.map_map]
        rfl
      have z7 : szOk (kn.length + (((base6 w).take ks.length).zip ks).length) = true := sz_of (by rw [List.length_zip]; omega)
      rw [List.map_append] at h1
      simp [mkT, tool1, it_vwxy]
      rw [listM_map (g := fun s => T.str (w 7 ++ s)) (by intro s hs; simp [z1 s hs])]
      rw [ret_bind, List.length_map, z6, e6]
      simp [cut_hi]
      rw [← List.map_take]
      have z8 : szOk (kn.length + min ks.length (base6 w).length) = true := sz_of (by omega)
      generalize hnames : (base6 w).take ks.length = names at *
      have hlm : l.length < lim := Nat.lt_of_le_of_lt (by simp at hlen; omega) (show 6 < lim by decide +kernel)
      simp [z8, ezk, hg']
      refine Ev.bind h1 ?_
      rintro r ⟨u, rfl, hu⟩
      rw [List.map_append, hznk] at hu
      simp
      refine Ev.bind (dr (l.length + 1) (by omega) (by simp at hlen; omega)) ?_
      rintro r ⟨j, rfl, hj0, hj1⟩
      obtain ⟨j, rfl⟩ := nat_of hj0
      have hj62 : (j : Int) < 4611686018427387904 := by simp at hlen; omega
      simp [insM, hlm, hj62]
      refine Ev.ret ⟨_, rfl, l.take j ++ ((m, names), u) :: l.drop j, ⟨_, _, _, _, by simp [brq, br, nsT]; exact ⟨rfl, rfl, rfl, rfl⟩⟩, by simp at hlen ⊢; omega, ?_⟩
      intro a b c hq
      rcases List.mem_append.mp hq with hq | hq
      · exact hl _ (List.mem_of_mem_take hq)
      · rcases List.mem_cons.mp hq with e | hq
        · cases e
          exact ⟨hmo, ⟨_, hnames.symm⟩, hu⟩
        · exact hl _ (List.mem_of_mem_drop hq)
    · rintro fl ⟨ρ', rfl, l, s8, s9, s10, s12, rfl, hlen, hl⟩
      simp
      refine Ev.bind (hm (k + 3) (by omega) kn 1 _ (deep - 1) hk (by omega) hK2 (by omega) (by omega)) ?_
      rintro r ⟨a, rfl, hA⟩
      have e : List.zipWith br (l.map (·.1)) ((l.map (·.2)).map enc) = l.map brq := by
        rw [List.map_map]
        clear hl hlen
        induction l with
        | nil => rfl
        | cons q l ih => rw [List.map_cons, List.map_cons, List.zipWith_cons_cons, ih, List.map_cons]; rfl
      have hlen : l.length ≤ 6 := by simpa using hlen
      refine Ev.ret ⟨.nd (.mat (l.map (·.1))) (a :: l.map (·.2)), by rw [enc_mat, e]; rfl, TG.mat (by simp) (by rw [List.length_map]; omega) ?_ hA ?_⟩
      · intro b hb
        obtain ⟨q, hq, rfl⟩ := List.mem_map.mp hb
        obtain ⟨h1, ⟨m, h2⟩, h3⟩ := hl q hq
        refine ⟨h1, ?_, ?_, ?_⟩
        · rw [h2]; exact (base6_nodup hw).take
        · rw [h2, List.length_take]
          have : (base6 w).length = 6 := rfl
          omega
        · rw [h2]
          exact fun x hx => base6_in x (List.mem_of_mem_take hx)
      · intro b p hz
        have e2 : (l.map (·.1)).zip (l.map (·.2)) = l := zip_fs
        rw [e2] at hz
        exact (hl _ hz).2.2
end
end TL
end

section
set_option Elab.async false
set_option linter.all false
set_option maxRecDepth 100000
namespace TL
open PySem
section
variable {w : Nat → Str}
theorem it_empty : iterD (.str k_empty) = some [] := by
  have e : szOk k_empty.length = true := by decide +kernel
  show (if szOk k_empty.length then some _ else none) = _
  rw [if_pos e]
  rfl
theorem it_bcdef : iterD (.str k_bcdef) = some (vs5.map T.str) := by
  have e : szOk k_bcdef.length = true := by decide +kernel
  show (if szOk k_bcdef.length then some _ else none) = _
  rw [if_pos e]
  rfl
theorem inn_kn (hw : Wds w) {l : List (Str × T)} (h : ∀ p ∈ l, p.1 ∈ bndN w) {x : Str} (hx : x ∈ reck) : cmpD .inn (.str x) (.dct (kvK l) (kvV l)) = some false := by
  rw [inn_dct, kn_nin hw h hx]
  rfl
theorem at_strs {ms : List Str} {k : Nat} (h : k < ms.length) : at_ (ms.map T.str) (k : Int) = some (.str ms[k]) := by
  rw [at_of (by simpa using h), List.getElem?_map, List.getElem?_eq_getElem h]
  rfl
theorem at_prev {ms : List Str} {k : Nat} (h : k < ms.length) : ∃ m ∈ ms, at_ (ms.map T.str) ((k : Int) - 1) = some (.str m) := by
  cases k with
  | zero =>
    obtain ⟨r, a, rfl, -⟩ := lenE (n := ms.length - 1) (l := ms) (by omega)
    refine ⟨a, by simp, ?_⟩
    rw [List.map_append]
    exact at_m1
  | succ k =>
    refine ⟨ms[k], List.getElem_mem _, ?_⟩
    rw [show (((k + 1 : Nat) : Int) - 1) = (k : Int) by omega]
    exact at_strs (by omega)
def lessTm (w : Nat → Str) : Tm := .nd .call [.nd .call [nameT k_sub, nameT (w 8)], .nd (.num 1) []]
def endsTm (w : Nat → Str) : Tm := .nd .call [.nd .call [nameT k_less, nameT (w 8)], .nd (.num 1) []]
theorem enc_less : enc (lessTm w) = .tup [.str k_call, .tup [.str k_call, .tup [.str k_name, .str k_sub], .tup [.str k_name, .str (w 8)]], .tup [.str k_num, .int 1]] := by
  unfold lessTm
  rw [enc_call, enc_call, enc_nameT, enc_nameT, enc_num]
theorem enc_ends : enc (endsTm w) = .tup [.str k_call, .tup [.str k_call, .tup [.str k_name, .str k_less], .tup [.str k_name, .str (w 8)]], .tup [.str k_num, .int 1]] := by
  unfold endsTm
  rw [enc_call, enc_call, enc_nameT, enc_nameT, enc_num]
theorem w8_in : w 8 ∈ bndN w := by simp [bndN]
theorem less_ok {Γ : List Str} (h : w 8 ∈ Γ) : TG (bndN w) reck Γ (lessTm w) := by
  have : k_sub ∈ reck := by decide +kernel
  exact TG.call (TG.call (TG.name (reck_N this) (.inr this)) (TG.name (List.mem_append.mpr (.inl w8_in)) (.inl h))) TG.num
theorem ends_ok {Γ : List Str} (h : w 8 ∈ Γ) : TG (bndN w) reck Γ (endsTm w) := by
  have : k_less ∈ reck := by decide +kernel
  exact TG.call (TG.call (TG.name (reck_N this) (.inr this)) (TG.name (List.mem_append.mpr (.inl w8_in)) (.inl h))) TG.num
theorem filt_kn {f : T → M (Option T)} {p : Str × T → Bool} : ∀ {l : List (Str × T)}, (∀ q ∈ l, f (knT q) = M.ret (if p q then some (knT q) else none)) → TL.listM f (l.map knT) = M.ret ((l.filter p).map knT)
  | [], _ => rfl
  | q :: l, h => by
    rw [List.map_cons]
    unfold TL.listM
    rw [h q List.mem_cons_self, ret_bind, filt_kn fun y hy => h y (List.mem_cons_of_mem _ hy), ret_bind, List.filter_cons]
    cases p q <;> rfl
theorem law_counted (hw : Wds w) {kn : List (Str × T)} (hk : KnOk w kn) {n : Nat} (hn : kn.length + 7 ≤ n) (hn2 : n ≤ 1000) {d : Nat} {K : T} (hK : KD w d K) (hd : d ≤ 2) {deep : Int} (h0 : 0 < deep) {k k0 : Nat} (hkk : 8 ≤ k) (hk0 : k0 + 4 ≤ k) (hm : ∀ k', k0 ≤ k' → Mk w k' n (fun d' deep' => deep'.toNat < deep.toNat)) : Ev (den cfg tb k i__law_counted [.ref 0, toolsT w, .lst (kn.map knT), K, .int deep]) (Made w kn) := by
  obtain ⟨k, rfl⟩ : ∃ j, k = j + 2 := ⟨k - 2, by omega⟩
  have dr := fun n h0 h1 => law_draw (n := n) h0 h1 k
  obtain ⟨l, hl, hlk, hll⟩ := dict_kn kn
  have hlN : ∀ p ∈ l, p.1 ∈ bndN w := fun p hp => (hk p (hlk p hp)).1
  have hi1 := inn_kn hw hlN (x := k_less) (by decide +kernel)
  have hi2 := inn_kn hw hlN (x := k_sub) (by decide +kernel)
  rw [den_fn (f := i__law_counted) rfl rfl]
  simp [tool1, hl, hi1, hi2]
  refine Ev.bind (dr 8 (by omega) (by omega)) ?_
  rintro r ⟨i, rfl, hi0, hi8⟩
  -- the members
  have key : ∀ ms : List Str, ms ≠ [] → ms.Nodup → ms.length ≤ 6 → (∀ x ∈ ms, x ∈ bndN w) → w 7 ∈ ms → Ev (M.bind (denSs cfg (den cfg tb (k + 1)) (dropS 4 d__law_counted.body) [.fro (.ref 0), .fro (toolsT w), .fro (.lst (kn.map knT)), .fro K, .fro (.int deep), .fro (.str (w 7)), .fro (.str (w 8)), .fro (.lst (ms.map .str)), .non, .non, .non, .non, .non, .non, .non, .non, .non]) endM) (Made w kn) := by
    intro ms hne hnd hl6 hmN h7
    have hw7 : strOk (w 7) = true := hw.ok 7
    generalize hin : kn.filter (fun q => decide (q.1 ∉ ms)) ++ [(w 8, T.tup [.str k_num])] = inn
    have hinl : inn.length ≤ kn.length + 1 := by
      rw [← hin, List.length_append]
      have := List.length_filter_le (fun q : Str × T => decide (q.1 ∉ ms)) kn
      rw [List.length_singleton]
      omega
    have hino : KnOk w inn := by
      rw [← hin]
      exact KnOk.add (fun p hp => hk p (List.mem_filter.mp hp).1) w8_in (KD.num)
    have hinm : ∀ x ∈ inn.map (·.1), x ∈ kn.map (·.1) ++ ms ++ [w 8] := by
      intro x hx
      rw [← hin, List.map_append] at hx
      rcases List.mem_append.mp hx with hx | hx
      · obtain ⟨q, hq, rfl⟩ := List.mem_map.mp hx
        exact List.mem_append.mpr (.inl (List.mem_append.mpr (.inl (List.mem_map.mpr ⟨q, (List.mem_filter.mp hq).1, rfl⟩))))
      · exact List.mem_append.mpr (.inr hx)
    have hz1 : szOk ((kn.filter fun q => decide (q.1 ∉ ms)).length + 1) = true := sz_of (by
      have := List.length_filter_le (fun q : Str × T => decide (q.1 ∉ ms)) kn
      omega)
    have hin2 : (kn.filter fun q => decide (q.1 ∉ ms)).map knT ++ [T.tup [.str (w 8), .tup [.str k_num]]] = inn.map knT := by
      rw [← hin, List.map_append]
      rfl
    simp [d__law_counted, dropS, nin_lst, -cmp_ninL]
    rw [filt_kn (p := fun q => decide (q.1 ∉ ms)) (by
      intro q hq
      by_cases h : q.1 ∈ ms <;> simp [knT, h, nin_lst, -cmp_ninL])]
    rw [ret_bind]
    simp only [val_o, val_f, o_add, p_add_l, List.length_map, List.length_singleton, hz1, if_true, of_some, ret_bind, hin2, slot_o]
    have hrng : rngD (.int (ms.length : Nat)) = some ((List.range ms.length).map fun (k : Nat) => T.int (k : Int)) := rng_int (by omega)
    have hpos : 0 < ms.length := List.length_pos_iff.mpr hne
    have hKs : TL.shp K = true := hK.shp' hw (by omega)
    have hNs : TL.shp (.tup [.str k_num]) = true := (KD.num (w := w) (d := 0)).shp' hw (by omega)
    simp [hrng]
    rw [← enc_less, ← enc_ends]
    refine Ev.bind (Ev.loopR (mk := fun (k : Nat) => T.int (k : Int)) (Inv := fun (rest : List Nat) ρ => ∃ (pre : List Nat) (ps : List Tm) (s14 s15 s16 : Slot), ρ = [.fro (.ref 0), .fro (toolsT w), .fro (.lst (kn.map knT)), .fro K, .fro (.int deep), .fro (.str (w 7)), .fro (.str (w 8)), .fro (.lst (ms.map .str)), .non, .fro (.lst (inn.map knT)), .non, .fro (enc (lessTm w)), .fro (enc (endsTm w)), .own (.lst (List.zipWith pr (ms.take ps.length) (ps.map enc))), s14, s15, s16] ∧ pre ++ rest = List.range ms.length ∧ pre.length = ps.length ∧ ∀ p ∈ ps, TG (bndN w) reck (kn.map (·.1) ++ ms) p) (List.range ms.length) ?_ ⟨[], [], _, _, _, rfl, rfl, rfl, fun p hp => by cases hp⟩) ?_
    · rintro j rest ρ hj ⟨pre, ps, s14, s15, s16, rfl, hpre, hpl, hps⟩
      have hjl : j < ms.length := by simpa using hj
      have hjp : j = ps.length := by
        have h1 := congrArg (fun l => l[pre.length]?) hpre
        simp at h1
        have h2 := congrArg List.length hpre
        simp at h2
        rw [List.getElem?_range (by omega)] at h1
        have h1 : j = pre.length := by simpa using h1
        omega
      obtain ⟨m, hmm, hat⟩ := at_prev hjl
      simp [hat, hKs, hNs]
      have h8 : w 8 ∈ kn.map (·.1) ++ ms ++ [w 8] := by simp
      have hag0 : TG (bndN w) reck (kn.map (·.1) ++ ms ++ [w 8]) (.nd .call [nameT m, lessTm w]) := TG.call (TG.name (List.mem_append.mpr (.inl (hmN m hmm))) (.inl (by simp [hmm]))) (less_ok h8)
      have hsub : k_sub ∈ reck := by decide +kernel
      refine Ev.bind (P := fun fl => ∃ ag, fl = .nx [.fro (.ref 0), .fro (toolsT w), .fro (.lst (kn.map knT)), .fro K, .fro (.int deep), .fro (.str (w 7)), .fro (.str (w 8)), .fro (.lst (ms.map .str)), .non, .fro (.lst (inn.map knT)), .non, .fro (enc (lessTm w)), .fro (enc (endsTm w)), .own (.lst (List.zipWith pr (ms.take ps.length) (ps.map enc))), .fro (.int (j : Nat)), .fro (enc ag), s16] ∧ TG (bndN w) reck (kn.map (·.1) ++ ms ++ [w 8]) ag) ?_ ?_
      · by_cases heq : eqT K (.tup [.str k_num]) = true
        · rw [if_pos heq]
          refine Ev.bind (hm (k + 1) (by omega) inn 0 _ 0 hino (by omega) KD.num (by omega) (by show Int.toNat 0 < deep.toNat; omega)) ?_
          rintro r ⟨u, rfl, hu⟩
          exact Ev.ret ⟨.nd .call [.nd .call [nameT k_sub, .nd .call [nameT m, lessTm w]], u], by rw [enc_call, enc_call, enc_call, enc_nameT, enc_nameT]; rfl, TG.call (TG.call (TG.name (reck_N hsub) (.inr hsub)) hag0) (hu.mono hinm)⟩
        · rw [if_neg heq]
          exact Ev.ret ⟨.nd .call [nameT m, lessTm w], by rw [enc_call, enc_nameT], hag0⟩
      · rintro fl ⟨ag, rfl, hag⟩
        obtain ⟨g, hg, hgg⟩ : ∃ g : Int, (if j = 0 then (1 : Int) else 0) = g ∧ (g = 0 ∨ g = 1) := ⟨_, rfl, by split <;> simp⟩
        have hg' : (if (j : Int) = 0 then (1 : Int) else 0) = g := by rw [← hg]; by_cases h : j = 0 <;> simp [h]
        have hmo : mulOk (deep - 1) g = true := mulOk_r (by omega) (by omega)
        have hdg : ((deep - 1) * g).toNat < deep.toNat := by rcases hgg with rfl | rfl <;> simp <;> omega
        simp [hg, hmo]
        refine Ev.bind (hm (k + 1) (by omega) inn d K ((deep - 1) * g) hino (by omega) hK hd hdg) ?_
        rintro r ⟨u, rfl, hu⟩
        have hlim : min (ps.length) ms.length < lim ∧ min (min ps.length ms.length) ps.length < lim := ⟨Nat.lt_of_le_of_lt (by omega) (show 6 < lim by decide +kernel), Nat.lt_of_le_of_lt (by omega) (show 6 < lim by decide +kernel)⟩
        simp [at_strs hjl, appM, hlim]
        have hf : TG (bndN w) reck (kn.map (·.1) ++ ms) (.nd (.fn (w 8)) [.nd .ite [endsTm w, u, ag]]) := TG.fn w8_in (TG.ite (ends_ok h8) (hu.mono hinm) hag)
        have henc : enc (.nd (.fn (w 8)) [.nd .ite [endsTm w, u, ag]]) = .tup [.str k_fun, .str (w 8), .tup [.str k_if, enc (endsTm w), enc u, enc ag]] := by rw [enc_fn, enc_ite]
        have hlist : List.zipWith pr (ms.take ps.length) (ps.map enc) ++ [T.tup [.str ms[j], .tup [.str k_fun, .str (w 8), .tup [.str k_if, enc (endsTm w), enc u, enc ag]]]] = List.zipWith pr (ms.take (ps ++ [Tm.nd (.fn (w 8)) [.nd .ite [endsTm w, u, ag]]]).length) ((ps ++ [Tm.nd (.fn (w 8)) [.nd .ite [endsTm w, u, ag]]]).map enc) := by
          have hlt : (ms.take ps.length).length = (ps.map enc).length := by rw [List.length_take, List.length_map]; omega
          have ht : ms.take (ps.length + 1) = ms.take ps.length ++ [ms[j]] := by
            subst hjp
            exact List.take_succ_eq_append_getElem hjl
          rw [List.length_append, List.length_singleton, ht, List.map_append, List.zipWith_append hlt, List.map_cons, List.map_nil, henc]
          rfl
        rw [hlist]
        refine Ev.ret ⟨_, rfl, pre ++ [j], ps ++ [Tm.nd (.fn (w 8)) [.nd .ite [endsTm w, u, ag]]], ⟨_, _, _, rfl⟩, by rw [← hpre]; simp, by simp [hpl], ?_⟩
        intro p hp
        rcases List.mem_append.mp hp with hp | hp
        · exact hps p hp
        · rw [List.mem_singleton.mp hp]
          exact hf
    · rintro fl ⟨ρ', rfl, pre, ps, s14, s15, s16, rfl, hpre, hpl, hps⟩
      have hlen : ps.length = ms.length := by
        have := congrArg List.length hpre
        simp at this
        omega
      simp
      refine Ev.bind (dr 4 (by omega) (by omega)) ?_
      rintro r ⟨c, rfl, -, -⟩
      refine Ev.ret ⟨.nd (.grp ms) (ps ++ [.nd .call [nameT (w 7), .nd (.num c) []]]), ?_, TG.grp hlen hnd (by omega) hmN hps (TG.call (TG.name (List.mem_append.mpr (.inl (hmN _ h7))) (.inl (by simp [h7]))) TG.num)⟩
      rw [enc_grp hlen, enc_call, enc_nameT, enc_num, hlen, List.take_length]
      rfl
  by_cases hi : i = 1
  · have z1 : ∀ s ∈ vs5, szOk ((w 7).length + s.length) = true := fun s hs => sz_of (by
      have := hw.len 7
      have := (suf_one s (vs5_in s hs)).1
      omega)
    have z6 : szOk (1 + vs5.length) = true := by decide +kernel
    have e6 : (T.str (w 7) :: vs5.map fun s => T.str (w 7 ++ s)) = (memb6 w).map T.str := by unfold memb6; simp
    simp [hi, it_bcdef]
    rw [listM_map (g := fun s => T.str (w 7 ++ s)) (by intro s hs; simp [z1 s hs])]
    rw [ret_bind, List.length_map, z6, e6, if_pos rfl, of_some, ret_bind]
    simp only [slot_o, ret_bind, seq_nx]
    exact key (memb6 w) (by simp [memb6]) memb6_nodup (by simp [memb6, vs5]) memb6_in (by simp [memb6])
  · have z6 : szOk (1 + 0) = true := by decide +kernel
    simp [hi, it_empty]
    rw [listM_n, ret_bind, List.length_nil, z6, if_pos rfl, of_some, ret_bind]
    simp only [slot_o, ret_bind, seq_nx]
    exact key [w 7] (by simp) (by simp) (by simp) (by simp [bndN]) (by simp)
end
end TL
end

section
set_option Elab.async false
set_option linter.all false
set_option maxRecDepth 100000
namespace TL
open PySem
section
variable {w : Nat → Str}
theorem filtM {f : T → M (Option T)} {p : Str × T → Bool} {g : Str × T → T} : ∀ {l : List (Str × T)}, (∀ q ∈ l, f (knT q) = M.ret (if p q then some (g q) else none)) → TL.listM f (l.map knT) = M.ret ((l.filter p).map g)
  | [], _ => rfl
  | q :: l, h => by
    rw [List.map_cons]
    unfold TL.listM
    rw [h q List.mem_cons_self, ret_bind, filtM fun y hy => h y (List.mem_cons_of_mem _ hy), ret_bind, List.filter_cons]
    cases p q <;> rfl
theorem kd_fun {d : Nat} {K : T} (h : KD w d K) : (∃ a b e, K = .tup [.str k_fun, a, b] ∧ KD w e a ∧ KD w e b ∧ e + 1 = d) ∨ ∃ wd r, K = .tup (.str wd :: r) ∧ wd ≠ k_fun ∧ strOk wd = true := by
  cases h with
  | fn ha hb => exact .inl ⟨_, _, _, rfl, ha, hb, rfl⟩
  | num => exact .inr ⟨_, _, rfl, by decide +kernel, by decide +kernel⟩
  | tru => exact .inr ⟨_, _, rfl, by decide +kernel, by decide +kernel⟩
  | rcd _ _ _ _ _ => exact .inr ⟨_, _, rfl, by decide +kernel, by decide +kernel⟩
  | shp _ _ _ => exact .inr ⟨_, _, rfl, by decide +kernel, by decide +kernel⟩
def isF (K : T) : T → Bool
  | .tup [.str f, _, b] => decide (f = k_fun) && eqT b K
  | _ => false
def argF : T → T
  | .tup [_, a, _] => a
  | _ => .non
theorem isF_no {K : T} {wd : Str} {r : List T} (h : wd ≠ k_fun) : isF K (.tup (.str wd :: r)) = false := by
  unfold isF
  split
  · rename_i f _ _ e
    injection e with e
    injection e with e
    injection e with e
    subst e
    simp [h]
  · rfl
theorem make_step (hw : Wds w) {m : Nat} (hm100 : m ≤ 100) {kn : List (Str × T)} (hk : KnOk w kn) (hn : kn.length + 7 ≤ 993 - 7 * m) {d : Nat} {K : T} (hK : KD w d K) (hd : d ≤ 2) {deep : Int} (hmu : deep.toNat * 3 + d < m + 1) {k : Nat} (hkk : 6 * m + 26 ≤ k) (hm : ∀ k', 6 * m + 20 ≤ k' → Mk w k' (993 - 7 * m) (fun d' deep' => deep'.toNat * 3 + d' < m)) : Ev (den cfg tb k i__law_make [.ref 0, toolsT w, .lst (kn.map knT), K, .int deep]) (Made w kn) := by
  obtain ⟨k, rfl⟩ : ∃ j, k = j + 2 := ⟨k - 2, by omega⟩
  have dr := fun n h0 h1 => law_draw (n := n) h0 h1 k
  obtain ⟨l, hl, hlk, hll⟩ := dict_kn kn
  have hlN : ∀ p ∈ l, p.1 ∈ bndN w ∧ KD w 2 p.2 := fun p hp => hk p (hlk p hp)
  have hKs : TL.shp K = true := hK.shp' hw (by omega)
  have hplain : Ev (den cfg tb (k + 1) i__law_plain [.ref 0, toolsT w, .lst (kn.map knT), K, .int deep]) (Made w kn) := law_plain hw hk (n := 993 - 7 * m) (by omega) (by omega) hK (.inl hd) (k0 := 6 * m + 20) (by omega) (by omega) (fun k' hk' kn' d' K' deep' h1 h2 h3 h4 h5 => hm k' hk' kn' d' K' deep' h1 h2 h3 h4 (by
    rcases h5 with ⟨h5, h6⟩
    omega))
  -- names of the same kind
  have hsame : ∀ p ∈ l, TL.shp p.2 = true := fun p hp => (hlN p hp).2.shp' hw (by omega)
  generalize hsm : (l.filter fun q => eqT q.2 K).map (·.1) = sm
  have hsmk : ∀ x ∈ sm, x ∈ kn.map (·.1) ∧ x ∈ bndN w := fun x hx => by
    rw [← hsm] at hx
    obtain ⟨q, hq, rfl⟩ := List.mem_map.mp hx
    have hq := (List.mem_filter.mp hq).1
    exact ⟨List.mem_map.mpr ⟨q, hlk q hq, rfl⟩, (hlN q hq).1⟩
  have hsml : (l.filter fun q => eqT q.2 K).map (fun q => T.str q.1) = sm.map .str := by
    rw [← hsm, List.map_map]
    rfl
  have hss : TL.shp (.lst (sm.map .str)) = true := shp_lst (by
    intro t ht
    obtain ⟨x, hx, rfl⟩ := List.mem_map.mp ht
    exact (bnd_nms hw).str x (List.mem_append.mpr (.inl (hsmk x hx).2))) (by
    intro t ht
    obtain ⟨x, hx, rfl⟩ := List.mem_map.mp ht
    exact Nat.zero_le _)
  have hs0 : TL.shp (.lst []) = true := rfl
  rw [den_fn (f := i__law_make) rfl rfl]
  simp [hl, items_kn, -items_d]
  rw [filtM (p := fun q => eqT q.2 K) (g := fun q => T.str q.1) (by
    intro q hq
    cases e : eqT q.2 K <;> simp [knT, hsame q hq, hKs, e])]
  rw [ret_bind, hsml]
  refine Ev.bind (dr 12 (by omega) (by omega)) ?_
  rintro r ⟨wy, rfl, hw0, hw12⟩
  simp [hss, hs0, eqT_lnil]
  by_cases hA : sm ≠ [] ∧ wy < 5
  · have hpos : 0 < sm.length := List.length_pos_iff.mpr hA.1
    have hle : sm.length ≤ 1000 := by
      have := List.length_filter_le (fun q : Str × T => eqT q.2 K) l
      rw [← hsm, List.length_map]
      omega
    simp [hA.1, hA.2]
    refine Ev.bind (dr sm.length (by omega) (by omega)) ?_
    rintro r ⟨j, rfl, hj0, hj1⟩
    obtain ⟨j, rfl⟩ := nat_of hj0
    have hj : j < sm.length := by omega
    simp [at_strs hj]
    have hx := hsmk _ (List.getElem_mem hj)
    exact Ev.ret ⟨nameT sm[j], by rw [enc_nameT], TG.name (List.mem_append.mpr (.inl hx.2)) (.inl hx.1)⟩
  · have hcond : (if sm = [] then M.ret (R.fro (.bl false)) else M.ret (R.fro (.bl (decide (wy < 5))))) = (M.ret (R.fro (.bl false)) : M R) := by
      by_cases h : sm = []
      · rw [if_pos h]
      · rw [if_neg h, decide_eq_false (fun h5 => hA ⟨h, h5⟩)]
    rw [hcond]
    simp
    by_cases hB : deep ≤ 0
    · simp [hB]
      exact Ev.eq bind_ret hplain
    · by_cases hC : wy < 6
      · simp [hB, hC]
        exact Ev.eq bind_ret hplain
      · have h0 : 0 < deep := by omega
        have hm1 : ∀ k', 6 * m + 20 ≤ k' → Mk w k' (993 - 7 * m) (fun d' deep' => deep'.toNat < deep.toNat) := fun k' hk' kn' d' K' deep' h1 h2 h3 h4 h5 => hm k' hk' kn' d' K' deep' h1 h2 h3 h4 (by
          have h5 : deep'.toNat < deep.toNat := h5
          show deep'.toNat * 3 + d' < m
          omega)
        have mk1 : ∀ d' K', KD w d' K' → d' ≤ 2 → Ev (den cfg tb (k + 1) i__law_make [.ref 0, toolsT w, .lst (kn.map knT), K', .int (deep - 1)]) (Made w kn) := fun d' K' h1 h2 => hm1 (k + 1) (by omega) kn d' K' (deep - 1) hk (by omega) h1 h2 (by show (deep - 1).toNat < deep.toNat; omega)
        simp [hB, hC, hl, items_kn, -items_d]
        by_cases h6 : wy = 6
        · simp [h6]
          rw [filtM (p := fun q => isF K q.2) (g := fun q => knT (q.1, argF q.2)) (by
            intro q hq
            rcases kd_fun (hlN q hq).2 with ⟨a, b, e, hq2, ha, hb, he1⟩ | ⟨wd, r, hq2, hne, hok⟩
            · have hbs : TL.shp b = true := (hb.le (show e ≤ 2 by omega)).shp' hw (by omega)
              cases he : eqT b K <;> simp (decide := true) [knT, hq2, isF, argF, hbs, hKs, he]
            · rw [hq2, isF_no hne]
              simp [knT, hq2, hne, hok])]
          generalize hcm : (l.filter fun q => isF K q.2).map (fun q => (q.1, argF q.2)) = cm
          have hcml : (l.filter fun q => isF K q.2).map (fun q => knT (q.1, argF q.2)) = cm.map knT := by
            rw [← hcm, List.map_map]
            rfl
          have hcmk : ∀ x ∈ cm, x.1 ∈ kn.map (·.1) ∧ x.1 ∈ bndN w ∧ KD w 2 x.2 := fun x hx => by
            rw [← hcm] at hx
            obtain ⟨q, hq, rfl⟩ := List.mem_map.mp hx
            obtain ⟨hq, hqf⟩ := List.mem_filter.mp hq
            refine ⟨List.mem_map.mpr ⟨q, hlk q hq, rfl⟩, (hlN q hq).1, ?_⟩
            rcases kd_fun (hlN q hq).2 with ⟨a, b, e, hq2, ha, hb, he⟩ | ⟨wd, r, hq2, hne, hok⟩
            · rw [hq2]
              exact ha.le (by omega)
            · rw [hq2, isF_no hne] at hqf
              cases hqf
          have hcs : TL.shp (.lst (cm.map knT)) = true := shp_lst (by
            intro t ht
            obtain ⟨x, hx, rfl⟩ := List.mem_map.mp ht
            have h1 := (bnd_nms hw).str x.1 (List.mem_append.mpr (.inl (hcmk x hx).2.1))
            have h2 := ((hcmk x hx).2.2.dat hw).1
            simp [knT, dat, dats_all, h1, h2]) (by
            intro t ht
            obtain ⟨x, hx, rfl⟩ := List.mem_map.mp ht
            have h2 := ((hcmk x hx).2.2.dat hw).2.2
            unfold knT
            rw [dep_tup]
            have e0 : dep (.str x.1) = 0 := rfl
            simp only [deps]
            omega)
          rw [ret_bind, hcml]
          simp [hcs, hs0, eqT_lnil]
          by_cases hce : cm = []
          · rw [if_pos hce]
            simp
            refine Ev.bind (mk1 0 _ KD.tru (by omega)) ?_
            rintro r ⟨a, rfl, ha⟩
            simp
            refine Ev.bind (mk1 d K hK hd) ?_
            rintro r ⟨b, rfl, hb⟩
            simp
            refine Ev.bind (mk1 d K hK hd) ?_
            rintro r ⟨c, rfl, hc⟩
            exact Ev.ret ⟨.nd .ite [a, b, c], by rw [enc_ite]; rfl, TG.ite ha hb hc⟩
          · rw [if_neg hce]
            have hpos : 0 < cm.length := List.length_pos_iff.mpr hce
            have hle : cm.length ≤ 1000 := by
              have := List.length_filter_le (fun q : Str × T => isF K q.2) l
              rw [← hcm, List.length_map]
              omega
            simp
            refine Ev.bind (dr cm.length (by omega) (by omega)) ?_
            rintro r ⟨j, rfl, hj0, hj1⟩
            obtain ⟨j, rfl⟩ := nat_of hj0
            have hj : j < cm.length := by omega
            have hat : at_ (cm.map knT) (j : Int) = some (knT cm[j]) := by
              rw [at_of (by simpa using hj), List.getElem?_map, List.getElem?_eq_getElem hj]
              rfl
            obtain ⟨hx1, hx2, hx3⟩ := hcmk _ (List.getElem_mem hj)
            simp [hat, knT]
            refine Ev.bind (mk1 2 _ hx3 (by omega)) ?_
            rintro r ⟨a, rfl, ha⟩
            exact Ev.ret ⟨.nd .call [nameT cm[j].1, a], by rw [enc_call, enc_nameT]; rfl, TG.call (TG.name (List.mem_append.mpr (.inl hx2)) (.inl hx1)) ha⟩
        · simp [h6]
          by_cases h7 : wy = 7
          · simp [h7]
            exact Ev.eq bind_ret (law_field hw hk (n := 993 - 7 * m) (by omega) (by omega) hK hd h0 (k0 := 6 * m + 20) (by omega) (by omega) hm1)
          · simp [h7]
            by_cases h8 : wy = 8
            · simp [h8]
              refine Ev.bind (mk1 d K hK hd) ?_
              rintro r ⟨a, rfl, ha⟩
              have hd' := hK.dat hw
              exact Ev.ret ⟨.nd (.told K) [a], by rw [enc_told]; rfl, TG.told ⟨hd'.1, hd'.2.1⟩ ha⟩
            · simp [h8]
              by_cases h9 : wy = 9
              · simp [h9]
                exact Ev.eq bind_ret (law_counted hw hk (n := 993 - 7 * m) (by omega) (by omega) hK hd h0 (k0 := 6 * m + 20) (by omega) (by omega) hm1)
              · simp [h9]
                by_cases h10 : wy = 10
                · simp [h10]
                  exact Ev.eq bind_ret (law_branched hw hk (n := 993 - 7 * m) (by omega) (by omega) hK hd h0 (k0 := 6 * m + 20) (by omega) (by omega) hm1)
                · simp [h10]
                  exact Ev.eq bind_ret (law_bound hw hk (n := 993 - 7 * m) (by omega) (by omega) hK hd h0 (k0 := 6 * m + 20) (by omega) (by omega) hm1)
theorem law_make (hw : Wds w) : ∀ (m : Nat), m ≤ 100 → ∀ {k : Nat}, 6 * m + 20 ≤ k → Mk w k (993 - 7 * m) (fun d deep => deep.toNat * 3 + d < m)
  | 0, _, k, _ => fun kn d K deep h1 h2 h3 h4 h5 => absurd h5 (Nat.not_lt_zero _)
  | m + 1, hm, k, hk => fun kn d K deep h1 h2 h3 h4 h5 => make_step hw (m := m) (by omega) h1 (by omega) h3 h4 h5 (by omega) (fun k' hk' => law_make hw m (by omega) hk')
end
end TL
end

section
set_option Elab.async false
set_option linter.all false
set_option maxRecDepth 100000
/-! The law itself. -/
namespace TL
open PySem
theorem step_add (k : Nat) (sh : T) (i j : Int) : den cfg tb (k + 30) i_step [worldT sh, .tup [.str k_call, .tup [.str k_call, .tup [.str k_name, .str k_add], .tup [.str k_num, .int i]], .tup [.str k_num, .int j]]] = M.ret (.fro (.tup [.str k_num, .int (i + j)])) := by
  funext s
  kernel_rfl
theorem step_sub (k : Nat) (sh : T) (i j : Int) : den cfg tb (k + 30) i_step [worldT sh, .tup [.str k_call, .tup [.str k_call, .tup [.str k_name, .str k_sub], .tup [.str k_num, .int i]], .tup [.str k_num, .int j]]] = M.ret (.fro (.tup [.str k_num, .int (i - j)])) := by
  funext s
  kernel_rfl
theorem step_flt (k : Nat) (sh A : T) : den cfg tb (k + 30) i_step [worldT sh, .tup [.str k_fault, A]] = M.ret (.fro (.tup [.str k_fault, .tup []])) := by
  funext s
  kernel_rfl
theorem lstep_flt (k : Nat) (L S A : T) : den cfg tb (k + 30) i__law_step [.tup [.str k_fault, A], .dct [] [], S] = M.ret (.fro (.tup [.str k_fault, .tup []])) := by
  funext s
  kernel_rfl
theorem shp_num {i : Int} : TL.shp (.tup [.str k_num, .int i]) = true := by
  refine shp_tup ?_ ?_
  · intro t ht
    simp at ht
    rcases ht with rfl | rfl
    · show strOk k_num = true
      simp
    · rfl
  · intro t ht
    simp at ht
    rcases ht with rfl | rfl <;> exact Nat.zero_le _
theorem eqT_num {i : Int} : eqT (.tup [.str k_num, .int i]) (.tup [.str k_num, .int i]) = true := eqT_refl _ (by simp [dat, dats_all])
theorem pow106 : bopD .pow (.int 10) (.int 6) = some (.fro (.int 1000000)) := by rfl
theorem rng2 : rngD (.int 2) = some [T.int 0, T.int 1] := by
  have := rng_int (n := 2) (by omega)
  exact this
theorem sums_right (k : Nat) (sh : T) : Ev (den cfg tb (k + 31) i__law_sums_right [.ref 0, worldT sh]) fun r => r = .fro (.bl true) := by
  have dr := fun n h0 h1 => law_draw (n := n) h0 h1 (k + 29)
  rw [den_fn (f := i__law_sums_right) rfl rfl]
  simp [rng2, pow106, listM_c, listM_n]
  refine Ev.bind (dr 1000000 (by omega) (by omega)) ?_
  rintro r ⟨a, rfl, -, -⟩
  simp
  refine Ev.bind (dr 1000000 (by omega) (by omega)) ?_
  rintro r ⟨b, rfl, -, -⟩
  simp [consO]
  refine Ev.bind (dr 999999 (by omega) (by omega)) ?_
  rintro r ⟨c, rfl, -, -⟩
  have h1 := step_add k sh
  have h2 := step_sub k sh
  simp [loopF_cons, h1, h2, shp_num, eqT_num]
  exact Ev.ret rfl
end TL
end

section
set_option Elab.async false
set_option linter.all false
set_option maxRecDepth 100000
namespace TL
open PySem
/-- what stands at a step: a good closed term, or a fault -/
def Stt (w : Nat → Str) (t : Tm) : Prop := (Ok (bndN w) reck t ∧ clQ (bndN w) t) ∨ ∃ q, t = flt q
section
variable {w : Nat → Str}
theorem stt_tdat {t : Tm} (h : Stt w t) : tdat (enc t) = true := by
  rcases h with ⟨h, -⟩ | ⟨q, rfl⟩
  · exact tdat_enc h
  · unfold flt
    rw [enc_fault]
    simp [tdat, tdats_all]
theorem flt_dat {q : List Int} : dat (enc (flt q)) = true := by
  unfold flt
  rw [enc_fault]
  simp [dat, dats_all]
theorem flt_shp {q : List Int} : TL.shp (enc (flt q)) = true := by
  unfold TL.shp
  rw [flt_dat, Nat.ble_eq_true_of_le (Nat.le_trans dep_flt (by decide))]
  rfl
theorem enc_some {t : Tm} (h : Stt w t) : isNon (enc t) = false := by
  rcases h with ⟨h, -⟩ | ⟨q, rfl⟩
  · obtain ⟨hd, ps⟩ := t
    obtain ⟨r, er⟩ := word_at h.len
    rw [er]
    rfl
  · unfold flt
    rw [enc_fault]
    rfl
theorem step_both (hw : Wds w) (sh : T) {t : Tm} (h : Stt w t) (hs : szT (enc t) 0 ≤ 280) (k : Nat) : ∃ r : Option Tm, den cfg tb (k + 150) i__law_step [enc t, .dct [] [], nsT reck] = M.ret (.fro (encO r)) ∧ den cfg tb (k + 150) i_step [worldT sh, enc t] = M.ret (.fro (encO r)) ∧ TL.shp (encO r) = true ∧ eqT (encO r) (encO r) = true ∧ ∀ r', r = some r' → Stt w r' := by
  rcases h with ⟨ok, hc⟩ | ⟨q, rfl⟩
  · have g := Gd.of ok hc hs
    have hdep : dep (enc t) ≤ 31 := by
      have := sz_dep (tdat_enc ok) (d := 0) (by omega)
      omega
    have hht := g.ht
    have hN := bnd_nms hw
    have htm : ∀ (x : Str) (u : Tm), (fun _ => none : Str → Option Tm) x = some u → Ok (bndN w) reck u ∧ clQ (bndN w) u := fun x u e => by cases e
    obtain ⟨r, hst, -⟩ := stp_ex (S := reck) (tm := fun _ => none) t
    have h1 := law_step (L := []) hN (fun x u e => by cases e) hst g (k := k + 150) (by omega)
    have h2 := step_by hN bnd_nms2 (world_ro sh) htm hst g (k := k + 149) (by omega)
    have h3 := step_den (k + 148) sh (enc t)
    rw [h2] at h3
    refine ⟨r, h1, h3, ?_⟩
    cases r with
    | none => exact ⟨rfl, rfl, fun r' e => by cases e⟩
    | some r' =>
      have hR := stp_good htm hst ok hc r' rfl
      have hd2 := dep_stp (tm := fun _ => none) (fun _ => rfl) hst ok hc r' rfl
      rcases hR with ⟨h4, h5⟩ | ⟨q, rfl, -⟩
      · refine ⟨shp_enc hN h4 (by omega), eqT_refl _ (dat_enc hN h4), fun u e => by cases e; exact .inl ⟨h4, h5⟩⟩
      · exact ⟨flt_shp, eqT_refl _ flt_dat, fun u e => by cases e; exact .inr ⟨_, rfl⟩⟩
  · refine ⟨some (flt []), ?_, ?_, flt_shp, eqT_refl _ flt_dat, fun u e => by cases e; exact .inr ⟨_, rfl⟩⟩
    · have := lstep_flt (k + 120) (.tup []) (nsT reck) (.tup (q.map .int))
      unfold flt
      show den cfg tb _ _ [enc (.nd (.fault q) []), _, _] = M.ret (.fro (enc (.nd (.fault []) [])))
      rw [enc_fault, enc_fault]
      exact this
    · have := step_flt (k + 120) sh (.tup (q.map .int))
      unfold flt
      show den cfg tb _ _ [_, enc (.nd (.fault q) [])] = M.ret (.fro (enc (.nd (.fault []) [])))
      rw [enc_fault, enc_fault]
      exact this
theorem loopA {f : T → Env → M Fl} {Inv : Env → Prop} {r : R} : ∀ (ts : List T) {ρ : Env}, (∀ t ∈ ts, ∀ ρ, Inv ρ → f t ρ = M.ret (.rt r) ∨ ∃ ρ', f t ρ = M.ret (.nx ρ') ∧ Inv ρ') → Inv ρ → loopF f ts ρ = M.ret (.rt r) ∨ ∃ ρ', loopF f ts ρ = M.ret (.nx ρ') ∧ Inv ρ'
  | [], ρ, _, h => .inr ⟨ρ, rfl, h⟩
  | t :: ts, ρ, hs, h => by
    rw [loopF_cons]
    rcases hs t List.mem_cons_self ρ h with e | ⟨ρ', e, h'⟩
    · rw [e, ret_bind]
      exact .inl rfl
    · rw [e, ret_bind, seq_nx]
      exact loopA ts (fun u hu => hs u (List.mem_cons_of_mem _ hu)) h'
theorem loopA_ev {γ : Type} {f : T → Env → M Fl} {ts : List T} {ρ : Env} {K : Fl → M γ} {Q : γ → Prop} (Inv : Env → Prop) (r : R) (hs : ∀ t ∈ ts, ∀ ρ, Inv ρ → f t ρ = M.ret (.rt r) ∨ ∃ ρ', f t ρ = M.ret (.nx ρ') ∧ Inv ρ') (h0 : Inv ρ) (h1 : Ev (K (.rt r)) Q) (h2 : ∀ ρ', Inv ρ' → Ev (K (.nx ρ')) Q) : Ev (M.bind (loopF f ts ρ) K) Q := by
  rcases loopA (f := f) (Inv := Inv) (r := r) ts hs h0 with e | ⟨ρ', e, h⟩
  · rw [e, ret_bind]
    exact h1
  · rw [e, ret_bind]
    exact h2 ρ' h
theorem fld_names (sh : T) : fldM k_names (worldT sh) = M.ret (.fro leastN) := by
  funext s
  kernel_rfl
theorem law_rest (script : T) (k : Nat) : Ev (M.bind (denSs cfg (den cfg tb (k + 160)) (dropS 2 d_law.body) [.fro script, .fro (.ref 0), .non, .non, .non, .non, .non, .non, .non, .non]) endM) fun r => r = .fro (.bl true) := by
  have hwd := law_words (k + 158)
  have dr := fun n h0 h1 => law_draw (n := n) h0 h1 (k + 159)
  simp [d_law, dropS]
  refine Ev.bind hwd ?_
  rintro r ⟨cs, i, first, odd, hne, hl6, hc, hi, hf, rfl⟩
  have hw := wds_of (first := first) (odd := odd) hl6 hc hi
  have hT : ((List.range 15).map fun j => T.str (wordAt cs i first odd j)) = wT (wordAt cs i first odd) := rfl
  rw [hT]
  generalize wordAt cs i first odd = w at hw
  have hsh := law_shapes hw (k + 159)
  have hkd := law_kind hw true 2 (k := k + 160) (by omega)
  have hmk := law_make hw 12 (by omega) (k := k + 160) (by omega)
  have htl : T.tup [shsT w, .lst [.str (w 7), .str (w 8), .str (w 9), .str (w 10)]] = toolsT w := rfl
  simp [hsh]
  refine Ev.bind hkd ?_
  rintro r ⟨K, rfl, hK⟩
  have hcut : cut (wT w) (some 7) (some 11) = [.str (w 7), .str (w 8), .str (w 9), .str (w 10)] := rfl
  simp [hcut, htl]
  refine Ev.bind (hmk [] 2 K 3 (fun p hp => by cases hp) (by simp) hK (by omega) (by decide)) ?_
  rintro r ⟨t, rfl, ht⟩
  have stt : ∀ {t : Tm}, TG (bndN w) reck [] t → Stt w t := fun h => .inl ⟨h.1, fun y hy hN => by
    rcases h.2 y hy with h | h
    · cases h
    · exact bnd_reck hw y hN h⟩
  have hsz : ∀ {t : Tm}, Stt w t → den cfg tb (k + 160) i__law_size [enc t, .int 0] = M.ret (.fro (.int (szT (enc t) 0 : Nat))) := fun h => law_size (stt_tdat h) (d := 0) (by omega) (by omega)
  simp [hsz (stt ht)]
  refine Ev.bind (P := fun fl => ∃ u, fl = .nx [.fro script, .fro (.ref 0), .fro (.lst (wT w)), .fro (shsT w), .fro K, .fro (toolsT w), .fro (enc u), .non, .non, .non] ∧ TG (bndN w) reck [] u) ?_ ?_
  · by_cases h : 280 < szT (enc t) 0
    · rw [if_pos (by omega)]
      refine Ev.bind (hmk [] 2 K 0 (fun p hp => by cases hp) (by simp) hK (by omega) (by decide)) ?_
      rintro r ⟨u, rfl, hu⟩
      exact Ev.ret ⟨u, rfl, hu⟩
    · rw [if_neg (by omega)]
      exact Ev.ret ⟨t, rfl, ht⟩
  · rintro fl ⟨t, rfl, ht⟩
    have hlw := least_world (k + 158)
    have hmw := mk_world (k + 159) (shsT w)
    simp [hlw, fld_names, hmw]
    refine Ev.bind (sums_right (k + 129) (shsT w)) ?_
    rintro r rfl
    simp
    refine Ev.bind (dr 8 (by omega) (by omega)) ?_
    rintro r ⟨i, rfl, -, -⟩
    obtain ⟨n, hn, hat⟩ : ∃ n : Nat, n ≤ 40 ∧ at_ [T.int 14, T.int 40] (if i = 1 then 1 else 0) = some (.int (n : Nat)) := by
      by_cases h : i = 1
      · exact ⟨40, by omega, by rw [if_pos h]; rfl⟩
      · exact ⟨14, by omega, by rw [if_neg h]; rfl⟩
    have hrng := rng_int (n := n) (by omega)
    simp [hat, hrng]
    refine loopA_ev (fun ρ => ∃ u s8 s9, ρ = [.fro script, .fro (.ref 0), .fro (.lst (wT w)), .fro (shsT w), .fro K, .fro (toolsT w), .fro (enc u), .fro (worldT (shsT w)), s8, s9] ∧ Stt w u) (.fro (.bl true)) ?_ ⟨t, _, _, rfl, stt ht⟩ ?_ ?_
    · rintro v hv ρ ⟨u, s8, s9, rfl, hu⟩
      by_cases hz : 280 < szT (enc u) 0
      · left
        have hzi : (280 : Int) < (szT (enc u) 0 : Nat) := by omega
        simp [hsz hu, hzi]
      · obtain ⟨r, h1, h2, h3, h4, h5⟩ := step_both hw (shsT w) hu (by omega) (k + 10)
        have hzi : ¬ (280 : Int) < (szT (enc u) 0 : Nat) := by omega
        have h1 : den cfg tb (k + 160) i__law_step [enc u, .dct [] [], .tup [.str k_add, .str k_sub, .str k_less]] = M.ret (.fro (encO r)) := h1
        cases r with
        | none =>
          left
          simp only [encO] at h1 h2
          simp [hsz hu, hzi, h1, h2, isNon, eqT]
        | some u' =>
          right
          simp only [encO] at h1 h2 h3 h4
          have hu' := h5 u' rfl
          simp [hsz hu, hzi, h1, h2, h3, h4, enc_some hu']
          exact ⟨_, rfl, u', ⟨_, _, rfl⟩, hu'⟩
    · simp
      exact Ev.ret rfl
    · rintro ρ' ⟨u, s8, s9, rfl, hu⟩
      simp
      exact Ev.ret rfl
theorem bind_at {α β : Type} {m : M α} {f : α → M β} {s s' : Sto} {a : α} (h : m s = some (a, s')) : M.bind m f s = f a s' := by
  show (match m s with | some (a, s') => f a s' | none => none) = _
  rw [h]
theorem law_true {ns : List Int} (hn : ns.length ≤ 63) (k : Nat) : ∃ st', den cfg tb (k + 161) i_law [.lst (ns.map .int)] [] = some (.fro (.bl true), st') := by
  obtain ⟨b, c, cs, hsrc⟩ := law_source hn (k + 159)
  have hS : SrcQ [((0 : Int) :: b :: c :: cs).map .int] := ⟨0, b, c, cs, by omega, rfl⟩
  generalize (0 : Int) :: b :: c :: cs = ds at hsrc hS
  obtain ⟨a, s', e, -, rfl⟩ := law_rest (.lst (ns.map .int)) k _ hS
  refine ⟨s', ?_⟩
  rw [den_fn (f := i_law) rfl rfl]
  have hb : d_law.body = .cons (.asg 1 (.call i__law_source (.cons (.var 0) .nil))) (.cons (.shr 1) (dropS 2 d_law.body)) := rfl
  show M.bind (denSs cfg (den cfg tb (k + 160)) d_law.body [.fro (.lst (ns.map .int)), .non, .non, .non, .non, .non, .non, .non, .non, .non]) endM [] = _
  rw [hb]
  have hsh : shrM [.fro (.lst (ns.map .int)), .own (.lst (ds.map .int)), .non, .non, .non, .non, .non, .non, .non, .non] 1 [] = some (.nx [.fro (.lst (ns.map .int)), .fro (.ref 0), .non, .non, .non, .non, .non, .non, .non, .non], [ds.map .int]) := rfl
  simp only [s_cons, s_asg, r_call, r_cons, r_nil, r_varF, fro_0, Option.map_some, of_some, ret_bind, val_f, hsrc, slot_o, set_0, set_S, seq_nx, s_shr, bind_assoc]
  rw [bind_at hsh]
  exact e
end
end TL
end

section
set_option maxRecDepth 100000
theorem PySem.Challenge.cw_kindcourt_k80_one_step_told_holds : PySem.Challenge.rw_kindcourt_k80_one_step_told.Holds := by
  exact Hd.holds (k := 160) ⟨by decide +kernel, by decide +kernel, by decide +kernel⟩ fun ns hn => TL.law_true hn 0
end
