import PyProof.Rows.All
import Wide.All
import OpenK.AllK
import Wide.FinOn
import HandS.ForMost
import HandS.ForExc
import HandS.Deep
import KE.SortData
import HandS.Lambda
import HandS.TupAny
import HandS.TupLen
import HandS.TupMul
import HandS.Style
import HandS.Flow
import HandS.Conv
import HandS.DictTup
import HandS.IsInst
import HandS.Steps
import KE.DatumIndex
import HandS.Strs
import KE.KDictDisplayH
import HandS.ExcOwn
import HandS.Defaults
import HandS.TryOnly
import HandS.EndTab
import HandS.HeadEnd
import HandS.HeadHook2
import HandS.HeadHook3
import HandS.HeadHook4
import HandS.Iter
import KE.GoesMore
import KE.GoesEnum
import PyProof.ExcBaseAll.ValueError
import HandS.Head0
import HandS.Head1
import HandS.Head2
import Lean
import KE.KStateDown
import PyProof.ReprLen
import PyProof.P3Eq
import PySem.Challenge.RW_turntalk_k25_configurations_and_moves
set_option Elab.async false
set_option linter.all false
set_option maxRecDepth 100000
/-! M0: values, cells, a small language and its interpreter. -/
namespace MP
open PySem

/-- a value that nobody changes -/
inductive AV where
  | non | bl (b : Bool) | int (i : Int) | str (s : Str)
  | tup (xs : List AV) | lst (xs : List AV) | dct (t : Bool) (ks vs : List AV)
  | fn (x : Nat) | ty (n : String) | scr (xs : List Int) | ktp (xs : List AV)

/-- a value: one that nobody changes, or a cell -/
inductive MV where
  | d (v : AV) | ref (i : Nat)

/-- what a cell holds -/
inductive Cell where
  | lst (xs : List AV) | mls (xs : List MV) | dct (t : Bool) (ks vs : List AV)

abbrev AH := List Cell
abbrev AEnv := List (Option MV)

structure Exc where
  cls : Nat
  fs : List (Str × AV)

inductive R (α : Type) where
  | ok (a : α) (h : AH) | exc (e : Exc) (h : AH) | stuck

def R.bind {α β : Type} (x : R α) (f : α → AH → R β) : R β :=
  match x with
  | .ok a h => f a h
  | .exc e h => .exc e h
  | .stuck => .stuck

/-! ### data -/
mutual
def AV.toD : AV → PyData
  | .non => .none
  | .bl b => .bool b
  | .int i => .int i
  | .str s => .str s
  | .tup xs => .tuple (AV.toDs xs)
  | .lst xs => .list (AV.toDs xs)
  | .dct _ _ _ => .dict []
  | .fn _ => .dict []
  | .ty _ => .dict []
  | .scr _ => .dict []
  | .ktp xs => .tuple (AV.toDs xs)
def AV.toDs : List AV → List PyData
  | [] => []
  | x :: xs => AV.toD x :: AV.toDs xs
end
mutual
/-- numbers, truths, None, texts, lists, tuples -/
def AV.pl : AV → Bool
  | .non => true
  | .bl _ => true
  | .int _ => true
  | .str _ => true
  | .tup xs => AV.pls xs
  | .lst xs => AV.pls xs
  | .dct _ _ _ => false
  | .fn _ => false
  | .ty _ => false
  | .scr _ => false
  | .ktp xs => AV.pls xs
def AV.pls : List AV → Bool
  | [] => true
  | x :: xs => AV.pl x && AV.pls xs
end

/-- keys of a dict -/
def keyK : AV → Option L2.Key
  | .int i => some (.inl i)
  | .str s => some (.inr s)
  | _ => none
def keysK : List AV → Option (List L2.Key)
  | [] => some []
  | x :: xs => match keyK x, keysK xs with
    | some k, some ks => some (k :: ks)
    | _, _ => none
def keyT : AV → Option (List L2.Key)
  | .tup xs => keysK xs
  | _ => none
def keysT : List AV → Option (List (List L2.Key))
  | [] => some []
  | x :: xs => match keyT x, keysT xs with
    | some k, some ks => some (k :: ks)
    | _, _ => none

def allD : List MV → Option (List AV)
  | [] => some []
  | .d v :: r => match allD r with
    | some vs => some (v :: vs)
    | none => none
  | .ref _ :: _ => none

/-- a cell's content, read -/
def Cell.view : Cell → Option AV
  | .lst xs => some (.lst xs)
  | .mls xs => match allD xs with
    | some vs => some (.lst vs)
    | none => none
  | .dct t ks vs => some (.dct t ks vs)
def view (v : MV) (h : AH) : Option AV :=
  match v with
  | .d v => some v
  | .ref i => match h[i]? with
    | some c => c.view
    | none => none
def views (vs : List MV) (h : AH) : Option (List AV) :=
  match vs with
  | [] => some []
  | v :: r => match view v h, views r h with
    | some x, some xs => some (x :: xs)
    | _, _ => none

def truthy? : AV → Option Bool
  | .non => some false
  | .bl b => some b
  | .int i => some (i != 0)
  | .str s => some ((s.length : Int) != 0)
  | .tup xs => some (!xs.isEmpty)
  | .lst xs => some (!xs.isEmpty)
  | .dct false ks _ => some (!ks.isEmpty)
  | _ => none

/-! ### the language -/
inductive Bop where | add | sub | mul | fdiv | mod | pow
  deriving DecidableEq
inductive Cop where | eq | ne | lt | le | gt | ge | in_ | nin | is_ | isn
  deriving DecidableEq

/-- built-in functions and classes, called -/
inductive Bi where | len | abs | int | max | min | sum | all | any | tuple | list | sorted | repr | str | dict
  deriving DecidableEq
/-- methods of built-in things -/
inductive Me where | append | extend | pop | index | get | setdefault | split | join
  deriving DecidableEq
inductive Ty where | int | str | tuple | list | bool | dict
  deriving DecidableEq

mutual
inductive Tg where
  | nm (i : Nat) | tp (ts : Tgs)
inductive Tgs where
  | nil | cons (t : Tg) (ts : Tgs)
end

mutual
inductive Ex where
  | cN | cB (b : Bool) | cI (i : Int) | cS (s : Str)
  | var (i : Nat) | glb (x : Nat)
  | tup (es : Exs) | lst (es : Exs) | newl (es : Exs) | newm (es : Exs) | newd (t : Bool) | dsp (es : Exs) | dst (es : Exs)
  | bin (op : Bop) (a b : Ex) | neg (a : Ex) | not (a : Ex) | and (a b : Ex) | or (a b : Ex) | ite (c a b : Ex)
  | cmp (op : Cop) (a b : Ex) | chn (o1 o2 : Cop) (a b c : Ex)
  | idx (a i : Ex) | dgt (a k : Ex) | din (n : Bool) (k a : Ex) | slc (a : Ex) (lo hi : Exs) | rvs (a : Ex)
  | call (f : Nat) (es : Exs) | bi (f : Bi) (es : Exs) | isi (a : Ex) (T : Ty)
  | meth (m : Me) (o : Ex) (es : Exs) | vme (m : Me) (o : Ex) (es : Exs)
  | comp (t : Tg) (it : It) (c : Exs) (e : Ex) (own : List Nat)
  | comp2 (t : Tg) (it : It) (c : Exs) (t2 : Tg) (it2 : It) (c2 : Exs) (e : Ex) (own own2 : List Nat)
  | new (e : Ex)
  | told (g : Nat) (e : Ex)
inductive Exs where
  | nil | cons (e : Ex) (es : Exs)
inductive It where
  | of (e : Ex) | rng (es : Exs) | enm (e : Ex) | zip (a b : Ex)
end

mutual
inductive Sm where
  | set (t : Tg) (e : Ex) | par (ts : List Nat) (es : Exs) | put (o i e : Ex) | dpt (o i e : Ex)
  | aug (i : Nat) (op : Bop) (e : Ex) | augp (o i : Ex) (op : Bop) (e : Ex)
  | ex (e : Ex) | ret (e : Ex) | rnon
  | ifs (c : Ex) (a b : Sms) | whl (c : Ex) (b : Sms) | fr (t : Tg) (it : It) (b : Sms)
  | brk | cnt | pas | rai (c : Nat)
inductive Sms where
  | nil | cons (s : Sm) (ss : Sms)
end

/-- a statement's end -/
inductive RS where
  | nx (σ : AEnv) (h : AH) | rt (v : MV) (h : AH) | bk (σ : AEnv) (h : AH) | ct (σ : AEnv) (h : AH) | exc (e : Exc) (σ : AEnv) (h : AH) | stuck

/-- what stands around: the program's functions, the module's constants -/
structure GT where
  fn : Nat → List MV → AH → R MV
  dat : Nat → Option AV

/-! ### targets -/
mutual
def asg : Tg → MV → AEnv → Option AEnv
  | .nm i, v, σ => some (σ.set i (some v))
  | .tp ts, .d (.tup xs), σ => if tgLen ts = xs.length then asgs ts xs σ else none
  | .tp _, _, _ => none
def asgs : Tgs → List AV → AEnv → Option AEnv
  | .nil, [], σ => some σ
  | .cons t ts, x :: xs, σ => match asg t (.d x) σ with
    | some σ' => asgs ts xs σ'
    | none => none
  | _, _, _ => none
def tgLen : Tgs → Nat
  | .nil => 0
  | .cons _ ts => tgLen ts + 1
end

/-! ### values' operations -/
/-- plain data that == may be asked of -/
def AV.shp (v : AV) : Bool := v.pl && SeqAt.shaped v.toD
def eqv? (a b : AV) : Option Bool := if a.shp && b.shp then some (PyData.eqv a.toD b.toD) else none

def addA : AV → AV → Option AV
  | .int i, .int j => some (.int (i + j))
  | .str a, .str b => if a.length + b.length ≤ sizeLine then some (.str (a ++ b)) else none
  | .tup xs, .tup ys => if xs.length + ys.length ≤ sizeLine then some (.tup (xs ++ ys)) else none
  | .lst xs, .lst ys => if xs.length + ys.length ≤ sizeLine then some (.lst (xs ++ ys)) else none
  | _, _ => none
def intA (g : Int → Int → Option AV) : AV → AV → Option AV
  | .int i, .int j => g i j
  | _, _ => none
def mulA : AV → AV → Option AV
  | .int i, .int j => if (-(2 ^ 64) < i ∧ i < 2 ^ 64) ∨ (-(2 ^ 64) < j ∧ j < 2 ^ 64) then some (.int (i * j)) else none
  | .lst xs, .int k => if 0 ≤ k ∧ k < 2 ^ 63 ∧ xs.length * k.toNat ≤ sizeLine then some (.lst (List.replicate k.toNat xs).flatten) else none
  | .tup xs, .int k => if xs ≠ [] ∧ 2 ≤ k ∧ k ≤ 6000 ∧ xs.length ≤ 1000 then some (.tup (List.replicate k.toNat xs).flatten) else none
  | _, _ => none
def binop : Bop → AV → AV → Option AV
  | .add => addA
  | .sub => intA fun i j => some (.int (i - j))
  | .mul => mulA
  | .fdiv => intA fun i j => if 0 < j ∧ j < 1073741824 then some (.int (i / j)) else none
  | .mod => intA fun i j => if 0 < j then some (.int (i % j)) else none
  | .pow => intA fun i j => if 0 ≤ j ∧ j ≤ 1000000 ∧ i.natAbs < 2 ^ 64 then some (.int (i ^ j.toNat)) else none

def augA (op : Bop) (a b : AV) : Option AV := match a, b with
  | .int _, .int _ => binop op a b
  | .str _, .str _ => binop op a b
  | _, _ => none
/-- what a dict holds at a key -/
def valA {κ : Type} [DecidableEq κ] (kvs : List (κ × AV)) (k : κ) : Option AV := (kvs.find? fun kv => decide (kv.1 = k)).map (·.2)
def dctGet (t : Bool) (ks vs : List AV) (k : AV) : Option (Option AV) :=
  match t with
  | false => match keyK k, keysK ks with
    | some k', some kk => some (valA (kk.zip vs) k')
    | _, _ => none
  | true => match keyT k, keysT ks with
    | some k', some kk => some (valA (kk.zip vs) k')
    | _, _ => none
/-- .. behind a store: the values, the key being there -/
def putL {κ : Type} [DecidableEq κ] (kk : List κ) (vs : List AV) (k : κ) (x : AV) : List AV := List.zipWith (fun c v => if c = k then x else v) kk vs
def dctPut (t : Bool) (ks vs : List AV) (k x : AV) : Option (List AV × List AV) :=
  match t with
  | false => match keyK k, keysK ks with
    | some k', some kk => if ks.length < sizeLine then some (if (kk.any fun c => decide (c = k')) = true then (ks, putL kk vs k' x) else (ks ++ [k], vs ++ [x])) else none
    | _, _ => none
  | true => match keyT k, keysT ks with
    | some k', some kk => if ks.length < sizeLine then some (if (kk.any fun c => decide (c = k')) = true then (ks, putL kk vs k' x) else (ks ++ [k], vs ++ [x])) else none
    | _, _ => none

def inA (x : AV) : AV → Option Bool
  | .str z => match x with
    | .str c => match c.cps.toList with
      | [n] => some (decide (n ∈ z.cps.toList))
      | _ => none
    | _ => none
  | .tup ys => if x.shp && (AV.tup ys).shp then some ((AV.toDs ys).any fun z => PyData.eqv z x.toD) else none
  | .ktp ys => if x.shp && (AV.ktp ys).shp then some ((AV.toDs ys).any fun z => PyData.eqv z x.toD) else none
  | .lst ys => if x.shp && (AV.lst ys).shp then some ((AV.toDs ys).any fun z => PyData.eqv z x.toD) else none
  | _ => none
/-- dicts -/
def dinA (n : Bool) (x : AV) : AV → Option AV
  | .dct t ks vs => (dctGet t ks vs x).map fun o => .bl (if n then !o.isSome else o.isSome)
  | _ => none
def dgtA : AV → AV → Option AV
  | .dct t ks vs, k => match dctGet t ks vs k with
    | some r => r
    | none => none
  | _, _ => none

def isNon : AV → Bool
  | .non => true
  | _ => false
def isA (a : AV) : AV → Option Bool
  | .non => some (isNon a)
  | .bl b => match a with
    | .bl c => some (decide (c = b))
    | _ => none
  | _ => none

def ordA (g : Int → Int → Bool) : AV → AV → Option Bool
  | .int i, .int j => some (g i j)
  | _, _ => none
def cmpop : Cop → AV → AV → Option Bool
  | .eq => eqv?
  | .ne => fun a b => (eqv? a b).map (!·)
  | .lt => ordA fun i j => decide (i < j)
  | .le => ordA fun i j => decide (i ≤ j)
  | .gt => ordA fun i j => decide (j < i)
  | .ge => ordA fun i j => decide (j ≤ i)
  | .in_ => inA
  | .nin => fun a b => (inA a b).map (!·)
  | .is_ => isA
  | .isn => fun a b => (isA a b).map (!·)

def idxA : AV → AV → Option AV
  | .tup xs, .int i => L2.atI xs i
  | .lst xs, .int i => L2.atI xs i
  | .str s, .int i => match L2.atI s.cps.toList i with
    | some c => some (.str ⟨#[c]⟩)
    | none => none
  | _, _ => none

def cutL {α : Type} (xs : List α) (lo hi : Option Int) : List α := (xs.drop (HT.sIx xs.length 0 lo)).take (HT.sIx xs.length xs.length hi - HT.sIx xs.length 0 lo)
def slcA : AV → Option Int → Option Int → Option AV
  | .tup xs, lo, hi => some (.tup (cutL xs lo hi))
  | .lst xs, lo, hi => some (.lst (cutL xs lo hi))
  | .scr xs, lo, hi => some (.lst (cutL (xs.map .int) lo hi))
  | .str s, lo, hi => some (.str (L2.cutS s lo hi))
  | _, _, _ => none
def negA : AV → Option AV
  | .int i => some (.int (-i))
  | _ => none
def rvsA : AV → Option AV
  | .lst xs => some (.lst xs.reverse)
  | _ => none

def isiA (v : AV) (T : Ty) : Option Bool :=
  match v with
  | .non => some false
  | .bl _ => some (T == .bool || T == .int)
  | .int _ => some (T == .int)
  | .str _ => some (T == .str)
  | .tup _ => some (T == .tuple)
  | .lst _ => some (T == .list)
  | .dct _ _ _ => some (T == .dict)
  | .ktp _ => some (T == .tuple)
  | _ => none

def intsOf : List AV → Option (List Int)
  | [] => some []
  | .int i :: r => match intsOf r with
    | some is => some (i :: is)
    | none => none
  | _ :: _ => none
def blsOf : List AV → Option (List Bool)
  | [] => some []
  | .bl i :: r => match blsOf r with
    | some is => some (i :: is)
    | none => none
  | _ :: _ => none
def maxI : List Int → Option Int
  | [] => none
  | x :: xs => some (xs.foldl max x)
def minI : List Int → Option Int
  | [] => none
  | x :: xs => some (xs.foldl min x)

/-- what can be sorted: alike data, tuples that are not empty or no tuples -/
def sortOk (xs : List AV) : Bool :=
  xs.all (fun v => v.shp) && (xs.all fun v => xs.all fun w => PySem.W.alike v.toD w.toD) &&
    ((xs.all fun v => match v with | .tup (_ :: _) => true | _ => false) || (xs.all fun v => match v with | .int _ => true | .str _ => true | _ => false))
def sortA (xs : List AV) : List AV := xs.mergeSort (PySem.W.dataLe false AV.toD)

/-- k, v, k, v .. -/
def pairUp : List MV → Option (List AV × List AV)
  | [] => some ([], [])
  | .d k :: .d v :: r => match pairUp r with
    | some (ks, vs) => some (k :: ks, v :: vs)
    | none => none
  | _ => none

def pairsOf : List AV → Option (List AV × List AV)
  | [] => some ([], [])
  | .tup [k, v] :: r => match pairsOf r with
    | some (ks, vs) => some (k :: ks, v :: vs)
    | none => none
  | _ :: _ => none

def one (g : AV → Option AV) : List AV → Option AV
  | [x] => g x
  | _ => none
def lenA : AV → Option AV
  | .tup xs => some (.int xs.length)
  | .ktp xs => some (.int xs.length)
  | .lst xs => some (.int xs.length)
  | .dct _ ks _ => some (.int ks.length)
  | .str s => some (.int s.length)
  | _ => none
def absA : AV → Option AV
  | .int i => some (.int (if i < 0 then -i else i))
  | _ => none
def intA1 : AV → Option AV
  | .int i => some (.int i)
  | .bl b => some (.int (if b then 1 else 0))
  | _ => none
def intsA (g : List Int → Option Int) : AV → Option AV
  | .lst xs => match intsOf xs with
    | some is => (g is).map .int
    | none => none
  | _ => none
def blsA (g : List Bool → Bool) : AV → Option AV
  | .lst xs => match blsOf xs with
    | some is => some (.bl (g is))
    | none => none
  | _ => none
def tupA : AV → Option AV
  | .lst xs => some (.tup xs)
  | .tup xs => some (.tup xs)
  | _ => none
def lstA : AV → Option AV
  | .lst xs => some (.lst xs)
  | .tup xs => some (.lst xs)
  | _ => none
def fitK : AV → Bool
  | .str s => decide (s.length ≤ sizeLine)
  | _ => true
/-- a key that is not too long -/
def fitT : AV → Bool
  | .tup xs => xs.all fitK && decide (xs.length ≤ sizeLine)
  | _ => true
def srtA : AV → Option AV
  | .lst xs => if sortOk xs then some (.lst (sortA xs)) else none
  | .dct true ks _ => if sortOk ks && ks.all fitT then some (.lst (sortA ks)) else none
  | _ => none
def repA (v : AV) : Option AV := match v with
  | .tup _ => if v.shp && v.toD.showable && decide (v.toD.shown.length ≤ sizeLine) then some (.str v.toD.shown) else none
  | .lst _ => if v.shp && v.toD.showable && decide (v.toD.shown.length ≤ sizeLine) then some (.str v.toD.shown) else none
  | _ => none
def dicA : AV → Option AV
  | .lst xs => match pairsOf xs with
    | some (ks, vs) => match keysT ks with
      | some kk => if kk.Nodup then some (.dct true ks vs) else none
      | none => none
    | none => none
  | _ => none
def biF : Bi → List AV → Option AV
  | .len => one lenA
  | .abs => one absA
  | .int => one intA1
  | .max => one (intsA maxI)
  | .min => one (intsA minI)
  | .sum => one (intsA fun is => some is.sum)
  | .all => one (blsA fun bs => bs.all id)
  | .any => one (blsA fun bs => bs.any id)
  | .tuple => one tupA
  | .list => one lstA
  | .sorted => one srtA
  | .repr => one repA
  | .str => fun _ => none
  | .dict => one dicA

def strsOf : List AV → Option (List Str)
  | [] => some []
  | .str i :: r => match strsOf r with
    | some is => some (i :: is)
    | none => none
  | _ :: _ => none
def fIdx (z : Str) : List Str → Option Nat
  | [] => none
  | y :: ys => if y = z then some 0 else (fIdx z ys).map (· + 1)
/-- methods that change nothing -/
def meF : Me → AV → List AV → Option AV
  | .index, .ktp xs, [.str s] => match strsOf xs with
    | some ys => (fIdx s ys).map fun i => .int (i : Nat)
    | none => none
  | _, _, _ => none

end MP

set_option Elab.async false
set_option linter.all false
set_option maxRecDepth 100000
/-! M1: how abstract values lie in the abstract heap of the hand layer. -/
namespace MP
open PySem PySem.Spec PyProof.Rows L2

/-- where the classes of exceptions and the functions lie; the tables of code objects and these objects' names -/
structure FA where
  ad : Nat → Option Addr
  ts : List (Addr × Str)
/-- the addresses that may change: the cells', others' -/
structure LV where
  c : List Addr
  m : List Addr
instance : Membership Addr LV := ⟨fun L a => a ∈ L.c ∨ a ∈ L.m⟩
theorem LV.mem_iff {L : LV} {a : Addr} : a ∈ L ↔ a ∈ L.c ∨ a ∈ L.m := Iff.rfl
def LV.push (L : LV) (p : Addr) : LV := ⟨L.c ++ [p], L.m⟩
def LV.more (L : LV) (p : Addr) : LV := ⟨L.c, p :: L.m⟩

/-- a tuple of the module's own -/
def KT (K : PySem.W.Frag) (a : Addr) (xs : List V) : Prop :=
  ∃ (o : Obj) (its : Array Value) (n : Nat), (K.lookup a = some o ∧ o.cls = .type "tuple" ∧ o.data = .seq its n ∧ its.size ≤ sizeLine ∧ Vals xs its.toList) ∧ o.dict = none
theorem KT.sq {K : PySem.W.Frag} {H : Hp} {a : Addr} {xs : List V} (h : KT K a xs) : SqT K H a xs := let ⟨o, its, n, q, _⟩ := h; .inr ⟨o, its, n, q⟩
/-- a list of the module's own -/
def KL (K : PySem.W.Frag) (a : Addr) (xs : List V) : Prop :=
  ∃ (o : Obj) (its : Array Value) (n : Nat), K.lookup a = some o ∧ o.cls = .type "list" ∧ o.dict = none ∧ o.data = .seq its n ∧ its.size ≤ sizeLine ∧ Vals xs its.toList
def TupAt (L : LV) (H : Hp) (a : Addr) (us : List V) : Prop := a ∉ L ∧ H a = some (.tup us)
theorem TupAt.sq {K : PySem.W.Frag} {L : LV} {H : Hp} {a : Addr} {us : List V} (h : TupAt L H a us) : SqT K H a us := .inl (.inl h.2)

/-- a dict: int and text keys (false), tuples of these (true) -/
def DctAt (H : Hp) (a : Addr) (t : Bool) (ks : List AV) (us : List V) : Prop :=
  match t with
  | false => ∃ kk, keysK ks = some kk ∧ kk.length = us.length ∧ us.length ≤ sizeLine ∧ H a = some (.dK (kk.zip us))
  | true => ∃ kk, keysT ks = some kk ∧ kk.length = us.length ∧ us.length ≤ sizeLine ∧ H a = some (.dT (kk.zip us))

section
variable (K : PySem.W.Frag) (mg : FA)
mutual
def RA (L : LV) (H : Hp) : AV → V → Prop
  | .non, u => u = .non
  | .bl b, u => u = .bl b
  | .int i, u => u = .int i
  | .str s, u => u = .str s ∧ s.length ≤ sizeLine
  | .tup xs, u => ∃ a us, u = .ref a ∧ TupAt L H a us ∧ us.length ≤ sizeLine ∧ RAs L H xs us
  | .lst xs, u => ∃ a us, u = .ref a ∧ a ∉ L ∧ H a = some (.lst us) ∧ us.length ≤ sizeLine ∧ RAs L H xs us
  | .dct t ks vs, u => ∃ a us, u = .ref a ∧ a ∉ L ∧ DctAt H a t ks us ∧ RAs L H vs us
  | .fn x, u => ∃ f, u = .ref f ∧ mg.ad x = some f
  | .ty n, u => u = .ty n
  | .scr xs, u => ∃ a, u = .ref a ∧ ((∃ o, a ∉ L ∧ H a = some (.frz o (.lst (xs.map V.int)))) ∨ KL K a (xs.map V.int)) ∧ xs.length ≤ sizeLine
  | .ktp xs, u => ∃ a us, u = .ref a ∧ KT K a us ∧ us.length ≤ sizeLine ∧ RAs L H xs us
def RAs (L : LV) (H : Hp) : List AV → List V → Prop
  | [], us => us = []
  | x :: xs, us => ∃ u r, us = u :: r ∧ RA L H x u ∧ RAs L H xs r
end
def RM (L : LV) (H : Hp) : MV → V → Prop
  | .d v, u => RA K mg L H v u
  | .ref i, u => ∃ a, L.c[i]? = some a ∧ u = .ref a
def RMs (L : LV) (H : Hp) : List MV → List V → Prop
  | [], us => us = []
  | x :: xs, us => ∃ u r, us = u :: r ∧ RM K mg L H x u ∧ RMs L H xs r
def CellAt (L : LV) (H : Hp) (a : Addr) : Cell → Prop
  | .lst xs => ∃ us, H a = some (.lst us) ∧ us.length ≤ sizeLine ∧ RAs K mg L H xs us
  | .mls xs => ∃ us, H a = some (.lst us) ∧ us.length ≤ sizeLine ∧ RMs K mg L H xs us
  | .dct t ks vs => ∃ us, DctAt H a t ks us ∧ RAs K mg L H vs us
/-- what is neither a table nor told from without -/
def MutL : HO → Prop
  | .lst _ => True
  | .dK _ => True
  | .dT _ => True
  | _ => False
/-- another thing that may change -/
def TrmAt (H : Hp) (a : Addr) : Prop := (∃ o, H a = some o ∧ MutL o) ∨ ∃ q, (a, q) ∈ mg.ts
/-- the cells lie in the heap -/
structure SRh (L : LV) (h : AH) (H : Hp) : Prop where
  len : L.c.length = h.length
  nd : L.c.Nodup
  dis : ∀ a, a ∈ L.c → a ∈ L.m → False
  trm : ∀ a, a ∈ L.m → TrmAt mg H a
  tabs : ∀ p, p ∈ mg.ts → p.1 ∈ L.m ∧ LamX.TabS H p.1 p.2
  cells : ∀ (i : Nat) (c : Cell) (a : Addr), h[i]? = some c → L.c[i]? = some a → CellAt K mg L H a c
/-- the names' values -/
structure SRe (L : LV) (H : Hp) (σa : AEnv) (σ : L2.St) : Prop where
  len : σa.length = σ.length
  vals : ∀ (i : Nat) (v : MV), σa[i]? = some (some v) → ∃ u, σ[i]? = some (some u) ∧ RM K mg L H v u
end

/-- what nobody changes stays -/
def NT (o : HO) : Prop := ∀ ps, o ≠ .tbl ps
def Kp (L : LV) (H : Hp) (L' : LV) (H' : Hp) : Prop := ∀ a o, H a = some o → NT o → a ∉ L → H' a = some o ∧ a ∉ L'
/-- what stays: the cells stay the first, all else that is tracked stays -/
structure Ew (L : LV) (H : Hp) (L' : LV) (H' : Hp) : Prop where
  pre : L.c <+: L'.c
  keep : Kp L H L' H'
/-- it stays, or is a table that grew -/
structure Stay (H H' : Hp) (a : Addr) : Prop where
  eq : (∀ ps, H a ≠ some (.tbl ps)) → H' a = H a
  tb : ∀ ps, H a = some (.tbl ps) → ∃ ps', H' a = some (.tbl ps')
theorem Stay.of {H H' : Hp} {a : Addr} (e : H' a = H a) : Stay H H' a := ⟨fun _ => e, fun ps h => ⟨ps, e.trans h⟩⟩
theorem Stay.trans {H H1 H2 : Hp} {a : Addr} (x : Stay H H1 a) (y : Stay H1 H2 a) : Stay H H2 a :=
  ⟨fun n => (y.eq fun ps h => n ps ((x.eq n).symm.trans h)).trans (x.eq n), fun ps h => let ⟨ps', h'⟩ := x.tb ps h; y.tb ps' h'⟩
theorem Stay.lst {H H' : Hp} {a : Addr} {o : HO} (x : Stay H H' a) (h : H a = some o) (m : MutL o) : H' a = some o := (x.eq fun ps z => by
  rw [h] at z
  cases z
  exact m).trans h
/-- nothing there, or what is no table -/
def Free (H : Hp) (p : Addr) : Prop := ∀ o, H p = some o → MutL o
theorem Free.none {H : Hp} {p : Addr} (h : H p = .none) : Free H p := fun o z => by rw [h] at z; cases z
theorem Free.some {H : Hp} {p : Addr} {o : HO} (h : H p = .some o) (m : MutL o) : Free H p := fun u z => by rw [h] at z; cases z; exact m
/-- all stands but at p -/
def But (p : Addr) (H H' : Hp) : Prop := ∀ a, a ≠ p → H' a = H a
theorem But.upd {H : Hp} {p : Addr} {o : HO} : But p H (upd H p o) := fun a ha => upd_ne ha
theorem But.refl {H : Hp} {p : Addr} : But p H H := fun _ _ => rfl
theorem tabS_but {H H' : Hp} {p P : Addr} {q : Str} (b : But p H H') (f : Free H p) (t : LamX.TabS H P q) : LamX.TabS H' P q := by
  obtain ⟨ps, h1, h2, h3⟩ := t
  refine ⟨ps, (b P fun z => ?_).trans h1, h2, fun pos cv hc => ?_⟩
  · subst z
    exact f _ h1
  · obtain ⟨c, e, h4⟩ := h3 pos cv hc
    refine ⟨c, e, (b c fun z => ?_).trans h4⟩
    subst z
    exact f _ h4
structure Ev (L : LV) (H : Hp) (L' : LV) (H' : Hp) : Prop extends Ew L H L' H' where
  mor : L'.m = L.m
  same : ∀ a, a ∈ L.m → Stay H H' a

theorem Ev.refl (L : LV) (H : Hp) : Ev L H L H := ⟨⟨List.prefix_refl _, fun _ _ e _ n => ⟨e, n⟩⟩, rfl, fun _ _ => .of rfl⟩
theorem Ew.trans {L L1 L2 : LV} {H H1 H2 : Hp} (a : Ew L H L1 H1) (b : Ew L1 H1 L2 H2) : Ew L H L2 H2 :=
  ⟨a.pre.trans b.pre, fun c o e t n => b.keep c o (a.keep c o e t n).1 t (a.keep c o e t n).2⟩
theorem Ev.trans {L L1 L2 : LV} {H H1 H2 : Hp} (a : Ev L H L1 H1) (b : Ev L1 H1 L2 H2) : Ev L H L2 H2 :=
  ⟨a.toEw.trans b.toEw, b.mor.trans a.mor, fun x hx => (a.same x hx).trans (b.same x (by rw [a.mor]; exact hx))⟩
theorem Ew.same {L : LV} {H H' : Hp} (s : Same H H') : Ew L H L H' := ⟨List.prefix_refl _, fun a o e _ n => ⟨s a o e, n⟩⟩
theorem Ev.same' {L : LV} {H H' : Hp} (t : ∀ a, a ∈ L.m → ∃ o, H a = some o) (s : Same H H') : Ev L H L H' := ⟨Ew.same s, rfl, fun a ha => by
  obtain ⟨o, ho⟩ := t a ha
  exact .of (by rw [s a o ho, ho])⟩
theorem Ew.set {L : LV} {H : Hp} {a : Addr} {o : HO} (ha : a ∈ L) : Ew L H L (upd H a o) := ⟨List.prefix_refl _, fun b u e _ n => ⟨by
  rw [upd_ne (fun z => n (by rw [z]; exact ha))]; exact e, n⟩⟩
theorem Ew.new {L : LV} {H : Hp} {p : Addr} {o : HO} (hp : H p = none) : Ew L H (L.push p) (upd H p o) := ⟨List.prefix_append _ _, fun b u e _ n => by
  have hb : b ≠ p := ne_of_none e hp
  refine ⟨by rw [upd_ne hb]; exact e, fun z => n ?_⟩
  rcases z with z | z
  · rcases List.mem_append.mp z with z | z
    · exact .inl z
    · exact absurd (List.mem_singleton.mp z) hb
  · exact .inr z⟩

section
variable {K : PySem.W.Frag} {mg : FA} {L L' : LV} {H H' : Hp}
theorem TupAt.kp {a : Addr} {us : List V} (h : TupAt L H a us) (e : Kp L H L' H') : TupAt L' H' a us := ⟨(e a _ h.2 (fun _ z => nomatch z) h.1).2, (e a _ h.2 (fun _ z => nomatch z) h.1).1⟩
theorem TupAt.ev {a : Addr} {us : List V} (h : TupAt L H a us) (e : Ew L H L' H') : TupAt L' H' a us := h.kp e.keep
theorem DctAt.kp {a : Addr} {t : Bool} {ks : List AV} {us : List V} (h : DctAt H a t ks us) (n : a ∉ L) (e : Kp L H L' H') : DctAt H' a t ks us ∧ a ∉ L' := by
  cases t with
  | false =>
    obtain ⟨kk, h1, h2, h3, h4⟩ := h
    exact ⟨⟨kk, h1, h2, h3, (e a _ h4 (fun _ z => nomatch z) n).1⟩, (e a _ h4 (fun _ z => nomatch z) n).2⟩
  | true =>
    obtain ⟨kk, h1, h2, h3, h4⟩ := h
    exact ⟨⟨kk, h1, h2, h3, (e a _ h4 (fun _ z => nomatch z) n).1⟩, (e a _ h4 (fun _ z => nomatch z) n).2⟩
mutual
theorem RA.kp (e : Kp L H L' H') : ∀ (v : AV) (u : V), RA K mg L H v u → RA K mg L' H' v u
  | .non, _, h => h
  | .bl _, _, h => h
  | .int _, _, h => h
  | .str _, _, h => h
  | .tup xs, _, ⟨a, us, e1, e2, e3, e4⟩ => ⟨a, us, e1, e2.kp e, e3, RAs.kp e xs us e4⟩
  | .lst xs, _, ⟨a, us, e1, n, e2, e3, e4⟩ => ⟨a, us, e1, (e a _ e2 (fun _ z => nomatch z) n).2, (e a _ e2 (fun _ z => nomatch z) n).1, e3, RAs.kp e xs us e4⟩
  | .dct t ks vs, _, ⟨a, us, e1, n, e2, e4⟩ => ⟨a, us, e1, (e2.kp n e).2, (e2.kp n e).1, RAs.kp e vs us e4⟩
  | .fn _, _, h => h
  | .ty _, _, h => h
  | .scr xs, _, ⟨a, e1, q, e3⟩ => ⟨a, e1, by
    rcases q with ⟨o, n, e2⟩ | q
    · exact .inl ⟨o, (e a _ e2 (fun _ z => nomatch z) n).2, (e a _ e2 (fun _ z => nomatch z) n).1⟩
    · exact .inr q, e3⟩
  | .ktp xs, _, ⟨a, us, e1, e2, e3, e4⟩ => ⟨a, us, e1, e2, e3, RAs.kp e xs us e4⟩
theorem RAs.kp (e : Kp L H L' H') : ∀ (vs : List AV) (us : List V), RAs K mg L H vs us → RAs K mg L' H' vs us
  | [], _, h => h
  | x :: xs, _, ⟨u, r, e1, e2, e3⟩ => ⟨u, r, e1, RA.kp e x u e2, RAs.kp e xs r e3⟩
end
theorem RA.ev (e : Ew L H L' H') : ∀ (v : AV) (u : V), RA K mg L H v u → RA K mg L' H' v u := RA.kp e.keep
theorem RAs.ev (e : Ew L H L' H') : ∀ (vs : List AV) (us : List V), RAs K mg L H vs us → RAs K mg L' H' vs us := RAs.kp e.keep
theorem RM.ev (e : Ew L H L' H') : ∀ (v : MV) (u : V), RM K mg L H v u → RM K mg L' H' v u
  | .d v, u, h => RA.ev e v u h
  | .ref i, u, ⟨a, h, e1⟩ => ⟨a, by
      obtain ⟨t, ht⟩ := e.pre
      rw [← ht, List.getElem?_append_left (List.getElem?_eq_some_iff.mp h).1]; exact h, e1⟩
theorem RMs.ev (e : Ew L H L' H') : ∀ (vs : List MV) (us : List V), RMs K mg L H vs us → RMs K mg L' H' vs us
  | [], _, h => h
  | x :: xs, _, ⟨u, r, e1, e2, e3⟩ => ⟨u, r, e1, RM.ev e x u e2, RMs.ev e xs r e3⟩
theorem SRe.ev {σa : AEnv} {σ : L2.St} (h : SRe K mg L H σa σ) (e : Ew L H L' H') : SRe K mg L' H' σa σ :=
  ⟨h.len, fun i v q => let ⟨u, e1, e2⟩ := h.vals i v q; ⟨u, e1, RM.ev e v u e2⟩⟩
theorem RAs.length : ∀ {vs : List AV} {us : List V}, RAs K mg L H vs us → us.length = vs.length
  | [], _, h => by rw [show _ = [] from h]; rfl
  | x :: xs, _, ⟨u, r, e1, _, e3⟩ => by rw [e1, List.length_cons, List.length_cons, RAs.length e3]
theorem RMs.length : ∀ {vs : List MV} {us : List V}, RMs K mg L H vs us → us.length = vs.length
  | [], _, h => by rw [show _ = [] from h]; rfl
  | x :: xs, _, ⟨u, r, e1, _, e3⟩ => by rw [e1, List.length_cons, List.length_cons, RMs.length e3]
theorem RAs.get : ∀ {vs : List AV} {us : List V} {i : Nat} {x : AV}, RAs K mg L H vs us → vs[i]? = some x → ∃ u, us[i]? = some u ∧ RA K mg L H x u
  | [], _, _, _, _, e => by simp at e
  | y :: ys, _, 0, x, ⟨u, r, e1, e2, _⟩, e => by
    have : y = x := by simpa using e
    subst this
    exact ⟨u, by rw [e1]; rfl, e2⟩
  | y :: ys, _, i + 1, x, ⟨u, r, e1, _, e3⟩, e => by
    obtain ⟨z, h1, h2⟩ := RAs.get (i := i) e3 (by simpa using e)
    exact ⟨z, by rw [e1]; simpa using h1, h2⟩
theorem RAs.append : ∀ {vs ws : List AV} {us ys : List V}, RAs K mg L H vs us → RAs K mg L H ws ys → RAs K mg L H (vs ++ ws) (us ++ ys)
  | [], _, _, _, h, h2 => by rw [show _ = [] from h]; exact h2
  | x :: xs, _, _, _, ⟨u, r, e1, e2, e3⟩, h2 => by rw [e1]; exact ⟨u, _, rfl, e2, RAs.append e3 h2⟩
theorem RMs.append : ∀ {vs ws : List MV} {us ys : List V}, RMs K mg L H vs us → RMs K mg L H ws ys → RMs K mg L H (vs ++ ws) (us ++ ys)
  | [], _, _, _, h, h2 => by rw [show _ = [] from h]; exact h2
  | x :: xs, _, _, _, ⟨u, r, e1, e2, e3⟩, h2 => by rw [e1]; exact ⟨u, _, rfl, e2, RMs.append e3 h2⟩
theorem RAs.take : ∀ {vs : List AV} {us : List V} (n : Nat), RAs K mg L H vs us → RAs K mg L H (vs.take n) (us.take n)
  | [], _, _, h => by rw [show _ = [] from h]; simp [RAs]
  | x :: xs, _, 0, _ => by simp [RAs]
  | x :: xs, _, n + 1, ⟨u, r, e1, e2, e3⟩ => by rw [e1]; exact ⟨u, _, rfl, e2, RAs.take n e3⟩
theorem RAs.drop : ∀ {vs : List AV} {us : List V} (n : Nat), RAs K mg L H vs us → RAs K mg L H (vs.drop n) (us.drop n)
  | [], _, _, h => by rw [show _ = [] from h]; simp [RAs]
  | x :: xs, _, 0, h => by simpa using h
  | x :: xs, _, n + 1, ⟨u, r, e1, e2, e3⟩ => by rw [e1]; exact RAs.drop n e3
theorem RAs.set : ∀ {vs : List AV} {us : List V} {x : AV} {u : V} (n : Nat), RAs K mg L H vs us → RA K mg L H x u → RAs K mg L H (vs.set n x) (us.set n u)
  | [], _, _, _, _, h, _ => by rw [show _ = [] from h]; simp [RAs]
  | y :: ys, _, x, z, 0, ⟨u, r, e1, e2, e3⟩, h => by rw [e1]; exact ⟨z, r, rfl, h, e3⟩
  | y :: ys, _, x, z, n + 1, ⟨u, r, e1, e2, e3⟩, h => by rw [e1]; exact ⟨u, _, rfl, e2, RAs.set n e3 h⟩
theorem RAs.ms : ∀ {vs : List AV} {us : List V}, RAs K mg L H vs us → RMs K mg L H (vs.map .d) us
  | [], _, h => h
  | x :: xs, _, ⟨u, r, e1, e2, e3⟩ => ⟨u, r, e1, e2, RAs.ms e3⟩
theorem RMs.ds : ∀ {vs : List MV} {us : List V} {xs : List AV}, RMs K mg L H vs us → allD vs = some xs → RAs K mg L H xs us
  | [], _, _, h, e => by
    cases e
    exact h
  | .d v :: r, _, xs, ⟨u, t, e1, e2, e3⟩, e => by
    unfold allD at e
    cases q : allD r with
    | none => rw [q] at e; cases e
    | some ys =>
      rw [q] at e
      cases e
      exact ⟨u, t, e1, e2, RMs.ds e3 q⟩
  | .ref _ :: r, _, xs, _, e => by
    unfold allD at e
    cases e
theorem RMs.get : ∀ {vs : List MV} {us : List V} {i : Nat} {x : MV}, RMs K mg L H vs us → vs[i]? = some x → ∃ u, us[i]? = some u ∧ RM K mg L H x u
  | [], _, _, _, _, e => by simp at e
  | y :: ys, _, 0, x, ⟨u, r, e1, e2, _⟩, e => by
    have : y = x := by simpa using e
    subst this
    exact ⟨u, by rw [e1]; rfl, e2⟩
  | y :: ys, _, i + 1, x, ⟨u, r, e1, _, e3⟩, e => by
    obtain ⟨z, h1, h2⟩ := RMs.get (i := i) e3 (by simpa using e)
    exact ⟨z, by rw [e1]; simpa using h1, h2⟩
theorem RMs.set : ∀ {vs : List MV} {us : List V} {x : MV} {u : V} (n : Nat), RMs K mg L H vs us → RM K mg L H x u → RMs K mg L H (vs.set n x) (us.set n u)
  | [], _, _, _, _, h, _ => by rw [show _ = [] from h]; simp [RMs]
  | y :: ys, _, x, z, 0, ⟨u, r, e1, e2, e3⟩, h => by rw [e1]; exact ⟨z, r, rfl, h, e3⟩
  | y :: ys, _, x, z, n + 1, ⟨u, r, e1, e2, e3⟩, h => by rw [e1]; exact ⟨u, _, rfl, e2, RMs.set n e3 h⟩

theorem SRh.trmt {h : AH} (S : SRh K mg L h H) {a : Addr} (ha : a ∈ L.m) : ∃ o, H a = some o := by
  rcases S.trm a ha with ⟨o, h, _⟩ | ⟨q, hq⟩
  · exact ⟨o, h⟩
  · obtain ⟨ps, h, _⟩ := (S.tabs _ hq).2
    exact ⟨_, h⟩
theorem TrmAt.same {a : Addr} (t : TrmAt mg H a) (s : Same H H') : TrmAt mg H' a := by
  rcases t with ⟨o, h, m⟩ | t
  · exact .inl ⟨o, s a o h, m⟩
  · exact .inr t
theorem TrmAt.but {a p : Addr} (t : TrmAt mg H a) (b : But p H H') (n : a ≠ p) : TrmAt mg H' a := by
  rcases t with ⟨o, h, m⟩ | t
  · exact .inl ⟨o, (b a n).trans h, m⟩
  · exact .inr t
/-- a cell's address and object -/
theorem SRh.at {h : AH} (S : SRh K mg L h H) {i : Nat} {c : Cell} (hc : h[i]? = some c) : ∃ a, L.c[i]? = some a ∧ a ∈ L.c ∧ CellAt K mg L H a c := by
  have hi : i < L.c.length := by rw [S.len]; exact (List.getElem?_eq_some_iff.mp hc).1
  exact ⟨L.c[i], List.getElem?_eq_getElem hi, List.getElem_mem hi, S.cells i c _ hc (List.getElem?_eq_getElem hi)⟩
theorem CellAt.mut {a : Addr} {c : Cell} (h : CellAt K mg L H a c) : ∃ o, H a = some o ∧ MutL o := by
  cases c with
  | lst xs => exact ⟨_, h.choose_spec.1, trivial⟩
  | mls xs => exact ⟨_, h.choose_spec.1, trivial⟩
  | dct t ks vs =>
    obtain ⟨us, h, _⟩ := h
    cases t with
    | false => obtain ⟨_, _, _, _, h⟩ := h; exact ⟨_, h, trivial⟩
    | true => obtain ⟨_, _, _, _, h⟩ := h; exact ⟨_, h, trivial⟩
theorem CellAt.there {a : Addr} {c : Cell} (h : CellAt K mg L H a c) : ∃ o, H a = some o := let ⟨o, e, _⟩ := h.mut; ⟨o, e⟩
theorem SRh.trc {h : AH} (S : SRh K mg L h H) {a : Addr} (ha : a ∈ L.c) : ∃ o, H a = some o := by
  obtain ⟨i, hi, rfl⟩ := List.mem_iff_getElem.mp ha
  have hi' : i < h.length := by rw [← S.len]; exact hi
  exact (S.cells i _ _ (List.getElem?_eq_getElem hi') (List.getElem?_eq_getElem hi)).there
theorem SRh.tracked {h : AH} (S : SRh K mg L h H) {a : Addr} (ha : a ∈ L) : ∃ o, H a = some o := by
  rcases ha with ha | ha
  · exact S.trc ha
  · exact S.trmt ha
theorem SRh.evs {h : AH} (S : SRh K mg L h H) (s : Same H H') : Ev L H L H' := Ev.same' (fun a ha => S.trmt ha) s
theorem CellAt.ev {a : Addr} {c : Cell} (h : CellAt K mg L H a c) (e : Ew L H L' H') (ha : H' a = H a) : CellAt K mg L' H' a c := by
  cases c with
  | lst xs => obtain ⟨us, h1, h2, h3⟩ := h; exact ⟨us, ha.trans h1, h2, RAs.ev e _ _ h3⟩
  | mls xs => obtain ⟨us, h1, h2, h3⟩ := h; exact ⟨us, ha.trans h1, h2, RMs.ev e _ _ h3⟩
  | dct t ks vs =>
    obtain ⟨us, h1, h3⟩ := h
    refine ⟨us, ?_, RAs.ev e _ _ h3⟩
    cases t with
    | false => obtain ⟨kk, q1, q2, q3, q4⟩ := h1; exact ⟨kk, q1, q2, q3, ha.trans q4⟩
    | true => obtain ⟨kk, q1, q2, q3, q4⟩ := h1; exact ⟨kk, q1, q2, q3, ha.trans q4⟩
/-- new untracked things only -/
theorem SRh.same {h : AH} (S : SRh K mg L h H) (s : Same H H') : SRh K mg L h H' :=
  ⟨S.len, S.nd, S.dis, fun a ha => (S.trm a ha).same s, fun p hp => ⟨(S.tabs p hp).1, (S.tabs p hp).2.ext s⟩, fun i c a hc ha => by
    have q := S.cells i c a hc ha
    obtain ⟨o, ho⟩ := q.there
    exact q.ev (Ew.same s) ((s a o ho).trans ho.symm)⟩
theorem SRh.evp {h : AH} (S : SRh K mg L h H) {i : Nat} {a : Addr} {o : HO} (ha : L.c[i]? = some a) : Ev L H L (upd H a o) :=
  ⟨Ew.set (.inl (List.mem_of_getElem? ha)), rfl, fun b hb => .of (upd_ne fun z => S.dis a (List.mem_of_getElem? ha) (by rw [← z]; exact hb))⟩
/-- a cell is changed -/
theorem SRh.put {h : AH} (S : SRh K mg L h H) {i : Nat} {a : Addr} {c : Cell} {o : HO} (ha : L.c[i]? = some a) (hc : CellAt K mg L (upd H a o) a c) : SRh K mg L (h.set i c) (upd H a o) := by
  have hal : a ∈ L.c := List.mem_of_getElem? ha
  have hi0 : i < h.length := by rw [← S.len]; exact (List.getElem?_eq_some_iff.mp ha).1
  obtain ⟨u0, hu0, m0⟩ := (S.cells i _ a (List.getElem?_eq_getElem hi0) ha).mut
  refine ⟨by rw [List.length_set]; exact S.len, S.nd, S.dis, fun b hb => ?_, fun p hp => ⟨(S.tabs p hp).1, tabS_but But.upd (.some hu0 m0) (S.tabs p hp).2⟩, fun j c' b hj hb => ?_⟩
  · exact (S.trm b hb).but But.upd fun z => S.dis a hal (by rw [← z]; exact hb)
  by_cases hij : i = j
  · subst hij
    rw [ha] at hb
    cases hb
    have hi : i < h.length := by rw [← S.len]; exact (List.getElem?_eq_some_iff.mp ha).1
    rw [List.getElem?_set_self hi] at hj
    cases hj
    exact hc
  · rw [List.getElem?_set_ne hij] at hj
    have hne : b ≠ a := fun z => by
      subst z
      exact hij ((List.getElem?_inj (List.getElem?_eq_some_iff.mp ha).1 S.nd).mp (ha.trans hb.symm))
    exact (S.cells j c' b hj hb).ev (Ew.set (.inl hal)) (upd_ne hne)
theorem SRh.notin {h : AH} (S : SRh K mg L h H) {p : Addr} (hp : H p = none) : p ∉ L := fun z => by
  obtain ⟨u, hu⟩ := S.tracked z
  rw [hp] at hu; cases hu
theorem SRh.evn {h : AH} (S : SRh K mg L h H) {p : Addr} {o : HO} (hp : H p = none) : Ev L H (L.push p) (upd H p o) :=
  ⟨Ew.new hp, rfl, fun b hb => .of (upd_ne fun z => S.notin hp (.inr (by rw [← z]; exact hb)))⟩
/-- a new cell -/
theorem SRh.new {h : AH} (S : SRh K mg L h H) {p : Addr} {c : Cell} {o : HO} (hp : H p = none) (hc : CellAt K mg (L.push p) (upd H p o) p c) : SRh K mg (L.push p) (h ++ [c]) (upd H p o) := by
  have hpl : p ∉ L := S.notin hp
  have hpc : p ∉ L.c := fun z => hpl (.inl z)
  refine ⟨by show (L.c ++ [p]).length = _; rw [List.length_append, List.length_append, S.len]; rfl, ?_, fun a ha hm => ?_, fun b hb => ?_, fun p' hp' => ⟨(S.tabs p' hp').1, tabS_but But.upd (.none hp) (S.tabs p' hp').2⟩, fun j c' b hj hb => ?_⟩
  · show (L.c ++ [p]).Nodup
    rw [List.nodup_append]
    exact ⟨S.nd, by simp, fun x hx y hy => by
      rw [List.mem_singleton] at hy
      subst hy
      exact fun z => hpc (by rw [← z]; exact hx)⟩
  · rcases List.mem_append.mp ha with z | z
    · exact S.dis a z hm
    · rw [List.mem_singleton] at z
      subst z
      exact hpl (.inr hm)
  · exact (S.trm b hb).but But.upd fun z => hpl (.inr (by rw [← z]; exact hb))
  · replace hb : (L.c ++ [p])[j]? = some b := hb
    by_cases hj' : j < h.length
    · rw [List.getElem?_append_left hj'] at hj
      rw [List.getElem?_append_left (by rw [S.len]; exact hj')] at hb
      have hbl : b ∈ L.c := List.mem_of_getElem? hb
      exact (S.cells j c' b hj hb).ev (Ew.new hp) (upd_ne fun z => hpc (by rw [← z]; exact hbl))
    · rw [List.getElem?_append_right (Nat.le_of_not_lt hj')] at hj
      rw [List.getElem?_append_right (by rw [S.len]; exact Nat.le_of_not_lt hj'), S.len] at hb
      have h0 : j - h.length = 0 := by
        have := (List.getElem?_eq_some_iff.mp hj).1
        simp at this
        omega
      rw [h0] at hj hb
      cases hj
      cases hb
      exact hc
/-- fewer may change -/
theorem DctAt.refl' {a : Addr} {t : Bool} {ks : List AV} {us : List V} (h : DctAt H a t ks us) : DctAt H a t ks us := h
end
end MP

set_option Elab.async false
set_option linter.all false
set_option maxRecDepth 100000
/-! M2: the interpreter. -/
namespace MP
open PySem

def opt {α : Type} (o : Option α) (h : AH) : R α := match o with
  | some a => .ok a h
  | none => .stuck
def optV (o : Option AV) (h : AH) : R MV := match o with
  | some a => .ok (.d a) h
  | none => .stuck

def un1 (f : AV → Option AV) (v : MV) (h : AH) : R MV := match view v h with
  | some a => optV (f a) h
  | none => .stuck
def bin2 (f : AV → AV → Option AV) (v w : MV) (h : AH) : R MV := match view v h with
  | some a => match view w h with
    | some b => optV (f a b) h
    | none => .stuck
  | none => .stuck
def cmpB (op : Cop) (a b : AV) : Option AV := (cmpop op a b).map .bl

def idxM (v w : MV) (h : AH) : R MV := match v with
  | .ref i => match h[i]? with
    | some (.mls xs) => match w with
      | .d (.int k) => opt (L2.atI xs k) h
      | _ => .stuck
    | _ => bin2 idxA v w h
  | .d _ => bin2 idxA v w h

def truthM (v : MV) (h : AH) : R Bool := match view v h with
  | some a => opt (truthy? a) h
  | none => .stuck

def putM (o i v : MV) (h : AH) : Option AH := match o with
  | .ref j => match h[j]? with
    | some (.lst xs) => match i, v with
      | .d (.int k), .d x => match L2.ixN xs.length k with
        | some n => some (h.set j (.lst (xs.set n x)))
        | none => none
      | _, _ => none
    | some (.mls xs) => match i with
      | .d (.int k) => match L2.ixN xs.length k with
        | some n => some (h.set j (.mls (xs.set n v)))
        | none => none
      | _ => none
    | _ => none
  | .d _ => none
def dptM (o i v : MV) (h : AH) : Option AH := match o with
  | .ref j => match h[j]? with
    | some (.dct t ks vs) => match i, v with
      | .d k, .d x => match dctPut t ks vs k x with
        | some (ks', vs') => some (h.set j (.dct t ks' vs'))
        | none => none
      | _, _ => none
    | _ => none
  | .d _ => none

def listOf : AV → Option (List AV)
  | .lst xs => some xs
  | _ => none

def methM (m : Me) (o : MV) (vs : List MV) (h : AH) : R MV := match m, o, vs with
  | .append, .ref j, [v] => match h[j]? with
    | some (.lst xs) => match v with
      | .d x => if xs.length < sizeLine then .ok (.d .non) (h.set j (.lst (xs ++ [x]))) else .stuck
      | _ => .stuck
    | some (.mls xs) => if xs.length < sizeLine then .ok (.d .non) (h.set j (.mls (xs ++ [v]))) else .stuck
    | _ => .stuck
  | .extend, .ref j, [v] => match h[j]? with
    | some (.lst xs) => match view v h with
      | some (.lst ys) => if xs.length + ys.length ≤ sizeLine then .ok (.d .non) (h.set j (.lst (xs ++ ys))) else .stuck
      | _ => .stuck
    | _ => .stuck
  | .pop, .ref j, [] => match h[j]? with
    | some (.lst xs) => match xs[xs.length - 1]? with
      | some x => .ok (.d x) (h.set j (.lst xs.dropLast))
      | none => .stuck
    | _ => .stuck
  | _, _, _ => .stuck
def lstCell (v : MV) (h : AH) : Bool := match v with
  | .ref j => match h[j]? with
    | some (.lst _) => true
    | some (.mls _) => true
    | _ => false
  | .d _ => false

def newM (v : MV) (h : AH) : R MV := match v with
  | .d (.lst xs) => .ok (.ref h.length) (h ++ [.lst xs])
  | .d (.dct t ks vs) => .ok (.ref h.length) (h ++ [.dct t ks vs])
  | _ => .stuck

/-- what a loop walks: the items; the cell, if it is one -/
structure Src where
  items : List AV
  cell : Option (Nat × Cell)
def cellOf (v : MV) (h : AH) : Option (Nat × Cell) := match v with
  | .ref i => (h[i]?).map fun c => (i, c)
  | .d _ => none
def srcOf (v : MV) (h : AH) : R Src := match view v h with
  | some (.tup xs) => .ok ⟨xs, none⟩ h
  | some (.ktp xs) => .ok ⟨xs, none⟩ h
  | some (.lst xs) => .ok ⟨xs, cellOf v h⟩ h
  | some (.str s) => .ok ⟨s.cps.toList.map fun c => .str ⟨#[c]⟩, none⟩ h
  | _ => .stuck
/-- a list or a tuple -/
def srcE (v : MV) (h : AH) : R Src := match view v h with
  | some (.tup xs) => .ok ⟨xs, none⟩ h
  | some (.ktp xs) => .ok ⟨xs, none⟩ h
  | some (.lst xs) => .ok ⟨xs, cellOf v h⟩ h
  | _ => .stuck
def stillAt (o : Option (Nat × Cell)) (h : AH) : Prop := match o with
  | none => True
  | some p => h[p.1]? = some p.2
def rngItems (lo : Int) (n : Nat) : List AV := (List.range n).map fun (k : Nat) => AV.int (lo + (k : Int))
def rngOf : List MV → AH → R Src
  | [.d (.int j)], h => if -(2 ^ 62) ≤ j ∧ j < 2 ^ 62 then .ok ⟨rngItems 0 j.toNat, none⟩ h else .stuck
  | [.d (.int i), .d (.int j)], h => if (-(2 ^ 62) ≤ i ∧ i < 2 ^ 62) ∧ -(2 ^ 62) ≤ j ∧ j < 2 ^ 62 then .ok ⟨rngItems i (j - i).toNat, none⟩ h else .stuck
  | _, _ => .stuck
def enumItems (n : Nat) : List AV → List AV
  | [] => []
  | x :: xs => .tup [.int n, x] :: enumItems (n + 1) xs
def zipItems : List AV → List AV → List AV
  | x :: xs, y :: ys => .tup [x, y] :: zipItems xs ys
  | _, _ => []

open Classical in
noncomputable def compL (f : AV → AH → R (Option AV)) (o : Option (Nat × Cell)) : List AV → AH → R (List AV)
  | [], h => .ok [] h
  | x :: xs, h => match f x h with
    | .ok v h1 => if stillAt o h1 then (match compL f o xs h1 with
        | .ok r h2 => .ok (v.toList ++ r) h2
        | _ => .stuck) else .stuck
    | _ => .stuck
open Classical in
noncomputable def compLL (f : AV → AH → R (List AV)) (o : Option (Nat × Cell)) : List AV → AH → R (List AV)
  | [], h => .ok [] h
  | x :: xs, h => match f x h with
    | .ok v h1 => if stillAt o h1 then (match compLL f o xs h1 with
        | .ok r h2 => .ok (v ++ r) h2
        | _ => .stuck) else .stuck
    | _ => .stuck
/-- a list that is made: not too long -/
def endL (xs : List AV) (h : AH) : R MV := if xs.length ≤ sizeLine then .ok (.d (.lst xs)) h else .stuck
def asData (v : MV) (h : AH) : R AV := match v with
  | .d x => .ok x h
  | .ref _ => .stuck

/-- a slice's bound -/
def partOf : List MV → Option (Option Int)
  | [] => some none
  | [.d (.int i)] => some (some i)
  | _ => none

def wipeA (σ : AEnv) : List Nat → AEnv
  | [] => σ
  | v :: vs => (wipeA σ vs).set v none

mutual
noncomputable def evE (T : GT) : Ex → AEnv → AH → R MV
  | .cN, _, h => .ok (.d .non) h
  | .cB b, _, h => .ok (.d (.bl b)) h
  | .cI i, _, h => .ok (.d (.int i)) h
  | .cS s, _, h => .ok (.d (.str s)) h
  | .var i, σ, h => match σ[i]? with
    | some (some v) => .ok v h
    | _ => .stuck
  | .glb x, _, h => optV (T.dat x) h
  | .tup es, σ, h => (evEs T es σ h).bind fun vs h => match allD vs with
    | some xs => .ok (.d (.tup xs)) h
    | none => .stuck
  | .lst es, σ, h => (evEs T es σ h).bind fun vs h => match allD vs with
    | some xs => .ok (.d (.lst xs)) h
    | none => .stuck
  | .newl es, σ, h => (evEs T es σ h).bind fun vs h => match allD vs with
    | some xs => .ok (.ref h.length) (h ++ [.lst xs])
    | none => .stuck
  | .newm es, σ, h => (evEs T es σ h).bind fun vs h => .ok (.ref h.length) (h ++ [.mls vs])
  | .newd t, _, h => .ok (.ref h.length) (h ++ [.dct t [] []])
  | .dsp es, σ, h => (evEs T es σ h).bind fun vs h => match pairUp vs with
    | some (ks, ws) => match keysK ks with
      | some kk => if kk.Nodup then .ok (.d (.dct false ks ws)) h else .stuck
      | none => .stuck
    | none => .stuck
  | .dst es, σ, h => (evEs T es σ h).bind fun vs h => match pairUp vs with
    | some (ks, ws) => match keysT ks with
      | some kk => if kk.Nodup then .ok (.ref h.length) (h ++ [.dct true ks ws]) else .stuck
      | none => .stuck
    | none => .stuck
  | .bin op a b, σ, h => (evE T a σ h).bind fun v h => (evE T b σ h).bind fun w h => bin2 (binop op) v w h
  | .neg a, σ, h => (evE T a σ h).bind fun v h => un1 negA v h
  | .not a, σ, h => (evE T a σ h).bind fun v h => (truthM v h).bind fun b h => .ok (.d (.bl (!b))) h
  | .and a b, σ, h => (evE T a σ h).bind fun v h => (truthM v h).bind fun k h => if k = true then evE T b σ h else .ok v h
  | .or a b, σ, h => (evE T a σ h).bind fun v h => (truthM v h).bind fun k h => if k = true then .ok v h else evE T b σ h
  | .ite c a b, σ, h => (evE T c σ h).bind fun v h => (truthM v h).bind fun k h => if k = true then evE T a σ h else evE T b σ h
  | .cmp op a b, σ, h => (evE T a σ h).bind fun v h => (evE T b σ h).bind fun w h => bin2 (cmpB op) v w h
  | .chn o1 o2 a b c, σ, h => (evE T a σ h).bind fun v h => (evE T b σ h).bind fun w h => (bin2 (cmpB o1) v w h).bind fun r h => match r with
    | .d (.bl true) => (evE T c σ h).bind fun z h => bin2 (cmpB o2) w z h
    | .d (.bl false) => .ok (.d (.bl false)) h
    | _ => .stuck
  | .idx a i, σ, h => (evE T a σ h).bind fun v h => (evE T i σ h).bind fun w h => idxM v w h
  | .dgt a i, σ, h => (evE T a σ h).bind fun v h => (evE T i σ h).bind fun w h => bin2 dgtA v w h
  | .din n k a, σ, h => (evE T k σ h).bind fun v h => (evE T a σ h).bind fun w h => bin2 (dinA n) v w h
  | .slc a lo hi, σ, h => (evE T a σ h).bind fun v h => (evEs T lo σ h).bind fun l h => match partOf l with
    | some lo => (evEs T hi σ h).bind fun u h => match partOf u with
      | some hi => un1 (fun x => slcA x lo hi) v h
      | none => .stuck
    | none => .stuck
  | .rvs a, σ, h => (evE T a σ h).bind fun v h => un1 rvsA v h
  | .call f es, σ, h => (evEs T es σ h).bind fun vs h => T.fn f vs h
  | .bi f es, σ, h => (evEs T es σ h).bind fun vs h => match views vs h with
    | some xs => optV (biF f xs) h
    | none => .stuck
  | .isi a ty, σ, h => (evE T a σ h).bind fun v h => un1 (fun x => (isiA x ty).map .bl) v h
  | .meth m o es, σ, h => (evE T o σ h).bind fun v h => if lstCell v h = true then (evEs T es σ h).bind fun vs h => methM m v vs h else .stuck
  | .vme m o es, σ, h => (evE T o σ h).bind fun v h => match v with
    | .d (.ktp xs) => (evEs T es σ h).bind fun vs h => match views vs h with
      | some ws => optV (meF m (.ktp xs) ws) h
      | none => .stuck
    | _ => .stuck
  | .comp t it c e own, σ, h => (evIt T it σ h).bind fun s h => (compL (fun x h => match asg t (.d x) (wipeA σ own) with
    | some σ' => (evC T c σ' h).bind fun b h => if b = true then (evE T e σ' h).bind fun v h => (asData v h).bind fun x h => .ok (some x) h else .ok none h
    | none => .stuck) s.cell s.items h).bind endL
  | .comp2 t it c t2 it2 c2 e own own2, σ, h => (evIt T it σ h).bind fun s h => (compLL (fun x h => match asg t (.d x) (wipeA σ own) with
    | some σ' => (evC T c σ' h).bind fun b h => if b = true then (evIt T it2 σ' h).bind fun s2 h => compL (fun y h => match asg t2 (.d y) (wipeA σ' own2) with
        | some σ2 => (evC T c2 σ2 h).bind fun b h => if b = true then (evE T e σ2 h).bind fun v h => (asData v h).bind fun x h => .ok (some x) h else .ok none h
        | none => .stuck) s2.cell s2.items h else .ok [] h
    | none => .stuck) s.cell s.items h).bind endL
  | .new e, σ, h => (evE T e σ h).bind fun v h => newM v h
  | .told g e, σ, h => match evE T e σ h with
    | .ok (.d v) h => .ok (.d (.tup [.str "told", v])) h
    | .ok (.ref _) _ => .stuck
    | .exc x h => if x.cls = g then .ok (.d (.tup [.str "nothing"])) h else .stuck
    | .stuck => .stuck
noncomputable def evEs (T : GT) : Exs → AEnv → AH → R (List MV)
  | .nil, _, h => .ok [] h
  | .cons e es, σ, h => (evE T e σ h).bind fun v h => (evEs T es σ h).bind fun vs h => .ok (v :: vs) h
/-- conditions, all -/
noncomputable def evC (T : GT) : Exs → AEnv → AH → R Bool
  | .nil, _, h => .ok true h
  | .cons e es, σ, h => (evE T e σ h).bind fun v h => (truthM v h).bind fun b h => if b = true then evC T es σ h else .ok false h
noncomputable def evIt (T : GT) : It → AEnv → AH → R Src
  | .of e, σ, h => (evE T e σ h).bind fun v h => srcOf v h
  | .rng es, σ, h => (evEs T es σ h).bind fun vs h => rngOf vs h
  | .enm e, σ, h => (evE T e σ h).bind fun v h => (srcE v h).bind fun s h => .ok ⟨enumItems 0 s.items, s.cell⟩ h
  | .zip a b, σ, h => (evE T a σ h).bind fun v h => (evE T b σ h).bind fun w h => (srcOf v h).bind fun s h => (srcOf w h).bind fun s2 h => match s.cell, s2.cell with
    | none, none => .ok ⟨zipItems s.items s2.items, none⟩ h
    | _, _ => .stuck
end
noncomputable def evT (T : GT) (e : Ex) (σ : AEnv) (h : AH) : R Bool := (evE T e σ h).bind fun v h => truthM v h

/-! ### statements -/
def R.s {α : Type} (x : R α) (σ : AEnv) (f : α → AH → RS) : RS := match x with
  | .ok a h => f a h
  | .exc e h => .exc e σ h
  | .stuck => .stuck
def setAll : List Nat → List MV → AEnv → Option AEnv
  | [], [], σ => some σ
  | i :: is, v :: vs, σ => setAll is vs (σ.set i (some v))
  | _, _, _ => none
def optS (o : Option AEnv) (h : AH) : RS := match o with
  | some σ => .nx σ h
  | none => .stuck

open Classical in
noncomputable def forL (b : AV → AEnv → AH → RS) (o : Option (Nat × Cell)) : List AV → AEnv → AH → RS
  | [], σ, h => .nx σ h
  | x :: xs, σ, h => match b x σ h with
    | .nx σ' h' => if stillAt o h' then forL b o xs σ' h' else .stuck
    | .ct σ' h' => if stillAt o h' then forL b o xs σ' h' else .stuck
    | .bk σ' h' => .nx σ' h'
    | .rt v h' => .rt v h'
    | .exc e σ' h' => .exc e σ' h'
    | .stuck => .stuck
def whlN (c : AEnv → AH → R Bool) (b : AEnv → AH → RS) : Nat → AEnv → AH → Option RS
  | 0, _, _ => none
  | n + 1, σ, h => match c σ h with
    | .ok false h1 => some (.nx σ h1)
    | .ok true h1 => match b σ h1 with
      | .nx σ' h' => whlN c b n σ' h'
      | .ct σ' h' => whlN c b n σ' h'
      | .bk σ' h' => some (.nx σ' h')
      | .rt v h' => some (.rt v h')
      | .exc e σ' h' => some (.exc e σ' h')
      | .stuck => some .stuck
    | .exc e h1 => some (.exc e σ h1)
    | .stuck => some .stuck
open Classical in
noncomputable def whlR (c : AEnv → AH → R Bool) (b : AEnv → AH → RS) (σ : AEnv) (h : AH) : RS :=
  if q : ∃ r n, whlN c b n σ h = some r then q.choose else .stuck

mutual
noncomputable def evS (T : GT) : Sm → AEnv → AH → RS
  | .set t e, σ, h => (evE T e σ h).s σ fun v h => optS (asg t v σ) h
  | .par ts es, σ, h => (evEs T es σ h).s σ fun vs h => optS (setAll ts vs σ) h
  | .put o i e, σ, h => (evE T e σ h).s σ fun v h => (evE T o σ h).s σ fun a h => (evE T i σ h).s σ fun k h => match putM a k v h with
    | some h' => .nx σ h'
    | none => .stuck
  | .dpt o i e, σ, h => (evE T e σ h).s σ fun v h => (evE T o σ h).s σ fun a h => (evE T i σ h).s σ fun k h => match dptM a k v h with
    | some h' => .nx σ h'
    | none => .stuck
  | .aug i op e, σ, h => match σ[i]? with
    | some (some v) => (evE T e σ h).s σ fun w h => (bin2 (augA op) v w h).s σ fun r h => .nx (σ.set i (some r)) h
    | _ => .stuck
  | .augp o i op e, σ, h => (evE T o σ h).s σ fun a h => (evE T i σ h).s σ fun k h => match lstCell a h with
    | true => (idxM a k h).s σ fun v h => (evE T e σ h).s σ fun w h => (bin2 (augA op) v w h).s σ fun r h => match putM a k r h with
      | some h' => .nx σ h'
      | none => .stuck
    | false => .stuck
  | .ex e, σ, h => (evE T e σ h).s σ fun _ h => .nx σ h
  | .ret e, σ, h => (evE T e σ h).s σ fun v h => .rt v h
  | .rnon, _, h => .rt (.d .non) h
  | .ifs c a b, σ, h => (evT T c σ h).s σ fun k h => if k = true then evSs T a σ h else evSs T b σ h
  | .whl c b, σ, h => whlR (fun σ h => evT T c σ h) (fun σ h => evSs T b σ h) σ h
  | .fr t it b, σ, h => (evIt T it σ h).s σ fun s h => forL (fun x σ h => match asg t (.d x) σ with
    | some σ' => evSs T b σ' h
    | none => .stuck) s.cell s.items σ h
  | .brk, σ, h => .bk σ h
  | .cnt, σ, h => .ct σ h
  | .pas, σ, h => .nx σ h
  | .rai c, σ, h => .exc ⟨c, []⟩ σ h
noncomputable def evSs (T : GT) : Sms → AEnv → AH → RS
  | .nil, σ, h => .nx σ h
  | .cons s ss, σ, h => match evS T s σ h with
    | .nx σ' h' => evSs T ss σ' h'
    | .rt v h' => .rt v h'
    | .bk σ' h' => .bk σ' h'
    | .ct σ' h' => .ct σ' h'
    | .exc e σ' h' => .exc e σ' h'
    | .stuck => .stuck
end

/-! ### functions -/
structure FD where
  ps : Nat
  ns : Nat
  mt : Bool
  body : Sms

def refOk (n : Nat) : MV → Bool
  | .d _ => true
  | .ref i => decide (i < n)
def cellOk (n : Nat) : Cell → Bool
  | .mls xs => xs.all (refOk n)
  | _ => true
/-- the call's end: what is new is forgotten, a new cell that is handed back stands still -/
def fin (mt : Bool) (n : Nat) (v : MV) (h : AH) : R MV :=
  if (h.take n).all (cellOk n) = true then
    match v with
    | .d v => .ok (.d v) (h.take n)
    | .ref i => if i < n then .ok (.ref i) (h.take n) else match h[i]? with
      | some (.lst xs) => if mt = true then .ok (.ref n) (h.take n ++ [.lst xs]) else .ok (.d (.lst xs)) (h.take n)
      | some (.dct t ks vs) => if mt = true then .ok (.ref n) (h.take n ++ [.dct t ks vs]) else .ok (.d (.dct t ks vs)) (h.take n)
      | _ => .stuck
  else .stuck
def finX (n : Nat) (e : Exc) (h : AH) : R MV := if (h.take n).all (cellOk n) = true then .exc e (h.take n) else .stuck
def finS (mt : Bool) (n : Nat) : RS → R MV
  | .rt v h => fin mt n v h
  | .nx _ h => fin mt n (.d .non) h
  | .exc e _ h => finX n e h
  | _ => .stuck
def startA (ns : Nat) (vs : List MV) : AEnv := vs.map some ++ List.replicate (ns - vs.length) none
noncomputable def callF (P : Nat → Option FD) (G : Nat → Option AV) : Nat → Nat → List MV → AH → R MV
  | 0, _, _, _ => .stuck
  | d + 1, f, vs, h => match P f with
    | some fd => if vs.length = fd.ps then finS fd.mt h.length (evSs ⟨callF P G d, G⟩ fd.body (startA fd.ns vs) h) else .stuck
    | none => .stuck
end MP

set_option Elab.async false
set_option linter.all false
set_option maxRecDepth 100000
/-! M3: readings of the interpreter's values; expressions. -/
namespace MP
open PySem PySem.Spec PyProof.Rows L2

theorem PE.weak {X : Cx} {e : Expr} {t t' : TE} (h : PE X e t) (w : ∀ σ H Q, t' σ H Q → t σ H Q) : PE X e t' := ⟨fun pins s σ H Q I q => h.run pins s σ H Q I (w σ H Q q)⟩
theorem PT.weak {X : Cx} {e : Expr} {t t' : TT} (h : PT X e t) (w : ∀ σ H Q, t' σ H Q → t σ H Q) : PT X e t' := ⟨fun pins s σ H Q I q => h.run pins s σ H Q I (w σ H Q q)⟩
theorem PA.weak {X : Cx} {e : List Expr} {t t' : TA} (h : PA X e t) (w : ∀ σ H Q, t' σ H Q → t σ H Q) : PA X e t' := ⟨fun pos pins s σ H Q I q => h.run pos pins s σ H Q I (w σ H Q q)⟩
theorem PS.weak {X : Cx} {e : Stmt} {t t' : TS} (h : PS X e t) (w : ∀ D σ H, t' D σ H → t D σ H) : PS X e t' := ⟨fun pins s σ H D I q => h.run pins s σ H D I (w D σ H q)⟩
theorem PSs.weak {X : Cx} {e : List Stmt} {t t' : TS} (h : PSs X e t) (w : ∀ D σ H, t' D σ H → t D σ H) : PSs X e t' := ⟨fun pins s σ H D I q => h.run pins s σ H D I (w D σ H q)⟩
theorem PI.weak {X : Cx} {tg e : Expr} {t t' : TI} (h : PI X tg e t) (w : ∀ σ H R, t' σ H R → t σ H R) : PI X tg e t' := ⟨fun pins s σ H R I q => h.run pins s σ H R I (w σ H R q)⟩
theorem PTs.weak {X : Cx} {e : List Expr} {t t' : TT} (h : PTs X e t) (w : ∀ σ H Q, t' σ H Q → t σ H Q) : PTs X e t' := ⟨fun pins s σ H Q I q => h.run pins s σ H Q I (w σ H Q q)⟩
theorem PG.weak {X : Cx} {tg : Expr} {t t' : TG} (h : PG X tg t) (w : ∀ v σ H Q, t' v σ H Q → t v σ H Q) : PG X tg t' := ⟨fun pins s σ H v u Q I r q => h.run pins s σ H v u Q I r (w _ _ _ _ q)⟩

/-- an exception: its class; those without fields -/
def ExcAt (fa : FA) (e : Exc) (cls : Value) (d : Option Addr) : Prop := ∃ C, fa.ad e.cls = some C ∧ cls = .ref C ∧ (e.fs = [] → d = none) ∧ e.fs = []

section
variable (K : PySem.W.Frag) (fa : FA) (W : WX) (σ : L2.St)
/-- what an outcome asks -/
def Out {α β : Type} (rel : LV → Hp → α → β → Prop) (L : LV) (H : Hp) (r : R α) (Q : β → Hp → Prop) : Prop :=
  match r with
  | .ok v h' => ∀ L' H' u, SRh K fa L' h' H' → Ev L H L' H' → rel L' H' v u → Q u H'
  | .exc e h' => ∀ L' H' cls d, SRh K fa L' h' H' → Ev L H L' H' → ExcAt fa e cls d → W cls d σ H'
  | .stuck => False
end
section
variable {K : PySem.W.Frag} {fa : FA} {W : WX} {σ : L2.St} {α β γ δ : Type} {L L1 : LV} {H H1 : Hp}
theorem Out.at {rel : LV → Hp → α → β → Prop} {r : R α} {Q : β → Hp → Prop} (o : Out K fa W σ rel L H r Q) (e : Ev L H L1 H1) : Out K fa W σ rel L1 H1 r Q := by
  cases r with
  | ok v h => exact fun L' H' u S e' q => o L' H' u S (e.trans e') q
  | exc x h => exact fun L' H' c d S e' q => o L' H' c d S (e.trans e') q
  | stuck => exact o
theorem Out.mono {rel : LV → Hp → α → β → Prop} {r : R α} {Q Q' : β → Hp → Prop} (o : Out K fa W σ rel L H r Q) (w : ∀ u H', Q u H' → Q' u H') : Out K fa W σ rel L H r Q' := by
  cases r with
  | ok v h => exact fun L' H' u S e' q => w u H' (o L' H' u S e' q)
  | exc x h => exact o
  | stuck => exact o
theorem Out.bind {rel : LV → Hp → α → β → Prop} {rel2 : LV → Hp → γ → δ → Prop} {r : R α} {f : α → AH → R γ} {Q : δ → Hp → Prop} (o : Out K fa W σ rel2 L H (r.bind f) Q) :
    Out K fa W σ rel L H r (fun u H1 => ∃ L1 h1 v, SRh K fa L1 h1 H1 ∧ Ev L H L1 H1 ∧ rel L1 H1 v u ∧ Out K fa W σ rel2 L1 H1 (f v h1) Q) := by
  cases r with
  | ok v h => exact fun L' H' u S e' q => ⟨L', h, v, S, e', q, o.at e'⟩
  | exc x h => exact o
  | stuck => exact o
end

section
variable (K : PySem.W.Frag) (fa : FA) (T : GT) (W : WX)
def tE (m : Ex) : TE := fun σ H Q => ∃ L σa h, SRh K fa L h H ∧ SRe K fa L H σa σ ∧ Out K fa W σ (RM K fa) L H (evE T m σa h) Q
def tEs (m : Exs) : TA := fun σ H Q => ∃ L σa h, SRh K fa L h H ∧ SRe K fa L H σa σ ∧ Out K fa W σ (RMs K fa) L H (evEs T m σa h) Q
def RBl : LV → Hp → Bool → Bool → Prop := fun _ _ a b => a = b
def tT (m : Ex) : TT := fun σ H Q => ∃ L σa h, SRh K fa L h H ∧ SRe K fa L H σa σ ∧ Out K fa W σ RBl L H (evT T m σa h) Q
def tC (m : Exs) : TT := fun σ H Q => ∃ L σa h, SRh K fa L h H ∧ SRe K fa L H σa σ ∧ Out K fa W σ RBl L H (evC T m σa h) Q
/-- a value, looked at -/
def VW (L : LV) (H : Hp) : AV → V → Prop
  | .lst xs, u => ∃ a us, u = .ref a ∧ H a = some (.lst us) ∧ us.length ≤ sizeLine ∧ RAs K fa L H xs us
  | .dct t ks vs, u => ∃ a us, u = .ref a ∧ DctAt H a t ks us ∧ RAs K fa L H vs us
  | v, u => RA K fa L H v u
end
section
variable {K : PySem.W.Frag} {fa : FA} {T : GT} {W : WX} {L : LV} {H : Hp} {h : AH}
theorem RA.vw : ∀ {v : AV} {u : V}, RA K fa L H v u → VW K fa L H v u
  | .non, _, r => r
  | .bl _, _, r => r
  | .int _, _, r => r
  | .str _, _, r => r
  | .tup _, _, r => r
  | .lst _, _, ⟨a, us, e1, _, e2, e3, e4⟩ => ⟨a, us, e1, e2, e3, e4⟩
  | .dct _ _ _, _, ⟨a, us, e1, _, e2, e4⟩ => ⟨a, us, e1, e2, e4⟩
  | .fn _, _, r => r
  | .ty _, _, r => r
  | .scr _, _, r => r
  | .ktp _, _, r => r
theorem view_vw (S : SRh K fa L h H) {v : MV} {u : V} {a : AV} (r : RM K fa L H v u) (e : view v h = some a) : VW K fa L H a u := by
  cases v with
  | d v =>
    cases e
    exact RA.vw r
  | ref i =>
    obtain ⟨p, hp, rfl⟩ := r
    have e : (match h[i]? with | some c => c.view | none => none) = some a := e
    cases q : h[i]? with
    | none => rw [q] at e; cases e
    | some c =>
      rw [q] at e
      have hc := S.cells i c p q hp
      cases c with
      | lst xs =>
        cases e
        obtain ⟨us, h1, h2, h3⟩ := hc
        exact ⟨p, us, rfl, h1, h2, h3⟩
      | mls xs =>
        obtain ⟨us, h1, h2, h3⟩ := hc
        have e : (match allD xs with | some vs => some (AV.lst vs) | none => none) = some a := e
        cases q2 : allD xs with
        | none => rw [q2] at e; cases e
        | some vs =>
          rw [q2] at e
          cases e
          exact ⟨p, us, rfl, h1, h2, RMs.ds h3 q2⟩
      | dct t ks vs =>
        cases e
        obtain ⟨us, h1, h3⟩ := hc
        exact ⟨p, us, rfl, h1, h3⟩
/-! ### names and constants -/
variable {X : Cx}
theorem tE_done {v : MV} {u : V} {σ : L2.St} {Q : VK} (S : SRh K fa L h H) (r : RM K fa L H v u) (o : Out K fa W σ (RM K fa) L H (.ok v h) Q) : Q u H := o L H u S (Ev.refl _ _) r
theorem m_non {j pos} : PE X (.Constant .none j pos) (tE K fa T W .cN) := PE.weak pe_non fun σ H Q ⟨L, σa, h, S, E, o⟩ => tE_done (v := .d .non) S rfl o
theorem m_bl {b j pos} : PE X (.Constant (.bool b) j pos) (tE K fa T W (.cB b)) := PE.weak pe_bl fun σ H Q ⟨L, σa, h, S, E, o⟩ => tE_done (v := .d (.bl b)) S rfl o
theorem m_int {i j pos} : PE X (.Constant (.int i) j pos) (tE K fa T W (.cI i)) := PE.weak pe_int fun σ H Q ⟨L, σa, h, S, E, o⟩ => tE_done (v := .d (.int i)) S rfl o
theorem m_str {x j pos} (hx : x.length ≤ sizeLine) : PE X (.Constant (.str x) j pos) (tE K fa T W (.cS x)) := PE.weak pe_str fun σ H Q ⟨L, σa, h, S, E, o⟩ => tE_done (v := .d (.str x)) S ⟨rfl, hx⟩ o
theorem m_var {i : Nat} {x : Str} {pos : Pos} (hN : X.N[i]? = some x) (hv : Vis X.env.scope x) (hd : (x == ("__debug__" : Str)) = false) (hcd : (x == ("__classdict__" : Str)) = false) : PE X (.Name x pos) (tE K fa T W (.var i)) :=
  PE.weak (pe_var hN hv hd hcd) fun σ H Q ⟨L, σa, h, S, E, o⟩ => by
    have o : Out K fa W σ (RM K fa) L H (match σa[i]? with | some (some v) => R.ok v h | _ => R.stuck) Q := o
    cases q : σa[i]? with
    | none => rw [q] at o; exact o.elim
    | some y =>
      cases y with
      | none => rw [q] at o; exact o.elim
      | some v =>
        rw [q] at o
        obtain ⟨u, hu, r⟩ := E.vals i v q
        exact ⟨u, hu, tE_done S r o⟩

/-! ### two values -/
/-- an operation on values that the interpreter's f tells -/
def Bin2R (K : PySem.W.Frag) (fa : FA) (f : AV → AV → Option AV) (r : R2) : Prop :=
  ∀ {L : LV} {H : Hp} {h : AH} {x y z : AV} {u v : V} {Q : VK}, SRh K fa L h H → VW K fa L H x u → VW K fa L H y v → f x y = some z →
    (∀ H' w, Same H H' → RA K fa L H' z w → Q w H') → r u v H Q
theorem out_optV {σ : L2.St} {o : Option AV} {Q : VK} (x : Out K fa W σ (RM K fa) L H (optV o h) Q) : ∃ z, o = some z ∧ ∀ L' H' u, SRh K fa L' h H' → Ev L H L' H' → RA K fa L' H' z u → Q u H' := by
  cases o with
  | none => exact x.elim
  | some z => exact ⟨z, rfl, x⟩
theorem bin2_run {f : AV → AV → Option AV} {r : R2} (hr : Bin2R K fa f r) {σ : L2.St} {v w : MV} {x y : V} {Q : VK} (S : SRh K fa L h H) (r1 : RM K fa L H v x) (r2 : RM K fa L H w y) (o : Out K fa W σ (RM K fa) L H (bin2 f v w h) Q) : r x y H Q := by
  unfold bin2 at o
  cases q1 : view v h with
  | none => rw [q1] at o; exact o.elim
  | some a =>
    cases q2 : view w h with
    | none => rw [q1, q2] at o; exact o.elim
    | some b =>
      rw [q1, q2] at o
      obtain ⟨z, e, k⟩ := out_optV o
      exact hr S (view_vw S r1 q1) (view_vw S r2 q2) e fun H' w s q => k L H' w (S.same s) (S.evs s) q
theorem tE_bin {a b : Ex} {f : AV → AV → Option AV} {r : R2} (hr : Bin2R K fa f r) {m : Ex} (hm : ∀ σ h, evE T m σ h = (evE T a σ h).bind fun v h => (evE T b σ h).bind fun w h => bin2 f v w h) {σ : L2.St} {H : Hp} {Q : VK} (x : tE K fa T W m σ H Q) : tOp r (tE K fa T W a) (tE K fa T W b) σ H Q := by
  obtain ⟨L, σa, h, S, E, o⟩ := x
  rw [hm] at o
  refine ⟨L, σa, h, S, E, o.bind.mono fun u H1 ⟨L1, h1, v, S1, e1, rv, o1⟩ => ?_⟩
  refine ⟨L1, σa, h1, S1, E.ev e1.toEw, o1.bind.mono fun w H2 ⟨L2, h2, v2, S2, e2, rw2, o2⟩ => ?_⟩
  exact bin2_run hr S2 (RM.ev e2.toEw _ _ rv) rw2 o2
theorem m_bin {a b : Expr} {ma mb : Ex} {op : Operator} {o : Bop} {r : R2} {pos : Pos} (ho : OpR X (binaryOp op) r) (hr : Bin2R K fa (binop o) r) (ha : PE X a (tE K fa T W ma)) (hb : PE X b (tE K fa T W mb)) : PE X (.BinOp a op b pos) (tE K fa T W (.bin o ma mb)) :=
  PE.weak (pe_op ho ha hb) fun σ H Q x => tE_bin hr (fun _ _ => rfl) x
theorem m_cmp {a b : Expr} {ma mb : Ex} {op : CmpOp} {o : Cop} {r : R2} {pos : Pos} (ho : OpR X (compareOp op) r) (hr : Bin2R K fa (cmpB o) r) (ha : PE X a (tE K fa T W ma)) (hb : PE X b (tE K fa T W mb)) (hm : behindInMarks op b = false) : PE X (.Compare a [op] [b] pos) (tE K fa T W (.cmp o ma mb)) :=
  PE.weak (pe_cmpR ho ha hb hm) fun σ H Q x => tE_bin hr (fun _ _ => rfl) x
end
end MP

set_option Elab.async false
set_option linter.all false
set_option maxRecDepth 100000
/-! M4: operations. -/
namespace MP
open PySem PySem.Spec PyProof.Rows L2
section
variable {K : PySem.W.Frag} {fa : FA} {T : GT} {W : WX} {L : LV} {H : Hp} {h : AH} {X : Cx}

theorem fresh_notin (S : SRh K fa L h H) {p : Addr} (hp : H p = none) : p ∉ L := S.notin hp
theorem same_upd {H : Hp} {p : Addr} {o : HO} (h : H p = none) : Same H (upd H p o) := fun b x e => by
  rw [upd_ne (ne_of_none e h)]
  exact e
theorem RAs.same {H' : Hp} {xs : List AV} {us : List V} (s : Same H H') (r : RAs K fa L H xs us) : RAs K fa L H' xs us := RAs.ev (Ew.same s) _ _ r
/-- a new tuple, a new list -/
theorem RA.tup (S : SRh K fa L h H) {p : Addr} (hp : H p = none) {xs : List AV} {us : List V} (hl : us.length ≤ sizeLine) (r : RAs K fa L H xs us) : RA K fa L (upd H p (.tup us)) (.tup xs) (.ref p) :=
  ⟨p, us, rfl, ⟨fresh_notin S hp, upd_same⟩, hl, r.same (same_upd hp)⟩
theorem RA.lst (S : SRh K fa L h H) {p : Addr} (hp : H p = none) {xs : List AV} {us : List V} (hl : us.length ≤ sizeLine) (r : RAs K fa L H xs us) : RA K fa L (upd H p (.lst us)) (.lst xs) (.ref p) :=
  ⟨p, us, rfl, fresh_notin S hp, upd_same, hl, r.same (same_upd hp)⟩
theorem RAs.nil_iff {xs : List AV} {us : List V} (r : RAs K fa L H xs us) : us = [] ↔ xs = [] := by
  have := r.length
  constructor
  · intro e
    rw [e] at this
    exact List.eq_nil_of_length_eq_zero this.symm
  · intro e
    rw [e] at this
    exact List.eq_nil_of_length_eq_zero this
theorem RAs.flat {xs : List AV} {us : List V} (r : RAs K fa L H xs us) : ∀ n : Nat, RAs K fa L H (List.replicate n xs).flatten (List.replicate n us).flatten
  | 0 => rfl
  | n + 1 => by
    rw [List.replicate_succ, List.replicate_succ, List.flatten_cons, List.flatten_cons]
    exact r.append (RAs.flat r n)
theorem RAs.rev : ∀ {xs : List AV} {us : List V}, RAs K fa L H xs us → RAs K fa L H xs.reverse us.reverse
  | [], _, h => by rw [show _ = [] from h]; rfl
  | x :: xs, _, ⟨u, r, e1, e2, e3⟩ => by
    rw [e1, List.reverse_cons, List.reverse_cons]
    exact (RAs.rev e3).append ⟨u, [], rfl, e2, rfl⟩
theorem RAs.dropLast : ∀ {xs : List AV} {us : List V}, RAs K fa L H xs us → RAs K fa L H xs.dropLast us.dropLast
  | xs, us, r => by
    rw [List.dropLast_eq_take, List.dropLast_eq_take, ← r.length]
    exact r.take _

/-! ### plain data -/
mutual
theorem RA.dp : ∀ {v : AV} {u : V}, RA K fa L H v u → v.pl = true → Dp K H u v.toD
  | .non, _, r, _ => by cases r; exact .non
  | .bl b, _, r, _ => by cases r; exact .bl b
  | .int i, _, r, _ => by cases r; exact .int i
  | .str s, _, r, _ => by cases r.1; exact .str s
  | .tup xs, _, ⟨a, us, e1, e2, e3, e4⟩, p => by cases e1; exact .tup e2.sq (RAs.dp e4 p)
  | .lst xs, _, ⟨a, us, e1, _, e2, e3, e4⟩, p => by cases e1; exact .lst (.inl (.inl e2)) (RAs.dp e4 p)
  | .dct _ _ _, _, _, p => by cases p
  | .fn _, _, _, p => by cases p
  | .ty _, _, _, p => by cases p
  | .scr _, _, _, p => by cases p
  | .ktp xs, _, ⟨a, us, e1, e2, e3, e4⟩, p => by cases e1; exact .tup e2.sq (RAs.dp e4 p)
theorem RAs.dp : ∀ {vs : List AV} {us : List V}, RAs K fa L H vs us → AV.pls vs = true → DpAll K H us (AV.toDs vs)
  | [], _, r, _ => by rw [show _ = [] from r]; exact .nil
  | v :: vs, _, ⟨u, r, e1, e2, e3⟩, p => by
    rw [e1]
    have p' : (v.pl && AV.pls vs) = true := p
    rw [Bool.and_eq_true] at p'
    exact .cons (RA.dp e2 p'.1) (RAs.dp e3 p'.2)
end
theorem VW.dp {v : AV} {u : V} (r : VW K fa L H v u) (p : v.pl = true) : Dp K H u v.toD := by
  cases v with
  | lst xs =>
    obtain ⟨a, us, e1, e2, e3, e4⟩ := r
    cases e1
    exact .lst (.inl (.inl e2)) (RAs.dp e4 p)
  | dct t ks vs => cases p
  | _ => exact RA.dp (fa := fa) (L := L) r p
theorem shp_pl {v : AV} (h : v.shp = true) : v.pl = true ∧ SeqAt.shaped v.toD = true := by
  unfold AV.shp at h
  rw [Bool.and_eq_true] at h
  exact h

/-! ### numbers, texts, tuples, lists -/
def rAddM (K : PySem.W.Frag) : R2 := fun x y H Q => rI0 (fun i j => .int (i + j)) x y H Q ∨ (∃ i j, x = .str i ∧ y = .str j ∧ i.length + j.length ≤ sizeLine ∧ Q (.str (i ++ j)) H) ∨ rCatA K x y H Q ∨ rCat x y H Q
theorem op_addM : OpR X (binaryOp .Add) (rAddM X.K) := OpR.or op_add (OpR.or op_add_str (OpR.or op_catA op_cat))
theorem b2_add : Bin2R K fa (binop .add) (rAddM K) := by
  intro L H h x y z u v Q S r1 r2 e k
  replace e : addA x y = some z := e
  unfold addA at e
  split at e
  · rename_i i j
    cases e
    cases r1; cases r2; exact .inl ⟨i, j, rfl, rfl, k H _ (Same.refl _) rfl⟩
  · rename_i a b
    split at e
    · rename_i hl
      cases e
      cases r1.1; cases r2.1
      exact .inr (.inl ⟨a, b, rfl, rfl, hl, k H _ (Same.refl _) ⟨rfl, by rw [Str.length_append]; exact hl⟩⟩)
    · cases e
  · rename_i xs ys
    split at e
    · rename_i hl
      cases e
      obtain ⟨a, us, e1, t1, l1, q1⟩ := r1
      obtain ⟨b, ws, e2, t2, l2, q2⟩ := r2
      cases e1; cases e2
      have hl' : us.length + ws.length ≤ sizeLine := by rw [q1.length, q2.length]; exact hl
      refine .inr (.inr (.inl ⟨a, b, us, ws, rfl, rfl, t1.sq, t2.sq, hl', fun z => ?_, fun z z2 => ?_, fun z z2 p hp => ?_⟩))
      · refine k H _ (Same.refl _) ?_
        rw [q1.nil_iff.mp z, List.nil_append]
        exact ⟨b, ws, rfl, t2, l2, q2⟩
      · refine k H _ (Same.refl _) ?_
        rw [q2.nil_iff.mp z2, List.append_nil]
        exact ⟨a, us, rfl, t1, l1, q1⟩
      · exact k _ _ (same_upd hp) (RA.tup S hp (by rw [List.length_append]; exact hl') (q1.append q2))
    · cases e
  · rename_i xs ys
    split at e
    · rename_i hl
      cases e
      obtain ⟨a, us, e1, t1, l1, q1⟩ := r1
      obtain ⟨b, ws, e2, t2, l2, q2⟩ := r2
      cases e1; cases e2
      have hl' : us.length + ws.length ≤ sizeLine := by rw [q1.length, q2.length]; exact hl
      refine .inr (.inr (.inr ⟨a, b, us, ws, rfl, rfl, t1, t2, hl', fun p hp => ?_⟩))
      exact k _ _ (same_upd hp) (RA.lst S hp (by rw [List.length_append]; exact hl') (q1.append q2))
    · cases e
  · cases e
theorem b2_int {C : Int → Int → Prop} [∀ i j, Decidable (C i j)] {g : Int → Int → Int} : Bin2R K fa (intA fun i j => if C i j then some (.int (g i j)) else none) (rI C fun i j => .int (g i j)) := by
  intro L H h x y z u v Q S r1 r2 e k
  unfold intA at e
  split at e
  · rename_i i j
    dsimp only at e
    split at e
    · rename_i hc
      cases e
      cases r1; cases r2; exact ⟨i, j, rfl, rfl, hc, k H _ (Same.refl _) rfl⟩
    · cases e
  · cases e
theorem b2_sub : Bin2R K fa (binop .sub) (rI0 fun i j => .int (i - j)) := by
  intro L H h x y z u v Q S r1 r2 e k
  replace e : (intA fun i j => some (.int (i - j))) x y = some z := e
  unfold intA at e
  split at e
  · rename_i i j
    cases e
    cases r1; cases r2; exact ⟨i, j, rfl, rfl, k H _ (Same.refl _) rfl⟩
  · cases e
theorem b2_fdiv : Bin2R K fa (binop .fdiv) (rI CDiv fun i j => .int (i / j)) := b2_int (C := fun i j => 0 < j ∧ j < 1073741824)
theorem b2_mod : Bin2R K fa (binop .mod) (rI (fun _ j => 0 < j) fun i j => .int (i % j)) := b2_int (C := fun i j => 0 < j)
theorem b2_pow : Bin2R K fa (binop .pow) (rI CPow fun i j => .int (i ^ j.toNat)) := b2_int (C := fun i j => 0 ≤ j ∧ j ≤ 1000000 ∧ i.natAbs < 2 ^ 64)

/-! ### comparisons -/
theorem b2_eq : Bin2R K fa (cmpB .eq) (rEqD K) := by
  intro L H h x y z u v Q S r1 r2 e k
  replace e : (eqv? x y).map AV.bl = some z := e
  unfold eqv? at e
  split at e
  · rename_i hs
    cases e
    rw [Bool.and_eq_true] at hs
    obtain ⟨p1, s1⟩ := shp_pl hs.1
    obtain ⟨p2, s2⟩ := shp_pl hs.2
    exact ⟨x.toD, y.toD, r1.dp p1, r2.dp p2, s1, s2, k H _ (Same.refl _) rfl⟩
  · cases e
theorem b2_ne : Bin2R K fa (cmpB .ne) (rNeD K) := by
  intro L H h x y z u v Q S r1 r2 e k
  replace e : ((eqv? x y).map (!·)).map AV.bl = some z := e
  unfold eqv? at e
  split at e
  · rename_i hs
    cases e
    rw [Bool.and_eq_true] at hs
    obtain ⟨p1, s1⟩ := shp_pl hs.1
    obtain ⟨p2, s2⟩ := shp_pl hs.2
    exact ⟨x.toD, y.toD, r1.dp p1, r2.dp p2, s1, s2, k H _ (Same.refl _) rfl⟩
  · cases e
theorem b2_ord {o : Cop} {g : Int → Int → Bool} (ho : cmpop o = ordA g) : Bin2R K fa (cmpB o) (rI0 fun i j => .bl (g i j)) := by
  intro L H h x y z u v Q S r1 r2 e k
  unfold cmpB at e
  rw [ho] at e
  unfold ordA at e
  split at e
  · rename_i i j
    cases e
    cases r1; cases r2; exact ⟨i, j, rfl, rfl, k H _ (Same.refl _) rfl⟩
  · cases e
theorem b2_lt : Bin2R K fa (cmpB .lt) (rI0 fun i j => .bl (decide (i < j))) := b2_ord rfl
theorem b2_le : Bin2R K fa (cmpB .le) (rI0 fun i j => .bl (decide (i ≤ j))) := b2_ord rfl
theorem b2_gt : Bin2R K fa (cmpB .gt) (rI0 fun i j => .bl (decide (j < i))) := b2_ord rfl
theorem b2_ge : Bin2R K fa (cmpB .ge) (rI0 fun i j => .bl (decide (j ≤ i))) := b2_ord rfl

/-! ### in -/
def rInTD (K : PySem.W.Frag) : R2 := fun x y H Q => ∃ d ds, Dp K H x d ∧ Dp K H y (.tuple ds) ∧ SeqAt.shaped d = true ∧ SeqAt.shaped (.tuple ds) = true ∧ Q (.bl (ds.any fun z => PyData.eqv z d)) H
def rNotInTD (K : PySem.W.Frag) : R2 := fun x y H Q => ∃ d ds, Dp K H x d ∧ Dp K H y (.tuple ds) ∧ SeqAt.shaped d = true ∧ SeqAt.shaped (.tuple ds) = true ∧ Q (.bl (!ds.any fun z => PyData.eqv z d)) H
theorem op_inTD (hu : X.A.units + 65 < cLine) : OpR X (compareOp .In) (rInTD X.K) := by
  intro pins s σ H x y v u Q I rx ry h
  obtain ⟨d, ds, hd, he, sd, se, q⟩ := h
  obtain ⟨as, r1⟩ := Dp.reads I d x v hd rx
  obtain ⟨bs, r2⟩ := Dp.reads I (.tuple ds) y u he ry
  exact SeqAt.in_tuple_reads r2 r1 (SeqAt.canLay_of_shaped se) (SeqAt.canLay_of_shaped sd) (room_in_shaped sd hu) ⟨.bl _, H, I, rfl, q⟩
theorem op_notInTD (hu : X.A.units + 65 < cLine) : OpR X (compareOp .NotIn) (rNotInTD X.K) := by
  intro pins s σ H x y v u Q I rx ry h
  obtain ⟨d, ds, hd, he, sd, se, q⟩ := h
  obtain ⟨as, r1⟩ := Dp.reads I d x v hd rx
  obtain ⟨bs, r2⟩ := Dp.reads I (.tuple ds) y u he ry
  exact SeqAt.notIn_tuple_reads r2 r1 (SeqAt.canLay_of_shaped se) (SeqAt.canLay_of_shaped sd) (room_in_shaped sd hu) ⟨.bl _, H, I, rfl, q⟩
end
end MP

set_option Elab.async false
set_option linter.all false
set_option maxRecDepth 100000
/-! M5: more operations, expressions. -/
namespace MP
open PySem PySem.Spec PyProof.Rows L2
section
variable {K : PySem.W.Frag} {fa : FA} {T : GT} {W : WX} {L : LV} {H : Hp} {h : AH} {X : Cx}

theorem Bin2R.or1 {f g : AV → AV → Option AV} {r r' : R2} (a : Bin2R K fa f r) : Bin2R K fa f (fun x y H Q => r x y H Q ∨ r' x y H Q) := fun S r1 r2 e k => .inl (a S r1 r2 e k)

def rInM (K : PySem.W.Frag) : R2 := fun x y H Q => rInS x y H Q ∨ rInTD K x y H Q ∨ rInD K x y H Q
def rNinM (K : PySem.W.Frag) : R2 := fun x y H Q => rNotInS x y H Q ∨ rNotInTD K x y H Q ∨ rNotInD K x y H Q
theorem op_inM (hu : X.A.units + 65 < cLine) : OpR X (compareOp .In) (rInM X.K) := OpR.or op_inS (OpR.or (op_inTD hu) (op_inD hu))
theorem op_ninM (hu : X.A.units + 65 < cLine) : OpR X (compareOp .NotIn) (rNinM X.K) := OpR.or op_notInS (OpR.or (op_notInTD hu) (op_notInD hu))
/-- what in tells: by a sign, by a tuple, by a list -/
theorem in_run {x y : AV} {b : Bool} {u v : V} (r1 : VW K fa L H x u) (r2 : VW K fa L H y v) (e : inA x y = some b) :
    (∃ c z, u = .str ⟨#[c]⟩ ∧ v = .str z ∧ b = decide (c ∈ z.cps.toList)) ∨
    (∃ d ds, Dp K H u d ∧ Dp K H v (.tuple ds) ∧ SeqAt.shaped d = true ∧ SeqAt.shaped (.tuple ds) = true ∧ b = ds.any fun z => PyData.eqv z d) ∨
    (∃ d ds, Dp K H u d ∧ Dp K H v (.list ds) ∧ SeqAt.shaped d = true ∧ SeqAt.shaped (.list ds) = true ∧ b = ds.any fun z => PyData.eqv z d) := by
  unfold inA at e
  split at e
  · rename_i z
    split at e
    · rename_i c
      split at e
      · rename_i n hn
        cases e
        cases r1.1; cases r2.1
        refine .inl ⟨n, z, ?_, rfl, rfl⟩
        congr 1
        rcases c with ⟨c⟩
        congr 1
        exact Array.toList_inj.mp hn
      · cases e
    · cases e
  · rename_i ys
    split at e
    · rename_i hs
      cases e
      rw [Bool.and_eq_true] at hs
      obtain ⟨p1, s1⟩ := shp_pl hs.1
      obtain ⟨p2, s2⟩ := shp_pl hs.2
      exact .inr (.inl ⟨_, _, r1.dp p1, r2.dp p2, s1, s2, rfl⟩)
    · cases e
  · rename_i ys
    split at e
    · rename_i hs
      cases e
      rw [Bool.and_eq_true] at hs
      obtain ⟨p1, s1⟩ := shp_pl hs.1
      obtain ⟨p2, s2⟩ := shp_pl hs.2
      exact .inr (.inl ⟨_, _, r1.dp p1, r2.dp p2, s1, s2, rfl⟩)
    · cases e
  · rename_i ys
    split at e
    · rename_i hs
      cases e
      rw [Bool.and_eq_true] at hs
      obtain ⟨p1, s1⟩ := shp_pl hs.1
      obtain ⟨p2, s2⟩ := shp_pl hs.2
      exact .inr (.inr ⟨_, _, r1.dp p1, r2.dp p2, s1, s2, rfl⟩)
    · cases e
  · cases e
theorem b2_in : Bin2R K fa (cmpB .in_) (rInM K) := by
  intro L H h x y z u v Q S r1 r2 e k
  replace e : (inA x y).map AV.bl = some z := e
  cases q : inA x y with
  | none => rw [q] at e; cases e
  | some b =>
    rw [q] at e
    cases e
    have k0 : Q (.bl b) H := k H _ (Same.refl _) rfl
    rcases in_run r1 r2 q with ⟨c, z, rfl, rfl, rfl⟩ | ⟨d, ds, h1, h2, h3, h4, rfl⟩ | ⟨d, ds, h1, h2, h3, h4, rfl⟩
    · exact .inl ⟨c, z, rfl, rfl, k0⟩
    · exact .inr (.inl ⟨d, ds, h1, h2, h3, h4, k0⟩)
    · exact .inr (.inr ⟨d, ds, h1, h2, h3, h4, k0⟩)
theorem b2_nin : Bin2R K fa (cmpB .nin) (rNinM K) := by
  intro L H h x y z u v Q S r1 r2 e k
  replace e : ((inA x y).map (!·)).map AV.bl = some z := e
  cases q : inA x y with
  | none => rw [q] at e; cases e
  | some b =>
    rw [q] at e
    cases e
    have k0 : Q (.bl (!b)) H := k H _ (Same.refl _) rfl
    rcases in_run r1 r2 q with ⟨c, z, rfl, rfl, rfl⟩ | ⟨d, ds, h1, h2, h3, h4, rfl⟩ | ⟨d, ds, h1, h2, h3, h4, rfl⟩
    · exact .inl ⟨c, z, rfl, rfl, k0⟩
    · exact .inr (.inl ⟨d, ds, h1, h2, h3, h4, k0⟩)
    · exact .inr (.inr ⟨d, ds, h1, h2, h3, h4, k0⟩)

/-! ### is -/
/-- a value is None, or True, or another thing -/
def rIsM : R2 := fun x y H Q => (y = .non ∧ Q (.bl (decide (x = .non))) H) ∨ rIsB x y H Q
def rIsnM : R2 := fun x y H Q => (y = .non ∧ Q (.bl (!decide (x = .non))) H) ∨ rNotB x y H Q
theorem op_isM : OpR X (compareOp .Is) rIsM := OpR.or op_isN op_isBl
theorem op_isnM : OpR X (compareOp .IsNot) rIsnM := OpR.or op_notN op_notBl
theorem VW.is_non {x : AV} {u : V} (r : VW K fa L H x u) : decide (u = .non) = isNon x := by
  cases x with
  | non => cases r; rfl
  | bl b => cases r; rfl
  | int b => cases r; rfl
  | str s => cases r.1; rfl
  | tup xs => obtain ⟨a, us, e, _⟩ := r; cases e; rfl
  | lst xs => obtain ⟨a, us, e, _⟩ := r; cases e; rfl
  | dct t ks vs => obtain ⟨a, us, e, _⟩ := r; cases e; rfl
  | fn x => obtain ⟨a, e, _⟩ := r; cases e; rfl
  | ty x => cases r; rfl
  | scr x => obtain ⟨a, e, _⟩ := r; cases e; rfl
  | ktp x => obtain ⟨a, us, e, _⟩ := r; cases e; rfl
theorem b2_is : Bin2R K fa (cmpB .is_) rIsM := by
  intro L H h x y z u v Q S r1 r2 e k
  replace e : (isA x y).map AV.bl = some z := e
  cases y with
  | non =>
    cases e
    cases r2
    exact .inl ⟨rfl, k H _ (Same.refl _) (by rw [r1.is_non]; exact rfl)⟩
  | bl b =>
    cases x with
    | bl c =>
      cases e
      cases r1; cases r2
      exact .inr ⟨c, b, rfl, rfl, k H _ (Same.refl _) rfl⟩
    | _ => cases e
  | _ => cases e
theorem b2_isn : Bin2R K fa (cmpB .isn) rIsnM := by
  intro L H h x y z u v Q S r1 r2 e k
  replace e : ((isA x y).map (!·)).map AV.bl = some z := e
  cases y with
  | non =>
    cases e
    cases r2
    exact .inl ⟨rfl, k H _ (Same.refl _) (by rw [r1.is_non]; exact rfl)⟩
  | bl b =>
    cases x with
    | bl c =>
      cases e
      cases r1; cases r2
      exact .inr ⟨c, b, rfl, rfl, k H _ (Same.refl _) rfl⟩
    | _ => cases e
  | _ => cases e

/-! ### places -/
theorem RAs.atI {xs : List AV} {us : List V} {i : Int} {x : AV} (r : RAs K fa L H xs us) (e : L2.atI xs i = some x) : ∃ u, L2.atI us i = some u ∧ RA K fa L H x u := by
  unfold L2.atI at e ⊢
  rw [r.length]
  cases q : ixN xs.length i with
  | none => rw [q] at e; cases e
  | some j =>
    rw [q] at e
    obtain ⟨u, h1, h2⟩ := r.get (i := j) e
    exact ⟨u, h1, h2⟩
theorem RMs.atI {xs : List MV} {us : List V} {i : Int} {x : MV} (r : RMs K fa L H xs us) (e : L2.atI xs i = some x) : ∃ u, L2.atI us i = some u ∧ RM K fa L H x u := by
  unfold L2.atI at e ⊢
  rw [r.length]
  cases q : ixN xs.length i with
  | none => rw [q] at e; cases e
  | some j =>
    rw [q] at e
    obtain ⟨u, h1, h2⟩ := r.get (i := j) e
    exact ⟨u, h1, h2⟩
theorem IxR.or {r r' : R2} (a : IxR X r) (b : IxR X r') : IxR X (fun x y H Q => r x y H Q ∨ r' x y H Q) := fun value slice pins s σ H x y v u Q I rx ry q hs => by
  rcases q with q | q
  · exact a value slice pins s σ H x y v u Q I rx ry q hs
  · exact b value slice pins s σ H x y v u Q I rx ry q hs
def rIxM (K : PySem.W.Frag) : R2 := fun x y H Q => rIxL K x y H Q ∨ rIxT K x y H Q ∨ rIxS x y H Q
theorem ix_M : IxR X (rIxM X.K) := IxR.or ix_list (IxR.or ix_tup ix_str)
theorem b2_idx : Bin2R K fa idxA (rIxM K) := by
  intro L H h x y z u v Q S r1 r2 e k
  unfold idxA at e
  split at e
  · rename_i xs i
    obtain ⟨a, us, rfl, t1, l1, q1⟩ := r1
    cases r2
    obtain ⟨w, hw, rw⟩ := q1.atI e
    exact .inr (.inl ⟨a, us, i, w, rfl, rfl, t1.sq, hw, k H w (Same.refl _) rw⟩)
  · rename_i xs i
    obtain ⟨a, us, rfl, t1, l1, q1⟩ := r1
    cases r2
    obtain ⟨w, hw, rw⟩ := q1.atI e
    exact .inl ⟨a, us, i, w, rfl, rfl, .inl (.inl t1), hw, k H w (Same.refl _) rw⟩
  · rename_i s i
    split at e
    · rename_i c hc
      cases e
      obtain ⟨rfl, hl⟩ := r1
      cases r2
      refine .inr (.inr ⟨s, i, c, rfl, rfl, hl, hc, k H _ (Same.refl _) ⟨rfl, ?_⟩⟩)
      show (1 : Nat) ≤ sizeLine
      rw [sizeLine_eq]
      decide
    · cases e
  · cases e
theorem idxM_run {v w : MV} {x y : V} {σ : L2.St} {Q : VK} (S : SRh K fa L h H) (r1 : RM K fa L H v x) (r2 : RM K fa L H w y) (o : Out K fa W σ (RM K fa) L H (idxM v w h) Q) : rIxM K x y H Q := by
  have gen : Out K fa W σ (RM K fa) L H (bin2 idxA v w h) Q → rIxM K x y H Q := fun o => bin2_run b2_idx S r1 r2 o
  cases v with
  | d v => exact gen o
  | ref i =>
    simp only [idxM] at o
    split at o
    · rename_i xs hc
      split at o
      · rename_i k
        obtain ⟨a, ha, rfl⟩ := r1
        cases r2
        obtain ⟨us, h1, h2, h3⟩ := S.cells i _ a hc ha
        cases q : L2.atI xs k with
        | none => rw [q] at o; exact o.elim
        | some z =>
          rw [q] at o
          obtain ⟨u, hu, ru⟩ := h3.atI q
          exact .inl ⟨a, us, k, u, rfl, rfl, .inl (.inl h1), hu, tE_done S ru o⟩
      · exact o.elim
    · exact gen o
theorem m_idx {a b : Expr} {ma mb : Ex} {pos : Pos} (ha : PE X a (tE X.K fa T W ma)) (hb : PE X b (tE X.K fa T W mb)) (hs : PlainIx b) : PE X (.Subscript a b pos) (tE X.K fa T W (.idx ma mb)) :=
  PE.weak (pe_ix ix_M ha hb hs) fun σ H Q ⟨L, σa, h, S, E, o⟩ => by
    replace o : Out X.K fa W σ (RM X.K fa) L H ((evE T ma σa h).bind fun v h => (evE T mb σa h).bind fun w h => idxM v w h) Q := o
    refine ⟨L, σa, h, S, E, o.bind.mono fun u H1 ⟨L1, h1, v, S1, e1, rv, o1⟩ => ?_⟩
    refine ⟨L1, σa, h1, S1, E.ev e1.toEw, o1.bind.mono fun w H2 ⟨L2, h2, v2, S2, e2, rw2, o2⟩ => ?_⟩
    exact idxM_run S2 (RM.ev e2.toEw _ _ rv) rw2 o2

/-! ### truth -/
theorem VW.tru {v : AV} {u : V} {b : Bool} (r : VW K fa L H v u) (e : truthy? v = some b) : TruV K u H b := by
  cases v with
  | non => cases e; cases r; exact rfl
  | bl c => cases e; cases r; exact rfl
  | int i => cases e; cases r; exact rfl
  | str s => cases e; obtain ⟨rfl, hl⟩ := r; exact ⟨hl, rfl⟩
  | tup xs =>
    cases e
    obtain ⟨a, us, rfl, t1, l1, q1⟩ := r
    refine .inr (.inl ⟨us, t1.sq, ?_⟩)
    cases xs with
    | nil => rw [show us = [] from q1]; rfl
    | cons x xs => obtain ⟨u, r, rfl, _⟩ := q1; rfl
  | lst xs =>
    cases e
    obtain ⟨a, us, rfl, t1, l1, q1⟩ := r
    refine .inl ⟨us, .inl (.inl t1), ?_⟩
    cases xs with
    | nil => rw [show us = [] from q1]; rfl
    | cons x xs => obtain ⟨u, r, rfl, _⟩ := q1; rfl
  | dct t ks vs =>
    cases t with
    | true => cases e
    | false =>
      cases e
      obtain ⟨a, us, rfl, ⟨kk, h1, h2, h3, h4⟩, q1⟩ := r
      refine .inr (.inr ⟨_, h4, ?_⟩)
      cases ks with
      | nil => cases h1; rfl
      | cons x xs =>
        unfold keysK at h1
        split at h1
        · cases h1
          cases us with
          | nil => simp at h2
          | cons u us => rfl
        · cases h1
  | fn x => cases e
  | ty x => cases e
  | scr x => cases e
  | ktp x => cases e
theorem truth_run {v : MV} {u : V} {σ : L2.St} {Q : Bool → Hp → Prop} (S : SRh K fa L h H) (r : RM K fa L H v u) (o : Out K fa W σ RBl L H (truthM v h) Q) : ∃ k, TruV K u H k ∧ Q k H := by
  unfold truthM at o
  split at o
  · rename_i a q
    cases q2 : truthy? a with
    | none => rw [q2] at o; exact o.elim
    | some b =>
      rw [q2] at o
      exact ⟨b, (view_vw S r q).tru q2, o L H b S (Ev.refl _ _) rfl⟩
  · exact o.elim
/-- truth's outcome, the answer known -/
theorem truth_run2 {v : MV} {u : V} {σ : L2.St} {β : Type} {rel : LV → Hp → MV → β → Prop} {f : Bool → AH → R MV} {Q : β → Hp → Prop} (S : SRh K fa L h H) (r : RM K fa L H v u) (o : Out K fa W σ rel L H ((truthM v h).bind f) Q) :
    ∃ k, TruV K u H k ∧ Out K fa W σ rel L H (f k h) Q := by
  unfold truthM at o
  split at o
  · rename_i a q
    cases q2 : truthy? a with
    | none => rw [q2] at o; exact o.elim
    | some b =>
      rw [q2] at o
      exact ⟨b, (view_vw S r q).tru q2, o⟩
  · exact o.elim

theorem m_not {a : Expr} {ma : Ex} {pos : Pos} (ha : PE X a (tE X.K fa T W ma)) : PE X (.UnaryOp .Not a pos) (tE X.K fa T W (.not ma)) :=
  PE.weak (pe_notT ha) fun σ H Q ⟨L, σa, h, S, E, o⟩ => by
    replace o : Out X.K fa W σ (RM X.K fa) L H ((evE T ma σa h).bind fun v h => (truthM v h).bind fun b h => .ok (.d (.bl (!b))) h) Q := o
    refine ⟨L, σa, h, S, E, o.bind.mono fun u H1 ⟨L1, h1, v, S1, e1, rv, o1⟩ => ?_⟩
    obtain ⟨k, t, o2⟩ := truth_run2 S1 rv o1
    exact ⟨k, t, tE_done (v := .d (.bl (!k))) S1 rfl o2⟩
theorem m_and {a b : Expr} {rest : List Expr} {ma mb : Ex} {pos : Pos} (ha : PE X a (tE X.K fa T W ma)) (hb : PE X (.BoolOp .And (b :: rest) pos) (tE X.K fa T W mb)) : PE X (.BoolOp .And (a :: b :: rest) pos) (tE X.K fa T W (.and ma mb)) :=
  PE.weak (pe_andT ha hb) fun σ H Q ⟨L, σa, h, S, E, o⟩ => by
    replace o : Out X.K fa W σ (RM X.K fa) L H ((evE T ma σa h).bind fun v h => (truthM v h).bind fun k h => if k = true then evE T mb σa h else .ok v h) Q := o
    refine ⟨L, σa, h, S, E, o.bind.mono fun u H1 ⟨L1, h1, v, S1, e1, rv, o1⟩ => ?_⟩
    obtain ⟨k, t, o2⟩ := truth_run2 S1 rv o1
    refine ⟨k, t, ?_⟩
    cases k with
    | true => exact ⟨L1, σa, h1, S1, E.ev e1.toEw, o2⟩
    | false => exact tE_done S1 rv o2
theorem m_or {a b : Expr} {rest : List Expr} {ma mb : Ex} {pos : Pos} (ha : PE X a (tE X.K fa T W ma)) (hb : PE X (.BoolOp .Or (b :: rest) pos) (tE X.K fa T W mb)) : PE X (.BoolOp .Or (a :: b :: rest) pos) (tE X.K fa T W (.or ma mb)) :=
  PE.weak (pe_orT ha hb) fun σ H Q ⟨L, σa, h, S, E, o⟩ => by
    replace o : Out X.K fa W σ (RM X.K fa) L H ((evE T ma σa h).bind fun v h => (truthM v h).bind fun k h => if k = true then .ok v h else evE T mb σa h) Q := o
    refine ⟨L, σa, h, S, E, o.bind.mono fun u H1 ⟨L1, h1, v, S1, e1, rv, o1⟩ => ?_⟩
    obtain ⟨k, t, o2⟩ := truth_run2 S1 rv o1
    refine ⟨k, t, ?_⟩
    cases k with
    | true => exact tE_done S1 rv o2
    | false => exact ⟨L1, σa, h1, S1, E.ev e1.toEw, o2⟩
theorem m_one {a : Expr} {op : BoolOp} {ma : Ex} {pos : Pos} (ha : PE X a (tE X.K fa T W ma)) : PE X (.BoolOp op [a] pos) (tE X.K fa T W ma) := pe_one ha
end
end MP

set_option Elab.async false
set_option linter.all false
set_option maxRecDepth 100000
/-! M6: displays, argument lists, slices, tests, calls. -/
namespace MP
open PySem PySem.Spec PyProof.Rows L2
section
variable {K : PySem.W.Frag} {fa : FA} {T : GT} {W : WX} {L : LV} {H : Hp} {h : AH} {X : Cx}

theorem Out.bindE {α β γ δ : Type} {σ : L2.St} {rel : LV → Hp → α → β → Prop} {rel2 : LV → Hp → γ → δ → Prop} {r : R α} {f : α → AH → R γ} {Q : δ → Hp → Prop} (o : Out K fa W σ rel2 L H (r.bind f) Q) :
    Out K fa W σ rel L H r (fun u H1 => ∃ L1 h1 v, r = .ok v h1 ∧ SRh K fa L1 h1 H1 ∧ Ev L H L1 H1 ∧ rel L1 H1 v u ∧ Out K fa W σ rel2 L1 H1 (f v h1) Q) := by
  cases r with
  | ok v h => exact fun L' H' u S e' q => ⟨L', h, v, rfl, S, e', q, o.at e'⟩
  | exc x h => exact o
  | stuck => exact o

/-! ### argument lists -/
def exsLen : Exs → Nat
  | .nil => 0
  | .cons _ es => exsLen es + 1
theorem R.bind_ok {α β : Type} {r : R α} {f : α → AH → R β} {v : β} {h' : AH} (e : r.bind f = .ok v h') : ∃ a h1, r = .ok a h1 ∧ f a h1 = .ok v h' := by
  cases r with
  | ok a h1 => exact ⟨a, h1, rfl, e⟩
  | exc x h => cases e
  | stuck => cases e
theorem evEs_len : ∀ {m : Exs} {σa : AEnv} {h h' : AH} {vs : List MV}, evEs T m σa h = .ok vs h' → vs.length = exsLen m
  | .nil, _, _, _, _, e => by cases e; rfl
  | .cons e es, σa, h, h', vs, q => by
    obtain ⟨a, h1, q1, q2⟩ := R.bind_ok (show (evE T e σa h).bind (fun v h => (evEs T es σa h).bind fun vs h => .ok (v :: vs) h) = .ok vs h' from q)
    obtain ⟨b, h2, q3, q4⟩ := R.bind_ok q2
    cases q4
    rw [List.length_cons, evEs_len q3]
    rfl
theorem m_nil : PA X [] (tEs K fa T W .nil) := PA.weak pa_nil fun σ H Q ⟨L, σa, h, S, E, o⟩ => o L H [] S (Ev.refl _ _) rfl
theorem m_cons {e : Expr} {es : List Expr} {m : Ex} {ms : Exs} (ha : PE X e (tE K fa T W m)) (hr : PA X es (tEs K fa T W ms)) (hs : starEach (e :: es) X.env = (false, eval e X.env) :: starEach es X.env) : PA X (e :: es) (tEs K fa T W (.cons m ms)) :=
  PA.weak (pa_cons ha hr hs) fun σ H Q ⟨L, σa, h, S, E, o⟩ => by
    replace o : Out K fa W σ (RMs K fa) L H ((evE T m σa h).bind fun v h => (evEs T ms σa h).bind fun vs h => .ok (v :: vs) h) Q := o
    refine ⟨L, σa, h, S, E, o.bind.mono fun u H1 ⟨L1, h1, v, S1, e1, rv, o1⟩ => ?_⟩
    refine ⟨L1, σa, h1, S1, E.ev e1.toEw, o1.bind.mono fun us H2 ⟨L2, h2, vs, S2, e2, rvs, o2⟩ => ?_⟩
    exact o2 L2 H2 _ S2 (Ev.refl _ _) ⟨u, us, rfl, RM.ev e2.toEw _ _ rv, rvs⟩
theorem small_line {n : Nat} (h : n ≤ 1000) : n ≤ sizeLine := Nat.le_trans h (by rw [sizeLine_eq]; decide)

/-! ### displays -/
theorem allD_len : ∀ {vs : List MV} {xs : List AV}, allD vs = some xs → xs.length = vs.length
  | [], _, e => by cases e; rfl
  | .d v :: r, _, e => by
    unfold allD at e
    split at e
    · rename_i ys q
      cases e
      rw [List.length_cons, List.length_cons, allD_len q]
    · cases e
  | .ref _ :: _, _, e => by
    unfold allD at e
    cases e
theorem m_tup {es : List Expr} {ms : Exs} {x1} {pos : Pos} (ha : PA X es (tEs K fa T W ms)) (hl : exsLen ms ≤ 1000) : PE X (.Tuple es x1 pos) (tE K fa T W (.tup ms)) :=
  PE.weak (pe_tup ha) fun σ H Q ⟨L, σa, h, S, E, o⟩ => by
    replace o : Out K fa W σ (RM K fa) L H ((evEs T ms σa h).bind fun vs h => match allD vs with
      | some xs => .ok (.d (.tup xs)) h
      | none => .stuck) Q := o
    refine ⟨L, σa, h, S, E, o.bindE.mono fun us H1 ⟨L1, h1, vs, q, S1, e1, rv, o1⟩ => ?_⟩
    have hl' : us.length ≤ sizeLine := by rw [rv.length, evEs_len q]; exact small_line hl
    split at o1
    · rename_i xs hx
      exact ⟨hl', fun p hp => o1 L1 _ _ (S1.same (same_upd hp)) (S1.evs (same_upd hp)) (RA.tup S1 hp hl' (rv.ds hx))⟩
    · exact o1.elim
theorem m_lst {es : List Expr} {ms : Exs} {pos : Pos} (ha : PA X es (tEs K fa T W ms)) (hl : exsLen ms ≤ 1000) : PE X (.List es pos) (tE K fa T W (.lst ms)) :=
  PE.weak (pe_lst ha) fun σ H Q ⟨L, σa, h, S, E, o⟩ => by
    replace o : Out K fa W σ (RM K fa) L H ((evEs T ms σa h).bind fun vs h => match allD vs with
      | some xs => .ok (.d (.lst xs)) h
      | none => .stuck) Q := o
    refine ⟨L, σa, h, S, E, o.bindE.mono fun us H1 ⟨L1, h1, vs, q, S1, e1, rv, o1⟩ => ?_⟩
    have hl' : us.length ≤ sizeLine := by rw [rv.length, evEs_len q]; exact small_line hl
    split at o1
    · rename_i xs hx
      exact ⟨hl', fun p hp => o1 L1 _ _ (S1.same (same_upd hp)) (S1.evs (same_upd hp)) (RA.lst S1 hp hl' (rv.ds hx))⟩
    · exact o1.elim
theorem RM.new {h : AH} (S : SRh K fa L h H) {p : Addr} : RM K fa (L.push p) H (.ref h.length) (.ref p) := ⟨p, by show (L.c ++ [p])[h.length]? = _; rw [← S.len, List.getElem?_append_right (Nat.le_refl _), Nat.sub_self]; rfl, rfl⟩
theorem m_newl {es : List Expr} {ms : Exs} {pos : Pos} (ha : PA X es (tEs K fa T W ms)) (hl : exsLen ms ≤ 1000) : PE X (.List es pos) (tE K fa T W (.newl ms)) :=
  PE.weak (pe_lst ha) fun σ H Q ⟨L, σa, h, S, E, o⟩ => by
    replace o : Out K fa W σ (RM K fa) L H ((evEs T ms σa h).bind fun vs h => match allD vs with
      | some xs => .ok (.ref h.length) (h ++ [.lst xs])
      | none => .stuck) Q := o
    refine ⟨L, σa, h, S, E, o.bindE.mono fun us H1 ⟨L1, h1, vs, q, S1, e1, rv, o1⟩ => ?_⟩
    have hl' : us.length ≤ sizeLine := by rw [rv.length, evEs_len q]; exact small_line hl
    split at o1
    · rename_i xs hx
      refine ⟨hl', fun p hp => ?_⟩
      have ev : Ev L1 H1 (L1.push p) (upd H1 p (.lst us)) := S1.evn hp
      have S2 : SRh K fa (L1.push p) (h1 ++ [.lst xs]) (upd H1 p (.lst us)) := S1.new hp ⟨us, upd_same, hl', RAs.ev ev.toEw _ _ (rv.ds hx)⟩
      obtain ⟨a, h3, h4⟩ := RM.new (K := K) (fa := fa) (H := H1) S1 (p := p)
      exact o1 _ _ _ S2 ev ⟨a, h3, h4⟩
    · exact o1.elim
theorem m_newm {es : List Expr} {ms : Exs} {pos : Pos} (ha : PA X es (tEs K fa T W ms)) (hl : exsLen ms ≤ 1000) : PE X (.List es pos) (tE K fa T W (.newm ms)) :=
  PE.weak (pe_lst ha) fun σ H Q ⟨L, σa, h, S, E, o⟩ => by
    replace o : Out K fa W σ (RM K fa) L H ((evEs T ms σa h).bind fun vs h => .ok (.ref h.length) (h ++ [.mls vs])) Q := o
    refine ⟨L, σa, h, S, E, o.bindE.mono fun us H1 ⟨L1, h1, vs, q, S1, e1, rv, o1⟩ => ?_⟩
    have hl' : us.length ≤ sizeLine := by rw [rv.length, evEs_len q]; exact small_line hl
    refine ⟨hl', fun p hp => ?_⟩
    have ev : Ev L1 H1 (L1.push p) (upd H1 p (.lst us)) := S1.evn hp
    have S2 : SRh K fa (L1.push p) (h1 ++ [.mls vs]) (upd H1 p (.lst us)) := S1.new hp ⟨us, upd_same, hl', RMs.ev ev.toEw _ _ rv⟩
    obtain ⟨a, h3, h4⟩ := RM.new (K := K) (fa := fa) (H := H1) S1 (p := p)
    exact o1 _ _ _ S2 ev ⟨a, h3, h4⟩
theorem m_newd {t : Bool} {pos : Pos} : PE X (.Dict [] [] pos) (tE K fa T W (.newd t)) := by
  cases t with
  | false =>
    refine PE.weak pe_dnewK fun σ H Q ⟨L, σa, h, S, E, o⟩ p hp => ?_
    have S2 : SRh K fa (L.push p) (h ++ [.dct false [] []]) (upd H p (.dK [])) := S.new hp ⟨[], ⟨[], rfl, rfl, Nat.zero_le _, upd_same⟩, rfl⟩
    obtain ⟨a, h3, h4⟩ := RM.new (K := K) (fa := fa) (H := H) S (p := p)
    exact o _ _ _ S2 (S.evn hp) ⟨a, h3, h4⟩
  | true =>
    refine PE.weak pe_dnewT fun σ H Q ⟨L, σa, h, S, E, o⟩ p hp => ?_
    have S2 : SRh K fa (L.push p) (h ++ [.dct true [] []]) (upd H p (.dT [])) := S.new hp ⟨[], ⟨[], rfl, rfl, Nat.zero_le _, upd_same⟩, rfl⟩
    obtain ⟨a, h3, h4⟩ := RM.new (K := K) (fa := fa) (H := H) S (p := p)
    exact o _ _ _ S2 (S.evn hp) ⟨a, h3, h4⟩

/-! ### tests -/
/-- its answer is a truth -/
def IsB (T : GT) (m : Ex) : Prop := ∀ σa h v h', evE T m σa h = .ok v h' → ∃ b, v = .d (.bl b)
theorem tT_tB {m : Ex} (hB : IsB T m) {σ : L2.St} {H : Hp} {Q : Bool → Hp → Prop} (x : tT K fa T W m σ H Q) : tE K fa T W m σ H fun x H1 => ∃ c, x = .bl c ∧ Q c H1 := by
  obtain ⟨L, σa, h, S, E, o⟩ := x
  refine ⟨L, σa, h, S, E, Out.mono (Out.bindE (f := truthM) o) fun u H1 ⟨L1, h1, v, q, S1, e1, rv, o1⟩ => ?_⟩
  obtain ⟨b, rfl⟩ := hB _ _ _ _ q
  cases rv
  exact ⟨b, rfl, o1 L1 H1 b S1 (Ev.refl _ _) rfl⟩
theorem m_tst {e : Expr} {m : Ex} (hB : IsB T m) (he : PE X e (tE K fa T W m)) (hw : ∀ whole, isTrue e X.env whole = (do let v ← whole; standAt e.pos; holding [v] (truthy v))) : PT X e (tT K fa T W m) :=
  PT.weak (pt_val he hw) fun σ H Q x => tT_tB hB x
theorem m_tcmp {a b : Expr} {ma mb : Ex} {op : CmpOp} {o : Cop} {r : R2} {pos : Pos} (hB : IsB T (.cmp o ma mb)) (ho : OpR X (compareOp op) r) (hr : Bin2R K fa (cmpB o) r) (ha : PE X a (tE K fa T W ma)) (hb : PE X b (tE K fa T W mb)) (hm : behindInMarks op b = false) : PT X (.Compare a [op] [b] pos) (tT K fa T W (.cmp o ma mb)) :=
  PT.weak (pt_cmpR ho ha hb hm) fun σ H Q x => tE_bin hr (fun _ _ => rfl) (tT_tB hB x)
theorem m_tru {e : Expr} {m : Ex} (he : PE X e (tE X.K fa T W m)) (hw : ∀ whole, isTrue e X.env whole = (do let v ← whole; standAt e.pos; holding [v] (truthy v))) : PT X e (tT X.K fa T W m) :=
  PT.weak (pt_truth he hw) fun σ H Q ⟨L, σa, h, S, E, o⟩ => by
    refine ⟨L, σa, h, S, E, Out.mono (Out.bindE (f := truthM) o) fun u H1 ⟨L1, h1, v, q, S1, e1, rv, o1⟩ => ?_⟩
    exact truth_run S1 rv o1
theorem bin2_ok {f : AV → AV → Option AV} {v w z : MV} {h h' : AH} (e : bin2 f v w h = .ok z h') : ∃ a b c, f a b = some c ∧ z = .d c ∧ h' = h := by
  unfold bin2 at e
  cases q1 : view v h with
  | none => rw [q1] at e; cases e
  | some a =>
    cases q2 : view w h with
    | none => rw [q1, q2] at e; cases e
    | some b =>
      rw [q1, q2] at e
      replace e : optV (f a b) h = .ok z h' := e
      cases q : f a b with
      | none => rw [q] at e; cases e
      | some c => rw [q] at e; cases e; exact ⟨a, b, c, q, rfl, rfl⟩
theorem cmpB_ok {o : Cop} {a b c : AV} (e : cmpB o a b = some c) : ∃ k, c = .bl k := by
  unfold cmpB at e
  cases q : cmpop o a b with
  | none => rw [q] at e; cases e
  | some k => rw [q] at e; cases e; exact ⟨k, rfl⟩
theorem isB_cmp {o : Cop} {a b : Ex} : IsB T (.cmp o a b) := fun σa h v h' e => by
  obtain ⟨x, h1, _, e⟩ := R.bind_ok (show (evE T a σa h).bind (fun v h => (evE T b σa h).bind fun w h => bin2 (cmpB o) v w h) = .ok v h' from e)
  obtain ⟨y, h2, _, e⟩ := R.bind_ok e
  obtain ⟨_, _, c, q, rfl, _⟩ := bin2_ok e
  obtain ⟨k, rfl⟩ := cmpB_ok q
  exact ⟨k, rfl⟩
theorem isB_din {n : Bool} {a b : Ex} : IsB T (.din n a b) := fun σa h v h' e => by
  obtain ⟨x, h1, _, e⟩ := R.bind_ok (show (evE T a σa h).bind (fun v h => (evE T b σa h).bind fun w h => bin2 (dinA n) v w h) = .ok v h' from e)
  obtain ⟨y, h2, _, e⟩ := R.bind_ok e
  obtain ⟨a, b, c, q, rfl, _⟩ := bin2_ok e
  unfold dinA at q
  split at q
  · rename_i t ks vs
    cases z : dctGet t ks vs a with
    | none => rw [z] at q; cases q
    | some k => rw [z] at q; cases q; exact ⟨_, rfl⟩
  · cases q
theorem isB_isi {a : Ex} {ty : Ty} : IsB T (.isi a ty) := fun σa h v h' e => by
  obtain ⟨x, h1, _, e⟩ := R.bind_ok (show (evE T a σa h).bind (fun v h => un1 (fun x => (isiA x ty).map .bl) v h) = .ok v h' from e)
  unfold un1 at e
  split at e
  · rename_i y _
    dsimp only at e
    cases z : isiA y ty with
    | none => rw [z] at e; cases e
    | some k => rw [z] at e; cases e; exact ⟨_, rfl⟩
  · cases e
theorem isB_chn {o1 o2 : Cop} {a b c : Ex} : IsB T (.chn o1 o2 a b c) := fun σa h v h' e => by
  obtain ⟨x, h1, _, e⟩ := R.bind_ok (show (evE T a σa h).bind (fun v h => (evE T b σa h).bind fun w h => (bin2 (cmpB o1) v w h).bind fun r h => match r with
    | .d (.bl true) => (evE T c σa h).bind fun z h => bin2 (cmpB o2) w z h
    | .d (.bl false) => .ok (.d (.bl false)) h
    | _ => .stuck) = .ok v h' from e)
  obtain ⟨y, h2, _, e⟩ := R.bind_ok e
  obtain ⟨r, h3, _, e⟩ := R.bind_ok e
  split at e
  · obtain ⟨z, h4, _, e⟩ := R.bind_ok e
    obtain ⟨_, _, c, q, rfl, _⟩ := bin2_ok e
    obtain ⟨k, rfl⟩ := cmpB_ok q
    exact ⟨k, rfl⟩
  · cases e; exact ⟨false, rfl⟩
  · cases e
/-- a test by its tree: whatever the whole is -/
theorem m_tnot {a : Expr} {m : Ex} {pos : Pos} (ha : PT X a (tT X.K fa T W m)) : PT X (.UnaryOp .Not a pos) (tT X.K fa T W (.not m)) :=
  PT.weak (pt_not ha) fun σ H Q ⟨L, σa, h, S, E, o⟩ => by
    refine ⟨L, σa, h, S, E, ?_⟩
    replace o : Out X.K fa W σ RBl L H (((evE T m σa h).bind fun v h => (truthM v h).bind fun b h => .ok (.d (.bl (!b))) h).bind truthM) Q := o
    show Out X.K fa W σ RBl L H ((evE T m σa h).bind truthM) _
    cases q : evE T m σa h with
    | stuck => rw [q] at o; exact o.elim
    | exc x h1 => rw [q] at o; exact o
    | ok v h1 =>
      rw [q] at o
      replace o : Out X.K fa W σ RBl L H (((truthM v h1).bind fun b h => .ok (.d (.bl (!b))) h).bind truthM) Q := o
      show Out X.K fa W σ RBl L H (truthM v h1) _
      cases q2 : truthM v h1 with
      | stuck => rw [q2] at o; exact o.elim
      | exc x h1 => rw [q2] at o; exact o
      | ok b h2 =>
        rw [q2] at o
        exact fun L' H' u S' e' r => by cases r; exact o L' H' (!b) S' e' rfl
theorem truthM_ok {v : MV} {h h2 : AH} {b : Bool} (e : truthM v h = .ok b h2) : h2 = h := by
  unfold truthM at e
  split at e
  · rename_i a _
    cases q : truthy? a with
    | none => rw [q] at e; cases e
    | some c => rw [q] at e; cases e; rfl
  · cases e
theorem m_tand {a b : Expr} {rest : List Expr} {ma mb : Ex} {pos : Pos} (ha : PT X a (tT X.K fa T W ma)) (hb : PW X (.BoolOp .And (b :: rest) pos) (tT X.K fa T W mb)) : PW X (.BoolOp .And (a :: b :: rest) pos) (tT X.K fa T W (.and ma mb)) :=
  ⟨fun whole pins s σ H Q I x => (pw_and ha hb).run whole pins s σ H Q I (by
    obtain ⟨L, σa, h, S, E, o⟩ := x
    refine ⟨L, σa, h, S, E, ?_⟩
    replace o : Out X.K fa W σ RBl L H (((evE T ma σa h).bind fun v h => (truthM v h).bind fun k h => if k = true then evE T mb σa h else .ok v h).bind truthM) Q := o
    show Out X.K fa W σ RBl L H ((evE T ma σa h).bind truthM) _
    cases q : evE T ma σa h with
    | stuck => rw [q] at o; exact o.elim
    | exc x h1 => rw [q] at o; exact o
    | ok v h1 =>
      rw [q] at o
      replace o : Out X.K fa W σ RBl L H (((truthM v h1).bind fun k h => if k = true then evE T mb σa h else .ok v h).bind truthM) Q := o
      show Out X.K fa W σ RBl L H (truthM v h1) _
      cases q2 : truthM v h1 with
      | stuck => rw [q2] at o; exact o.elim
      | exc x h1 => rw [q2] at o; exact o
      | ok k h2 =>
        rw [q2] at o
        cases truthM_ok q2
        cases k with
        | true => exact fun L' H' u S' e' r => by cases r; exact ⟨L', σa, h1, S', E.ev e'.toEw, Out.at (r := (evE T mb σa h1).bind truthM) o e'⟩
        | false =>
          replace o : Out X.K fa W σ RBl L H (truthM v h1) Q := o
          rw [q2] at o
          exact fun L' H' u S' e' r => by cases r; exact o L' H' false S' e' rfl)⟩
theorem m_tor {a b : Expr} {rest : List Expr} {ma mb : Ex} {pos : Pos} (ha : PT X a (tT X.K fa T W ma)) (hb : PW X (.BoolOp .Or (b :: rest) pos) (tT X.K fa T W mb)) : PW X (.BoolOp .Or (a :: b :: rest) pos) (tT X.K fa T W (.or ma mb)) :=
  ⟨fun whole pins s σ H Q I x => (pw_or ha hb).run whole pins s σ H Q I (by
    obtain ⟨L, σa, h, S, E, o⟩ := x
    refine ⟨L, σa, h, S, E, ?_⟩
    replace o : Out X.K fa W σ RBl L H (((evE T ma σa h).bind fun v h => (truthM v h).bind fun k h => if k = true then .ok v h else evE T mb σa h).bind truthM) Q := o
    show Out X.K fa W σ RBl L H ((evE T ma σa h).bind truthM) _
    cases q : evE T ma σa h with
    | stuck => rw [q] at o; exact o.elim
    | exc x h1 => rw [q] at o; exact o
    | ok v h1 =>
      rw [q] at o
      replace o : Out X.K fa W σ RBl L H (((truthM v h1).bind fun k h => if k = true then .ok v h else evE T mb σa h).bind truthM) Q := o
      show Out X.K fa W σ RBl L H (truthM v h1) _
      cases q2 : truthM v h1 with
      | stuck => rw [q2] at o; exact o.elim
      | exc x h1 => rw [q2] at o; exact o
      | ok k h2 =>
        rw [q2] at o
        cases truthM_ok q2
        cases k with
        | false => exact fun L' H' u S' e' r => by cases r; exact ⟨L', σa, h1, S', E.ev e'.toEw, Out.at (r := (evE T mb σa h1).bind truthM) o e'⟩
        | true =>
          replace o : Out X.K fa W σ RBl L H (truthM v h1) Q := o
          rw [q2] at o
          exact fun L' H' u S' e' r => by cases r; exact o L' H' true S' e' rfl)⟩
theorem m_tand1 {a : Expr} {ma : Ex} {pos : Pos} (ha : PT X a (tT X.K fa T W ma)) : PW X (.BoolOp .And [a] pos) (tT X.K fa T W ma) := pw_and1 ha
theorem m_tor1 {a : Expr} {ma : Ex} {pos : Pos} (ha : PT X a (tT X.K fa T W ma)) : PW X (.BoolOp .Or [a] pos) (tT X.K fa T W ma) := pw_or1 ha

/-! ### c if t else e -/
theorem m_ite {c a b : Expr} {mc ma mb : Ex} {pos : Pos} (hc : PT X c (tT X.K fa T W mc)) (ha : PE X a (tE X.K fa T W ma)) (hb : PE X b (tE X.K fa T W mb)) : PE X (.IfExp c a b pos) (tE X.K fa T W (.ite mc ma mb)) :=
  PE.weak (pe_ifExp hc ha hb) fun σ H Q ⟨L, σa, h, S, E, o⟩ => by
    refine ⟨L, σa, h, S, E, ?_⟩
    replace o : Out X.K fa W σ (RM X.K fa) L H ((evE T mc σa h).bind fun v h => (truthM v h).bind fun k h => if k = true then evE T ma σa h else evE T mb σa h) Q := o
    show Out X.K fa W σ RBl L H ((evE T mc σa h).bind truthM) _
    cases q : evE T mc σa h with
    | stuck => rw [q] at o; exact o.elim
    | exc x h1 => rw [q] at o; exact o
    | ok v h1 =>
      rw [q] at o
      replace o : Out X.K fa W σ (RM X.K fa) L H ((truthM v h1).bind fun k h => if k = true then evE T ma σa h else evE T mb σa h) Q := o
      show Out X.K fa W σ RBl L H (truthM v h1) _
      cases q2 : truthM v h1 with
      | stuck => rw [q2] at o; exact o.elim
      | exc x h1 => rw [q2] at o; exact o
      | ok k h2 =>
        rw [q2] at o
        cases k with
        | true => exact fun L' H' u S' e' r => by cases r; exact ⟨L', σa, h2, S', E.ev e'.toEw, Out.at (r := evE T ma σa h2) o e'⟩
        | false => exact fun L' H' u S' e' r => by cases r; exact ⟨L', σa, h2, S', E.ev e'.toEw, Out.at (r := evE T mb σa h2) o e'⟩
end
end MP

set_option Elab.async false
set_option linter.all false
set_option maxRecDepth 100000
/-! M7: slices, dicts, built-ins. -/
namespace MP
open PySem PySem.Spec PyProof.Rows L2
section
variable {K : PySem.W.Frag} {fa : FA} {T : GT} {W : WX} {L : LV} {H : Hp} {h : AH} {X : Cx}

/-! ### one value -/
def Un1R (K : PySem.W.Frag) (fa : FA) (f : AV → Option AV) (r : V → Hp → VK → Prop) : Prop :=
  ∀ {L : LV} {H : Hp} {h : AH} {x z : AV} {u : V} {Q : VK}, SRh K fa L h H → VW K fa L H x u → f x = some z → (∀ H' w, Same H H' → RA K fa L H' z w → Q w H') → r u H Q
theorem un1_run {f : AV → Option AV} {r : V → Hp → VK → Prop} (hr : Un1R K fa f r) {σ : L2.St} {v : MV} {x : V} {Q : VK} (S : SRh K fa L h H) (r1 : RM K fa L H v x) (o : Out K fa W σ (RM K fa) L H (un1 f v h) Q) : r x H Q := by
  unfold un1 at o
  cases q1 : view v h with
  | none => rw [q1] at o; exact o.elim
  | some a =>
    rw [q1] at o
    obtain ⟨z, e, k⟩ := out_optV o
    exact hr S (view_vw S r1 q1) e fun H' w s q => k L H' w (S.same s) (S.evs s) q
theorem u1_neg : Un1R K fa negA (rU fun i => .int (-i)) := by
  intro L H h x z u Q S r e k
  unfold negA at e
  split at e
  · rename_i i
    cases e; cases r
    exact ⟨i, rfl, k H _ (Same.refl _) rfl⟩
  · cases e
theorem m_neg {a : Expr} {ma : Ex} {pos : Pos} (ha : PE X a (tE X.K fa T W ma)) : PE X (.UnaryOp .USub a pos) (tE X.K fa T W (.neg ma)) :=
  PE.weak (pe_un un_neg ha) fun σ H Q ⟨L, σa, h, S, E, o⟩ => by
    replace o : Out X.K fa W σ (RM X.K fa) L H ((evE T ma σa h).bind fun v h => un1 negA v h) Q := o
    exact ⟨L, σa, h, S, E, o.bind.mono fun u H1 ⟨L1, h1, v, S1, e1, rv, o1⟩ => un1_run u1_neg S1 rv o1⟩

/-! ### slices -/
theorem RAs.cut {xs : List AV} {us : List V} (r : RAs K fa L H xs us) (lo hi : Option Int) : RAs K fa L H (cutL xs lo hi) (cutV us lo hi) := by
  unfold cutL cutV
  rw [r.length]
  exact (r.drop _).take _
theorem cutV_len (us : List V) (lo hi : Option Int) : (cutV us lo hi).length ≤ us.length := by
  unfold cutV
  rw [List.length_take, List.length_drop]
  omega
def rSlM (K : PySem.W.Frag) : V → Option Int → Option Int → Hp → VK → Prop := fun x lo hi H Q => rSlL K x lo hi H Q ∨ rSlA K x lo hi H Q ∨ rSlS x lo hi H Q
theorem sl_M : SlR X (rSlM X.K) := SlR.or sl_list (SlR.or sl_tupA sl_str)
theorem RAs.ints : ∀ xs : List Int, RAs K fa L H (xs.map AV.int) (xs.map V.int)
  | [] => rfl
  | x :: xs => ⟨.int x, _, rfl, rfl, RAs.ints xs⟩
theorem cut_whole {α : Type} (xs : List α) {lo hi : Option Int} (h1 : HT.sIx xs.length 0 lo = 0) (h2 : HT.sIx xs.length xs.length hi = xs.length) : cutL xs lo hi = xs := by
  unfold cutL
  rw [h1, h2, List.drop_zero, Nat.sub_zero, List.take_length]
theorem u1_slc {lo hi : Option Int} : Un1R K fa (fun x => slcA x lo hi) (fun x H Q => rSlM K x lo hi H Q) := by
  intro L H h x z u Q S r e k
  replace e : slcA x lo hi = some z := e
  unfold slcA at e
  split at e
  · rename_i xs
    cases e
    obtain ⟨a, us, rfl, t1, l1, q1⟩ := r
    refine .inr (.inl ⟨a, us, rfl, t1.sq, fun ⟨w1, w2⟩ => ?_, fun _ p hp => ?_⟩)
    · refine k H _ (Same.refl _) ?_
      rw [q1.length] at w1 w2
      rw [cut_whole xs w1 w2]
      exact ⟨a, us, rfl, t1, l1, q1⟩
    · exact k _ _ (same_upd hp) (RA.tup S hp (Nat.le_trans (cutV_len us _ _) l1) (q1.cut _ _))
  · rename_i xs
    cases e
    obtain ⟨a, us, rfl, t1, l1, q1⟩ := r
    exact .inl ⟨a, us, rfl, .inl (.inl t1), fun p hp => k _ _ (same_upd hp) (RA.lst S hp (Nat.le_trans (cutV_len us _ _) l1) (q1.cut _ _))⟩
  · rename_i xs
    cases e
    obtain ⟨a, rfl, t1, l1⟩ := r
    have sq : SqL K H a (xs.map V.int) := by
      rcases t1 with ⟨o, _, t1⟩ | t1
      · exact .inl (.inr ⟨o, t1⟩)
      · exact .inr t1
    exact .inl ⟨a, _, rfl, sq, fun p hp => k _ _ (same_upd hp) (RA.lst S hp (Nat.le_trans (cutV_len _ _ _) (by rw [List.length_map]; exact l1)) ((RAs.ints xs).cut _ _))⟩
  · rename_i s
    cases e
    obtain ⟨rfl, hl⟩ := r
    refine .inr (.inr ⟨s, rfl, hl, k H _ (Same.refl _) ⟨rfl, ?_⟩⟩)
    have : (cutS s lo hi).length ≤ s.length := by
      show ((s.cps.toList.drop _).take _).toArray.size ≤ s.cps.size
      rw [List.size_toArray, List.length_take, List.length_drop, Array.length_toList]
      omega
    exact Nat.le_trans this hl
  · cases e
def tPo (K : PySem.W.Frag) (fa : FA) (T : GT) (W : WX) (ms : Exs) : TO := fun σ H Q => tEs K fa T W ms σ H fun us H1 => match us with
  | [] => Q none H1
  | [.int i] => Q (some i) H1
  | _ => False
theorem m_po0 : PO X none (tPo K fa T W .nil) := ⟨fun pins s σ H Q I ⟨L, σa, h, S, E, o⟩ => po_none.run pins s σ H Q I (o L H [] S (Ev.refl _ _) rfl)⟩
theorem m_po1 {e : Expr} {m : Ex} (he : PE X e (tE K fa T W m)) : PO X (some e) (tPo K fa T W (.cons m .nil)) :=
  ⟨fun pins s σ H Q I ⟨L, σa, h, S, E, o⟩ => (po_some he).run pins s σ H Q I (by
    replace o : Out K fa W σ (RMs K fa) L H ((evE T m σa h).bind fun v h => R.ok [v] h) _ := o
    refine ⟨L, σa, h, S, E, o.bind.mono fun u H1 ⟨L1, h1, v, S1, e1, rv, o1⟩ => ?_⟩
    have z := o1 L1 H1 [u] S1 (Ev.refl _ _) ⟨u, [], rfl, rv, rfl⟩
    cases u with
    | int i => exact ⟨i, rfl, z⟩
    | _ => exact z.elim)⟩
theorem partOf_rel {l : List MV} {us : List V} {lo : Option Int} (r : RMs K fa L H l us) (e : partOf l = some lo) : (lo = none ∧ us = []) ∨ ∃ i, lo = some i ∧ us = [.int i] := by
  unfold partOf at e
  split at e
  · cases e; exact .inl ⟨rfl, r⟩
  · cases e
    obtain ⟨u, t, e1, e2, e3⟩ := r
    cases e2; cases e3
    exact .inr ⟨_, rfl, e1⟩
  · cases e
theorem m_slc {a : Expr} {lo hi : Option Expr} {ma : Ex} {ml mh : Exs} {p2 pos : Pos} (ha : PE X a (tE X.K fa T W ma)) (hl : PO X lo (tPo X.K fa T W ml)) (hh : PO X hi (tPo X.K fa T W mh)) : PE X (.Subscript a (.Slice lo hi none p2) pos) (tE X.K fa T W (.slc ma ml mh)) :=
  PE.weak (pe_slice sl_M ha hl hh) fun σ H Q ⟨L, σa, h, S, E, o⟩ => by
    replace o : Out X.K fa W σ (RM X.K fa) L H ((evE T ma σa h).bind fun v h => (evEs T ml σa h).bind fun l h => match partOf l with
      | some lo => (evEs T mh σa h).bind fun u h => match partOf u with
        | some hi => un1 (fun x => slcA x lo hi) v h
        | none => .stuck
      | none => .stuck) Q := o
    refine ⟨L, σa, h, S, E, o.bind.mono fun u H1 ⟨L1, h1, v, S1, e1, rv, o1⟩ => ?_⟩
    refine ⟨L1, σa, h1, S1, E.ev e1.toEw, o1.bind.mono fun us H2 ⟨L2, h2, l, S2, e2, rl, o2⟩ => ?_⟩
    cases ql : partOf l with
    | none =>
      rw [ql] at o2
      exact o2.elim
    | some lo =>
      rw [ql] at o2
      dsimp only at o2
      have fin : tPo X.K fa T W mh σ H2 fun hi H3 => rSlM X.K u lo hi H3 Q := by
        refine ⟨L2, σa, h2, S2, (E.ev e1.toEw).ev e2.toEw, o2.bind.mono fun ws H3 ⟨L3, h3, m, S3, e3, rm, o3⟩ => ?_⟩
        split at o3
        · rename_i hi qh
          have z := un1_run u1_slc S3 (RM.ev (e2.trans e3).toEw _ _ rv) o3
          rcases partOf_rel rm qh with ⟨rfl, rfl⟩ | ⟨i, rfl, rfl⟩
          · exact z
          · exact z
        · exact o3.elim
      rcases partOf_rel rl ql with ⟨rfl, rfl⟩ | ⟨i, rfl, rfl⟩
      · exact fin
      · exact fin

/-! ### dicts: looked up -/
theorem valA_rel {κ : Type} [DecidableEq κ] {k : κ} : ∀ {kk : List κ} {vs : List AV} {us : List V}, RAs K fa L H vs us → 
    (valA (kk.zip vs) k = none ∧ valV (kk.zip us) k = none) ∨ ∃ v u, valA (kk.zip vs) k = some v ∧ valV (kk.zip us) k = some u ∧ RA K fa L H v u
  | [], _, _, _ => .inl ⟨rfl, rfl⟩
  | c :: cs, [], us, r => by rw [show us = [] from r]; exact .inl ⟨rfl, rfl⟩
  | c :: cs, v :: vs, us, ⟨u, t, e1, e2, e3⟩ => by
    rw [e1]
    by_cases hc : c = k
    · refine .inr ⟨v, u, ?_, ?_, e2⟩
      · unfold valA
        rw [List.zip_cons_cons, List.find?_cons, decide_eq_true hc]
        rfl
      · rw [List.zip_cons_cons, valV_pos hc]
    · have ih := valA_rel (k := k) (kk := cs) e3
      have h1 : valA ((c :: cs).zip (v :: vs)) k = valA (cs.zip vs) k := by
        unfold valA
        rw [List.zip_cons_cons, List.find?_cons, decide_eq_false hc]
      rw [h1, List.zip_cons_cons, valV_neg hc]
      exact ih
theorem RA.key {v : AV} {u : V} {k : L2.Key} (r : RA K fa L H v u) (e : keyK v = some k) : u = kV k := by
  cases v with
  | int i => cases e; cases r; rfl
  | str s => cases e; cases r.1; rfl
  | _ => cases e
theorem RAs.keys : ∀ {vs : List AV} {us : List V} {ks : List L2.Key}, RAs K fa L H vs us → keysK vs = some ks → us = ks.map kV
  | [], _, _, r, e => by cases e; exact r
  | v :: vs, _, ks, ⟨u, t, e1, e2, e3⟩, e => by
    unfold keysK at e
    split at e
    · rename_i k ks' q1 q2
      cases e
      rw [e1, e2.key q1, RAs.keys e3 q2]
      rfl
    · cases e
theorem dget_run {t : Bool} {ks vs : List AV} {x : AV} {u v : V} {r : Option AV} (hx : VW K fa L H x u) (hd : VW K fa L H (.dct t ks vs) v) (e : dctGet t ks vs x = some r) :
    ∃ a o, v = .ref a ∧ DGet H a u o ∧ ((r = none ∧ o = none) ∨ ∃ z w, r = some z ∧ o = some w ∧ RA K fa L H z w) := by
  obtain ⟨a, us, rfl, hd, q⟩ := hd
  cases t with
  | false =>
    obtain ⟨kk, h1, h2, h3, h4⟩ := hd
    unfold dctGet at e
    dsimp only at e
    split at e
    · rename_i k' kk' q1 q2
      cases e
      rw [h1] at q2
      cases q2
      have hk : u = kV k' := by
        cases x with
        | int i => cases q1; cases hx; rfl
        | str s => cases q1; cases hx.1; rfl
        | _ => cases q1
      refine ⟨a, valV (kk.zip us) k', rfl, by rw [hk]; exact DGet.k h4, ?_⟩
      rcases valA_rel (k := k') (kk := kk) q with ⟨z1, z2⟩ | ⟨z, w, z1, z2, z3⟩
      · exact .inl ⟨z1, z2⟩
      · exact .inr ⟨z, w, z1, z2, z3⟩
    · cases e
  | true =>
    obtain ⟨kk, h1, h2, h3, h4⟩ := hd
    unfold dctGet at e
    dsimp only at e
    split at e
    · rename_i k' kk' q1 q2
      cases e
      rw [h1] at q2
      cases q2
      cases x with
      | tup xs =>
        obtain ⟨b, ws, rfl, t1, l1, qs⟩ := hx
        have t1 := t1.2
        rw [qs.keys q1] at t1
        refine ⟨a, valV (kk.zip us) k', rfl, DGet.t h4 t1, ?_⟩
        rcases valA_rel (k := k') (kk := kk) q with ⟨z1, z2⟩ | ⟨z, w, z1, z2, z3⟩
        · exact .inl ⟨z1, z2⟩
        · exact .inr ⟨z, w, z1, z2, z3⟩
      | _ => cases q1
    · cases e
end
end MP

set_option Elab.async false
set_option linter.all false
set_option maxRecDepth 100000
/-! M8: dicts; built-in functions. -/
namespace MP
open PySem PySem.Spec PyProof.Rows L2
section
variable {K : PySem.W.Frag} {fa : FA} {T : GT} {W : WX} {L : LV} {H : Hp} {h : AH} {X : Cx}

theorem m_dgt {a k : Expr} {ma mk : Ex} {pos : Pos} (hu : X.A.units + 1 < cLine) (ha : PE X a (tE K fa T W ma)) (hk : PE X k (tE K fa T W mk)) (hs : NoSl k) : PE X (.Subscript a k pos) (tE K fa T W (.dgt ma mk)) :=
  PE.weak (pe_dget hu ha hk hs) fun σ H Q ⟨L, σa, h, S, E, o⟩ => by
    replace o : Out K fa W σ (RM K fa) L H ((evE T ma σa h).bind fun v h => (evE T mk σa h).bind fun w h => bin2 dgtA v w h) Q := o
    refine ⟨L, σa, h, S, E, o.bind.mono fun u H1 ⟨L1, h1, v, S1, e1, rv, o1⟩ => ?_⟩
    refine ⟨L1, σa, h1, S1, E.ev e1.toEw, o1.bind.mono fun w H2 ⟨L2, h2, v2, S2, e2, rw2, o2⟩ => ?_⟩
    have hr : Bin2R K fa dgtA (fun x y H2 Q => ∃ a v, x = .ref a ∧ DGet H2 a y (some v) ∧ Q v H2) := by
      intro L H h x y z u v Q S r1 r2 e k
      unfold dgtA at e
      split at e
      · split at e
        · rename_i r q
          obtain ⟨a, o, rfl, g, c⟩ := dget_run r2 r1 q
          cases e
          rcases c with ⟨z1, _⟩ | ⟨z2, w, z1, rfl, z3⟩
          · cases z1
          · cases z1
            exact ⟨a, w, rfl, g, k H w (Same.refl _) z3⟩
        · cases e
      · cases e
    exact bin2_run hr S2 (RM.ev e2.toEw _ _ rv) rw2 o2
theorem b2_din {n : Bool} : Bin2R K fa (dinA n) (fun y x H2 Q => ∃ a o, x = .ref a ∧ DGet H2 a y o ∧ Q (.bl (if n then !o.isSome else o.isSome)) H2) := by
  intro L H h x y z u v Q S r1 r2 e k
  unfold dinA at e
  split at e
  · rename_i t ks vs
    cases q : dctGet t ks vs x with
    | none => rw [q] at e; cases e
    | some r =>
      rw [q] at e
      cases e
      obtain ⟨a, o, rfl, g, c⟩ := dget_run r1 r2 q
      refine ⟨a, o, rfl, g, k H _ (Same.refl _) ?_⟩
      rcases c with ⟨rfl, rfl⟩ | ⟨z2, w, rfl, rfl, z3⟩
      · rfl
      · rfl
  · cases e
theorem tE_din {n : Bool} {mk ma : Ex} {σ : L2.St} {H : Hp} {Q : VK} (x : tE K fa T W (.din n mk ma) σ H Q) : tE K fa T W mk σ H fun y H1 => tE K fa T W ma σ H1 fun x H2 => ∃ a o, x = .ref a ∧ DGet H2 a y o ∧ Q (.bl (if n then !o.isSome else o.isSome)) H2 := by
  obtain ⟨L, σa, h, S, E, o⟩ := x
  replace o : Out K fa W σ (RM K fa) L H ((evE T mk σa h).bind fun v h => (evE T ma σa h).bind fun w h => bin2 (dinA n) v w h) Q := o
  refine ⟨L, σa, h, S, E, o.bind.mono fun u H1 ⟨L1, h1, v, S1, e1, rv, o1⟩ => ?_⟩
  refine ⟨L1, σa, h1, S1, E.ev e1.toEw, o1.bind.mono fun w H2 ⟨L2, h2, v2, S2, e2, rw2, o2⟩ => ?_⟩
  exact bin2_run b2_din S2 (RM.ev e2.toEw _ _ rv) rw2 o2
theorem m_din {a k : Expr} {ma mk : Ex} {pos : Pos} (hu : X.A.units + 1 < cLine) (hk : PE X k (tE K fa T W mk)) (ha : PE X a (tE K fa T W ma)) (hm : behindInMarks .In a = false) : PE X (.Compare k [.In] [a] pos) (tE K fa T W (.din false mk ma)) :=
  PE.weak (pe_cmp (pc_din hu hk ha) hm) fun σ H Q x => tE_din x
theorem m_dni {a k : Expr} {ma mk : Ex} {pos : Pos} (hu : X.A.units + 1 < cLine) (hk : PE X k (tE K fa T W mk)) (ha : PE X a (tE K fa T W ma)) (hm : behindInMarks .NotIn a = false) : PE X (.Compare k [.NotIn] [a] pos) (tE K fa T W (.din true mk ma)) :=
  PE.weak (pe_cmp (pc_dnotin hu hk ha) hm) fun σ H Q x => tE_din x
theorem m_tdin {a k : Expr} {ma mk : Ex} {pos : Pos} (hu : X.A.units + 1 < cLine) (hk : PE X k (tE K fa T W mk)) (ha : PE X a (tE K fa T W ma)) (hm : behindInMarks .In a = false) : PT X (.Compare k [.In] [a] pos) (tT K fa T W (.din false mk ma)) :=
  PT.weak (pt_cmp (pc_din hu hk ha) hm) fun σ H Q x => tE_din (tT_tB isB_din x)
theorem m_tdni {a k : Expr} {ma mk : Ex} {pos : Pos} (hu : X.A.units + 1 < cLine) (hk : PE X k (tE K fa T W mk)) (ha : PE X a (tE K fa T W ma)) (hm : behindInMarks .NotIn a = false) : PT X (.Compare k [.NotIn] [a] pos) (tT K fa T W (.din true mk ma)) :=
  PT.weak (pt_cmp (pc_dnotin hu hk ha) hm) fun σ H Q x => tE_din (tT_tB isB_din x)

/-! ### built-in functions and classes -/
def VWs (K : PySem.W.Frag) (fa : FA) (L : LV) (H : Hp) : List AV → List V → Prop
  | [], us => us = []
  | x :: xs, us => ∃ u r, us = u :: r ∧ VW K fa L H x u ∧ VWs K fa L H xs r
theorem views_vw (S : SRh K fa L h H) : ∀ {vs : List MV} {us : List V} {xs : List AV}, RMs K fa L H vs us → views vs h = some xs → VWs K fa L H xs us
  | [], _, _, r, e => by cases e; exact r
  | v :: vs, _, xs, ⟨u, t, e1, e2, e3⟩, e => by
    unfold views at e
    split at e
    · rename_i x ys q1 q2
      cases e
      exact ⟨u, t, e1, view_vw S e2 q1, views_vw S e3 q2⟩
    · cases e
def BiR (K : PySem.W.Frag) (fa : FA) (f : List AV → Option AV) (r : List V → Hp → VK → Prop) : Prop :=
  ∀ {L : LV} {H : Hp} {h : AH} {xs : List AV} {z : AV} {us : List V} {Q : VK}, SRh K fa L h H → VWs K fa L H xs us → f xs = some z → (∀ H' w, Same H H' → RA K fa L H' z w → Q w H') → r us H Q
theorem tE_bi {f : Bi} {r : List V → Hp → VK → Prop} (hr : BiR K fa (biF f) r) {ms : Exs} {σ : L2.St} {H : Hp} {Q : VK} (x : tE K fa T W (.bi f ms) σ H Q) : tCB r (tEs K fa T W ms) σ H Q := by
  obtain ⟨L, σa, h, S, E, o⟩ := x
  replace o : Out K fa W σ (RM K fa) L H ((evEs T ms σa h).bind fun vs h => match views vs h with
    | some xs => optV (biF f xs) h
    | none => .stuck) Q := o
  refine ⟨L, σa, h, S, E, o.bind.mono fun us H1 ⟨L1, h1, vs, S1, e1, rv, o1⟩ => ?_⟩
  split at o1
  · rename_i xs q
    obtain ⟨z, e, k⟩ := out_optV o1
    exact hr S1 (views_vw S1 rv q) e fun H' w s q => k L1 H' w (S1.same s) (S1.evs s) q
  · exact o1.elim
theorem m_bif {f : Bi} {x : Str} {id : String} {r : List V → Hp → VK → Prop} {p pos : Pos} {e : Expr} {es : List Expr} {ms : Exs} (hc : CallR X (.builtin id) r) (hr : BiR K fa (biF f) r) (hg : Gl X x) (hm : X.mg x = none) (hv : bootBuiltins x = some (.builtin id))
    (ha : PA X (e :: es) (tEs K fa T W ms)) (hn : x ≠ "__name__") (hdb : (x == ("__debug__" : Str)) = false) (he : starEach (e :: es) X.env = (false, eval e X.env) :: starEach es X.env) (hpl : (backTo pos (starEach es X.env)).any (·.1) = false) :
    PE X (.Call (.Name x p) (e :: es) [] pos) (tE K fa T W (.bi f ms)) := PE.weak (pe_callB hc hg hm hv ha hn hdb he hpl) fun σ H Q x => tE_bi hr x
theorem m_bit {f : Bi} {x : Str} {ty : String} {r : List V → Hp → VK → Prop} {p pos : Pos} {e : Expr} {es : List Expr} {ms : Exs} (hc : CallR X (.type ty) r) (hr : BiR K fa (biF f) r) (hg : Gl X x) (hm : X.mg x = none) (hv : bootBuiltins x = some (.type ty))
    (ha : PA X (e :: es) (tEs K fa T W ms)) (hn : x ≠ "__name__") (hdb : (x == ("__debug__" : Str)) = false) (he : starEach (e :: es) X.env = (false, eval e X.env) :: starEach es X.env) (hpl : (backTo pos (starEach es X.env)).any (·.1) = false) :
    PE X (.Call (.Name x p) (e :: es) [] pos) (tE K fa T W (.bi f ms)) := PE.weak (pe_callTy hc hg hm hv ha hn hdb he hpl) fun σ H Q x => tE_bi hr x
theorem CallR.or {f : Value} {r r' : List V → Hp → VK → Prop} (a : CallR X f r) (b : CallR X f r') : CallR X f (fun xs H Q => r xs H Q ∨ r' xs H Q) := fun pins s σ H xs us Q I rv q => by
  rcases q with q | q
  · exact a pins s σ H xs us Q I rv q
  · exact b pins s σ H xs us Q I rv q

/-- len -/
def rLenM (K : PySem.W.Frag) : List V → Hp → VK → Prop := fun xs H Q => (∃ x n, xs = [x] ∧ LenV K x H n ∧ Q (.int n) H) ∨ (∃ a kvs, xs = [V.ref a] ∧ H a = some (.dK kvs) ∧ Q (.int kvs.length) H) ∨ rLenT xs H Q
theorem cr_lenM : CallR X (.builtin "len") (rLenM X.K) := CallR.or call_len (CallR.or call_lenD call_len_dT)
theorem vw1 {x : AV} {us : List V} (r : VWs K fa L H [x] us) : ∃ u, us = [u] ∧ VW K fa L H x u := by
  obtain ⟨u, t, e, r1, e2⟩ := r
  cases e2
  exact ⟨u, e, r1⟩
theorem keysK_len : ∀ {ks : List AV} {kk : List L2.Key}, keysK ks = some kk → kk.length = ks.length
  | [], _, e => by cases e; rfl
  | k :: ks, kk, e => by
    unfold keysK at e
    split at e
    · rename_i c cs q1 q2
      cases e
      rw [List.length_cons, List.length_cons, keysK_len q2]
    · cases e
theorem keysT_len : ∀ {ks : List AV} {kk : List (List L2.Key)}, keysT ks = some kk → kk.length = ks.length
  | [], _, e => by cases e; rfl
  | k :: ks, kk, e => by
    unfold keysT at e
    split at e
    · rename_i c cs q1 q2
      cases e
      rw [List.length_cons, List.length_cons, keysT_len q2]
    · cases e
theorem one_run {g : AV → Option AV} {xs : List AV} {us : List V} {z : AV} (r : VWs K fa L H xs us) (e : one g xs = some z) : ∃ x u, us = [u] ∧ VW K fa L H x u ∧ g x = some z := by
  unfold one at e
  split at e
  · obtain ⟨u, h1, h2⟩ := vw1 r
    exact ⟨_, u, h1, h2, e⟩
  · cases e
theorem bi_len : BiR K fa (biF .len) (rLenM K) := by
  intro L H h xs z us Q S r e k
  obtain ⟨x, u, rfl, r1, e⟩ := one_run (g := lenA) r e
  unfold lenA at e
  split at e
  · cases e
    obtain ⟨a, ws, rfl, t1, l1, q1⟩ := r1
    exact .inl ⟨_, ws.length, rfl, .inr ⟨ws, t1.sq, rfl⟩, k H _ (Same.refl _) (by rw [q1.length]; exact rfl)⟩
  · cases e
    obtain ⟨a, ws, rfl, t1, l1, q1⟩ := r1
    exact .inl ⟨_, ws.length, rfl, .inr ⟨ws, t1.sq, rfl⟩, k H _ (Same.refl _) (by rw [q1.length]; exact rfl)⟩
  · cases e
    obtain ⟨a, ws, rfl, t1, l1, q1⟩ := r1
    exact .inl ⟨_, ws.length, rfl, .inl ⟨ws, .inl (.inl t1), rfl⟩, k H _ (Same.refl _) (by rw [q1.length]; exact rfl)⟩
  · rename_i t ks vs
    cases e
    obtain ⟨a, ws, rfl, t1, q1⟩ := r1
    cases t with
    | false =>
      obtain ⟨kk, h1, h2, h3, h4⟩ := t1
      refine .inr (.inl ⟨a, _, rfl, h4, k H _ (Same.refl _) ?_⟩)
      show V.int _ = V.int _
      rw [List.length_zip, h2, Nat.min_self, ← h2, keysK_len h1]
    | true =>
      obtain ⟨kk, h1, h2, h3, h4⟩ := t1
      refine .inr (.inr ⟨a, _, rfl, h4, k H _ (Same.refl _) ?_⟩)
      show V.int _ = V.int _
      rw [List.length_zip, h2, Nat.min_self, ← h2, keysT_len h1]
  · cases e
    obtain ⟨rfl, hl⟩ := r1
    exact .inl ⟨_, _, rfl, ⟨hl, rfl⟩, k H _ (Same.refl _) rfl⟩
  · cases e
theorem bi_abs : BiR K fa (biF .abs) (fun xs H Q => ∃ i, xs = [.int i] ∧ Q (.int (if i < 0 then -i else i)) H) := by
  intro L H h xs z us Q S r e k
  obtain ⟨x, u, rfl, r1, e⟩ := one_run (g := absA) r e
  unfold absA at e
  split at e
  · cases e; cases r1
    exact ⟨_, rfl, k H _ (Same.refl _) rfl⟩
  · cases e
theorem bi_int : BiR K fa (biF .int) (fun xs H Q => (∃ i, xs = [.int i] ∧ Q (.int i) H) ∨ ∃ k, xs = [.bl k] ∧ Q (.int (if k then 1 else 0)) H) := by
  intro L H h xs z us Q S r e k
  obtain ⟨x, u, rfl, r1, e⟩ := one_run (g := intA1) r e
  unfold intA1 at e
  split at e
  · cases e; cases r1
    exact .inl ⟨_, rfl, k H _ (Same.refl _) rfl⟩
  · cases e; cases r1
    exact .inr ⟨_, rfl, k H _ (Same.refl _) rfl⟩
  · cases e
theorem RAs.ints_of : ∀ {xs : List AV} {us : List V} {is : List Int}, RAs K fa L H xs us → intsOf xs = some is → us = is.map V.int
  | [], _, _, r, e => by cases e; exact r
  | x :: xs, _, is, ⟨u, t, e1, e2, e3⟩, e => by
    unfold intsOf at e
    split at e
    · rename_i heq; cases heq
    · rename_i i r heq
      cases heq
      split at e
      · rename_i js q
        cases e
        cases e2
        rw [e1, RAs.ints_of e3 q]
        rfl
      · cases e
    · cases e
theorem RAs.bls_of : ∀ {xs : List AV} {us : List V} {is : List Bool}, RAs K fa L H xs us → blsOf xs = some is → us = is.map V.bl
  | [], _, _, r, e => by cases e; exact r
  | x :: xs, _, is, ⟨u, t, e1, e2, e3⟩, e => by
    unfold blsOf at e
    split at e
    · rename_i heq; cases heq
    · rename_i i r heq
      cases heq
      split at e
      · rename_i js q
        cases e
        cases e2
        rw [e1, RAs.bls_of e3 q]
        rfl
      · cases e
    · cases e
theorem bls_run {g : List Bool → Bool} {v z : AV} {u : V} (r : VW K fa L H v u) (e : blsA g v = some z) : ∃ a bs, u = .ref a ∧ SqL K H a (bs.map V.bl) ∧ z = .bl (g bs) := by
  unfold blsA at e
  split at e
  · split at e
    · rename_i is q
      cases e
      obtain ⟨a, us, rfl, t1, l1, q1⟩ := r
      rw [q1.bls_of q] at t1
      exact ⟨a, is, rfl, .inl (.inl t1), rfl⟩
    · cases e
  · cases e
theorem bi_all : BiR K fa (biF .all) (rAll K) := by
  intro L H h xs z us Q S r e k
  obtain ⟨x, u, rfl, r1, e⟩ := one_run (g := blsA fun bs => bs.all id) r e
  obtain ⟨a, bs, rfl, h1, rfl⟩ := bls_run r1 e
  exact ⟨a, bs, rfl, h1, k H _ (Same.refl _) rfl⟩
theorem bi_any : BiR K fa (biF .any) (rAny K) := by
  intro L H h xs z us Q S r e k
  obtain ⟨x, u, rfl, r1, e⟩ := one_run (g := blsA fun bs => bs.any id) r e
  obtain ⟨a, bs, rfl, h1, rfl⟩ := bls_run r1 e
  exact ⟨a, bs, rfl, h1, k H _ (Same.refl _) rfl⟩
theorem ints_run {g : List Int → Option Int} {v z : AV} {u : V} (r : VW K fa L H v u) (e : intsA g v = some z) : ∃ a is m, u = .ref a ∧ SqL K H a (is.map V.int) ∧ g is = some m ∧ z = .int m := by
  unfold intsA at e
  split at e
  · split at e
    · rename_i is q
      cases q2 : g is with
      | none => rw [q2] at e; cases e
      | some m =>
        rw [q2] at e
        cases e
        obtain ⟨a, us, rfl, t1, l1, q1⟩ := r
        rw [q1.ints_of q] at t1
        exact ⟨a, is, m, rfl, .inl (.inl t1), q2, rfl⟩
    · cases e
  · cases e
theorem foldl_max_ge : ∀ (xs : List Int) (x : Int), x ≤ xs.foldl max x ∧ ∀ y ∈ xs, y ≤ xs.foldl max x
  | [], x => ⟨Int.le_refl _, fun _ h => nomatch h⟩
  | z :: zs, x => by
    have := foldl_max_ge zs (max x z)
    rw [List.foldl_cons]
    refine ⟨by omega, fun y hy => ?_⟩
    rcases List.mem_cons.mp hy with rfl | hy
    · omega
    · exact this.2 y hy
theorem foldl_min_le : ∀ (xs : List Int) (x : Int), xs.foldl min x ≤ x ∧ ∀ y ∈ xs, xs.foldl min x ≤ y
  | [], x => ⟨Int.le_refl _, fun _ h => nomatch h⟩
  | z :: zs, x => by
    have := foldl_min_le zs (min x z)
    rw [List.foldl_cons]
    refine ⟨by omega, fun y hy => ?_⟩
    rcases List.mem_cons.mp hy with rfl | hy
    · omega
    · exact this.2 y hy
theorem foldl_max_mem : ∀ (xs : List Int) (x : Int), xs.foldl max x = x ∨ xs.foldl max x ∈ xs
  | [], x => .inl rfl
  | z :: zs, x => by
    rw [List.foldl_cons]
    rcases foldl_max_mem zs (max x z) with e | e
    · rw [e]
      by_cases h : x ≤ z
      · exact .inr (by rw [Int.max_eq_right h]; exact List.mem_cons_self)
      · exact .inl (Int.max_eq_left (by omega))
    · exact .inr (List.mem_cons_of_mem _ e)
theorem foldl_min_mem : ∀ (xs : List Int) (x : Int), xs.foldl min x = x ∨ xs.foldl min x ∈ xs
  | [], x => .inl rfl
  | z :: zs, x => by
    rw [List.foldl_cons]
    rcases foldl_min_mem zs (min x z) with e | e
    · rw [e]
      by_cases h : z ≤ x
      · exact .inr (by rw [Int.min_eq_right h]; exact List.mem_cons_self)
      · exact .inl (Int.min_eq_left (by omega))
    · exact .inr (List.mem_cons_of_mem _ e)
theorem bi_max : BiR K fa (biF .max) (rMax K) := by
  intro L H h xs z us Q S r e k
  obtain ⟨x, u, rfl, r1, e⟩ := one_run (g := intsA maxI) r e
  obtain ⟨a, is, m, rfl, h1, h2, rfl⟩ := ints_run r1 e
  cases is with
  | nil => cases h2
  | cons i is =>
    cases h2
    refine ⟨a, _, rfl, h1, Nat.zero_lt_succ _, fun m hm hle => ?_⟩
    have e : m = is.foldl max i := by
      have a1 := hle (is.foldl max i) (by
        rcases foldl_max_mem is i with e | e
        · rw [e]; exact List.mem_cons_self
        · exact List.mem_cons_of_mem _ e)
      have a2 := foldl_max_ge is i
      rcases List.mem_cons.mp hm with rfl | hm
      · omega
      · have := a2.2 m hm; omega
    subst e
    exact k H _ (Same.refl _) rfl
theorem bi_min : BiR K fa (biF .min) (rMin K) := by
  intro L H h xs z us Q S r e k
  obtain ⟨x, u, rfl, r1, e⟩ := one_run (g := intsA minI) r e
  obtain ⟨a, is, m, rfl, h1, h2, rfl⟩ := ints_run r1 e
  cases is with
  | nil => cases h2
  | cons i is =>
    cases h2
    refine ⟨a, _, rfl, h1, Nat.zero_lt_succ _, fun m hm hle => ?_⟩
    have e : m = is.foldl min i := by
      have a1 := hle (is.foldl min i) (by
        rcases foldl_min_mem is i with e | e
        · rw [e]; exact List.mem_cons_self
        · exact List.mem_cons_of_mem _ e)
      have a2 := foldl_min_le is i
      rcases List.mem_cons.mp hm with rfl | hm
      · omega
      · have := a2.2 m hm; omega
    subst e
    exact k H _ (Same.refl _) rfl
theorem bi_sum : BiR K fa (biF .sum) (rSum K) := by
  intro L H h xs z us Q S r e k
  obtain ⟨x, u, rfl, r1, e⟩ := one_run (g := intsA fun is => some is.sum) r e
  obtain ⟨a, is, m, rfl, h1, h2, rfl⟩ := ints_run r1 e
  cases h2
  exact ⟨a, _, rfl, h1, k H _ (Same.refl _) rfl⟩
theorem bi_tuple : BiR K fa (biF .tuple) (fun xs H Q => ∃ p ys, xs = [.ref p] ∧ ((SqL K H p ys ∧ ∀ l, H l = none → Q (.ref l) (upd H l (.tup ys))) ∨ (SqT K H p ys ∧ Q (.ref p) H))) := by
  intro L H h xs z us Q S r e k
  obtain ⟨x, u, rfl, r1, e⟩ := one_run (g := tupA) r e
  unfold tupA at e
  split at e
  · cases e
    obtain ⟨a, ws, rfl, t1, l1, q1⟩ := r1
    exact ⟨a, ws, rfl, .inl ⟨.inl (.inl t1), fun p hp => k _ _ (same_upd hp) (RA.tup S hp l1 q1)⟩⟩
  · cases e
    obtain ⟨a, ws, rfl, t1, l1, q1⟩ := r1
    exact ⟨a, ws, rfl, .inr ⟨t1.sq, k H _ (Same.refl _) ⟨a, ws, rfl, t1, l1, q1⟩⟩⟩
  · cases e
theorem bi_list : BiR K fa (biF .list) (fun xs H Q => ∃ p ys, xs = [.ref p] ∧ (SqL K H p ys ∨ SqT K H p ys) ∧ ∀ l, H l = none → Q (.ref l) (upd H l (.lst ys))) := by
  intro L H h xs z us Q S r e k
  obtain ⟨x, u, rfl, r1, e⟩ := one_run (g := lstA) r e
  unfold lstA at e
  split at e
  · cases e
    obtain ⟨a, ws, rfl, t1, l1, q1⟩ := r1
    exact ⟨a, ws, rfl, .inl (.inl (.inl t1)), fun p hp => k _ _ (same_upd hp) (RA.lst S hp l1 q1)⟩
  · cases e
    obtain ⟨a, ws, rfl, t1, l1, q1⟩ := r1
    exact ⟨a, ws, rfl, .inr t1.sq, fun p hp => k _ _ (same_upd hp) (RA.lst S hp l1 q1)⟩
  · cases e
end
end MP

set_option Elab.async false
set_option linter.all false
set_option maxRecDepth 100000
/-! M9: repr, sorted. -/
namespace MP
open PySem PySem.Spec PyProof.Rows L2
section
variable {K : PySem.W.Frag} {fa : FA} {T : GT} {W : WX} {L : LV} {H : Hp} {h : AH} {X : Cx}

/-! ### repr -/
def rReprM (K : PySem.W.Frag) : List V → Hp → VK → Prop := fun xs H Q => ∃ a d, xs = [.ref a] ∧ Dp K H (.ref a) d ∧ SeqAt.shaped d = true ∧ d.showable = true ∧ d.shown.length ≤ sizeLine ∧ Q (.str d.shown) H
theorem cr_repr (hg : X.A.guards = some []) (hu : X.A.units + 65 < cLine) : CallR X (.builtin "repr") (rReprM X.K) := by
  intro pins s σ H xs us Q I r h
  obtain ⟨a, d, rfl, hd, sd, hs, hz, q⟩ := h
  obtain ⟨u, rfl, ru⟩ := vals1 r
  cases ru
  obtain ⟨as, rd⟩ := Dp.reads I d (.ref a) _ hd rfl
  have hdep := SeqAt.depth_of_shaped sd
  have hno : d.hasDict = false := PyData.hasDict_of_canLay d (SeqAt.canLay_of_shaped sd)
  refine repr_of_reads' rd hs (fun e => by rw [hno] at e; cases e) hg (by omega) (fun _ _ e => e) (fun h' u tk k => ?_) hz
  exact ⟨.str d.shown, H, I.kept k, ⟨u, rfl⟩, q⟩
theorem rep_run {v z : AV} {u : V} (r : VW K fa L H v u) (e : repA v = some z) : ∃ a, u = .ref a ∧ Dp K H (.ref a) v.toD ∧ SeqAt.shaped v.toD = true ∧ v.toD.showable = true ∧ v.toD.shown.length ≤ sizeLine ∧ z = .str v.toD.shown := by
  have gen : ∀ {z : AV}, (if v.shp && v.toD.showable && decide (v.toD.shown.length ≤ sizeLine) then some (AV.str v.toD.shown) else none) = some z → v.pl = true ∧ SeqAt.shaped v.toD = true ∧ v.toD.showable = true ∧ v.toD.shown.length ≤ sizeLine ∧ z = .str v.toD.shown := by
    intro z e
    split at e
    · rename_i hc
      cases e
      rw [Bool.and_eq_true, Bool.and_eq_true] at hc
      obtain ⟨⟨h1, h2⟩, h3⟩ := hc
      obtain ⟨p1, s1⟩ := shp_pl h1
      exact ⟨p1, s1, h2, of_decide_eq_true h3, rfl⟩
    · cases e
  cases v with
  | tup xs =>
    obtain ⟨p1, s1, s2, s3, s4⟩ := gen e
    have d := r.dp p1
    obtain ⟨a, us, rfl, _⟩ := r
    exact ⟨a, rfl, d, s1, s2, s3, s4⟩
  | lst xs =>
    obtain ⟨p1, s1, s2, s3, s4⟩ := gen e
    have d := r.dp p1
    obtain ⟨a, us, rfl, _⟩ := r
    exact ⟨a, rfl, d, s1, s2, s3, s4⟩
  | _ => cases e
theorem bi_repr : BiR K fa (biF .repr) (rReprM K) := by
  intro L H h xs z us Q S r e k
  obtain ⟨x, u, rfl, r1, e⟩ := one_run (g := repA) r e
  obtain ⟨a, rfl, h1, h2, h3, h4, rfl⟩ := rep_run r1 e
  exact ⟨a, _, rfl, h1, h2, h3, h4, k H _ (Same.refl _) ⟨rfl, h4⟩⟩

/-! ### sorted -/
def rSortM (K : PySem.W.Frag) : List V → Hp → VK → Prop := fun xs H Q => ∃ (a : Addr) (ps : List (AV × V)), xs = [.ref a] ∧ SqL K H a (ps.map (·.2)) ∧ ps.length ≤ sizeLine ∧ (∀ p ∈ ps, Dp K H p.2 p.1.toD) ∧
  PySem.W.AllAlike (ps.map fun p => p.1.toD) ∧ PySem.W.Sortable (ps.map fun p => p.1.toD) ∧ (∀ p ∈ ps, p.1.toD.depth ≤ 64) ∧
  ∀ p, H p = none → Q (.ref p) (upd H p (.lst ((ps.mergeSort (PySem.W.dataLe false fun p => p.1.toD)).map (·.2))))
theorem each_of {s : Shared} {σ : L2.St} {pins : List (Addr × Obj)} (I : Inv X pins σ H s) : ∀ {ps : List (AV × V)} {vs : List Value}, Vals (ps.map (·.2)) vs → (∀ p ∈ ps, Dp X.K H p.2 p.1.toD) →
    PySem.W.EachIs (fun v (b : AV × V) => RelV b.2 v) vs ps ∧ PySem.W.EachIs (fun v (b : AV × V) => ∃ as, Reads s.heap v b.1.toD as) vs ps
  | [], _, .nil, _ => ⟨.nil, .nil⟩
  | p :: ps, _, .cons r t, hd => by
    obtain ⟨e1, e2⟩ := each_of I t fun q hq => hd q (List.mem_cons_of_mem _ hq)
    exact ⟨.cons r e1, .cons (Dp.reads I _ _ _ (hd p List.mem_cons_self) r) e2⟩
theorem vals_each : ∀ {ps : List (AV × V)} {vs : List Value}, PySem.W.EachIs (fun v (b : AV × V) => RelV b.2 v) vs ps → Vals (ps.map (·.2)) vs
  | _, _, .nil => .nil
  | _, _, .cons r t => .cons r (vals_each t)
theorem cr_sortM (hu : X.A.units + 70 < cLine) : CallR X (.builtin "sorted") (rSortM X.K) := by
  intro pins s σ H xs us Q I r h
  obtain ⟨a, ps, rfl, hl, hz, hd, hal, hso, hdep, q⟩ := h
  obtain ⟨u, rfl, ru⟩ := vals1 r
  cases ru
  obtain ⟨its, rv, il, _⟩ := I.list hl
  obtain ⟨e1, e2⟩ := each_of I rv hd
  refine PySem.W.sorted_data (R := fun v (b : AV × V) => RelV b.2 v) (enc := fun p => p.1.toD) (by simpa using il.isList) e1 e2 hal hso hz (fun b hb => by have := hdep b hb; omega) fun out ho e3 => ?_
  obtain ⟨ep, he⟩ := PyProof.Rows.sortedAll_at s.heap its out.toArray
  have hlen : out.length = ps.length := ho
  refine ⟨.ref _, upd H (s.heap.objs.size + 1) (.lst ((ps.mergeSort (PySem.W.dataLe false fun p => p.1.toD)).map (·.2))), I.laid (t' := s.toks) (fun _ _ => PyProof.Rows.sortedAll_old) (Nat.le_succ _) ⟨?_, out, ep, vals_each e3, he⟩, rfl, q _ (I.hok.fresh (Nat.le_succ _))⟩
  rw [List.length_map, List.length_mergeSort]
  exact hz
theorem RAs.zip_snd : ∀ {xs : List AV} {us : List V}, RAs K fa L H xs us → (xs.zip us).map (·.2) = us
  | [], _, r => by rw [show _ = [] from r]; rfl
  | x :: xs, _, ⟨u, t, e1, e2, e3⟩ => by rw [e1, List.zip_cons_cons, List.map_cons, RAs.zip_snd e3]
theorem RAs.zip_fst : ∀ {xs : List AV} {us : List V}, RAs K fa L H xs us → (xs.zip us).map (·.1) = xs
  | [], _, r => rfl
  | x :: xs, _, ⟨u, t, e1, e2, e3⟩ => by rw [e1, List.zip_cons_cons, List.map_cons, RAs.zip_fst e3]
theorem RAs.zip_mem : ∀ {xs : List AV} {us : List V}, RAs K fa L H xs us → ∀ p ∈ xs.zip us, RA K fa L H p.1 p.2
  | [], _, r => fun p hp => by simp at hp
  | x :: xs, _, ⟨u, t, e1, e2, e3⟩ => fun p hp => by
    rw [e1, List.zip_cons_cons] at hp
    rcases List.mem_cons.mp hp with rfl | hp
    · exact e2
    · exact RAs.zip_mem e3 p hp
theorem RAs.of_pairs : ∀ {ps : List (AV × V)}, (∀ p ∈ ps, RA K fa L H p.1 p.2) → RAs K fa L H (ps.map (·.1)) (ps.map (·.2))
  | [], _ => rfl
  | p :: ps, h => ⟨p.2, _, rfl, h p List.mem_cons_self, RAs.of_pairs fun q hq => h q (List.mem_cons_of_mem _ hq)⟩
/-- what sortOk says of a list -/
theorem sortOk_facts {xs : List AV} (h : sortOk xs = true) : (∀ v ∈ xs, v.pl = true ∧ SeqAt.shaped v.toD = true) ∧ PySem.W.AllAlike (xs.map AV.toD) ∧ PySem.W.Sortable (xs.map AV.toD) := by
  unfold sortOk at h
  rw [Bool.and_eq_true, Bool.and_eq_true, Bool.or_eq_true] at h
  obtain ⟨⟨h1, h2⟩, h3⟩ := h
  rw [List.all_eq_true] at h1 h2
  refine ⟨fun v hv => shp_pl (h1 v hv), fun d hd d' hd' => ?_, ?_⟩
  · obtain ⟨v, hv, rfl⟩ := List.mem_map.mp hd
    obtain ⟨w, hw, rfl⟩ := List.mem_map.mp hd'
    have := h2 v hv
    rw [List.all_eq_true] at this
    exact this w hw
  · rcases h3 with h3 | h3
    · rw [List.all_eq_true] at h3
      refine .inl fun d hd => ?_
      obtain ⟨v, hv, rfl⟩ := List.mem_map.mp hd
      have := h3 v hv
      split at this
      · exact ⟨_, _, rfl⟩
      · cases this
    · rw [List.all_eq_true] at h3
      refine .inr fun d hd => ?_
      obtain ⟨v, hv, rfl⟩ := List.mem_map.mp hd
      have := h3 v hv
      split at this
      · exact ⟨fun z => (by cases z), fun xs z => (by cases z)⟩
      · exact ⟨fun z => (by cases z), fun xs z => (by cases z)⟩
      · cases this
theorem sort_pairs {xs : List AV} {us : List V} (r : RAs K fa L H xs us) : RAs K fa L H (sortA xs) (((xs.zip us).mergeSort (PySem.W.dataLe false fun p => p.1.toD)).map (·.2)) := by
  have e : ((xs.zip us).mergeSort (PySem.W.dataLe false fun p => p.1.toD)).map (·.1) = sortA xs := by
    unfold sortA
    rw [List.map_mergeSort (r := PySem.W.dataLe false fun p : AV × V => p.1.toD) (s := PySem.W.dataLe false AV.toD) (fun _ _ _ _ => rfl), r.zip_fst]
  rw [← e]
  exact RAs.of_pairs fun p hp => r.zip_mem p ((List.mergeSort_perm _ _).mem_iff.mp hp)
theorem sortA_len {xs : List AV} : (sortA xs).length = xs.length := List.length_mergeSort _
theorem sort_run {xs : List AV} {us : List V} (r : RAs K fa L H xs us) (h : sortOk xs = true) : (∀ p ∈ xs.zip us, Dp K H p.2 p.1.toD) ∧ PySem.W.AllAlike ((xs.zip us).map fun p => p.1.toD) ∧ PySem.W.Sortable ((xs.zip us).map fun p => p.1.toD) ∧ ∀ p ∈ xs.zip us, p.1.toD.depth ≤ 64 := by
  obtain ⟨h1, h2, h3⟩ := sortOk_facts h
  have hm : ((xs.zip us).map fun p => p.1.toD) = xs.map AV.toD := by
    show (xs.zip us).map (AV.toD ∘ fun p => p.1) = _
    rw [← List.map_map, r.zip_fst]
  have mem : ∀ p ∈ xs.zip us, p.1 ∈ xs := fun p hp => (List.of_mem_zip (a := p.1) (b := p.2) hp).1
  exact ⟨fun p hp => (r.zip_mem p hp).dp (h1 p.1 (mem p hp)).1, by rw [hm]; exact h2, by rw [hm]; exact h3, fun p hp => SeqAt.depth_of_shaped (h1 p.1 (mem p hp)).2⟩
theorem bi_sortedL : ∀ {L : LV} {H : Hp} {h : AH} {xs : List AV} {z : AV} {us : List V} {Q : VK}, SRh K fa L h H → VWs K fa L H [.lst xs] us → srtA (.lst xs) = some z → (∀ H' w, Same H H' → RA K fa L H' z w → Q w H') → rSortM K us H Q := by
  intro L H h xs z us Q S r e k
  obtain ⟨u, rfl, r1⟩ := vw1 r
  unfold srtA at e
  dsimp only at e
  split at e
  · rename_i hs
    cases e
    obtain ⟨a, ws, rfl, t1, l1, q1⟩ := r1
    obtain ⟨a1, a2, a3, a4⟩ := sort_run q1 hs
    refine ⟨a, xs.zip ws, rfl, .inl (.inl (by rw [q1.zip_snd]; exact t1)), ?_, a1, a2, a3, a4, fun p hp => ?_⟩
    · rw [List.length_zip, q1.length, Nat.min_self, ← q1.length]; exact l1
    · refine k _ _ (same_upd hp) (RA.lst S hp ?_ (sort_pairs q1))
      rw [(sort_pairs q1).length, sortA_len, ← q1.length]; exact l1
  · cases e
end
end MP

set_option Elab.async false
set_option linter.all false
set_option maxRecDepth 100000
/-! M10: what is walked; loops; comprehensions. -/
namespace MP
open PySem PySem.Spec PyProof.Rows L2
section
variable {K : PySem.W.Frag} {fa : FA} {T : GT} {W : WX} {L : LV} {H : Hp} {h : AH} {X : Cx}

/-- the iterator J walks the items, as long as the cell stands -/
def Walks (K : PySem.W.Frag) (fa : FA) (L : LV) (H : Hp) (s : Src) (J : L2.It) : Prop :=
  ∀ (L' : LV) (H' : Hp) (h' : AH), SRh K fa L' h' H' → Ew L H L' H' → stillAt s.cell h' → ∀ i : Nat,
    (∀ x, s.items[i]? = some x → J.go i H' ∧ ∀ u H2, J.yld i H' u H2 → Same H' H2 ∧ RA K fa L' H2 x u) ∧ (s.items.length ≤ i → J.stop i H')
theorem Walks.ev {s : Src} {J : L2.It} {L1 : LV} {H1 : Hp} (w : Walks K fa L H s J) (e : Ew L H L1 H1) : Walks K fa L1 H1 s J := fun L' H' h' S e' c i => w L' H' h' S (e.trans e') c i
def tI (K : PySem.W.Frag) (fa : FA) (T : GT) (W : WX) (m : It) : TI := fun σ H R => ∃ L σa h, SRh K fa L h H ∧ SRe K fa L H σa σ ∧ Out K fa W σ (Walks K fa) L H (evIt T m σa h) R

theorem PI.or {tg e : Expr} {w w' : TI} (a : PI X tg e w) (b : PI X tg e w') : PI X tg e (fun σ H R => w σ H R ∨ w' σ H R) := ⟨fun pins s σ H R I q => by
  rcases q with q | q
  · exact a.run pins s σ H R I q
  · exact b.run pins s σ H R I q⟩

/-! ### what is walked -/
theorem walks_list {a : Addr} {xs : List AV} {us : List V} (n : a ∉ L) (h : H a = some (.lst us)) (q : RAs K fa L H xs us) : Walks K fa L H ⟨xs, none⟩ (Itl K a) := fun L' H' h' S e _ i => by
  have h1 := (e.keep a _ h (fun _ z => nomatch z) n).1
  have sq : SqL K H' a us := .inl (.inl h1)
  have q1 := RAs.ev e _ _ q
  refine ⟨fun x hx => ?_, fun hl => ⟨us, sq, by rw [q.length]; exact hl⟩⟩
  obtain ⟨u, hu, ru⟩ := q1.get hx
  refine ⟨⟨us, u, sq, hu⟩, fun v H2 y => ?_⟩
  obtain ⟨rfl, hy⟩ := y
  rw [hy us sq] at hu
  cases hu
  exact ⟨Same.refl _, ru⟩
theorem walks_cell {a : Addr} {j : Nat} {c : Cell} {xs : List AV} (ha : L.c[j]? = some a) (hv : c.view = some (.lst xs)) : Walks K fa L H ⟨xs, some (j, c)⟩ (Itl K a) := fun L' H' h' S e st i => by
  replace st : h'[j]? = some c := st
  have ha' : L'.c[j]? = some a := by
    obtain ⟨t, ht⟩ := e.pre
    rw [← ht, List.getElem?_append_left (List.getElem?_eq_some_iff.mp ha).1]; exact ha
  have hc := S.cells j c a st ha'
  have hx : ∃ us, H' a = some (.lst us) ∧ RAs K fa L' H' xs us := by
    cases c with
    | lst ys =>
      cases hv
      obtain ⟨us, h1, h2, h3⟩ := hc
      exact ⟨us, h1, h3⟩
    | mls ys =>
      obtain ⟨us, h1, h2, h3⟩ := hc
      replace hv : (match allD ys with | some vs => some (AV.lst vs) | none => none) = some (.lst xs) := hv
      cases q : allD ys with
      | none => rw [q] at hv; cases hv
      | some vs =>
        rw [q] at hv
        cases hv
        exact ⟨us, h1, RMs.ds h3 q⟩
    | dct t ks vs => cases hv
  obtain ⟨us, h1, q1⟩ := hx
  have sq : SqL K H' a us := .inl (.inl h1)
  refine ⟨fun x hx => ?_, fun hl => ⟨us, sq, by rw [q1.length]; exact hl⟩⟩
  obtain ⟨u, hu, ru⟩ := q1.get hx
  refine ⟨⟨us, u, sq, hu⟩, fun v H2 y => ?_⟩
  obtain ⟨rfl, hy⟩ := y
  rw [hy us sq] at hu
  cases hu
  exact ⟨Same.refl _, ru⟩
theorem walks_tup {a : Addr} {xs : List AV} {us : List V} (h : TupAt L H a us) (q : RAs K fa L H xs us) : Walks K fa L H ⟨xs, none⟩ (Itt K a) := fun L' H' h' S e _ i => by
  have sq : SqT K H' a us := (h.ev e).sq
  have q1 := RAs.ev e _ _ q
  refine ⟨fun x hx => ?_, fun hl => ⟨us, sq, by rw [q.length]; exact hl⟩⟩
  obtain ⟨u, hu, ru⟩ := q1.get hx
  refine ⟨⟨us, u, sq, hu⟩, fun v H2 y => ?_⟩
  obtain ⟨rfl, hy⟩ := y
  rw [hy us sq] at hu
  cases hu
  exact ⟨Same.refl _, ru⟩
theorem walks_ktp {a : Addr} {xs : List AV} {us : List V} (h : KT K a us) (q : RAs K fa L H xs us) : Walks K fa L H ⟨xs, none⟩ (Itt K a) := fun L' H' h' S e _ i => by
  have sq : SqT K H' a us := h.sq
  have q1 := RAs.ev e _ _ q
  refine ⟨fun x hx => ?_, fun hl => ⟨us, sq, by rw [q.length]; exact hl⟩⟩
  obtain ⟨u, hu, ru⟩ := q1.get hx
  refine ⟨⟨us, u, sq, hu⟩, fun v H2 y => ?_⟩
  obtain ⟨rfl, hy⟩ := y
  rw [hy us sq] at hu
  cases hu
  exact ⟨Same.refl _, ru⟩
theorem walks_str {z : Str} : Walks K fa L H ⟨z.cps.toList.map fun c => .str ⟨#[c]⟩, none⟩ (Its z) := fun L' H' h' S e _ i => by
  refine ⟨fun x hx => ?_, fun hl => ?_⟩
  · replace hx : (z.cps.toList.map fun c => AV.str ⟨#[c]⟩)[i]? = some x := hx
    rw [List.getElem?_map] at hx
    cases q : z.cps.toList[i]? with
    | none => rw [q] at hx; cases hx
    | some c =>
      rw [q] at hx
      cases hx
      have hi : i < z.cps.size := by simpa using (List.getElem?_eq_some_iff.mp q).1
      refine ⟨hi, fun u H2 y => ?_⟩
      obtain ⟨rfl, d, hd, rfl⟩ := y
      have : d = c := by
        rw [Array.getElem?_toList] at q
        rw [q] at hd
        exact (Option.some.inj hd).symm
      subst this
      refine ⟨Same.refl _, rfl, ?_⟩
      show (1 : Nat) ≤ sizeLine
      rw [sizeLine_eq]
      decide
  · replace hl : (z.cps.toList.map fun c => AV.str ⟨#[c]⟩).length ≤ i := hl
    rw [List.length_map, Array.length_toList] at hl
    exact hl
theorem walks_rng {lo : Int} {n : Nat} : Walks K fa L H ⟨rngItems lo n, none⟩ (Itr lo n) := fun L' H' h' S e _ i => by
  refine ⟨fun x hx => ?_, fun hl => ?_⟩
  · replace hx : (rngItems lo n)[i]? = some x := hx
    unfold rngItems at hx
    rw [List.getElem?_map] at hx
    cases q : (List.range n)[i]? with
    | none => rw [q] at hx; cases hx
    | some c =>
      rw [q] at hx
      cases hx
      have hi := List.getElem?_eq_some_iff.mp q
      obtain ⟨h1, h2⟩ := hi
      rw [List.getElem_range] at h2
      subst h2
      refine ⟨by rw [List.length_range] at h1; exact h1, fun u H2 y => ?_⟩
      obtain ⟨rfl, rfl⟩ := y
      exact ⟨Same.refl _, rfl⟩
  · replace hl : (rngItems lo n).length ≤ i := hl
    unfold rngItems at hl
    rw [List.length_map, List.length_range] at hl
    exact hl
def iOf (K : PySem.W.Frag) (t : TE) : TI := fun σ H R => iList K t σ H R ∨ iTup K t σ H R ∨ iStr t σ H R
/-- from a value to what walks it -/
theorem of_run {v : MV} {u : V} {R : L2.It → Hp → Prop} {σ : L2.St} (S : SRh K fa L h H) (r : RM K fa L H v u) (o : Out K fa W σ (Walks K fa) L H (srcOf v h) R) :
    (∃ a us, u = .ref a ∧ H a = some (.lst us) ∧ (∃ xs, view v h = some (.lst xs)) ∧ R (Itl K a) H) ∨ (∃ a us, u = .ref a ∧ SqT K H a us ∧ ((∃ xs, view v h = some (.tup xs)) ∨ ∃ xs, view v h = some (.ktp xs)) ∧ R (Itt K a) H) ∨ (∃ z, u = .str z ∧ (∃ z, view v h = some (.str z)) ∧ R (Its z) H) := by
  unfold srcOf at o
  split at o
  · rename_i xs q
    obtain ⟨a, us, rfl, t1, l1, q1⟩ := view_vw S r q
    exact .inr (.inl ⟨a, us, rfl, t1.sq, .inl ⟨_, q⟩, o L H _ S (Ev.refl _ _) (walks_tup t1 q1)⟩)
  · rename_i xs q
    obtain ⟨a, us, rfl, t1, l1, q1⟩ := view_vw S r q
    exact .inr (.inl ⟨a, us, rfl, t1.sq, .inr ⟨_, q⟩, o L H _ S (Ev.refl _ _) (walks_ktp t1 q1)⟩)
  · rename_i xs q
    cases v with
    | d v =>
      cases q
      obtain ⟨a, us, rfl, n, t1, l1, q1⟩ := r
      exact .inl ⟨a, us, rfl, t1, ⟨_, rfl⟩, o L H _ S (Ev.refl _ _) (walks_list n t1 q1)⟩
    | ref j =>
      obtain ⟨a, ha, rfl⟩ := r
      have q' : (match h[j]? with | some c => c.view | none => none) = some (.lst xs) := q
      cases qc : h[j]? with
      | none => rw [qc] at q'; cases q'
      | some c =>
        rw [qc] at q'
        have hcell : cellOf (.ref j) h = some (j, c) := by
          show (h[j]?).map _ = _
          rw [qc]
          rfl
        rw [hcell] at o
        have hw := o L H _ S (Ev.refl _ _) (walks_cell ha q')
        obtain ⟨a', us, e, t1, _⟩ := view_vw (K := K) (fa := fa) (L := L) (H := H) S (v := .ref j) (u := .ref a) ⟨a, ha, rfl⟩ q
        cases e
        exact .inl ⟨a, us, rfl, t1, ⟨_, q⟩, hw⟩
  · rename_i z q
    obtain ⟨rfl, hl⟩ := view_vw S r q
    exact .inr (.inr ⟨z, rfl, ⟨_, q⟩, o L H _ S (Ev.refl _ _) walks_str⟩)
  · exact o.elim
theorem m_iof {tg e : Expr} {m : Ex} (he : PE X e (tE X.K fa T W m)) : PI X tg e (tI X.K fa T W (.of m)) :=
  PI.weak (PI.or (pi_list he) (PI.or (pi_tup he) (pi_str he))) fun σ H R ⟨L, σa, h, S, E, o⟩ => by
    replace o : Out X.K fa W σ (Walks X.K fa) L H ((evE T m σa h).bind fun v h => srcOf v h) R := o
    have key : ∀ (P : MV → AH → Prop) (Q : V → Hp → Prop), (∀ v h1, evE T m σa h = .ok v h1 → P v h1) → (∀ L1 h1 v u H1, P v h1 → SRh X.K fa L1 h1 H1 → RM X.K fa L1 H1 v u → Out X.K fa W σ (Walks X.K fa) L1 H1 (srcOf v h1) R → Q u H1) → tE X.K fa T W m σ H Q := fun P Q hP hQ =>
      ⟨L, σa, h, S, E, o.bindE.mono fun u H1 ⟨L1, h1, v, q, S1, e1, rv, o1⟩ => hQ L1 h1 v u H1 (hP v h1 q) S1 rv o1⟩
    cases q : evE T m σa h with
    | stuck => rw [q] at o; exact o.elim
    | exc x h1 => exact .inl (key (fun _ _ => False) _ (fun v h1 e => by rw [q] at e; cases e) fun _ _ _ _ _ z => z.elim)
    | ok v0 h0 =>
      have only : ∀ v h1, evE T m σa h = .ok v h1 → v = v0 ∧ h1 = h0 := fun v h1 e => by rw [q] at e; cases e; exact ⟨rfl, rfl⟩
      cases qv : view v0 h0 with
      | none =>
        rw [q] at o
        replace o : Out X.K fa W σ (Walks X.K fa) L H (srcOf v0 h0) R := o
        unfold srcOf at o
        rw [qv] at o
        exact o.elim
      | some z =>
        refine (?_ : iList X.K _ σ H R ∨ iTup X.K _ σ H R ∨ iStr _ σ H R)
        by_cases hl : ∃ xs, z = .lst xs
        · obtain ⟨xs, rfl⟩ := hl
          refine .inl (key (fun v h1 => v = v0 ∧ h1 = h0) _ only fun L1 h1 v u H1 ⟨e1, e2⟩ S1 rv o1 => ?_)
          subst e1 e2
          rcases of_run S1 rv o1 with ⟨a, us, rfl, h2, _, h4⟩ | ⟨a, us, rfl, _, h3, _⟩ | ⟨z, rfl, ⟨_, h3⟩, _⟩
          · exact ⟨a, rfl, ⟨us, .inl (.inl h2)⟩, h4⟩
          · rcases h3 with ⟨_, h3⟩ | ⟨_, h3⟩ <;> (rw [qv] at h3; cases h3)
          · rw [qv] at h3; cases h3
        · by_cases ht : ∃ z', z = .str z'
          · obtain ⟨z', rfl⟩ := ht
            refine .inr (.inr (key (fun v h1 => v = v0 ∧ h1 = h0) _ only fun L1 h1 v u H1 ⟨e1, e2⟩ S1 rv o1 => ?_))
            subst e1 e2
            rcases of_run S1 rv o1 with ⟨a, us, rfl, h2, ⟨_, h3⟩, h4⟩ | ⟨a, us, rfl, _, h3, _⟩ | ⟨z, rfl, _, h3⟩
            · rw [qv] at h3; cases h3
            · rcases h3 with ⟨_, h3⟩ | ⟨_, h3⟩ <;> (rw [qv] at h3; cases h3)
            · exact ⟨z, rfl, h3⟩
          · refine .inr (.inl (key (fun v h1 => v = v0 ∧ h1 = h0) _ only fun L1 h1 v u H1 ⟨e1, e2⟩ S1 rv o1 => ?_))
            subst e1 e2
            rcases of_run S1 rv o1 with ⟨a, us, rfl, h2, ⟨xs, h3⟩, h4⟩ | ⟨a, us, rfl, h2, h3, h4⟩ | ⟨z', rfl, ⟨_, h3⟩, _⟩
            · exact absurd ⟨xs, by rw [qv] at h3; exact Option.some.inj h3⟩ hl
            · exact ⟨a, rfl, ⟨us, h2⟩, h4⟩
            · exact absurd ⟨_, by rw [qv] at h3; exact Option.some.inj h3⟩ ht
theorem m_rng1 {tg a : Expr} {m : Ex} {p pos : Pos} (hg : Gl X "range") (hm : X.mg "range" = none) (ha : PA X [a] (tEs K fa T W (.cons m .nil))) (hs : starEach [a] X.env = [(false, eval a X.env)]) : PI X tg (.Call (.Name "range" p) [a] [] pos) (tI K fa T W (.rng (.cons m .nil))) :=
  PI.weak (pi_range1 hg hm ha hs) fun σ H R ⟨L, σa, h, S, E, o⟩ => by
    replace o : Out K fa W σ (Walks K fa) L H ((evEs T (.cons m .nil) σa h).bind fun vs h => rngOf vs h) R := o
    refine ⟨L, σa, h, S, E, o.bindE.mono fun us H1 ⟨L1, h1, vs, q, S1, e1, rv, o1⟩ => ?_⟩
    have hl := evEs_len q
    unfold rngOf at o1
    split at o1
    · rename_i j
      obtain ⟨u, t, rfl, e2, e3⟩ := rv
      cases e2; cases e3
      split at o1
      · rename_i hb
        exact ⟨j, rfl, hb.1, hb.2, o1 L1 H1 _ S1 (Ev.refl _ _) walks_rng⟩
      · exact o1.elim
    · simp [exsLen] at hl
    · exact o1.elim
theorem m_rng2 {tg a b : Expr} {m n : Ex} {p pos : Pos} (hg : Gl X "range") (hm : X.mg "range" = none) (ha : PA X [a, b] (tEs K fa T W (.cons m (.cons n .nil)))) (hs : starEach [a, b] X.env = [(false, eval a X.env), (false, eval b X.env)]) (hs2 : starEach [b] X.env = [(false, eval b X.env)]) : PI X tg (.Call (.Name "range" p) [a, b] [] pos) (tI K fa T W (.rng (.cons m (.cons n .nil)))) :=
  PI.weak (pi_range2 hg hm ha hs hs2) fun σ H R ⟨L, σa, h, S, E, o⟩ => by
    replace o : Out K fa W σ (Walks K fa) L H ((evEs T (.cons m (.cons n .nil)) σa h).bind fun vs h => rngOf vs h) R := o
    refine ⟨L, σa, h, S, E, o.bindE.mono fun us H1 ⟨L1, h1, vs, q, S1, e1, rv, o1⟩ => ?_⟩
    have hl := evEs_len q
    unfold rngOf at o1
    split at o1
    · simp [exsLen] at hl
    · rename_i i j
      obtain ⟨u, t, rfl, e2, u2, t2, rfl, e3, e4⟩ := rv
      cases e2; cases e3; cases e4
      split at o1
      · rename_i hb
        exact ⟨i, j, rfl, ⟨hb.1.1, hb.1.2, hb.2.1, hb.2.2⟩, o1 L1 H1 _ S1 (Ev.refl _ _) walks_rng⟩
      · exact o1.elim
    · exact o1.elim
end
end MP

set_option Elab.async false
set_option linter.all false
set_option maxRecDepth 100000
/-! M11: targets, statements, loops. -/
namespace MP
open PySem PySem.Spec PyProof.Rows L2
section
variable {K : PySem.W.Frag} {fa : FA} {T : GT} {W : WX} {L : LV} {H : Hp} {h : AH} {X : Cx}

/-! ### targets -/
mutual
def tgV : Tg → List Nat
  | .nm i => [i]
  | .tp ts => tgVs ts
def tgVs : Tgs → List Nat
  | .nil => []
  | .cons t ts => tgV t ++ tgVs ts
end
/-- all stays but these names -/
def Off (vs : List Nat) (σ σ' : L2.St) : Prop := σ'.length = σ.length ∧ ∀ i, i ∉ vs → σ'[i]? = σ[i]?
theorem Off.refl {vs : List Nat} {σ : L2.St} : Off vs σ σ := ⟨rfl, fun _ _ => rfl⟩
theorem Off.trans {vs ws : List Nat} {σ σ1 σ2 : L2.St} (a : Off vs σ σ1) (b : Off ws σ1 σ2) : Off (vs ++ ws) σ σ2 :=
  ⟨b.1.trans a.1, fun i hi => (b.2 i fun z => hi (List.mem_append.mpr (.inr z))).trans (a.2 i fun z => hi (List.mem_append.mpr (.inl z)))⟩
theorem Off.set {σ : L2.St} {i : Nat} {v : Option V} : Off [i] σ (σ.set i v) := ⟨List.length_set, fun j hj => List.getElem?_set_ne fun z => hj (by rw [z]; exact List.mem_singleton.mpr rfl)⟩
def gA (K : PySem.W.Frag) (fa : FA) (t : Tg) : TG := fun u σ H Q => ∃ L σa h v σa', SRh K fa L h H ∧ SRe K fa L H σa σ ∧ RM K fa L H v u ∧ asg t v σa = some σa' ∧ ∀ σ', SRe K fa L H σa' σ' → Off (tgV t) σ σ' → Q σ' H
def gAs (K : PySem.W.Frag) (fa : FA) (ts : Tgs) : TGs := fun us σ H Q => ∃ L σa h vs σa', SRh K fa L h H ∧ SRe K fa L H σa σ ∧ RAs K fa L H vs us ∧ asgs ts vs σa = some σa' ∧ ∀ σ', SRe K fa L H σa' σ' → Off (tgVs ts) σ σ' → Q σ' H
theorem PGs.weak {X : Cx} {tg : List Expr} {t t' : TGs} (h : PGs X tg t) (w : ∀ v σ H Q, t' v σ H Q → t v σ H Q) : PGs X tg t' := ⟨fun pins s σ H v u Q I r q => h.run pins s σ H v u Q I r (w _ _ _ _ q)⟩
theorem SRe.set {σa : AEnv} {σ : L2.St} (E : SRe K fa L H σa σ) {v : MV} {u : V} (r : RM K fa L H v u) (i : Nat) : SRe K fa L H (σa.set i (some v)) (σ.set i (some u)) := by
  refine ⟨by rw [List.length_set, List.length_set]; exact E.len, fun j w e => ?_⟩
  by_cases hij : i = j
  · subst hij
    by_cases hi : i < σa.length
    · rw [List.getElem?_set_self hi] at e
      cases e
      exact ⟨u, List.getElem?_set_self (by rw [← E.len]; exact hi), r⟩
    · rw [List.getElem?_eq_none (by rw [List.length_set]; omega)] at e
      cases e
  · rw [List.getElem?_set_ne hij] at e
    obtain ⟨z, h1, h2⟩ := E.vals j w e
    exact ⟨z, by rw [List.getElem?_set_ne hij]; exact h1, h2⟩
theorem g_nm {i : Nat} {x : Str} {pos : Pos} (hN : X.N.Nodup) (hi : X.N[i]? = some x) (hx : Loc X.env.scope x) (hf : X.fn x = true ∨ X.env.scope.names.lookup x = some .local) : PG X (.Name x pos) (gA K fa (.nm i)) :=
  PG.weak (pg_name hN hi hx hf) fun v σ H Q ⟨L, σa, h, w, σa', S, E, r, e, k⟩ => by
    cases e
    exact k _ (E.set r i) Off.set
theorem gs_nil : PGs X [] (gAs K fa .nil) := PGs.weak pgs_nil fun vs σ H Q ⟨L, σa, h, ws, σa', S, E, r, e, k⟩ => by
  cases ws with
  | nil => cases e; exact ⟨r, k _ E Off.refl⟩
  | cons w ws => cases e
theorem gs_cons {e : Expr} {es : List Expr} {t : Tg} {ts : Tgs} (h1 : PG X e (gA K fa t)) (h2 : PGs X es (gAs K fa ts)) (hs : (assignEach (e :: es) X.env).map (·.2) = assign e X.env :: (assignEach es X.env).map (·.2)) : PGs X (e :: es) (gAs K fa (.cons t ts)) :=
  PGs.weak (pgs_cons h1 h2 hs) fun vs σ H Q ⟨L, σa, h, ws, σa', S, E, r, e, k⟩ => by
    cases ws with
    | nil => cases e
    | cons w ws =>
      obtain ⟨u, us, rfl, r1, r2⟩ := r
      replace e : (match asg t (.d w) σa with | some σ' => asgs ts ws σ' | none => none) = some σa' := e
      cases q : asg t (.d w) σa with
      | none => rw [q] at e; cases e
      | some σ1 =>
        rw [q] at e
        exact ⟨u, us, rfl, L, σa, h, .d w, σ1, S, E, r1, q, fun σ' E' f1 => ⟨L, σ1, h, ws, σa', S, E', r2, e, fun σ2 E2 f2 => k σ2 E2 (f1.trans f2)⟩⟩
theorem g_tp {es : List Expr} {kk n : Nat} {pos : Pos} {ts : Tgs} (hc : X.calm = true) (hn : tgLen ts = n) (h : PGs X es (gAs X.K fa ts)) (hl : (assignEach es X.env).length = n) (hst : (assignEach es X.env).findIdx? (·.1) = none) : PG X (.Tuple es kk pos) (gA X.K fa (.tp ts)) :=
  PG.weak (pg_tup hc h hl hst) fun v σ H Q ⟨L, σa, h, w, σa', S, E, r, e, k⟩ => by
    cases w with
    | ref i => cases e
    | d x =>
      cases x with
      | tup xs =>
        replace e : (if tgLen ts = xs.length then asgs ts xs σa else none) = some σa' := e
        split at e
        · rename_i hx
          obtain ⟨a, us, rfl, t1, l1, q1⟩ := r
          exact ⟨a, us, rfl, t1.sq, by rw [q1.length, ← hx]; exact hn, L, σa, h, xs, σa', S, E, q1, e, k⟩
        · cases e
      | _ => cases e

/-! ### statements -/
def OutS (K : PySem.W.Frag) (fa : FA) (W : WX) (D : Ends) (L : LV) (H : Hp) : RS → Prop
  | .nx σa h' => ∀ L' H' σ', SRh K fa L' h' H' → Ev L H L' H' → SRe K fa L' H' σa σ' → D.nx σ' H'
  | .rt v h' => ∀ L' H' u, SRh K fa L' h' H' → Ev L H L' H' → RM K fa L' H' v u → D.rt u H'
  | .bk σa h' => ∀ L' H' σ', SRh K fa L' h' H' → Ev L H L' H' → SRe K fa L' H' σa σ' → D.bk σ' H'
  | .ct σa h' => ∀ L' H' σ', SRh K fa L' h' H' → Ev L H L' H' → SRe K fa L' H' σa σ' → D.ct σ' H'
  | .exc e σa h' => ∀ L' H' σ' cls d, SRh K fa L' h' H' → Ev L H L' H' → SRe K fa L' H' σa σ' → ExcAt fa e cls d → W cls d σ' H'
  | .stuck => False
theorem OutS.at {D : Ends} {L1 : LV} {H1 : Hp} {r : RS} (o : OutS K fa W D L H r) (e : Ev L H L1 H1) : OutS K fa W D L1 H1 r := by
  cases r with
  | nx σa h => exact fun L' H' σ' S e' q => o L' H' σ' S (e.trans e') q
  | rt v h => exact fun L' H' u S e' q => o L' H' u S (e.trans e') q
  | bk σa h => exact fun L' H' σ' S e' q => o L' H' σ' S (e.trans e') q
  | ct σa h => exact fun L' H' σ' S e' q => o L' H' σ' S (e.trans e') q
  | exc x σa h => exact fun L' H' σ' c d S e' q r => o L' H' σ' c d S (e.trans e') q r
  | stuck => exact o
theorem OutS.s {α β : Type} {rel : LV → Hp → α → β → Prop} {D : Ends} {σa : AEnv} {σ : L2.St} {r : R α} {f : α → AH → RS} (E : SRe K fa L H σa σ) (o : OutS K fa W D L H (r.s σa f)) :
    Out K fa W σ rel L H r (fun u H1 => ∃ L1 h1 v, r = .ok v h1 ∧ SRh K fa L1 h1 H1 ∧ Ev L H L1 H1 ∧ rel L1 H1 v u ∧ OutS K fa W D L1 H1 (f v h1)) := by
  cases r with
  | ok v h => exact fun L' H' u S e q => ⟨L', h, v, rfl, S, e, q, o.at e⟩
  | exc x h => exact fun L' H' c d S e q => o L' H' σ c d S e (E.ev e.toEw) q
  | stuck => exact o
def tS (K : PySem.W.Frag) (fa : FA) (T : GT) (W : WX) (m : Sm) : TS := fun D σ H => ∃ L σa h, SRh K fa L h H ∧ SRe K fa L H σa σ ∧ OutS K fa W D L H (evS T m σa h)
def tSs (K : PySem.W.Frag) (fa : FA) (T : GT) (W : WX) (m : Sms) : TS := fun D σ H => ∃ L σa h, SRh K fa L h H ∧ SRe K fa L H σa σ ∧ OutS K fa W D L H (evSs T m σa h)
theorem s_nil : PSs X [] (tSs K fa T W .nil) := PSs.weak pss_nil fun D σ H ⟨L, σa, h, S, E, o⟩ => o L H σ S (Ev.refl _ _) E
theorem s_cons {st : Stmt} {rest : List Stmt} {m : Sm} {ms : Sms} (h1 : PS X st (tS K fa T W m)) (h2 : PSs X rest (tSs K fa T W ms)) : PSs X (st :: rest) (tSs K fa T W (.cons m ms)) :=
  PSs.weak (pss_cons h1 h2) fun D σ H ⟨L, σa, h, S, E, o⟩ => by
    refine ⟨L, σa, h, S, E, ?_⟩
    replace o : OutS K fa W D L H (match evS T m σa h with
      | .nx σ' h' => evSs T ms σ' h'
      | .rt v h' => .rt v h'
      | .bk σ' h' => .bk σ' h'
      | .ct σ' h' => .ct σ' h'
      | .exc e σ' h' => .exc e σ' h'
      | .stuck => .stuck) := o
    cases q : evS T m σa h with
    | nx σ1 h1 =>
      rw [q] at o
      exact fun L' H' σ' S' e' E' => ⟨L', σ1, h1, S', E', o.at e'⟩
    | rt v h1 => rw [q] at o; exact o
    | bk σ1 h1 => rw [q] at o; exact o
    | ct σ1 h1 => rw [q] at o; exact o
    | exc x σ1 h1 => rw [q] at o; exact o
    | stuck => rw [q] at o; exact o
theorem s_pas {pos : Pos} : PS X (.Pass pos) (tS K fa T W .pas) := PS.weak ps_pass fun D σ H ⟨L, σa, h, S, E, o⟩ => o L H σ S (Ev.refl _ _) E
theorem s_brk {pos : Pos} : PS X (.Break pos) (tS K fa T W .brk) := PS.weak ps_break fun D σ H ⟨L, σa, h, S, E, o⟩ => o L H σ S (Ev.refl _ _) E
theorem s_cnt {pos : Pos} : PS X (.Continue pos) (tS K fa T W .cnt) := PS.weak ps_continue fun D σ H ⟨L, σa, h, S, E, o⟩ => o L H σ S (Ev.refl _ _) E
theorem s_rnon {pos : Pos} : PS X (.Return none pos) (tS K fa T W .rnon) := PS.weak ps_retN fun D σ H ⟨L, σa, h, S, E, o⟩ => o L H .non S (Ev.refl _ _) rfl
theorem s_ret {e : Expr} {m : Ex} {pos : Pos} (he : PE X e (tE K fa T W m)) : PS X (.Return (some e) pos) (tS K fa T W (.ret m)) :=
  PS.weak (ps_ret he) fun D σ H ⟨L, σa, h, S, E, o⟩ => by
    replace o : OutS K fa W D L H ((evE T m σa h).s σa fun v h => .rt v h) := o
    exact ⟨L, σa, h, S, E, (o.s E).mono fun u H1 ⟨L1, h1, v, q, S1, e1, rv, o1⟩ => o1 L1 H1 u S1 (Ev.refl _ _) rv⟩
theorem s_ex {e : Expr} {m : Ex} {pos : Pos} (he : PE X e (tE K fa T W m)) (hs : swapsWith e none pos.line X.env = pure false) : PS X (.Expr e pos) (tS K fa T W (.ex m)) :=
  PS.weak (ps_expr he hs) fun D σ H ⟨L, σa, h, S, E, o⟩ => by
    replace o : OutS K fa W D L H ((evE T m σa h).s σa fun v h => .nx σa h) := o
    exact ⟨L, σa, h, S, E, (o.s E).mono fun u H1 ⟨L1, h1, v, q, S1, e1, rv, o1⟩ => o1 L1 H1 σ S1 (Ev.refl _ _) (E.ev e1.toEw)⟩
theorem s_ifs {c : Expr} {a b : List Stmt} {mc : Ex} {ma mb : Sms} {pos : Pos} (hc : PT X c (tT K fa T W mc)) (ha : PSs X a (tSs K fa T W ma)) (hb : PSs X b (tSs K fa T W mb)) : PS X (.If c a b pos) (tS K fa T W (.ifs mc ma mb)) :=
  PS.weak (ps_if hc ha hb) fun D σ H ⟨L, σa, h, S, E, o⟩ => by
    replace o : OutS K fa W D L H ((evT T mc σa h).s σa fun k h => if k = true then evSs T ma σa h else evSs T mb σa h) := o
    refine ⟨L, σa, h, S, E, (o.s E).mono fun u H1 ⟨L1, h1, v, q, S1, e1, rv, o1⟩ => ?_⟩
    cases rv
    cases u with
    | true => exact ⟨L1, σa, h1, S1, E.ev e1.toEw, o1⟩
    | false => exact ⟨L1, σa, h1, S1, E.ev e1.toEw, o1⟩
theorem set_fin {t : Tg} {D : Ends} {σa : AEnv} {σ : L2.St} {v : MV} {u : V} (S : SRh K fa L h H) (E : SRe K fa L H σa σ) (r : RM K fa L H v u) (o : OutS K fa W D L H (optS (asg t v σa) h)) : gA K fa t u σ H D.nx := by
  unfold optS at o
  split at o
  · rename_i σ1 q
    exact ⟨L, σa, h, v, σ1, S, E, r, q, fun σ' E' _ => o L H σ' S (Ev.refl _ _) E'⟩
  · exact o.elim
theorem tS_set {t : Tg} {m : Ex} {D : Ends} {σ : L2.St} {H : Hp} (x : tS K fa T W (.set t m) D σ H) : tAsg (tE K fa T W m) (gA K fa t) D σ H := by
  obtain ⟨L, σa, h, S, E, o⟩ := x
  replace o : OutS K fa W D L H ((evE T m σa h).s σa fun v h => optS (asg t v σa) h) := o
  exact ⟨L, σa, h, S, E, (o.s E).mono fun u H1 ⟨L1, h1, v, q, S1, e1, rv, o1⟩ => set_fin S1 (E.ev e1.toEw) rv o1⟩
theorem s_set {tg e : Expr} {t : Tg} {m : Ex} {pos : Pos} (he : PE X e (tE K fa T W m)) (hg : PG X tg (gA K fa t)) (hs : swapsWithSole [tg] e pos.line X.env = pure false) (hw : swappedStores [tg] e X.env = pure none)
    (h1 : (assignEach [tg] X.env).map (·.2) = [assign tg X.env]) : PS X (.Assign [tg] e pos) (tS K fa T W (.set t m)) := PS.weak (ps_asg he hg hs hw h1) fun D σ H x => tS_set x
theorem s_par {i j : Nat} {x y : Str} {a b : Expr} {m n : Ex} {px py pt pos : Pos} {kt k2 : Nat} {pt2 : Pos} (hc : X.calm = true) (hN : X.N.Nodup) (hi : X.N[i]? = some x) (hj : X.N[j]? = some y) (hij : i ≠ j)
    (hx : X.env.scope.names.lookup x = some .local) (hy : X.env.scope.names.lookup y = some .local) (ha : PA X [a, b] (tEs K fa T W (.cons m (.cons n .nil))))
    (hw : swappedStores [.Tuple [.Name x px, .Name y py] kt pt] (.Tuple [a, b] k2 pt2) X.env = pure (some [x, y])) : PS X (.Assign [.Tuple [.Name x px, .Name y py] kt pt] (.Tuple [a, b] k2 pt2) pos) (tS K fa T W (.par [i, j] (.cons m (.cons n .nil)))) :=
  PS.weak (ps_par hc hN hi hj hij hx hy ha hw) fun D σ H ⟨L, σa, h, S, E, o⟩ => by
    replace o : OutS K fa W D L H ((evEs T (.cons m (.cons n .nil)) σa h).s σa fun vs h => optS (setAll [i, j] vs σa) h) := o
    refine ⟨L, σa, h, S, E, (o.s E).mono fun us H1 ⟨L1, h1, vs, q, S1, e1, rv, o1⟩ => ?_⟩
    have hl := evEs_len q
    match vs, hl with
    | [v, w], _ =>
      obtain ⟨u1, t1, rfl, r1, u2, t2, rfl, r2, r3⟩ := rv
      cases r3
      exact ⟨u1, u2, rfl, o1 L1 H1 _ S1 (Ev.refl _ _) (((E.ev e1.toEw).set r1 i).set r2 j)⟩

/-! ### for -/
theorem srcOf_still {v : MV} {h h1 : AH} {s : Src} (e : srcOf v h = .ok s h1) : stillAt s.cell h1 := by
  unfold srcOf at e
  split at e
  · cases e; trivial
  · cases e; trivial
  · cases e
    cases v with
    | d v => trivial
    | ref i =>
      show stillAt ((h[i]?).map fun c => (i, c)) h
      cases q : h[i]? with
      | none => trivial
      | some c => exact q
  · cases e; trivial
  · cases e
theorem srcE_src {v : MV} {h h1 : AH} {s : Src} (e : srcE v h = .ok s h1) : srcOf v h = .ok s h1 := by
  unfold srcE at e
  unfold srcOf
  split at e
  · rename_i xs q
    rw [q]; exact e
  · rename_i xs q
    rw [q]; exact e
  · rename_i xs q
    rw [q]; exact e
  · cases e
theorem evIt_still {it : It} {σa : AEnv} {h h1 : AH} {s : Src} (e : evIt T it σa h = .ok s h1) : stillAt s.cell h1 := by
  cases it with
  | of m =>
    obtain ⟨v, h2, _, e⟩ := R.bind_ok (show (evE T m σa h).bind (fun v h => srcOf v h) = .ok s h1 from e)
    exact srcOf_still e
  | rng es =>
    obtain ⟨v, h2, _, e⟩ := R.bind_ok (show (evEs T es σa h).bind (fun v h => rngOf v h) = .ok s h1 from e)
    unfold rngOf at e
    split at e
    · split at e
      · cases e; trivial
      · cases e
    · split at e
      · cases e; trivial
      · cases e
    · cases e
  | enm m =>
    obtain ⟨v, h2, _, e⟩ := R.bind_ok (show (evE T m σa h).bind (fun v h => (srcE v h).bind fun s h => .ok ⟨enumItems 0 s.items, s.cell⟩ h) = .ok s h1 from e)
    obtain ⟨s2, h3, e2, e⟩ := R.bind_ok e
    cases e
    exact (srcOf_still (srcE_src e2) : stillAt s2.cell _)
  | zip a b =>
    obtain ⟨v, h2, _, e⟩ := R.bind_ok (show (evE T a σa h).bind (fun v h => (evE T b σa h).bind fun w h => (srcOf v h).bind fun s h => (srcOf w h).bind fun s2 h => match s.cell, s2.cell with
      | none, none => .ok ⟨zipItems s.items s2.items, none⟩ h
      | _, _ => .stuck) = .ok s h1 from e)
    obtain ⟨w, h3, _, e⟩ := R.bind_ok e
    obtain ⟨s2, h4, _, e⟩ := R.bind_ok e
    obtain ⟨s3, h5, _, e⟩ := R.bind_ok e
    split at e
    · cases e; trivial
    · cases e
theorem s_fr {tg iter : Expr} {body : List Stmt} {t : Tg} {it : It} {mb : Sms} {pos : Pos} (hp : PassesOwn (model X.prog X.w) X.A X.env X.xe) (hc : X.calm = true) (hi : PI X tg iter (tI K fa T W it)) (hg : PG X tg (gA K fa t)) (hb : PSs X body (tSs K fa T W mb))
    (hs : ∀ x, foldedSetIterable iter X.env x = pure x) : PS X (.For tg iter body [] pos) (tS K fa T W (.fr t it mb)) :=
  PS.weak (ps_for hp hc hi hg hb hs) fun D σ H ⟨L, σa, h, S, E, o⟩ => by
    let bd : AV → AEnv → AH → RS := fun x σ h => match asg t (.d x) σ with
      | some σ' => evSs T mb σ' h
      | none => .stuck
    replace o : OutS K fa W D L H ((evIt T it σa h).s σa fun s h => forL bd s.cell s.items σa h) := o
    refine ⟨L, σa, h, S, E, (o.s E).mono fun J H1 ⟨L1, h1, s, q, S1, e1, wk, o1⟩ => ?_⟩
    refine ⟨fun i m σ H => ∃ L σa h, SRh K fa L h H ∧ SRe K fa L H σa σ ∧ Ev L1 H1 L H ∧ stillAt s.cell h ∧ m = s.items.length - i ∧ OutS K fa W D L H (forL bd s.cell (s.items.drop i) σa h), ⟨s.items.length, L1, σa, h1, S1, E.ev e1.toEw, Ev.refl _ _, evIt_still q, rfl, by rw [List.drop_zero]; exact o1⟩, fun i m σ2 H2 ⟨L2, σ2a, h2, S2, E2, e2, c2, em, o2⟩ => ?_⟩
    by_cases hi : i < s.items.length
    · have hx : s.items[i]? = some s.items[i] := List.getElem?_eq_getElem hi
      have hd : s.items.drop i = s.items[i] :: s.items.drop (i + 1) := List.drop_eq_getElem_cons hi
      rw [hd] at o2
      obtain ⟨g1, g2⟩ := (wk L2 H2 h2 S2 e2.toEw c2 i).1 _ hx
      refine .inr ⟨g1, fun σ' H' => ∃ L σa h, SRh K fa L h H' ∧ SRe K fa L H' σa σ' ∧ Ev L1 H1 L H' ∧ stillAt s.cell h ∧ OutS K fa W D L H' (forL bd s.cell (s.items.drop (i + 1)) σa h), fun σ' H' ⟨L, σa, h, z1, z2, z3, z4, z5⟩ => ⟨m - 1, by omega, L, σa, h, z1, z2, z3, z4, by omega, z5⟩, fun u H3 y => ?_⟩
      obtain ⟨sm, ru⟩ := g2 u H3 y
      have S3 := S2.same sm
      have e3 : Ev L2 H2 L2 H3 := S2.evs sm
      have o3 := o2.at e3
      cases qa : asg t (.d s.items[i]) σ2a with
      | none =>
        have hb : bd s.items[i] σ2a h2 = .stuck := by show (match asg t (.d s.items[i]) σ2a with | some σ' => evSs T mb σ' h2 | none => RS.stuck) = _; rw [qa]
        unfold forL at o3
        rw [hb] at o3
        exact o3.elim
      | some σ3a =>
        have hb : bd s.items[i] σ2a h2 = evSs T mb σ3a h2 := by show (match asg t (.d s.items[i]) σ2a with | some σ' => evSs T mb σ' h2 | none => RS.stuck) = _; rw [qa]
        refine ⟨L2, σ2a, h2, .d s.items[i], σ3a, S3, E2.ev e3.toEw, ru, qa, fun σ3 E3 _ => ⟨L2, σ3a, h2, S3, E3, ?_⟩⟩
        unfold forL at o3
        rw [hb] at o3
        have e13 := e2.trans e3
        cases qb : evSs T mb σ3a h2 with
        | nx σ4a h4 =>
          rw [qb] at o3
          dsimp only at o3
          intro L' H' σ' S' e' E'
          split at o3
          · rename_i hst
            exact ⟨L', σ4a, h4, S', E', e13.trans e', hst, o3.at e'⟩
          · exact o3.elim
        | ct σ4a h4 =>
          rw [qb] at o3
          dsimp only at o3
          intro L' H' σ' S' e' E'
          split at o3
          · rename_i hst
            exact ⟨L', σ4a, h4, S', E', e13.trans e', hst, o3.at e'⟩
          · exact o3.elim
        | bk σ4a h4 => rw [qb] at o3; exact o3
        | rt v h4 => rw [qb] at o3; exact o3
        | exc x σ4a h4 => rw [qb] at o3; exact o3
        | stuck => rw [qb] at o3; exact o3
    · refine .inl ⟨(wk L2 H2 h2 S2 e2.toEw c2 i).2 (by omega), ?_⟩
      rw [List.drop_eq_nil_of_le (by omega)] at o2
      exact o2 L2 H2 σ2 S2 (Ev.refl _ _) E2
end
end MP

set_option Elab.async false
set_option linter.all false
set_option maxRecDepth 100000
/-! M12: while, stores, methods. -/
namespace MP
open PySem PySem.Spec PyProof.Rows L2
section
variable {K : PySem.W.Frag} {fa : FA} {T : GT} {W : WX} {L : LV} {H : Hp} {h : AH} {X : Cx}

/-! ### while -/
theorem s_whl {c : Expr} {body : List Stmt} {mc : Ex} {mb : Sms} {pos : Pos} (hp : PassesOwn (model X.prog X.w) X.A X.env X.xe) (hc : PT X c (tT K fa T W mc)) (hb : PSs X body (tSs K fa T W mb)) : PS X (.While c body [] pos) (tS K fa T W (.whl mc mb)) :=
  PS.weak (ps_while hp hc hb) fun D σ H ⟨L, σa, h, S, E, o⟩ => by
    replace o : OutS K fa W D L H (whlR (fun σ h => evT T mc σ h) (fun σ h => evSs T mb σ h) σa h) := o
    unfold whlR at o
    split at o
    · rename_i q
      obtain ⟨n, hn⟩ := q.choose_spec
      revert o
      generalize q.choose = r at hn
      intro o
      refine ⟨fun m σ H => ∃ L σa h, SRh K fa L h H ∧ SRe K fa L H σa σ ∧ whlN (fun σ h => evT T mc σ h) (fun σ h => evSs T mb σ h) m σa h = some r ∧ OutS K fa W D L H r, ⟨n, L, σa, h, S, E, hn, o⟩, fun m σ1 H1 ⟨L1, σ1a, h1, S1, E1, w1, o1⟩ => ?_⟩
      cases m with
      | zero => cases w1
      | succ m =>
        refine ⟨L1, σ1a, h1, S1, E1, ?_⟩
        unfold whlN at w1
        cases qc : evT T mc σ1a h1 with
        | stuck =>
          rw [qc] at w1
          cases w1
          exact o1
        | exc x h2 =>
          rw [qc] at w1
          cases w1
          exact fun L' H' cls d S' e' q => o1 L' H' σ1 cls d S' e' (E1.ev e'.toEw) q
        | ok k h2 =>
          rw [qc] at w1
          intro L2 H2 u S2 e2 ru
          cases ru
          cases k with
          | false =>
            cases w1
            exact o1 L2 H2 σ1 S2 e2 (E1.ev e2.toEw)
          | true =>
            dsimp only at w1
            rw [if_pos rfl]
            refine ⟨fun σ' H' => ∃ L σa h, SRh K fa L h H' ∧ SRe K fa L H' σa σ' ∧ whlN (fun σ h => evT T mc σ h) (fun σ h => evSs T mb σ h) m σa h = some r ∧ OutS K fa W D L H' r, fun σ' H' z => ⟨m, Nat.lt_succ_self m, z⟩, L2, σ1a, h2, S2, E1.ev e2.toEw, ?_⟩
            cases qb : evSs T mb σ1a h2 with
            | nx σ4 h4 =>
              rw [qb] at w1
              exact fun L' H' σ' S' e' E' => ⟨L', σ4, h4, S', E', w1, o1.at (e2.trans e')⟩
            | ct σ4 h4 =>
              rw [qb] at w1
              exact fun L' H' σ' S' e' E' => ⟨L', σ4, h4, S', E', w1, o1.at (e2.trans e')⟩
            | bk σ4 h4 => rw [qb] at w1; cases w1; exact o1.at e2
            | rt v h4 => rw [qb] at w1; cases w1; exact o1.at e2
            | exc x σ4 h4 => rw [qb] at w1; cases w1; exact o1.at e2
            | stuck => rw [qb] at w1; cases w1; exact o1
    · exact o.elim
theorem whlN_more {c : AEnv → AH → R Bool} {b : AEnv → AH → RS} : ∀ {n m : Nat} {σ : AEnv} {h : AH} {r : RS}, n ≤ m → whlN c b n σ h = some r → whlN c b m σ h = some r
  | 0, _, _, _, _, _, e => by cases e
  | n + 1, 0, _, _, _, hl, _ => by omega
  | n + 1, m + 1, σ, h, r, hl, e => by
    unfold whlN at e ⊢
    cases qc : c σ h with
    | stuck => rw [qc] at e; exact e
    | exc x h1 => rw [qc] at e; exact e
    | ok k h1 =>
      rw [qc] at e
      cases k with
      | false => exact e
      | true =>
        dsimp only at e ⊢
        cases qb : b σ h1 with
        | nx σ4 h4 => rw [qb] at e; exact whlN_more (by omega) e
        | ct σ4 h4 => rw [qb] at e; exact whlN_more (by omega) e
        | bk σ4 h4 => rw [qb] at e; exact e
        | rt v h4 => rw [qb] at e; exact e
        | exc x σ4 h4 => rw [qb] at e; exact e
        | stuck => rw [qb] at e; exact e
theorem whlR_eq {c : AEnv → AH → R Bool} {b : AEnv → AH → RS} {n : Nat} {σ : AEnv} {h : AH} {r : RS} (e : whlN c b n σ h = some r) : whlR c b σ h = r := by
  have q : ∃ r n, whlN c b n σ h = some r := ⟨r, n, e⟩
  unfold whlR
  rw [dif_pos q]
  obtain ⟨m, hm⟩ := q.choose_spec
  have a1 := whlN_more (Nat.le_max_left n m) e
  have a2 := whlN_more (Nat.le_max_right n m) hm
  rw [a1] at a2
  exact (Option.some.inj a2).symm

/-! ### stores -/
theorem ip_of {op : Operator} {r : R2} (ho : OpR X (inplaceOp op) r) : PIp X op r := fun pins s σ H x y v u Q I rx ry q => ho pins s σ H x y v u Q I rx ry q
/-- an operation in place, of numbers and texts -/
theorem s_aug {i : Nat} {x : Str} {e : Expr} {m : Ex} {op : Operator} {o : Bop} {r : R2} {pos pos' : Pos} (hN : X.N.Nodup) (hi : X.N[i]? = some x) (hx : Loc X.env.scope x) (he : PE X e (tE K fa T W m)) (ho : OpR X (inplaceOp op) r) (hr : Bin2R K fa (augA o) r)
    (hf : X.fn x = true ∨ X.env.scope.names.lookup x = some .local) : PS X (.AugAssign (.Name x pos') op e pos) (tS K fa T W (.aug i o m)) :=
  PS.weak (ps_aug hN hi hx he (ip_of ho) hf) fun D σ H ⟨L, σa, h, S, E, o'⟩ => by
    replace o' : OutS K fa W D L H (match σa[i]? with
      | some (some v) => (evE T m σa h).s σa fun w h => (bin2 (augA o) v w h).s σa fun r h => .nx (σa.set i (some r)) h
      | _ => .stuck) := o'
    split at o'
    · rename_i v q
      obtain ⟨u, hu, ru⟩ := E.vals i v q
      refine ⟨u, hu, L, σa, h, S, E, (o'.s E).mono fun w H1 ⟨L1, h1, v1, q1, S1, e1, rv, o1⟩ => ?_⟩
      refine bin2_run (W := W) (σ := σ) hr S1 (RM.ev e1.toEw _ _ ru) rv ((o1.s (E.ev e1.toEw)).mono fun z H2 ⟨L2, h2, v2, q2, S2, e2, rz, o2⟩ => ?_)
      exact o2 L2 H2 _ S2 (Ev.refl _ _) (((E.ev e1.toEw).ev e2.toEw).set rz i)
    · exact o'.elim
theorem aug_add : Bin2R K fa (augA .add) (fun x y H Q => rI0 (fun i j => .int (i + j)) x y H Q ∨ (∃ i j, x = .str i ∧ y = .str j ∧ i.length + j.length ≤ sizeLine ∧ Q (.str (i ++ j)) H)) := by
  intro L H h x y z u v Q S r1 r2 e k
  unfold augA at e
  split at e
  · cases e; cases r1; cases r2
    exact .inl ⟨_, _, rfl, rfl, k H _ (Same.refl _) rfl⟩
  · rename_i a b
    replace e : (if a.length + b.length ≤ sizeLine then some (AV.str (a ++ b)) else none) = some z := e
    split at e
    · rename_i hl
      cases e; cases r1.1; cases r2.1
      exact .inr ⟨_, _, rfl, rfl, hl, k H _ (Same.refl _) ⟨rfl, by rw [Str.length_append]; exact hl⟩⟩
    · cases e
  · cases e
theorem iop_addM : OpR X (inplaceOp .Add) (fun x y H Q => rI0 (fun i j => .int (i + j)) x y H Q ∨ (∃ i j, x = .str i ∧ y = .str j ∧ i.length + j.length ≤ sizeLine ∧ Q (.str (i ++ j)) H)) := OpR.or iop_add iop_add_str
theorem aug_sub : Bin2R K fa (augA .sub) (rI0 fun i j => .int (i - j)) := by
  intro L H h x y z u v Q S r1 r2 e k
  unfold augA at e
  split at e
  · cases e; cases r1; cases r2
    exact ⟨_, _, rfl, rfl, k H _ (Same.refl _) rfl⟩
  · cases e
  · cases e
theorem RAs.ixset {xs : List AV} {us : List V} {x : AV} {u : V} (n : Nat) (r : RAs K fa L H xs us) (e : RA K fa L H x u) : RAs K fa L H (xs.set n x) (us.set n u) := r.set n e
/-- a store into a list -/
theorem put_run {o i v : MV} {a b u : V} {h' : AH} (S : SRh K fa L h H) (ro : RM K fa L H o a) (ri : RM K fa L H i b) (rv : RM K fa L H v u) (e : putM o i v h = some h') :
    ∃ p xs k j, a = .ref p ∧ b = .int k ∧ H p = some (.lst xs) ∧ ixN xs.length k = some j ∧ SRh K fa L h' (upd H p (.lst (xs.set j u))) ∧ Ev L H L (upd H p (.lst (xs.set j u))) := by
  unfold putM at e
  split at e
  · rename_i j
    obtain ⟨p, hp, rfl⟩ := ro
    split at e
    · rename_i xs hc
      split at e
      · rename_i k x
        cases ri
        split at e
        · rename_i n hn
          cases e
          obtain ⟨us, h1, h2, h3⟩ := S.cells j _ p hc hp
          have ev : Ev L H L (upd H p (.lst (us.set n u))) := S.evp hp
          refine ⟨p, us, k, n, rfl, rfl, h1, by rw [h3.length]; exact hn, S.put hp ⟨_, upd_same, by rw [List.length_set]; exact h2, RAs.ev ev.toEw _ _ (h3.set n rv)⟩, ev⟩
        · cases e
      · cases e
    · rename_i xs hc
      split at e
      · rename_i k
        cases ri
        split at e
        · rename_i n hn
          cases e
          obtain ⟨us, h1, h2, h3⟩ := S.cells j _ p hc hp
          have ev : Ev L H L (upd H p (.lst (us.set n u))) := S.evp hp
          refine ⟨p, us, k, n, rfl, rfl, h1, by rw [h3.length]; exact hn, S.put hp ⟨_, upd_same, by rw [List.length_set]; exact h2, RMs.ev ev.toEw _ _ (h3.set n rv)⟩, ev⟩
        · cases e
      · cases e
    · cases e
  · cases e
theorem s_put {o i e : Expr} {mo mi me : Ex} {p' pos : Pos} (he : PE X e (tE K fa T W me)) (hg : PG X (.Subscript o i p') (gSub (tE K fa T W mo) (tE K fa T W mi) rSetL)) (hs : swapsWithSole [.Subscript o i p'] e pos.line X.env = pure false) (hw : swappedStores [.Subscript o i p'] e X.env = pure none)
    (h1 : (assignEach [.Subscript o i p'] X.env).map (·.2) = [assign (.Subscript o i p') X.env]) : PS X (.Assign [.Subscript o i p'] e pos) (tS K fa T W (.put mo mi me)) :=
  PS.weak (ps_asg he hg hs hw h1) fun D σ H ⟨L, σa, h, S, E, o'⟩ => by
    replace o' : OutS K fa W D L H ((evE T me σa h).s σa fun v h => (evE T mo σa h).s σa fun a h => (evE T mi σa h).s σa fun k h => match putM a k v h with
      | some h' => .nx σa h'
      | none => .stuck) := o'
    refine ⟨L, σa, h, S, E, (o'.s E).mono fun u H1 ⟨L1, h1, v, q1, S1, e1, rv, o1⟩ => ?_⟩
    refine ⟨L1, σa, h1, S1, E.ev e1.toEw, (o1.s (E.ev e1.toEw)).mono fun a H2 ⟨L2, h2, va, q2, S2, e2, ra, o2⟩ => ?_⟩
    refine ⟨L2, σa, h2, S2, (E.ev e1.toEw).ev e2.toEw, (o2.s ((E.ev e1.toEw).ev e2.toEw)).mono fun b H3 ⟨L3, h3, vb, q3, S3, e3, rb, o3⟩ => ?_⟩
    split at o3
    · rename_i h' q
      obtain ⟨p, xs, k, j, rfl, rfl, z1, z2, z3, z4⟩ := put_run S3 (RM.ev e3.toEw _ _ ra) rb (RM.ev (e2.trans e3).toEw _ _ rv) q
      exact ⟨p, xs, k, j, rfl, rfl, z1, z2, o3 L3 _ σ z3 z4 ((((E.ev e1.toEw).ev e2.toEw).ev e3.toEw).ev z4.toEw)⟩
    · exact o3.elim
theorem idxL_run {v w : MV} {x y : V} {σ : L2.St} {Q : VK} (hl : lstCell v h = true) (S : SRh K fa L h H) (r1 : RM K fa L H v x) (r2 : RM K fa L H w y) (o : Out K fa W σ (RM K fa) L H (idxM v w h) Q) : rIxL K x y H Q := by
  cases v with
  | d v => cases hl
  | ref j =>
    simp only [idxM] at o
    have hl' : (match h[j]? with | some (.lst _) => true | some (.mls _) => true | _ => false) = true := hl
    split at o
    · rename_i xs hc
      split at o
      · rename_i k
        obtain ⟨a, ha, rfl⟩ := r1
        cases r2
        obtain ⟨us, h1, h2, h3⟩ := S.cells j _ a hc ha
        cases q : L2.atI xs k with
        | none => rw [q] at o; exact o.elim
        | some z =>
          rw [q] at o
          obtain ⟨u, hu, ru⟩ := h3.atI q
          exact ⟨a, us, k, u, rfl, rfl, .inl (.inl h1), hu, tE_done S ru o⟩
      · exact o.elim
    · rename_i hn
      split at hl'
      · rename_i xs hc
        unfold bin2 at o
        have hv : view (.ref j) h = some (.lst xs) := by
          show (match h[j]? with | some c => c.view | none => none) = _
          rw [hc]
          rfl
        rw [hv] at o
        dsimp only at o
        cases q2 : view w h with
        | none => rw [q2] at o; exact o.elim
        | some b =>
          rw [q2] at o
          obtain ⟨z, e, k⟩ := out_optV o
          have rb := view_vw S r2 q2
          obtain ⟨a, us, e1, h1, h2, h3⟩ := view_vw S r1 hv
          cases b with
          | int i =>
            cases rb
            subst e1
            obtain ⟨u, hu, ru⟩ := h3.atI e
            exact ⟨a, us, i, u, rfl, rfl, .inl (.inl h1), hu, k L H u S (Ev.refl _ _) ru⟩
          | _ => cases e
      · rename_i xs hc
        exact absurd hc (hn xs)
      · cases hl'
theorem s_augp {o i e : Expr} {mo mi me : Ex} {op : Operator} {bo : Bop} {r : R2} {p' pos : Pos} (ho : PE X o (tE X.K fa T W mo)) (hi : PE X i (tE X.K fa T W mi)) (he : PE X e (tE X.K fa T W me)) (hop : OpR X (inplaceOp op) r) (hr : Bin2R X.K fa (augA bo) r) (hg : PGet X (fun o i H Q => rIxL X.K o i H Q))
    (ha : ∀ ov iv new, augStore i ov iv new = (do holding [new, ov, iv] (setItem ov iv new); release [new, ov, iv] []; pure .next)) : PS X (.AugAssign (.Subscript o i p') op e pos) (tS X.K fa T W (.augp mo mi bo me)) :=
  PS.weak (ps_augS ho hi hg he (ip_of hop) set_list ha) fun D σ H ⟨L, σa, h, S, E, o'⟩ => by
    replace o' : OutS X.K fa W D L H ((evE T mo σa h).s σa fun a h => (evE T mi σa h).s σa fun k h => match lstCell a h with
      | true => (idxM a k h).s σa fun v h => (evE T me σa h).s σa fun w h => (bin2 (augA bo) v w h).s σa fun r h => match putM a k r h with
        | some h' => .nx σa h'
        | none => .stuck
      | false => .stuck) := o'
    refine ⟨L, σa, h, S, E, (o'.s E).mono fun a H1 ⟨L1, h1, va, q1, S1, e1, ra, o1⟩ => ?_⟩
    refine ⟨L1, σa, h1, S1, E.ev e1.toEw, (o1.s (E.ev e1.toEw)).mono fun b H2 ⟨L2, h2, vb, q2, S2, e2, rb, o2⟩ => ?_⟩
    have E2 := (E.ev e1.toEw).ev e2.toEw
    have ra2 := RM.ev e2.toEw _ _ ra
    cases hl : lstCell va h2 with
    | false => rw [hl] at o2; exact o2.elim
    | true =>
    rw [hl] at o2
    dsimp only at o2
    have ix := idxL_run (W := W) (σ := σ) hl S2 ra2 rb ((o2.s E2).mono (Q' := fun v H3 => tE X.K fa T W me σ H3 fun y H4 => r v y H4 fun z H5 => rSetL a b z H5 fun H6 => D.nx σ H6) fun v H3 ⟨L3, h3, v3, q3, S3, e3, r3, o3⟩ => ?_)
    · exact ix
    · refine ⟨L3, σa, h3, S3, E2.ev e3.toEw, (o3.s (E2.ev e3.toEw)).mono fun y H4 ⟨L4, h4, v4, q4, S4, e4, r4, o4⟩ => ?_⟩
      have E4 := (E2.ev e3.toEw).ev e4.toEw
      refine bin2_run (W := W) (σ := σ) hr S4 (RM.ev e4.toEw _ _ r3) r4 ((o4.s E4).mono fun z H5 ⟨L5, h5, v5, q5, S5, e5, r5, o5⟩ => ?_)
      split at o5
      · rename_i h' q
        obtain ⟨p, xs, k, j, rfl, rfl, z1, z2, z3, z4⟩ := put_run S5 (RM.ev (e2.trans (e3.trans (e4.trans e5))).toEw _ _ ra) (RM.ev (e3.trans (e4.trans e5)).toEw _ _ rb) r5 q
        exact ⟨p, xs, k, j, rfl, rfl, z1, z2, o5 L5 _ σ z3 z4 ((E4.ev e5.toEw).ev z4.toEw)⟩
      · exact o5.elim
theorem get_list : PGet X (fun o i H Q => rIxL X.K o i H Q) := by
  intro pins s σ H o i ov iv Q I ro ri h
  obtain ⟨p, xs, i, z, rfl, rfl, hq, he, q⟩ := h
  cases ro
  obtain ⟨t, rfl⟩ := ri
  obtain ⟨its, r, pl, hz⟩ := I.list hq
  obtain ⟨j, h1, h2, h3, h4, h5⟩ := atI_get he
  obtain ⟨w, ew, rw'⟩ := r.get h2
  have hl := r.length
  have hn := line63
  have fin : EP X pins σ Q w s := ⟨z, H, I, rw', q⟩
  by_cases h0 : 0 ≤ i
  · have hj : i.toNat = j := by
      rw [seqIndex_of h0 h5] at h1
      exact Option.some.inj h1
    exact wpAny_getItem_list pl.isList h0 (by omega) (by rw [hj]; simpa using ew) fin
  · have hj : (i + (its.toArray.size : Int)).toNat = j := by
      rw [seqIndex_neg (by omega) h4] at h1
      rw [List.size_toArray, ← hl]
      exact Option.some.inj h1
    exact wpAny_getItem_list_neg pl.isList (by omega) (by rw [List.size_toArray] <;> omega) (by omega) (by rw [hj]; simpa using ew) fin

/-! ### methods of lists -/
theorem tyV_list {v : MV} {u : V} (S : SRh K fa L h H) (r : RM K fa L H v u) (hl : lstCell v h = true) : tyV K "list" u H := by
  cases v with
  | d v => cases hl
  | ref j =>
    obtain ⟨a, ha, rfl⟩ := r
    have hl' : (match h[j]? with | some (.lst _) => true | some (.mls _) => true | _ => false) = true := hl
    split at hl'
    · rename_i xs hc
      obtain ⟨us, h1, _⟩ := S.cells j _ a hc ha
      exact .inl ⟨rfl, us, .inl (.inl h1)⟩
    · rename_i xs hc
      obtain ⟨us, h1, _⟩ := S.cells j _ a hc ha
      exact .inl ⟨rfl, us, .inl (.inl h1)⟩
    · cases hl'
/-- a list's method by values -/
def MeR (K : PySem.W.Frag) (fa : FA) (m : Me) (r : V → List V → Hp → VK → Prop) : Prop :=
  ∀ {W : WX} {σ : L2.St} {L : LV} {H : Hp} {h : AH} {o : MV} {vs : List MV} {x : V} {us : List V} {Q : VK}, SRh K fa L h H → RM K fa L H o x → RMs K fa L H vs us → Out K fa W σ (RM K fa) L H (methM m o vs h) Q → r x us H Q
theorem tE_meth {m : Me} {r : V → List V → Hp → VK → Prop} (hr : MeR K fa m r) {mo : Ex} {ms : Exs} {σ : L2.St} {H : Hp} {Q : VK} (x : tE K fa T W (.meth m mo ms) σ H Q) : tBM K "list" r (tE K fa T W mo) (tEs K fa T W ms) σ H Q := by
  obtain ⟨L, σa, h, S, E, o⟩ := x
  replace o : Out K fa W σ (RM K fa) L H ((evE T mo σa h).bind fun v h => if lstCell v h = true then (evEs T ms σa h).bind fun vs h => methM m v vs h else .stuck) Q := o
  refine ⟨L, σa, h, S, E, o.bind.mono fun u H1 ⟨L1, h1, v, S1, e1, rv, o1⟩ => ?_⟩
  split at o1
  · rename_i hl
    refine ⟨tyV_list S1 rv hl, L1, σa, h1, S1, E.ev e1.toEw, o1.bind.mono fun us H2 ⟨L2, h2, vs, S2, e2, rvs, o2⟩ => ?_⟩
    exact hr S2 (RM.ev e2.toEw _ _ rv) rvs o2
  · exact o1.elim
theorem m_meth {m : Me} {id : String} {name : Str} {r : V → List V → Hp → VK → Prop} {o e : Expr} {es : List Expr} {mo : Ex} {ms : Exs} {apos cpos : Pos} (hr : MeR X.K fa m r) (pa : PlainAttrs "list") (slot : Slot "list" name id) (hty : typeOf (.builtin id) = pure (.type "method_descriptor")) (hm : MtR X id r) (ho : PE X o (tE X.K fa T W mo)) (ha : PA X (e :: es) (tEs X.K fa T W ms))
    (hbase : attributeBase o name X.env (eval o X.env) = eval o X.env)
    (hfew : ((backTo cpos (starEach (e :: es) X.env)).all (fun x => !x.1) && (backToKw cpos (keywordEach [] X.env)).all (fun x => x.1.isSome)
      && decide ((e :: es).length + ([] : List Keyword).length + (if ([] : List Keyword).isEmpty then 0 else 1) < 30)) = true)
    (hline : (apos.endLine == cpos.line) = true) (hs : starEach (e :: es) X.env = (false, eval e X.env) :: starEach es X.env) (hplain : (backTo cpos (starEach es X.env)).any (·.1) = false) :
    PE X (.Call (.Attribute o name apos) (e :: es) [] cpos) (tE X.K fa T W (.meth m mo ms)) := PE.weak (pe_bm pa slot hty hm ho ha hbase hfew hline hs hplain) fun σ H Q x => tE_meth hr x
theorem m_meth0 {m : Me} {id : String} {name : Str} {r : V → List V → Hp → VK → Prop} {o : Expr} {mo : Ex} {apos cpos : Pos} (hr : MeR X.K fa m r) (pa : PlainAttrs "list") (slot : Slot "list" name id) (hty : typeOf (.builtin id) = pure (.type "method_descriptor")) (hm : MtR X id r) (ho : PE X o (tE X.K fa T W mo))
    (hbase : attributeBase o name X.env (eval o X.env) = eval o X.env) (hline : (apos.endLine == cpos.line) = true) :
    PE X (.Call (.Attribute o name apos) [] [] cpos) (tE X.K fa T W (.meth m mo .nil)) := PE.weak (pe_bm0 pa slot hty hm ho hbase hline) fun σ H Q x => by
  obtain ⟨L, σa, h, S, E, o⟩ := tE_meth hr x
  exact ⟨L, σa, h, S, E, o.mono fun u H1 ⟨ty, L1, σ1, h1, S1, E1, o1⟩ => ⟨ty, o1 L1 H1 [] S1 (Ev.refl _ _) rfl⟩⟩
theorem me_append : MeR K fa .append rAppend := by
  intro W σ L H h o vs x us Q S ro rvs out
  unfold methM at out
  split at out
  · rename_i j v heq
    clear heq
    obtain ⟨a, ha, rfl⟩ := ro
    obtain ⟨u, t, rfl, rv, rt⟩ := rvs
    cases rt
    split at out
    · rename_i xs hc
      split at out
      · rename_i z
        split at out
        · rename_i hl
          obtain ⟨us, h1, h2, h3⟩ := S.cells j _ a hc ha
          have ev : Ev L H L (upd H a (.lst (us ++ [u]))) := S.evp ha
          have hl' : us.length < sizeLine := by rw [h3.length]; exact hl
          refine ⟨a, us, u, rfl, rfl, h1, hl', out L _ .non (S.put ha ⟨_, upd_same, ?_, RAs.ev ev.toEw _ _ (h3.append ⟨u, [], rfl, rv, rfl⟩)⟩) ev rfl⟩
          rw [List.length_append]
          exact hl'
        · exact out.elim
      · exact out.elim
    · rename_i xs hc
      split at out
      · rename_i hl
        obtain ⟨us, h1, h2, h3⟩ := S.cells j _ a hc ha
        have ev : Ev L H L (upd H a (.lst (us ++ [u]))) := S.evp ha
        have hl' : us.length < sizeLine := by rw [h3.length]; exact hl
        refine ⟨a, us, u, rfl, rfl, h1, hl', out L _ .non (S.put ha ⟨_, upd_same, ?_, RMs.ev ev.toEw _ _ (h3.append ⟨u, [], rfl, rv, rfl⟩)⟩) ev rfl⟩
        rw [List.length_append]
        exact hl'
      · exact out.elim
    · exact out.elim
  · rename_i heq; cases heq
  · rename_i heq; cases heq
  · exact out.elim
end
end MP

set_option Elab.async false
set_option linter.all false
set_option maxRecDepth 100000
/-! M13: dict stores, more methods, chains, isinstance, products. -/
namespace MP
open PySem PySem.Spec PyProof.Rows L2
section
variable {K : PySem.W.Frag} {fa : FA} {T : GT} {W : WX} {L : LV} {H : Hp} {h : AH} {X : Cx}

theorem me_extend : MeR K fa .extend rExtend := by
  intro W σ L H h o vs x us Q S ro rvs out
  unfold methM at out
  split at out
  · rename_i heq; cases heq
  · rename_i j v heq
    clear heq
    obtain ⟨a, ha, rfl⟩ := ro
    obtain ⟨u, t, rfl, rv, rt⟩ := rvs
    cases rt
    split at out
    · rename_i xs hc
      split at out
      · rename_i ys hv
        split at out
        · rename_i hl
          obtain ⟨us, h1, h2, h3⟩ := S.cells j _ a hc ha
          obtain ⟨b, ws, rfl, g1, g2, g3⟩ := view_vw S rv hv
          have ev : Ev L H L (upd H a (.lst (us ++ ws))) := S.evp ha
          have hl' : us.length + ws.length ≤ sizeLine := by rw [h3.length, g3.length]; exact hl
          exact ⟨a, b, us, ws, rfl, rfl, h1, g1, hl', out L _ .non (S.put ha ⟨_, upd_same, by rw [List.length_append]; exact hl', RAs.ev ev.toEw _ _ (h3.append g3)⟩) ev rfl⟩
        · exact out.elim
      · exact out.elim
    · exact out.elim
  · rename_i heq; cases heq
  · exact out.elim
theorem me_pop : MeR K fa .pop rPop := by
  intro W σ L H h o vs x us Q S ro rvs out
  unfold methM at out
  split at out
  · rename_i heq; cases heq
  · rename_i heq; cases heq
  · rename_i j heq
    clear heq
    obtain ⟨a, ha, rfl⟩ := ro
    cases rvs
    split at out
    · rename_i xs hc
      split at out
      · rename_i x hx
        obtain ⟨us, h1, h2, h3⟩ := S.cells j _ a hc ha
        obtain ⟨u, hu, ru⟩ := h3.get hx
        have ev : Ev L H L (upd H a (.lst us.dropLast)) := S.evp ha
        refine ⟨a, us, u, rfl, rfl, h1, by rw [h3.length]; exact hu, out L _ u (S.put ha ⟨_, upd_same, ?_, RAs.ev ev.toEw _ _ h3.dropLast⟩) ev (RA.ev ev.toEw _ _ ru)⟩
        rw [List.length_dropLast]
        omega
      · exact out.elim
    · exact out.elim
  · exact out.elim

/-! ### d[k] = v -/
theorem any_zip {κ : Type} [DecidableEq κ] {k : κ} : ∀ {kk : List κ} {us : List V}, kk.length = us.length → ((kk.zip us).any fun kv => decide (kv.1 = k)) = kk.any fun c => decide (c = k)
  | [], _, _ => rfl
  | c :: cs, [], e => by cases e
  | c :: cs, u :: us, e => by
    rw [List.zip_cons_cons, List.any_cons, List.any_cons, any_zip (Nat.succ.inj e)]
theorem map_zip {κ : Type} [DecidableEq κ] {k : κ} {w : V} : ∀ {kk : List κ} {us : List V}, (kk.zip us).map (fun kv => if kv.1 = k then (kv.1, w) else kv) = kk.zip (List.zipWith (fun c v => if c = k then w else v) kk us)
  | [], _ => rfl
  | c :: cs, [] => rfl
  | c :: cs, u :: us => by
    rw [List.zip_cons_cons, List.map_cons, List.zipWith_cons_cons, List.zip_cons_cons, map_zip]
    split <;> rfl
theorem RAs.putL {κ : Type} [DecidableEq κ] {k : κ} {x : AV} {w : V} (rx : RA K fa L H x w) : ∀ {kk : List κ} {vs : List AV} {us : List V}, RAs K fa L H vs us → RAs K fa L H (MP.putL kk vs k x) (List.zipWith (fun c v => if c = k then w else v) kk us)
  | [], _, _, _ => rfl
  | c :: cs, [], us, r => by rw [show us = [] from r]; rfl
  | c :: cs, v :: vs, us, ⟨u, t, e1, e2, e3⟩ => by
    subst e1
    have ih := RAs.putL (k := k) rx (kk := cs) e3
    unfold MP.putL at ih ⊢
    rw [List.zipWith_cons_cons, List.zipWith_cons_cons]
    refine ⟨_, _, rfl, ?_, ih⟩
    split
    · exact rx
    · exact e2
theorem zip_snoc {κ : Type} {k : κ} {w : V} : ∀ {kk : List κ} {us : List V}, kk.length = us.length → kk.zip us ++ [(k, w)] = (kk ++ [k]).zip (us ++ [w])
  | [], [], _ => rfl
  | [], u :: us, e => by cases e
  | c :: cs, [], e => by cases e
  | c :: cs, u :: us, e => by
    rw [List.zip_cons_cons, List.cons_append, List.cons_append, List.cons_append, List.zip_cons_cons, zip_snoc (Nat.succ.inj e)]
theorem keysK_snoc {k : AV} {k' : L2.Key} (e : keyK k = some k') : ∀ {ks : List AV} {kk : List L2.Key}, keysK ks = some kk → keysK (ks ++ [k]) = some (kk ++ [k'])
  | [], _, q => by
    cases q
    show keysK [k] = some [k']
    unfold keysK
    rw [e]
    rfl
  | c :: cs, kk, q => by
    unfold keysK at q
    split at q
    · rename_i k1 kk1 q1 q2
      cases q
      rw [List.cons_append]
      unfold keysK
      rw [q1, keysK_snoc e q2]
      rfl
    · cases q
theorem keysT_snoc {k : AV} {k' : List L2.Key} (e : keyT k = some k') : ∀ {ks : List AV} {kk : List (List L2.Key)}, keysT ks = some kk → keysT (ks ++ [k]) = some (kk ++ [k'])
  | [], _, q => by
    cases q
    show keysT [k] = some [k']
    unfold keysT
    rw [e]
    rfl
  | c :: cs, kk, q => by
    unfold keysT at q
    split at q
    · rename_i k1 kk1 q1 q2
      cases q
      rw [List.cons_append]
      unfold keysT
      rw [q1, keysT_snoc e q2]
      rfl
    · cases q
theorem RA.keyT {v : AV} {u : V} {k : List L2.Key} (r : RA K fa L H v u) (e : keyT v = some k) : ∃ b, u = .ref b ∧ H b = some (.tup (k.map kV)) := by
  unfold MP.keyT at e
  split at e
  · obtain ⟨a, us, rfl, t1, l1, q1⟩ := r
    refine ⟨a, rfl, ?_⟩
    have h := t1.2
    rw [q1.keys e] at h
    exact h
  · cases e
/-- a store in a dict -/
theorem dput_run {o i v : MV} {x y w : V} {h' : AH} (S : SRh K fa L h H) (ro : RM K fa L H o x) (ri : RM K fa L H i y) (rv : RM K fa L H v w) (e : dptM o i v h = some h') :
    ∃ a H', x = .ref a ∧ DPut H a y w H' ∧ SRh K fa L h' H' ∧ Ev L H L H' := by
  unfold dptM at e
  split at e
  · rename_i j
    split at e
    · rename_i t ks vs hc
      split at e
      · rename_i k z
        obtain ⟨p, hp, rfl⟩ := ro
        obtain ⟨us, hd, hvs⟩ := S.cells j _ p hc hp
        split at e
        · rename_i ks' vs' q
          cases e
          cases t with
          | false =>
            obtain ⟨kk, h1, h2, h3, h4⟩ := hd
            unfold dctPut at q
            dsimp only at q
            split at q
            · rename_i k' kk' q1 q2
              rw [h1] at q2
              cases q2
              split at q
              · rename_i hl
                have hy : y = kV k' := RA.key ri q1
                subst hy
                have hl' : (kk.zip us).length < sizeLine := by rw [List.length_zip, h2, Nat.min_self, ← h2, keysK_len h1]; exact hl
                refine ⟨p, _, rfl, DPut.k h4 hl', ?_⟩
                unfold putK
                rw [any_zip h2]
                split at q
                · rename_i ha
                  cases q
                  rw [if_pos ha, map_zip]
                  have ev : Ev L H L (upd H p (.dK (kk.zip (List.zipWith (fun c v => if c = k' then w else v) kk us)))) := S.evp hp
                  refine ⟨S.put hp ⟨_, ⟨kk, h1, ?_, ?_, upd_same⟩, RAs.ev ev.toEw _ _ (hvs.putL rv)⟩, ev⟩
                  · rw [List.length_zipWith, h2, Nat.min_self]
                  · rw [List.length_zipWith, h2, Nat.min_self]; exact h3
                · rename_i ha
                  cases q
                  rw [if_neg ha, zip_snoc h2]
                  have ev : Ev L H L (upd H p (.dK ((kk ++ [k']).zip (us ++ [w])))) := S.evp hp
                  refine ⟨S.put hp ⟨_, ⟨_, keysK_snoc q1 h1, ?_, ?_, upd_same⟩, RAs.ev ev.toEw _ _ (hvs.append ⟨w, [], rfl, rv, rfl⟩)⟩, ev⟩
                  · rw [List.length_append, List.length_append, h2]; rfl
                  · rw [List.length_append, ← h2, keysK_len h1]; exact hl
              · cases q
            · cases q
          | true =>
            obtain ⟨kk, h1, h2, h3, h4⟩ := hd
            unfold dctPut at q
            dsimp only at q
            split at q
            · rename_i k' kk' q1 q2
              rw [h1] at q2
              cases q2
              split at q
              · rename_i hl
                obtain ⟨b, rfl, hb⟩ := RA.keyT ri q1
                have hl' : (kk.zip us).length < sizeLine := by rw [List.length_zip, h2, Nat.min_self, ← h2, keysT_len h1]; exact hl
                refine ⟨p, _, rfl, DPut.t h4 hb hl', ?_⟩
                unfold putK
                rw [any_zip h2]
                split at q
                · rename_i ha
                  cases q
                  rw [if_pos ha, map_zip]
                  have ev : Ev L H L (upd H p (.dT (kk.zip (List.zipWith (fun c v => if c = k' then w else v) kk us)))) := S.evp hp
                  refine ⟨S.put hp ⟨_, ⟨kk, h1, ?_, ?_, upd_same⟩, RAs.ev ev.toEw _ _ (hvs.putL rv)⟩, ev⟩
                  · rw [List.length_zipWith, h2, Nat.min_self]
                  · rw [List.length_zipWith, h2, Nat.min_self]; exact h3
                · rename_i ha
                  cases q
                  rw [if_neg ha, zip_snoc h2]
                  have ev : Ev L H L (upd H p (.dT ((kk ++ [k']).zip (us ++ [w])))) := S.evp hp
                  refine ⟨S.put hp ⟨_, ⟨_, keysT_snoc q1 h1, ?_, ?_, upd_same⟩, RAs.ev ev.toEw _ _ (hvs.append ⟨w, [], rfl, rv, rfl⟩)⟩, ev⟩
                  · rw [List.length_append, List.length_append, h2]; rfl
                  · rw [List.length_append, ← h2, keysT_len h1]; exact hl
              · cases q
            · cases q
        · cases e
      · cases e
    · cases e
  · cases e
theorem s_dpt {o i e : Expr} {mo mi me : Ex} {p' pos : Pos} (hu : X.A.units + 1 < cLine) (ho : PE X o (tE K fa T W mo)) (hi : PE X i (tE K fa T W mi)) (he : PE X e (tE K fa T W me)) (hs : swapsWith e (some (.Subscript o i p')) pos.line X.env = pure false) :
    PS X (.Assign [.Subscript o i p'] e pos) (tS K fa T W (.dpt mo mi me)) :=
  PS.weak (ps_dput hu ho hi he hs) fun D σ H ⟨L, σa, h, S, E, o'⟩ => by
    replace o' : OutS K fa W D L H ((evE T me σa h).s σa fun v h => (evE T mo σa h).s σa fun a h => (evE T mi σa h).s σa fun k h => match dptM a k v h with
      | some h' => .nx σa h'
      | none => .stuck) := o'
    refine ⟨L, σa, h, S, E, (o'.s E).mono fun u H1 ⟨L1, h1, v, q1, S1, e1, rv, o1⟩ => ?_⟩
    refine ⟨L1, σa, h1, S1, E.ev e1.toEw, (o1.s (E.ev e1.toEw)).mono fun a H2 ⟨L2, h2, va, q2, S2, e2, ra, o2⟩ => ?_⟩
    refine ⟨L2, σa, h2, S2, (E.ev e1.toEw).ev e2.toEw, (o2.s ((E.ev e1.toEw).ev e2.toEw)).mono fun b H3 ⟨L3, h3, vb, q3, S3, e3, rb, o3⟩ => ?_⟩
    split at o3
    · rename_i h' q
      obtain ⟨p, H4, rfl, z1, z3, z4⟩ := dput_run S3 (RM.ev e3.toEw _ _ ra) rb (RM.ev (e2.trans e3).toEw _ _ rv) q
      exact ⟨p, H4, rfl, z1, o3 L3 _ σ z3 z4 ((((E.ev e1.toEw).ev e2.toEw).ev e3.toEw).ev z4.toEw)⟩
    · exact o3.elim

/-! ### t.index(x), t of the module -/
theorem RAs.strs_of : ∀ {xs : List AV} {us : List V} {ys : List Str}, RAs K fa L H xs us → strsOf xs = some ys → us = ys.map V.str
  | [], _, _, r, e => by cases e; exact r
  | x :: xs, _, ys, ⟨u, t, e1, e2, e3⟩, e => by
    unfold strsOf at e
    split at e
    · rename_i heq; cases heq
    · rename_i i r heq
      cases heq
      split at e
      · rename_i js q
        cases e
        cases e2.1
        rw [e1, RAs.strs_of e3 q]
        rfl
      · cases e
    · cases e
theorem fIdx_spec {z : Str} : ∀ {ys : List Str} {j : Nat}, fIdx z ys = some j → ys[j]? = some z ∧ ∀ m, m < j → ys[m]? ≠ some z
  | [], _, e => by cases e
  | y :: ys, j, e => by
    unfold fIdx at e
    split at e
    · rename_i hy
      cases e
      subst hy
      exact ⟨rfl, fun m hm => absurd hm (Nat.not_lt_zero _)⟩
    · rename_i hy
      cases q : fIdx z ys with
      | none => rw [q] at e; cases e
      | some i =>
        rw [q] at e
        cases e
        obtain ⟨h1, h2⟩ := fIdx_spec q
        refine ⟨by simpa using h1, fun m hm => ?_⟩
        cases m with
        | zero => intro z; exact hy (by simpa using z)
        | succ m => simpa using h2 m (Nat.lt_of_succ_lt_succ hm)
theorem m_index {o e : Expr} {mo : Ex} {m1 : Ex} {apos cpos : Pos} (ho : PE X o (tE X.K fa T W mo)) (ha : PA X [e] (tEs X.K fa T W (.cons m1 .nil)))
    (hbase : attributeBase o "index" X.env (eval o X.env) = eval o X.env)
    (hfew : ((backTo cpos (starEach [e] X.env)).all (fun x => !x.1) && (backToKw cpos (keywordEach [] X.env)).all (fun x => x.1.isSome)
      && decide (([e] : List Expr).length + ([] : List Keyword).length + (if ([] : List Keyword).isEmpty then 0 else 1) < 30)) = true)
    (hline : (apos.endLine == cpos.line) = true) (hs : starEach [e] X.env = (false, eval e X.env) :: starEach [] X.env) (hplain : (backTo cpos (starEach [] X.env)).any (·.1) = false) :
    PE X (.Call (.Attribute o "index" apos) [e] [] cpos) (tE X.K fa T W (.vme .index mo (.cons m1 .nil))) :=
  PE.weak (pe_bm PySem.F.plainAttrs_tuple PySem.F.slot_tuple_index PySem.F.type_tuple_index mt_tup_index ho ha hbase hfew hline hs hplain) fun σ H Q ⟨L, σa, h, S, E, o⟩ => by
    replace o : Out X.K fa W σ (RM X.K fa) L H ((evE T mo σa h).bind fun v h => match v with
      | .d (.ktp xs) => (evEs T (.cons m1 .nil) σa h).bind fun vs h => match views vs h with
        | some ws => optV (meF .index (.ktp xs) ws) h
        | none => .stuck
      | _ => .stuck) Q := o
    refine ⟨L, σa, h, S, E, o.bind.mono fun u H1 ⟨L1, h1, v, S1, e1, rv, o1⟩ => ?_⟩
    split at o1
    · rename_i xs
      obtain ⟨a, us, rfl, kt, l1, q1⟩ := rv
      refine ⟨?_, L1, σa, h1, S1, E.ev e1.toEw, o1.bind.mono fun ws H2 ⟨L2, h2, vs, S2, e2, rvs, o2⟩ => ?_⟩
      · obtain ⟨ob, its, n, ⟨z1, z2, _⟩, z3⟩ := kt
        exact .inr (.inl ⟨rfl, ob, z1, z2, z3⟩)
      · split at o2
        · rename_i ys qv
          obtain ⟨z, ez, k⟩ := out_optV o2
          unfold meF at ez
          split at ez
          · rename_i xs' z' _ heq
            cases heq
            split at ez
            · rename_i ys' qs
              cases qf : fIdx z' ys' with
              | none => rw [qf] at ez; cases ez
              | some j =>
                rw [qf] at ez
                cases ez
                obtain ⟨w, rfl, rw⟩ := vw1 (views_vw S2 rvs qv)
                cases rw.1
                obtain ⟨f1, f2⟩ := fIdx_spec qf
                refine ⟨a, ys', z', j, rfl, rfl, ?_, f1, f2, k L2 H2 _ S2 (Ev.refl _ _) rfl⟩
                rw [← q1.strs_of qs]
                exact kt.sq
            · cases ez
          · cases ez
        · exact o2.elim
    · exact o1.elim

/-! ### a op b op c -/
theorem rRes {f : AV → AV → Option AV} {r : R2} (hr : Bin2R K fa f r) {α : Type} {β : Type} {rel : LV → Hp → α → β → Prop} {σ : L2.St} {v w : MV} {x y : V} {g : MV → AH → R α} {Q : β → Hp → Prop} {Q' : VK} (S : SRh K fa L h H) (r1 : RM K fa L H v x) (r2 : RM K fa L H w y)
    (o : Out K fa W σ rel L H ((bin2 f v w h).bind g) Q) (k : ∀ z H' u, Same H H' → RA K fa L H' z u → (∃ a b, f a b = some z) → Out K fa W σ rel L H (g (.d z) h) Q → Q' u H') : r x y H Q' := by
  unfold bin2 at o
  cases q1 : view v h with
  | none => rw [q1] at o; exact o.elim
  | some a =>
    cases q2 : view w h with
    | none => rw [q1, q2] at o; exact o.elim
    | some b =>
      rw [q1, q2] at o
      replace o : Out K fa W σ rel L H ((optV (f a b) h).bind g) Q := o
      cases q : f a b with
      | none => rw [q] at o; exact o.elim
      | some z =>
        rw [q] at o
        exact hr S (view_vw S r1 q1) (view_vw S r2 q2) q fun H' u s ru => k z H' u s ru ⟨a, b, q⟩ o
theorem tE_chn {o1 o2 : Cop} {ra rb : R2} {ma mb mc : Ex} {σ : L2.St} {H : Hp} {Q : VK} (h1 : Bin2R K fa (cmpB o1) ra) (h2 : Bin2R K fa (cmpB o2) rb) (x : tE K fa T W (.chn o1 o2 ma mb mc) σ H Q) : tChain ra rb (tE K fa T W ma) (tE K fa T W mb) (tE K fa T W mc) σ H Q := by
  obtain ⟨L, σa, h, S, E, o⟩ := x
  replace o : Out K fa W σ (RM K fa) L H ((evE T ma σa h).bind fun v h => (evE T mb σa h).bind fun w h => (bin2 (cmpB o1) v w h).bind fun r h => match r with
    | .d (.bl true) => (evE T mc σa h).bind fun z h => bin2 (cmpB o2) w z h
    | .d (.bl false) => .ok (.d (.bl false)) h
    | _ => .stuck) Q := o
  refine ⟨L, σa, h, S, E, o.bind.mono fun u H1 ⟨L1, h1', v, S1, e1, rv, o1'⟩ => ?_⟩
  refine ⟨L1, σa, h1', S1, E.ev e1.toEw, o1'.bind.mono fun w H2 ⟨L2, h2', v2, S2, e2, rw2, o2'⟩ => ?_⟩
  refine rRes h1 S2 (RM.ev e2.toEw _ _ rv) rw2 o2' fun z H3 u3 s ru ⟨a, b, ez⟩ o3 => ?_
  obtain ⟨k, rfl⟩ := cmpB_ok ez
  cases ru
  refine ⟨k, rfl, ?_⟩
  have S3 := S2.same s
  have e3 : Ev L2 H2 L2 H3 := S2.evs s
  cases k with
  | true =>
    rw [if_pos rfl]
    refine ⟨L2, σa, h2', S3, ((E.ev e1.toEw).ev e2.toEw).ev e3.toEw, (o3.at e3).bind.mono fun z H4 ⟨L4, h4, v4, S4, e4, r4, o4⟩ => ?_⟩
    exact bin2_run h2 S4 (RM.ev (e3.trans e4).toEw _ _ rw2) r4 o4
  | false =>
    rw [if_neg Bool.false_ne_true]
    exact o3 L2 H3 (.bl false) S3 e3 rfl
theorem m_chn {a b c : Expr} {ma mb mc : Ex} {op op' : CmpOp} {o o2 : Cop} {ra rb : R2} {pos : Pos} (ho : OpR X (compareOp op) ra) (ho' : OpR X (compareOp op') rb) (h1 : Bin2R K fa (cmpB o) ra) (h2 : Bin2R K fa (cmpB o2) rb) (ha : PE X a (tE K fa T W ma)) (hb : PE X b (tE K fa T W mb)) (hc : PE X c (tE K fa T W mc))
    (hm : lastMarks [op, op'] [b, c] = false) : PE X (.Compare a [op, op'] [b, c] pos) (tE K fa T W (.chn o o2 ma mb mc)) := PE.weak (pe_chain ho ho' ha hb hc hm) fun σ H Q x => tE_chn h1 h2 x
theorem m_tchn {a b c : Expr} {ma mb mc : Ex} {op op' : CmpOp} {o o2 : Cop} {ra rb : R2} {pos : Pos} (ho : OpR X (compareOp op) ra) (ho' : OpR X (compareOp op') rb) (h1 : Bin2R K fa (cmpB o) ra) (h2 : Bin2R K fa (cmpB o2) rb) (ha : PE X a (tE K fa T W ma)) (hb : PE X b (tE K fa T W mb)) (hc : PE X c (tE K fa T W mc))
    (hm : lastMarks [op, op'] [b, c] = false) : PT X (.Compare a [op, op'] [b, c] pos) (tT K fa T W (.chn o o2 ma mb mc)) := PT.weak (pt_chain ho ho' ha hb hc hm) fun σ H Q x => tE_chn h1 h2 (tT_tB isB_chn x)

/-! ### isinstance -/
def tyN : Ty → String
  | .int => "int" | .str => "str" | .tuple => "tuple" | .list => "list" | .bool => "bool" | .dict => "dict"
theorem isi_run {v : AV} {u : V} {ty : Ty} {b : Bool} (r : VW K fa L H v u) (e : isiA v ty = some b) : ∃ t, TyX K H u t ∧ PySem.W.kitOne K t (.type (tyN ty)) = some b := by
  cases v with
  | non => cases e; cases r; refine ⟨_, .base .non, ?_⟩; cases ty <;> rfl
  | bl c => cases e; cases r; refine ⟨_, .base (.bl _), ?_⟩; cases ty <;> rfl
  | int i => cases e; cases r; refine ⟨_, .base (.int _), ?_⟩; cases ty <;> rfl
  | str s => cases e; cases r.1; refine ⟨_, .base (.str _), ?_⟩; cases ty <;> rfl
  | tup xs => cases e; obtain ⟨a, us, rfl, t1, _⟩ := r; refine ⟨_, .base (.tup t1.2), ?_⟩; cases ty <;> rfl
  | lst xs => cases e; obtain ⟨a, us, rfl, t1, _⟩ := r; refine ⟨_, .base (.lst t1), ?_⟩; cases ty <;> rfl
  | dct t ks vs =>
    cases e
    obtain ⟨a, us, rfl, t1, _⟩ := r
    cases t with
    | false => obtain ⟨_, _, _, _, t1⟩ := t1; refine ⟨_, .base (.dK t1), ?_⟩; cases ty <;> rfl
    | true => obtain ⟨_, _, _, _, t1⟩ := t1; refine ⟨_, .base (.dT t1), ?_⟩; cases ty <;> rfl
  | ktp xs => cases e; obtain ⟨a, us, rfl, ⟨o, its, n, ⟨z1, z2, _⟩, _⟩, _⟩ := r; refine ⟨_, .kTuple z1 z2, ?_⟩; cases ty <;> rfl
  | _ => cases e
theorem tE_isi {a : Ex} {ty : Ty} {σ : L2.St} {H : Hp} {Q : VK} (x : tE K fa T W (.isi a ty) σ H Q) : tCB (rIsi K) (tCons (tE K fa T W a) (tCons (L2.tC (.ty (tyN ty))) tNil)) σ H Q := by
  obtain ⟨L, σa, h, S, E, o⟩ := x
  replace o : Out K fa W σ (RM K fa) L H ((evE T a σa h).bind fun v h => un1 (fun x => (isiA x ty).map .bl) v h) Q := o
  refine ⟨L, σa, h, S, E, o.bind.mono fun u H1 ⟨L1, h1, v, S1, e1, rv, o1⟩ => ?_⟩
  unfold un1 at o1
  cases q1 : view v h1 with
  | none => rw [q1] at o1; exact o1.elim
  | some w =>
    rw [q1] at o1
    obtain ⟨z, ez, k⟩ := out_optV o1
    replace ez : Option.map AV.bl (isiA w ty) = some z := ez
    cases q : isiA w ty with
    | none => rw [q] at ez; cases ez
    | some b =>
      rw [q] at ez
      cases ez
      obtain ⟨t, h3, h4⟩ := isi_run (view_vw S1 rv q1) q
      exact ⟨u, .ty (tyN ty), t, _, b, rfl, .ty _, h3, h4, k L1 H1 _ S1 (Ev.refl _ _) rfl⟩
theorem m_isi {a b : Expr} {ma : Ex} {ty : Ty} {p pos : Pos} (hg : Gl X "isinstance") (hm : X.mg "isinstance" = none) (ha : PE X a (tE X.K fa T W ma)) (hb : PE X b (L2.tC (.ty (tyN ty))))
    (he : starEach [a, b] X.env = (false, eval a X.env) :: starEach [b] X.env) (he2 : starEach [b] X.env = (false, eval b X.env) :: starEach [] X.env) (hpl : (backTo pos (starEach [b] X.env)).any (·.1) = false) :
    PE X (.Call (.Name "isinstance" p) [a, b] [] pos) (tE X.K fa T W (.isi ma ty)) :=
  PE.weak (pe_callB call_isi hg hm rfl (pa_cons ha (pa_cons hb pa_nil he2) he) (by decide) (by decide) he hpl) fun σ H Q x => tE_isi x
theorem m_tyn {x : Str} {n : String} {pos : Pos} (hg : Gl X x) (hm : X.mg x = none) (hv : bootBuiltins x = some (.type n)) (hn : x ≠ "__name__") (hd : (x == ("__debug__" : Str)) = false) : PE X (.Name x pos) (L2.tC (.ty n)) := pe_bltn hg hm hv rfl hn hd

/-! ### e[::-1] -/
theorem m_rvs {e : Expr} {m : Ex} {k : Nat} {p1 p2 p3 pos : Pos} (he : PE X e (tE X.K fa T W m)) : PE X (.Subscript e (.Slice none none (some (.UnaryOp .USub (.Constant (.int 1) k p1) p2)) p3) pos) (tE X.K fa T W (.rvs m)) :=
  PE.weak (pe_revL he) fun σ H Q ⟨L, σa, h, S, E, o⟩ => by
    replace o : Out X.K fa W σ (RM X.K fa) L H ((evE T m σa h).bind fun v h => un1 rvsA v h) Q := o
    refine ⟨L, σa, h, S, E, o.bind.mono fun u H1 ⟨L1, h1, v, S1, e1, rv, o1⟩ => ?_⟩
    have hr : Un1R X.K fa rvsA (fun x H1 Q => ∃ a xs, x = .ref a ∧ SqL X.K H1 a xs ∧ ∀ p, H1 p = none → Q (.ref p) (upd H1 p (.lst xs.reverse))) := by
      intro L H h x z u Q S r e k
      unfold rvsA at e
      split at e
      · cases e
        obtain ⟨a, us, rfl, t1, l1, q1⟩ := r
        exact ⟨a, us, rfl, .inl (.inl t1), fun p hp => k _ _ (same_upd hp) (RA.lst S hp (by rw [List.length_reverse]; exact l1) q1.rev)⟩
      · cases e
    exact un1_run hr S1 rv o1

/-! ### the module's own values -/
theorem m_glb {x : Str} {v : V} {u : Value} {n : Nat} {pos : Pos} (hg : Gl X x) (hm : X.mg x = some u) (r : RelV v u) (hd : (x == ("__debug__" : Str)) = false) (hv : ∀ {L : LV} {H : Hp}, ∀ a, T.dat n = some a → RA K fa L H a v) : PE X (.Name x pos) (tE K fa T W (.glb n)) :=
  PE.weak (pe_glob hg hm r hd) fun σ H Q ⟨L, σa, h, S, E, o⟩ => by
    replace o : Out K fa W σ (RM K fa) L H (optV (T.dat n) h) Q := o
    obtain ⟨z, ez, k⟩ := out_optV o
    exact k L H v S (Ev.refl _ _) (hv z ez)
end
end MP

set_option Elab.async false
set_option linter.all false
set_option maxRecDepth 100000
/-! M14: products; one more address; displays of dicts. -/
namespace MP
open PySem PySem.Spec PyProof.Rows L2
section
variable {K : PySem.W.Frag} {fa : FA} {T : GT} {W : WX} {L : LV} {H : Hp} {h : AH} {X : Cx}

/-! ### products -/
def rRepTM (K : PySem.W.Frag) : R2 := fun x y H Q => ∃ l k xs, x = .ref l ∧ y = .int k ∧ SqT K H l xs ∧ xs ≠ [] ∧ 2 ≤ k ∧ k ≤ 6000 ∧ xs.length ≤ 1000 ∧ ∀ p, H p = none → Q (.ref p) (upd H p (.tup (List.replicate k.toNat xs).flatten))
theorem op_repTM : OpR X (binaryOp .Mult) (rRepTM X.K) := by
  intro pins s σ H x y v u Q I rx ry hyp
  obtain ⟨l, k, xs, rfl, rfl, hT, hne, h1, h2, hz, q⟩ := hyp
  cases rx
  obtain ⟨t, rfl⟩ := ry
  obtain ⟨its, r, ⟨⟨cls, dd, data, sl⟩, ho, hc, n, hd⟩, hs⟩ := I.tuple hT
  simp only at hc hd
  subst hc hd
  have hle : its.length = xs.length := r.length.symm
  have hn : its ≠ [] := fun e => by
    rw [e] at hle
    exact hne (List.eq_nil_of_length_eq_zero hle.symm)
  have hi : its.toArray.isEmpty = false := by
    cases its with
    | nil => exact absurd rfl hn
    | cons a b => rfl
  have hsz0 : its.toArray.size = xs.length := by rw [List.size_toArray, hle]
  have hm : ((its.toArray.size : Nat) : Int) * k ≤ 6000000 := by
    rw [hsz0]
    have a1 : ((xs.length : Nat) : Int) * k ≤ 1000 * k := Int.mul_le_mul_of_nonneg_right (by omega) (by omega)
    omega
  have flen : (List.replicate k.toNat its).flatten.length ≤ sizeLine := by
    rw [PyProof.Rows.lm_len_rep_flat, hle, sizeLine_eq]
    have a1 : k.toNat * xs.length ≤ 6000 * 1000 := Nat.mul_le_mul (by omega) hz
    omega
  have c0 : (decide (k < -(2 ^ 63)) || decide (k ≥ 2 ^ 63)) = false := by
    rw [decide_eq_false (by omega), decide_eq_false (by omega)] <;> rfl
  have c1 : (its.toArray.isEmpty || k == 1) = false := by
    rw [hi, Bool.false_or]
    exact beq_eq_false_iff_ne.mpr (by omega)
  have c2 : (decide (k ≤ 0) || its.toArray.isEmpty) = false := by
    rw [hi, Bool.or_false]
    exact decide_eq_false (by omega)
  have c4 : Builtin.Tuple.tupleTooMany (((its.toArray.size : Nat) : Int) * k) = false := by
    unfold Builtin.Tuple.tupleTooMany
    rw [sizeLine_eq]
    exact decide_eq_false (by omega)
  have inner := tuple_mulW l its.toArray n dd sl k t c0 c1 c2 (by omega) c4 (by rw [size_rep, List.size_toArray]; exact flen)
  refine wpAny_binaryOp_repeat_ref (T := "tuple") (U := "int") (by decide) ⟨_, ho, rfl⟩ (fun s' => typeIs_int s' k t) noFill_tuple_mul F.fills_int_mul F.slot_int_rmul repeat_tuple F.slot_int_index.lookup ?_
  refine call_meets F.slot_int_rmul (typeIs_int s k t) F.entry_int_rmul (F.args_int_rmul_2 _ _) (int_rmul_tuple k t l its.toArray n dd sl) ⟨ho, rfl, ⟨_, ho, rfl⟩, ?_⟩
  refine call_meets F.slot_tuple_mul ⟨_, ho, rfl⟩ F.entry_tuple_mul (F.args_tuple_mul_2 _ _) inner ⟨ho, ?_⟩
  rw [size_rep]
  refine ⟨.ref s.heap.objs.size, _, I.laid (t' := s.toks) (o := .tup (List.replicate k.toNat xs).flatten) (fun b ob q => Heap.get?_push_of_some _ q) (Nat.le_refl _) ⟨?_, _, r.rep k.toNat, IsTup.new _ _⟩, rfl, q _ (I.hok.fresh (Nat.le_refl _))⟩
  rw [PyProof.Rows.lm_len_rep_flat, sizeLine_eq]
  have a1 : k.toNat * xs.length ≤ 6000 * 1000 := Nat.mul_le_mul (by omega) hz
  omega
def rMulM (K : PySem.W.Frag) : R2 := fun x y H Q => rI CMul (fun i j => .int (i * j)) x y H Q ∨ rRep x y H Q ∨ rRepTM K x y H Q
theorem op_mulM : OpR X (binaryOp .Mult) (rMulM X.K) := OpR.or op_mul (OpR.or op_rep op_repTM)
theorem b2_mul : Bin2R K fa (binop .mul) (rMulM K) := by
  intro L H h x y z u v Q S r1 r2 e k
  replace e : mulA x y = some z := e
  unfold mulA at e
  split at e
  · split at e
    · rename_i i j hc
      cases e
      cases r1; cases r2
      exact .inl ⟨i, j, rfl, rfl, hc, k H _ (Same.refl _) rfl⟩
    · cases e
  · split at e
    · rename_i xs n hc
      cases e
      cases r2
      obtain ⟨a, us, rfl, t1, l1, q1⟩ := r1
      obtain ⟨h1, h2, h3⟩ := hc
      have h4 : us.length * n.toNat ≤ sizeLine := by rw [q1.length]; exact h3
      refine .inr (.inl ⟨a, n, us, rfl, rfl, t1, by omega, h2, h4, fun p hp => k _ _ (same_upd hp) (RA.lst S hp ?_ (q1.flat _))⟩)
      rw [PyProof.Rows.lm_len_rep_flat, Nat.mul_comm]
      exact h4
    · cases e
  · split at e
    · rename_i xs n hc
      cases e
      cases r2
      obtain ⟨a, us, rfl, t1, l1, q1⟩ := r1
      obtain ⟨h1, h2, h3, h4⟩ := hc
      refine .inr (.inr ⟨a, n, us, rfl, rfl, t1.sq, fun z => h1 (q1.nil_iff.mp z), h2, h3, by rw [q1.length]; exact h4, fun p hp => k _ _ (same_upd hp) (RA.tup S hp ?_ (q1.flat _))⟩)
      rw [PyProof.Rows.lm_len_rep_flat, sizeLine_eq, q1.length]
      have a1 : n.toNat * xs.length ≤ 6000 * 1000 := Nat.mul_le_mul (by omega) h4
      omega
    · cases e
  · cases e

/-! ### one more address that is alive -/
theorem Ew.more {p : Addr} {o : HO} (hp : H p = none) : Ew L H (L.more p) (upd H p o) := ⟨List.prefix_refl _, fun a u e _ n => by
  have hb : a ≠ p := ne_of_none e hp
  refine ⟨by rw [upd_ne hb]; exact e, fun z => ?_⟩
  rcases z with z | z
  · exact n (.inl z)
  · rcases List.mem_cons.mp z with z | z
    · exact hb z
    · exact n (.inr z)⟩
theorem SRh.more (S : SRh K fa L h H) {p : Addr} {o : HO} (mo : MutL o) (hp : H p = none) : SRh K fa (L.more p) h (upd H p o) := by
  have ne : ∀ a, a ∈ L → a ≠ p := fun a ha z => S.notin hp (z ▸ ha)
  refine ⟨S.len, S.nd, fun a ha hm => ?_, fun a ha => ?_, fun p' hp' => ⟨List.mem_cons_of_mem _ (S.tabs p' hp').1, tabS_but But.upd (.none hp) (S.tabs p' hp').2⟩, fun i c a hc ha => ?_⟩
  · rcases List.mem_cons.mp hm with z | z
    · exact ne a (.inl ha) z
    · exact S.dis a ha z
  · rcases List.mem_cons.mp ha with z | z
    · exact .inl ⟨o, by rw [z]; exact upd_same, mo⟩
    · exact (S.trm a z).but But.upd (ne a (.inr z))
  · exact (S.cells i c a hc ha).ev (Ew.more hp) (upd_ne (ne a (.inl (List.mem_of_getElem? ha))))
theorem Ew.drop {L2 : LV} {H2 H3 : Hp} {p : Addr} {m : List Addr} (e : L2.m = p :: m) (b : But p H2 H3) : Ew L2 H2 ⟨L2.c, m⟩ H3 := ⟨List.prefix_refl _, fun a u ha _ n => by
  have hp : a ≠ p := fun z => n (.inr (by rw [e, z]; exact List.mem_cons_self))
  refine ⟨by rw [b a hp]; exact ha, fun z => n ?_⟩
  rcases z with z | z
  · exact .inl z
  · exact .inr (by rw [e]; exact List.mem_cons_of_mem _ z)⟩
theorem SRh.drop {L2 : LV} {H2 H3 : Hp} {p : Addr} {m : List Addr} (S : SRh K fa L2 h H2) (e : L2.m = p :: m) (hm : p ∉ m) (f : Free H2 p) (b : But p H2 H3) : SRh K fa ⟨L2.c, m⟩ h H3 := by
  refine ⟨S.len, S.nd, fun a ha hx => S.dis a ha (by rw [e]; exact List.mem_cons_of_mem _ hx), fun a ha => ?_, fun p' hp' => ⟨?_, tabS_but b f (S.tabs p' hp').2⟩, fun i c a hc ha => ?_⟩
  · exact (S.trm a (by rw [e]; exact List.mem_cons_of_mem _ ha)).but b fun z => hm (z ▸ ha)
  · have t := (S.tabs p' hp').1
    rw [e] at t
    rcases List.mem_cons.mp t with z | z
    · obtain ⟨ps, h1, _⟩ := (S.tabs p' hp').2
      rw [z] at h1
      exact (show False from f _ h1).elim
    · exact z
  · exact (S.cells i c a hc ha).ev (Ew.drop e b) (b a fun z => S.dis a (List.mem_of_getElem? ha) (by rw [e, z]; exact List.mem_cons_self))
theorem Ev.drop (S : SRh K fa L h H) {L2 : LV} {H2 H3 : Hp} {p : Addr} {o : HO} (hp : H p = none) (ev : Ev (L.more p) (upd H p o) L2 H2) (b : But p H2 H3) : Ev L H ⟨L2.c, L.m⟩ H3 := by
  refine ⟨(Ew.more hp).trans (ev.toEw.trans (Ew.drop ev.mor b)), rfl, fun a ha => ?_⟩
  have hne : a ≠ p := fun z => S.notin hp (.inr (z ▸ ha))
  exact (Stay.of (upd_ne hne)).trans ((ev.same a (List.mem_cons_of_mem _ ha)).trans (.of (b a hne)))
theorem SRh.notm (S : SRh K fa L h H) {p : Addr} (hp : H p = none) : p ∉ L.m := fun z => S.notin hp (.inr z)
theorem drop_notin {L2 : LV} {H2 : Hp} {p : Addr} {m : List Addr} (S : SRh K fa L2 h H2) (e : L2.m = p :: m) (hm : p ∉ m) : p ∉ (⟨L2.c, m⟩ : LV) := fun z => by
  rcases z with z | z
  · exact S.dis p z (by rw [e]; exact List.mem_cons_self)
  · exact hm z
/-- while p is alive -/
theorem Out.inner {α β γ δ : Type} {σ : L2.St} {rel : LV → Hp → α → β → Prop} {rel2 : LV → Hp → γ → δ → Prop} {r : R α} {f : α → AH → R γ} {Q : δ → Hp → Prop} {p : Addr} {o : HO} (mo : MutL o) (S : SRh K fa L h H) (hp : H p = none)
    (out : Out K fa W σ rel2 L H (r.bind f) Q) : Out K fa W σ rel (L.more p) (upd H p o) r (fun u H2 => ∃ L2 h2 v, r = .ok v h2 ∧ SRh K fa L2 h2 H2 ∧ Ev (L.more p) (upd H p o) L2 H2 ∧ rel L2 H2 v u) := by
  cases r with
  | ok v h => exact fun L' H' u S' e' q => ⟨L', h, v, rfl, S', e', q⟩
  | exc x h => exact fun L' H' c d S' e' q => out ⟨L'.c, L.m⟩ H' c d (S'.drop e'.mor (S.notm hp) (.some ((e'.same p List.mem_cons_self).lst upd_same mo) mo) But.refl) (Ev.drop S hp e' But.refl) q
  | stuck => exact out

/-! ### {k: v, ..} -/
def flatX : List (Ex × Ex) → Exs
  | [] => .nil
  | p :: r => .cons p.1 (.cons p.2 (flatX r))
def flatV : List (V × V) → List V
  | [] => []
  | p :: r => p.1 :: p.2 :: flatV r
def trX (K : PySem.W.Frag) (fa : FA) (T : GT) (W : WX) (l : List (Ex × Ex)) : List (TE × TE) := l.map fun p => (tE K fa T W p.1, tE K fa T W p.2)
theorem pairs_run : ∀ {l : List (Ex × Ex)} {σ : L2.St} {H : Hp} {Q : List V → Hp → Prop} {Q' : List (V × V) → Hp → Prop}, tEs K fa T W (flatX l) σ H Q → (∀ ps H', Q (flatV ps) H' → Q' ps H') → tPairs (trX K fa T W l) σ H Q'
  | [], σ, H, Q, Q', ⟨L, σa, h, S, E, o⟩, w => w [] H (o L H [] S (Ev.refl _ _) rfl)
  | p :: l, σ, H, Q, Q', ⟨L, σa, h, S, E, o⟩, w => by
    replace o : Out K fa W σ (RMs K fa) L H ((evE T p.1 σa h).bind fun v h => ((evE T p.2 σa h).bind fun w h => (evEs T (flatX l) σa h).bind fun ws h => .ok (w :: ws) h).bind fun vs h => .ok (v :: vs) h) Q := o
    refine ⟨L, σa, h, S, E, o.bind.mono fun u H1 ⟨L1, h1, v, S1, e1, rv, o1⟩ => ?_⟩
    refine ⟨L1, σa, h1, S1, E.ev e1.toEw, (Out.bind (rel := RM K fa) (Out.bind (rel := RMs K fa) o1)).mono fun u2 H2 ⟨L2, h2, w', S2, e2, rw2, o2⟩ => ?_⟩
    have step : tEs K fa T W (flatX l) σ H2 fun us H3 => Q (u :: u2 :: us) H3 := ⟨L2, σa, h2, S2, (E.ev e1.toEw).ev e2.toEw, o2.bind.mono fun us H3 ⟨L3, h3, ws, S3, e3, r3, o3⟩ => by
      obtain ⟨L4, h4, vs, S4, e4, r4, o4⟩ := o3 L3 H3 (u2 :: us) S3 (Ev.refl _ _) ⟨u2, us, rfl, RM.ev e3.toEw _ _ rw2, r3⟩
      exact o4 L4 H3 (u :: u2 :: us) S4 (Ev.refl _ _) ⟨u, _, rfl, RM.ev e4.toEw _ _ rv, r4⟩⟩
    exact pairs_run step fun ps H' q => w ((u, u2) :: ps) H' q
theorem pairUp_rel : ∀ {l : List MV} {ps : List (V × V)} {ks ws : List AV}, RMs K fa L H l (flatV ps) → pairUp l = some (ks, ws) → RAs K fa L H ks (ps.map (·.1)) ∧ RAs K fa L H ws (ps.map (·.2))
  | [], [], _, _, _, e => by cases e; exact ⟨rfl, rfl⟩
  | [], p :: ps, _, _, r, _ => by cases r
  | _ :: _, [], _, _, r, _ => by obtain ⟨u, t, e, _⟩ := r; cases e
  | [.d _], p :: ps, _, _, r, e => by cases e
  | .d k :: .d v :: l, p :: ps, ks, ws, r, e => by
    unfold pairUp at e
    obtain ⟨u1, t1, z1, r1, u2, t2, z2, r2, r3⟩ := r
    cases z1
    cases z2
    split at e
    · rename_i kk vv q
      cases e
      obtain ⟨g1, g2⟩ := pairUp_rel r3 q
      exact ⟨⟨_, _, rfl, r1, g1⟩, _, _, rfl, r2, g2⟩
    · cases e
  | .ref _ :: _, _ :: _, _, _, _, e => by cases e
  | .d _ :: .ref _ :: _, _ :: _, _, _, _, e => by cases e
theorem RAs.pair_keys : ∀ {ks : List AV} {ps : List (V × V)} {kk : List L2.Key}, RAs K fa L H ks (ps.map (·.1)) → keysK ks = some kk → ps = (kk.zip (ps.map (·.2))).map fun kv => (kV kv.1, kv.2) := by
  intro ks ps kk r e
  have h1 := r.keys e
  have h2 : kk.length = ps.length := by
    have := congrArg List.length h1
    simpa using this.symm
  clear r e
  induction kk generalizing ps with
  | nil =>
    cases ps with
    | nil => rfl
    | cons p ps => cases h2
  | cons k kk ih =>
    cases ps with
    | nil => cases h2
    | cons p ps =>
      rw [List.map_cons, List.map_cons] at h1
      injection h1 with g1 g2
      rw [List.map_cons, List.zip_cons_cons, List.map_cons, ← ih g2 (Nat.succ.inj h2)]
      show p :: ps = (kV k, p.2) :: ps
      rw [← g1]
theorem putK_new {κ : Type} [DecidableEq κ] {acc : List (κ × V)} {k : κ} {v : V} (h : ∀ p ∈ acc, p.1 ≠ k) : putK acc k v = acc ++ [(k, v)] := by
  unfold putK
  rw [if_neg]
  intro z
  rw [List.any_eq_true] at z
  obtain ⟨p, hp, e⟩ := z
  exact h p hp (of_decide_eq_true e)
theorem foldl_putK {κ : Type} [DecidableEq κ] : ∀ (l acc : List (κ × V)), (l.map (·.1)).Nodup → (∀ p ∈ l, ∀ q ∈ acc, q.1 ≠ p.1) → l.foldl (fun acc kv => putK acc kv.1 kv.2) acc = acc ++ l
  | [], acc, _, _ => by rw [List.foldl_nil, List.append_nil]
  | p :: l, acc, hn, hd => by
    rw [List.foldl_cons, putK_new fun q hq => hd p List.mem_cons_self q hq]
    rw [List.map_cons, List.nodup_cons] at hn
    rw [foldl_putK l _ hn.2 fun x hx q hq => ?_]
    · simp
    · rcases List.mem_append.mp hq with z | z
      · exact hd x (List.mem_cons_of_mem _ hx) q z
      · rw [List.mem_singleton] at z
        subst z
        exact fun e => hn.1 (List.mem_map.mpr ⟨x, hx, e.symm⟩)
theorem zip_fst_map {κ : Type} : ∀ {kk : List κ} {us : List V}, kk.length = us.length → (kk.zip us).map (·.1) = kk
  | [], _, _ => rfl
  | k :: kk, [], e => by cases e
  | k :: kk, u :: us, e => by rw [List.zip_cons_cons, List.map_cons, zip_fst_map (Nat.succ.inj e)]
theorem flatX_len : ∀ l : List (Ex × Ex), exsLen (flatX l) = 2 * l.length
  | [] => rfl
  | p :: l => by
    show exsLen (flatX l) + 1 + 1 = _
    rw [flatX_len l, List.length_cons]
    omega
theorem flatV_len : ∀ l : List (V × V), (flatV l).length = 2 * l.length
  | [] => rfl
  | p :: l => by
    show (flatV l).length + 1 + 1 = _
    rw [flatV_len l, List.length_cons]
    omega
theorem m_dsp {keys : List (Option Expr)} {values : List Expr} {l : List (Ex × Ex)} {pos : Pos} (hp : PPs X pos keys values (trX K fa T W l)) (hall : keys.all (·.isSome) = true) (hl : keys.length = values.length) (h0 : keys ≠ []) (h15 : keys.length ≤ 15) (h15' : l.length ≤ 15) :
    PE X (.Dict keys values pos) (tE K fa T W (.dsp (flatX l))) :=
  PE.weak (pe_disp hp hall hl h0 h15) fun σ H Q ⟨L, σa, h, S, E, o⟩ p hp => by
    replace o : Out K fa W σ (RM K fa) L H ((evEs T (flatX l) σa h).bind fun vs h => match pairUp vs with
      | some (ks, ws) => match keysK ks with
        | some kk => if kk.Nodup then .ok (.d (.dct false ks ws)) h else .stuck
        | none => .stuck
      | none => .stuck) Q := o
    have step : tEs K fa T W (flatX l) σ (upd H p (.dK [])) fun us H2 => ∃ L2 h2 v, evEs T (flatX l) σa h = .ok v h2 ∧ SRh K fa L2 h2 H2 ∧ Ev (L.more p) (upd H p (.dK [])) L2 H2 ∧ RMs K fa L2 H2 v us := ⟨L.more p, σa, h, S.more trivial hp, E.ev (Ew.more hp), Out.inner trivial S hp o⟩
    refine pairs_run step fun ps H2 ⟨L2, h2, vs, q, S2, e2, r2⟩ => ?_
    rw [q] at o
    replace o : Out K fa W σ (RM K fa) L H (match pairUp vs with
      | some (ks, ws) => match keysK ks with
        | some kk => if kk.Nodup then .ok (.d (.dct false ks ws)) h2 else .stuck
        | none => .stuck
      | none => .stuck) Q := o
    split at o
    · rename_i ks ws qp
      split at o
      · rename_i kk qk
        split at o
        · rename_i hn
          obtain ⟨g1, g2⟩ := pairUp_rel r2 qp
          have ekv := g1.pair_keys qk
          have hlen : kk.length = (ps.map (·.2)).length := by
            rw [List.length_map, keysK_len qk, ← g1.length, List.length_map]
          have hm0 : (upd H p (.dK [])) p = some (.dK []) := upd_same
          have hpm : p ∈ (L.more p).m := List.mem_cons_self
          have hD := (e2.same p hpm).lst hm0 trivial
          refine ⟨hD, kk.zip (ps.map (·.2)), ekv, ?_, ?_⟩
          · have n1 := evEs_len q
            have n2 := r2.length
            rw [flatX_len] at n1
            rw [flatV_len] at n2
            rw [List.length_zip, hlen, Nat.min_self, List.length_map]
            omega
          · have em : mergeK [] (kk.zip (ps.map (·.2))) = kk.zip (ps.map (·.2)) := foldl_putK _ [] (by rw [zip_fst_map hlen]; exact hn) fun _ _ _ z => nomatch z
            rw [em]
            refine o ⟨L2.c, L.m⟩ _ (.ref p) (S2.drop e2.mor (S.notm hp) (.some hD trivial) But.upd) (Ev.drop S hp e2 But.upd) ⟨p, _, rfl, drop_notin S2 e2.mor (S.notm hp), ⟨kk, qk, hlen, ?_, upd_same⟩, RAs.ev (Ew.drop e2.mor But.upd) _ _ g2⟩
            have n1 := evEs_len q
            have n2 := r2.length
            rw [flatX_len] at n1
            rw [flatV_len] at n2
            rw [List.length_map, sizeLine_eq]
            omega
        · exact o.elim
      · exact o.elim
    · exact o.elim
end
end MP

set_option Elab.async false
set_option linter.all false
set_option maxRecDepth 100000
/-! M15: dicts with tuple keys; new lists, new dicts. -/
namespace MP
open PySem PySem.Spec PyProof.Rows L2
section
variable {K : PySem.W.Frag} {fa : FA} {T : GT} {W : WX} {L : LV} {H : Hp} {h : AH} {X : Cx}

def TupPairs (H : Hp) : List (V × V) → List (List L2.Key × V) → Prop := Paired fun x kv => ∃ b, x.1 = .ref b ∧ H b = some (.tup (kv.1.map kV)) ∧ x.2 = kv.2
def allT (kvs acc : List (List L2.Key × V)) : List (List L2.Key × V) := kvs.foldl (fun acc kv => putK acc kv.1 kv.2) acc
def tDispT (trs : List (TE × TE)) : TE := fun σ H Q => ∀ p, H p = none → tPairs trs σ (upd H p (.dT [])) fun ps H2 => H2 p = some (.dT []) ∧ ∃ kvs, TupPairs H2 ps kvs ∧ kvs.length ≤ 15 ∧ Q (.ref p) (upd H2 p (.dT (allT kvs [])))
theorem allT_ok {H : Hp} {knd : KeyKind X.prog X.w L2.Key} {hp : Heap} (hk : ∀ (a : Addr) (ks : List L2.Key), H a = some (.tup (ks.map kV)) → (tupleKind knd).is hp ks a) : ∀ {ps : List (V × V)} {kvs : List (List L2.Key × V)} {ws : List (Value × Value)}, TupPairs H ps kvs → VV ps ws →
    ∃ xs, CarriesH (tupleKind knd) hp ws xs ∧ xs.length = kvs.length ∧ ∀ acc ys, L2.KT H acc ys → L2.KT H (allT kvs acc) (storedAllH ys xs)
  | [], _, _, .nil, .nil => ⟨[], trivial, rfl, fun _ _ r => r⟩
  | _ :: ps, _, _, .cons a t, .cons b t2 => by
    obtain ⟨xs, h1, h2, h3⟩ := allT_ok hk t t2
    rename_i p kv kvs w ws
    obtain ⟨c, e1, e2, e3⟩ := a
    obtain ⟨b1, b2⟩ := b
    rw [e1] at b1
    rw [e3] at b2
    have b1 : w.1 = .ref c := b1
    exact ⟨(kv.1, c, w.2) :: xs, ⟨b1, rfl, hk c _ e2, h1⟩, by rw [List.length_cons, List.length_cons, h2], fun acc ys r => h3 _ _ (r.put kv.1 e2 b2)⟩
theorem length_allT : ∀ (kvs acc : List (List L2.Key × V)), (allT kvs acc).length ≤ acc.length + kvs.length
  | [], acc => Nat.le_refl _
  | p :: r, acc => by
    have h1 := length_allT r (putK acc p.1 p.2)
    have h2 := length_putK acc p.1 p.2
    show (allT r (putK acc p.1 p.2)).length ≤ _
    rw [List.length_cons]
    omega
theorem pe_dispT {pos : Pos} {keys : List (Option Expr)} {values : List Expr} {trs : List (TE × TE)} (hu : X.A.units + 1 < cLine) (hps : PPs X pos keys values trs) (hall : keys.all (·.isSome) = true) (hl : keys.length = values.length) (h0 : keys ≠ [])
    (h15 : keys.length ≤ 15) : PE X (.Dict keys values pos) (tDispT trs) := by
  refine ⟨fun pins s σ H Q I q => ?_⟩
  have hfree := I.hok.fresh (Nat.le_refl s.heap.objs.size)
  have I1 := I.laid (a := s.heap.objs.size) (o := .dT []) (t' := s.toks) (h' := s.heap.push { cls := .type "dict", data := .dict #[] }) (fun _ _ z => Heap.get?_push_of_some _ z) (Nat.le_refl _) (dt_empty s.heap I.big)
  have hn := pairTrees_length keys values X.env pos hall hl
  rw [arm_eval_Dict, zip_pairTrees keys values X.env pos hall hl, dictDisplay_pairs (pairTrees keys values X.env pos) (fun z => h0 (List.length_eq_zero_iff.mp (by rw [← hn, z]; rfl))) (by omega)]
  refine wpAny_bind (wpAny_standAt (wpAny_bind (wpAny_subDictH (knd := tupleKind (mixKind X.prog X.w)) (Nat.lt_of_succ_lt hu) (by rw [hn]; exact h15) (thn (hps.run pins _ σ _ _ I1 (q _ hfree)) fun ws s2 ⟨ps, H2, I2, rel, e, kvs, tp, lk, q2⟩ => ?_))))
  obtain ⟨xs, c1, c2, c3⟩ := allT_ok (X := X) (H := H2) (knd := mixKind X.prog X.w) (hp := s2.heap) (fun a ks z => key_of I2.hok z) tp rel
  obtain ⟨z, hd, ys, r0, dd⟩ := dt_of I2.hok e
  cases r0
  refine ⟨xs, c1, dd, fun h' tk dd' hs => wpAny_pure ⟨.ref s.heap.objs.size, _, ?_, rfl, q2⟩⟩
  have hz : (allT kvs []).length ≤ sizeLine := by
    have h1 := length_allT kvs []
    rw [List.length_nil] at h1
    rw [sizeLine_eq]
    omega
  obtain ⟨ob, es, ep, g1, g2, g3, g4, _, g5⟩ := dd'
  refine d_write I2 (by rw [e]; exact True.intro) hs ⟨ob, g1⟩ ⟨hz, hd, _, (c3 [] [] .nil).keeps fun c zs ec => ?_, ob, es, ep, g1, g2, g3, g4, g5⟩
  rw [upd_ne (ne_of ec e (fun z => nomatch z))]
  exact ec
theorem RAs.pair_keysT : ∀ {ks : List AV} {ps : List (V × V)} {kk : List (List L2.Key)}, RAs K fa L H ks (ps.map (·.1)) → keysT ks = some kk → TupPairs H ps (kk.zip (ps.map (·.2)))
  | [], [], _, _, e => by cases e; exact .nil
  | [], p :: ps, _, r, _ => by cases r
  | k :: ks, [], _, r, _ => by obtain ⟨_, _, z, _⟩ := r; cases z
  | k :: ks, p :: ps, kk, r, e => by
    unfold keysT at e
    split at e
    · rename_i c cs q1 q2
      cases e
      obtain ⟨u, t, e1, r1, r2⟩ := r
      rw [List.map_cons] at e1
      injection e1 with e1 e2
      subst e1 e2
      obtain ⟨b, z1, z2⟩ := RA.keyT r1 q1
      exact .cons ⟨b, z1, z2, rfl⟩ (RAs.pair_keysT r2 q2)
    · cases e
theorem allT_new {l : List (List L2.Key × V)} (h : (l.map (·.1)).Nodup) : allT l [] = l := foldl_putK l [] h fun _ _ _ z => nomatch z
theorem m_dst {keys : List (Option Expr)} {values : List Expr} {l : List (Ex × Ex)} {pos : Pos} (hu : X.A.units + 1 < cLine) (hp : PPs X pos keys values (trX K fa T W l)) (hall : keys.all (·.isSome) = true) (hl : keys.length = values.length) (h0 : keys ≠ []) (h15 : keys.length ≤ 15) (h15' : l.length ≤ 15) :
    PE X (.Dict keys values pos) (tE K fa T W (.dst (flatX l))) :=
  PE.weak (pe_dispT hu hp hall hl h0 h15) fun σ H Q ⟨L, σa, h, S, E, o⟩ p hp => by
    replace o : Out K fa W σ (RM K fa) L H ((evEs T (flatX l) σa h).bind fun vs h => match pairUp vs with
      | some (ks, ws) => match keysT ks with
        | some kk => if kk.Nodup then .ok (.ref h.length) (h ++ [.dct true ks ws]) else .stuck
        | none => .stuck
      | none => .stuck) Q := o
    have step : tEs K fa T W (flatX l) σ (upd H p (.dT [])) fun us H2 => ∃ L2 h2 v, evEs T (flatX l) σa h = .ok v h2 ∧ SRh K fa L2 h2 H2 ∧ Ev (L.more p) (upd H p (.dT [])) L2 H2 ∧ RMs K fa L2 H2 v us := ⟨L.more p, σa, h, S.more trivial hp, E.ev (Ew.more hp), Out.inner trivial S hp o⟩
    refine pairs_run step fun ps H2 ⟨L2, h2, vs, q, S2, e2, r2⟩ => ?_
    rw [q] at o
    replace o : Out K fa W σ (RM K fa) L H (match pairUp vs with
      | some (ks, ws) => match keysT ks with
        | some kk => if kk.Nodup then .ok (.ref h2.length) (h2 ++ [.dct true ks ws]) else .stuck
        | none => .stuck
      | none => .stuck) Q := o
    split at o
    · rename_i ks ws qp
      split at o
      · rename_i kk qk
        split at o
        · rename_i hn
          obtain ⟨g1, g2⟩ := pairUp_rel r2 qp
          have ekv := g1.pair_keysT qk
          have hlen : kk.length = (ps.map (·.2)).length := by
            rw [List.length_map, keysT_len qk, ← g1.length, List.length_map]
          have hm0 : (upd H p (.dT [])) p = some (.dT []) := upd_same
          have hpm : p ∈ (L.more p).m := List.mem_cons_self
          have n1 := evEs_len q
          have n2 := r2.length
          rw [flatX_len] at n1
          rw [flatV_len] at n2
          have hD := (e2.same p hpm).lst hm0 trivial
          refine ⟨hD, kk.zip (ps.map (·.2)), ekv, ?_, ?_⟩
          · rw [List.length_zip, hlen, Nat.min_self, List.length_map]
            omega
          · have em : allT (kk.zip (ps.map (·.2))) [] = kk.zip (ps.map (·.2)) := allT_new (by rw [zip_fst_map hlen]; exact hn)
            rw [em]
            have hnot : p ∉ (⟨L2.c, L.m⟩ : LV) := drop_notin S2 e2.mor (S.notm hp)
            -- without p, then with p as a cell
            let Hm : Hp := fun a => if a = p then none else H2 a
            have bm : But p H2 Hm := fun a ha => if_neg ha
            have Sm : SRh K fa ⟨L2.c, L.m⟩ h2 Hm := S2.drop e2.mor (S.notm hp) (.some hD trivial) bm
            have em2 : Ev L H ⟨L2.c, L.m⟩ Hm := Ev.drop S hp e2 bm
            have hpn : Hm p = none := if_pos rfl
            have eu : upd Hm p (.dT (kk.zip (ps.map (·.2)))) = upd H2 p (.dT (kk.zip (ps.map (·.2)))) := by
              funext a
              by_cases ha : a = p
              · rw [ha, upd_same, upd_same]
              · rw [upd_ne ha, upd_ne ha, bm a ha]
            have gm : RAs K fa ⟨L2.c, L.m⟩ Hm ws (ps.map (·.2)) := RAs.ev (Ew.drop e2.mor bm) _ _ g2
            have evn : Ev ⟨L2.c, L.m⟩ Hm (LV.push ⟨L2.c, L.m⟩ p) (upd Hm p (.dT (kk.zip (ps.map (·.2))))) := Sm.evn hpn
            rw [← eu]
            have hz : (ps.map (·.2)).length ≤ sizeLine := by rw [List.length_map, sizeLine_eq]; omega
            exact o _ _ (.ref p) (Sm.new (c := .dct true ks ws) hpn ⟨_, ⟨kk, qk, hlen, hz, upd_same⟩, RAs.ev evn.toEw _ _ gm⟩) (em2.trans evn) (let ⟨a, z1, z2⟩ := RM.new (K := K) (fa := fa) (H := Hm) Sm (p := p); ⟨a, z1, z2⟩)
        · exact o.elim
      · exact o.elim
    · exact o.elim

/-! ### new lists, new dicts -/
/-- .. that lays its answer -/
def BiN (K : PySem.W.Frag) (fa : FA) (f : List AV → Option AV) (r : List V → Hp → VK → Prop) : Prop :=
  ∀ {L : LV} {H : Hp} {h : AH} {xs : List AV} {z : AV} {us : List V} {Q : VK}, SRh K fa L h H → VWs K fa L H xs us → f xs = some z →
    (∀ p c o, newM (.d z) h = .ok (.ref h.length) (h ++ [c]) → H p = none → CellAt K fa (L.push p) (upd H p o) p c → Q (.ref p) (upd H p o)) → r us H Q
theorem tE_newbi {f : Bi} {r : List V → Hp → VK → Prop} (hr : BiN K fa (biF f) r) {ms : Exs} {σ : L2.St} {H : Hp} {Q : VK} (x : tE K fa T W (.new (.bi f ms)) σ H Q) : tCB r (tEs K fa T W ms) σ H Q := by
  obtain ⟨L, σa, h, S, E, o⟩ := x
  replace o : Out K fa W σ (RM K fa) L H (((evEs T ms σa h).bind fun vs h => match views vs h with
    | some xs => optV (biF f xs) h
    | none => .stuck).bind fun v h => newM v h) Q := o
  have o' : Out K fa W σ (RM K fa) L H ((evEs T ms σa h).bind fun vs h => (match views vs h with
    | some xs => optV (biF f xs) h
    | none => .stuck).bind fun v h => newM v h) Q := by
    cases q : evEs T ms σa h with
    | ok v h => rw [q] at o; exact o
    | exc x h => rw [q] at o; exact o
    | stuck => rw [q] at o; exact o
  refine ⟨L, σa, h, S, E, o'.bind.mono fun us H1 ⟨L1, h1, vs, S1, e1, rv, o1⟩ => ?_⟩
  split at o1
  · rename_i xs q
    cases qf : biF f xs with
    | none => rw [qf] at o1; exact o1.elim
    | some z =>
      rw [qf] at o1
      replace o1 : Out K fa W σ (RM K fa) L1 H1 (newM (.d z) h1) Q := o1
      refine hr S1 (views_vw S1 rv q) qf fun p c ob en hp hc => ?_
      rw [en] at o1
      obtain ⟨a, z1, z2⟩ := RM.new (K := K) (fa := fa) (H := H1) S1 (p := p)
      exact o1 _ _ (.ref p) (S1.new hp hc) (S1.evn hp) ⟨a, z1, z2⟩
  · exact o1.elim
theorem m_newbit {f : Bi} {x : Str} {ty : String} {r : List V → Hp → VK → Prop} {p pos : Pos} {e : Expr} {es : List Expr} {ms : Exs} (hc : CallR X (.type ty) r) (hr : BiN K fa (biF f) r) (hg : Gl X x) (hm : X.mg x = none) (hv : bootBuiltins x = some (.type ty))
    (ha : PA X (e :: es) (tEs K fa T W ms)) (hn : x ≠ "__name__") (hdb : (x == ("__debug__" : Str)) = false) (he : starEach (e :: es) X.env = (false, eval e X.env) :: starEach es X.env) (hpl : (backTo pos (starEach es X.env)).any (·.1) = false) :
    PE X (.Call (.Name x p) (e :: es) [] pos) (tE K fa T W (.new (.bi f ms))) := PE.weak (pe_callTy hc hg hm hv ha hn hdb he hpl) fun σ H Q x => tE_newbi hr x
theorem m_newbif {f : Bi} {x : Str} {id : String} {r : List V → Hp → VK → Prop} {p pos : Pos} {e : Expr} {es : List Expr} {ms : Exs} (hc : CallR X (.builtin id) r) (hr : BiN K fa (biF f) r) (hg : Gl X x) (hm : X.mg x = none) (hv : bootBuiltins x = some (.builtin id))
    (ha : PA X (e :: es) (tEs K fa T W ms)) (hn : x ≠ "__name__") (hdb : (x == ("__debug__" : Str)) = false) (he : starEach (e :: es) X.env = (false, eval e X.env) :: starEach es X.env) (hpl : (backTo pos (starEach es X.env)).any (·.1) = false) :
    PE X (.Call (.Name x p) (e :: es) [] pos) (tE K fa T W (.new (.bi f ms))) := PE.weak (pe_callB hc hg hm hv ha hn hdb he hpl) fun σ H Q x => tE_newbi hr x
theorem new_lst (S : SRh K fa L h H) {p : Addr} (hp : H p = none) {xs : List AV} {us : List V} (hl : us.length ≤ sizeLine) (r : RAs K fa L H xs us) : CellAt K fa (L.push p) (upd H p (.lst us)) p (.lst xs) := ⟨us, upd_same, hl, RAs.ev (S.evn hp).toEw _ _ r⟩
theorem bn_list : BiN K fa (biF .list) (fun xs H Q => ∃ p ys, xs = [.ref p] ∧ (SqL K H p ys ∨ SqT K H p ys) ∧ ∀ l, H l = none → Q (.ref l) (upd H l (.lst ys))) := by
  intro L H h xs z us Q S r e k
  obtain ⟨x, u, rfl, r1, e⟩ := one_run (g := lstA) r e
  unfold lstA at e
  split at e
  · cases e
    obtain ⟨a, ws, rfl, t1, l1, q1⟩ := r1
    exact ⟨a, ws, rfl, .inl (.inl (.inl t1)), fun p hp => k p _ _ rfl hp (new_lst S hp l1 q1)⟩
  · cases e
    obtain ⟨a, ws, rfl, t1, l1, q1⟩ := r1
    exact ⟨a, ws, rfl, .inr t1.sq, fun p hp => k p _ _ rfl hp (new_lst S hp l1 q1)⟩
  · cases e
end
end MP

set_option Elab.async false
set_option linter.all false
set_option maxRecDepth 100000
/-! M16: comprehensions. -/
namespace MP
open PySem PySem.Spec PyProof.Rows L2
section
variable {K : PySem.W.Frag} {fa : FA} {T : GT} {W : WX} {L : LV} {H : Hp} {h : AH} {X : Cx}

/-- nothing is thrown -/
def WF : WX := fun _ _ _ _ => False
theorem wipeA_len (σ : AEnv) : ∀ vs : List Nat, (wipeA σ vs).length = σ.length
  | [] => rfl
  | v :: vs => by unfold wipeA; rw [List.length_set, wipeA_len σ vs]
theorem SRe.unset {σa : AEnv} {σ : L2.St} (E : SRe K fa L H σa σ) (i : Nat) : SRe K fa L H (σa.set i none) (σ.set i none) := by
  refine ⟨by rw [List.length_set, List.length_set]; exact E.len, fun j w e => ?_⟩
  by_cases hij : i = j
  · subst hij
    by_cases hi : i < σa.length
    · rw [List.getElem?_set_self hi] at e
      cases e
    · rw [List.getElem?_eq_none (by rw [List.length_set]; omega)] at e
      cases e
  · rw [List.getElem?_set_ne hij] at e
    obtain ⟨z, h1, h2⟩ := E.vals j w e
    exact ⟨z, by rw [List.getElem?_set_ne hij]; exact h1, h2⟩
theorem SRe.wipe {σa : AEnv} {σ : L2.St} (E : SRe K fa L H σa σ) : ∀ vs : List Nat, SRe K fa L H (wipeA σa vs) (L2.wipe σ vs)
  | [] => E
  | v :: vs => (SRe.wipe E vs).unset v
theorem wipe_in {σ : L2.St} {i : Nat} : ∀ {vs : List Nat}, i ∈ vs → (L2.wipe σ vs)[i]? = if i < σ.length then some none else none
  | v :: vs, hi => by
    unfold L2.wipe
    by_cases hv : v = i
    · subst hv
      split
      · rename_i hl
        exact List.getElem?_set_self (by rw [wipe_length]; exact hl)
      · rename_i hl
        exact List.getElem?_eq_none (by rw [List.length_set, wipe_length]; omega)
    · rw [List.getElem?_set_ne hv]
      refine wipe_in ?_
      rcases List.mem_cons.mp hi with z | z
      · exact absurd z.symm hv
      · exact z
theorem wipe_eq {σ σ' : L2.St} {ws vs : List Nat} (f : Off ws (L2.wipe σ vs) σ') (hs : ∀ i ∈ ws, i ∈ vs) : L2.wipe σ' vs = L2.wipe σ vs := by
  have hl : σ'.length = σ.length := f.1.trans (wipe_length σ vs)
  refine List.ext_getElem? fun i => ?_
  by_cases hi : i ∈ vs
  · rw [wipe_in hi, wipe_in hi, hl]
  · rw [wipe_out hi, f.2 i fun z => hi (hs i z)]
theorem m_pts0 : PTs X [] (tC K fa T W .nil) := PTs.weak pts_nil fun σ H Q ⟨L, σa, h, S, E, o⟩ => o L H true S (Ev.refl _ _) rfl
theorem m_pts1 {c : Expr} {m : Ex} (hc : PT X c (tT K fa T W m)) : PTs X [c] (tC K fa T W (.cons m .nil)) := PTs.weak (pts_one hc) fun σ H Q ⟨L, σa, h, S, E, o⟩ => by
  refine ⟨L, σa, h, S, E, ?_⟩
  have e : evC T (.cons m .nil) σa h = evT T m σa h := by
    show ((evE T m σa h).bind fun v h => (truthM v h).bind fun b h => if b = true then .ok true h else .ok false h) = (evE T m σa h).bind truthM
    cases evE T m σa h with
    | ok v h1 =>
      show ((truthM v h1).bind fun b h => if b = true then R.ok true h else R.ok false h) = truthM v h1
      cases truthM v h1 with
      | ok b h2 => cases b <;> rfl
      | exc x h => rfl
      | stuck => rfl
    | exc x h => rfl
    | stuck => rfl
  rw [← e]
  exact o

/-- the loop's state: D the new list -/
structure LcS (K : PySem.W.Frag) (fa : FA) (L1 : LV) (H1 : Hp) (D : Addr) (L : LV) (h : AH) (H : Hp) (acc : List AV) (va : List V) : Prop where
  st : SRh K fa L h H
  m : L.m = D :: L1.m
  ew : Ew L1 H1 L H
  same : ∀ a, a ∈ L1.m → Stay H1 H a
  at_ : H D = some (.lst va)
  vals : RAs K fa L H acc va
section
variable {L1 : LV} {H1 : Hp} {D : Addr} {acc : List AV} {va : List V}
theorem LcS.start (S : SRh K fa L h H) (hD : H D = none) : LcS K fa L H D (L.more D) h (upd H D (.lst [])) [] [] :=
  ⟨S.more trivial hD, rfl, Ew.more hD, fun a ha => .of (upd_ne fun z => S.notin hD (.inr (z ▸ ha))), upd_same, rfl⟩
theorem LcS.mem (s : LcS K fa L1 H1 D L h H acc va) : D ∈ L.m := by rw [s.m]; exact List.mem_cons_self
theorem LcS.ev {L' : LV} {H' : Hp} {h' : AH} (s : LcS K fa L1 H1 D L h H acc va) (hD : H1 D = none) (n : D ∉ L1.m) (S : SRh K fa L' h' H') (e : Ev L H L' H') : LcS K fa L1 H1 D L' h' H' acc va :=
  ⟨S, e.mor.trans s.m, s.ew.trans e.toEw, fun a ha => (s.same a ha).trans (e.same a (by rw [s.m]; exact List.mem_cons_of_mem _ ha)), (e.same D s.mem).lst s.at_ trivial, RAs.ev e.toEw _ _ s.vals⟩
theorem SRh.putm {L : LV} {H : Hp} {h : AH} (S : SRh K fa L h H) {D : Addr} (hD : D ∈ L.m) (f : Free H D) {o : HO} (mo : MutL o) : SRh K fa L h (upd H D o) :=
  ⟨S.len, S.nd, S.dis, fun a ha => by
    by_cases z : a = D
    · exact .inl ⟨o, by rw [z]; exact upd_same, mo⟩
    · exact (S.trm a ha).but But.upd z, fun p hp => ⟨(S.tabs p hp).1, tabS_but But.upd f (S.tabs p hp).2⟩, fun i c a hc ha => (S.cells i c a hc ha).ev (Ew.set (.inr hD)) (upd_ne fun z => S.dis a (List.mem_of_getElem? ha) (z ▸ hD))⟩
theorem LcS.push {x : AV} {u : V} (s : LcS K fa L1 H1 D L h H acc va) (n : D ∉ L1.m) (r : RA K fa L H x u) : LcS K fa L1 H1 D L h (upd H D (.lst (va ++ [u]))) (acc ++ [x]) (va ++ [u]) := by
  have e : Ew L H L (upd H D (.lst (va ++ [u]))) := Ew.set (.inr s.mem)
  exact ⟨s.st.putm s.mem (.some s.at_ trivial) trivial, s.m, s.ew.trans e, fun a ha => (s.same a ha).trans (.of (upd_ne (show a ≠ D from fun z => n (z ▸ ha)))), upd_same, RAs.ev e _ _ (s.vals.append ⟨u, [], rfl, r, rfl⟩)⟩
theorem LcS.fin (s : LcS K fa L1 H1 D L h H acc va) (n : D ∉ L1.m) (hl : va.length ≤ sizeLine) : SRh K fa ⟨L.c, L1.m⟩ h H ∧ Ev L1 H1 ⟨L.c, L1.m⟩ H ∧ RA K fa ⟨L.c, L1.m⟩ H (.lst acc) (.ref D) := by
  have e : Ew L H ⟨L.c, L1.m⟩ H := Ew.drop s.m But.refl
  exact ⟨s.st.drop s.m n (.some s.at_ trivial) But.refl, ⟨s.ew.trans e, rfl, s.same⟩, D, va, rfl, drop_notin s.st s.m n, s.at_, hl, RAs.ev e _ _ s.vals⟩
end
theorem asData_ok {v : MV} {x : AV} {h h' : AH} (e : asData v h = .ok x h') : v = .d x ∧ h' = h := by
  cases v with
  | d y => cases e; exact ⟨rfl, rfl⟩
  | ref i => cases e
/-- one turn -/
noncomputable def turn (T : GT) (t : Tg) (c : Exs) (e : Ex) (σ : AEnv) (x : AV) (h : AH) : R (Option AV) := match asg t (.d x) σ with
  | some σ' => (evC T c σ' h).bind fun b h => if b = true then (evE T e σ' h).bind fun v h => (asData v h).bind fun x h => .ok (some x) h else .ok none h
  | none => .stuck
theorem compL_cons {f : AV → AH → R (Option AV)} {o : Option (Nat × Cell)} {x : AV} {xs r : List AV} {h h2 : AH} (e : compL f o (x :: xs) h = .ok r h2) : ∃ v h1 r', f x h = .ok v h1 ∧ stillAt o h1 ∧ compL f o xs h1 = .ok r' h2 ∧ r = v.toList ++ r' := by
  unfold compL at e
  split at e
  · rename_i v h1 q
    split at e
    · rename_i hs
      split at e
      · rename_i r' h3 q2
        cases e
        exact ⟨v, h1, r', q, hs, q2, rfl⟩
      · cases e
    · cases e
  · cases e
theorem compLL_cons {f : AV → AH → R (List AV)} {o : Option (Nat × Cell)} {x : AV} {xs r : List AV} {h h2 : AH} (e : compLL f o (x :: xs) h = .ok r h2) : ∃ v h1 r', f x h = .ok v h1 ∧ stillAt o h1 ∧ compLL f o xs h1 = .ok r' h2 ∧ r = v ++ r' := by
  unfold compLL at e
  split at e
  · rename_i v h1 q
    split at e
    · rename_i hs
      split at e
      · rename_i r' h3 q2
        cases e
        exact ⟨v, h1, r', q, hs, q2, rfl⟩
      · cases e
    · cases e
  · cases e
/-- an outcome that is there -/
theorem Out.ok_of {α β : Type} {σ : L2.St} {rel : LV → Hp → α → β → Prop} {r : R α} {v : α} {h' : AH} {Q : β → Hp → Prop} (e : r = .ok v h') (k : ∀ L' H' u, SRh K fa L' h' H' → Ev L H L' H' → rel L' H' v u → Q u H') : Out K fa W σ rel L H r Q := by
  subst e
  exact k
/-- a turn's readings: the tests, then the item or nothing -/
theorem turn_run {t : Tg} {c : Exs} {e : Ex} {own : List Nat} {σa : AEnv} {σ : L2.St} {x : AV} {u : V} {v : Option AV} {h1 : AH} {Q : L2.St → Bool → Hp → Prop} (S : SRh K fa L h H) (E : SRe K fa L H σa σ) (rx : RA K fa L H x u) (hown : ∀ i ∈ tgV t, i ∈ own)
    (q : turn T t c e (wipeA σa own) x h = .ok v h1)
    (g : ∀ (σ2 : L2.St) (b : Bool) (L3 : LV) (h3 : AH) (H3 : Hp), SRh K fa L3 h3 H3 → Ev L H L3 H3 → (b = true → ∃ z, v = some z ∧ ∀ Q : VK, (∀ L4 H4 y, SRh K fa L4 h1 H4 → Ev L3 H3 L4 H4 → RA K fa L4 H4 z y → Q y H4) → tE K fa T WF e σ2 H3 Q) → (b = false → v = none ∧ h3 = h1) → Q σ2 b H3) :
    gA K fa t u (L2.wipe σ own) H fun σ2 H2 => L2.wipe σ2 own = L2.wipe σ own ∧ tC K fa T WF c σ2 H2 (Q σ2) := by
  unfold turn at q
  cases qa : asg t (.d x) (wipeA σa own) with
  | none => rw [qa] at q; cases q
  | some σ1 =>
    rw [qa] at q
    refine ⟨L, _, h, .d x, σ1, S, E.wipe own, rx, qa, fun σ2 E2 f => ⟨wipe_eq f hown, L, σ1, h, S, E2, ?_⟩⟩
    obtain ⟨b, h3, q1, q2⟩ := R.bind_ok q
    refine Out.ok_of q1 fun L3 H3 b' S3 e3 eb => ?_
    cases eb
    refine g σ2 b L3 h3 H3 S3 e3 (fun hb => ?_) fun hb => ?_
    · subst hb
      rw [if_pos rfl] at q2
      obtain ⟨w, h4, q3, q4⟩ := R.bind_ok q2
      obtain ⟨z, h5, q5, q6⟩ := R.bind_ok q4
      obtain ⟨rfl, rfl⟩ := asData_ok q5
      cases q6
      exact ⟨z, rfl, fun Q k => ⟨L3, σ1, h3, S3, E2.ev e3.toEw, Out.ok_of q3 fun L4 H4 y S4 e4 r4 => k L4 H4 y S4 e4 r4⟩⟩
    · subst hb
      rw [if_neg Bool.false_ne_true] at q2
      cases q2
      exact ⟨rfl, rfl⟩
theorem endL_ok {σ : L2.St} {Q : VK} {xs : List AV} (o : Out K fa W σ (RM K fa) L H (endL xs h) Q) : xs.length ≤ sizeLine ∧ ∀ L' H' u, SRh K fa L' h H' → Ev L H L' H' → RA K fa L' H' (.lst xs) u → Q u H' := by
  unfold endL at o
  split at o
  · rename_i hl
    exact ⟨hl, o⟩
  · exact o.elim
theorem comp_run {t : Tg} {it : It} {c : Exs} {e : Ex} {own : List Nat} (hown : ∀ i ∈ tgV t, i ∈ own) {σ : L2.St} {H : Hp} {Q : VK} (x : tE K fa T W (.comp t it c e own) σ H Q) :
    tLc (tI K fa T W it) (gA K fa t) (tC K fa T WF c) (tE K fa T WF e) own σ H Q := by
  obtain ⟨L, σa, h, S, E, o⟩ := x
  replace o : Out K fa W σ (RM K fa) L H ((evIt T it σa h).bind fun s h => (compL (turn T t c e (wipeA σa own)) s.cell s.items h).bind endL) Q := o
  refine ⟨L, σa, h, S, E, o.bindE.mono fun J H1 ⟨L1, h1, s, q, S1, e1, wk, o1⟩ D hD => ?_⟩
  have hcell := evIt_still q
  have n : D ∉ L1.m := S1.notm hD
  cases qc : compL (turn T t c e (wipeA σa own)) s.cell s.items h1 with
  | exc x h2 => 
    exfalso
    have : ∀ (xs : List AV) (h : AH) (x : Exc) (h2 : AH), compL (turn T t c e (wipeA σa own)) s.cell xs h ≠ .exc x h2 := by
      intro xs h x h2 z
      cases xs with
      | nil => cases z
      | cons a as =>
        unfold compL at z
        split at z
        · split at z
          · split at z <;> cases z
          · cases z
        · cases z
    exact this _ _ _ _ qc
  | stuck => rw [qc] at o1; exact o1.elim
  | ok xs h2 =>
    rw [qc] at o1
    obtain ⟨hl, o2⟩ := endL_ok (h := h2) o1
    refine ⟨fun i m H => ∃ L h acc va rest, LcS K fa L1 H1 D L h H acc va ∧ stillAt s.cell h ∧ compL (turn T t c e (wipeA σa own)) s.cell (s.items.drop i) h = .ok rest h2 ∧ xs = acc ++ rest ∧ m = s.items.length - i,
      ⟨s.items.length, L1.more D, h1, [], [], xs, LcS.start S1 hD, hcell, by rw [List.drop_zero]; exact qc, rfl, rfl⟩, fun i m Hc ⟨L2, h3, acc, va, rest, Z, hst, qr, ex, em⟩ => ?_⟩
    have w := wk L2 Hc h3 Z.st Z.ew hst i
    by_cases hi : i < s.items.length
    · have hx : s.items[i]? = some s.items[i] := List.getElem?_eq_getElem hi
      rw [List.drop_eq_getElem_cons hi] at qr
      obtain ⟨v, h4, r', qf, hs4, qr', er⟩ := compL_cons qr
      obtain ⟨g1, g2⟩ := w.1 _ hx
      refine .inr ⟨g1, fun H => ∃ L h acc va rest, LcS K fa L1 H1 D L h H acc va ∧ stillAt s.cell h ∧ compL (turn T t c e (wipeA σa own)) s.cell (s.items.drop (i + 1)) h = .ok rest h2 ∧ xs = acc ++ rest,
        fun H' ⟨L, h, acc, va, rest, z1, z2, z3, z4⟩ => ⟨m - 1, by omega, L, h, acc, va, rest, z1, z2, z3, z4, by omega⟩, fun u H3 y => ?_⟩
      obtain ⟨sm, ru⟩ := g2 u H3 y
      have S3 := Z.st.same sm
      have Z3 := Z.ev hD n S3 (Z.st.evs sm)
      have E3 : SRe K fa L2 H3 σa σ := (E.ev e1.toEw).ev Z3.ew
      refine turn_run (Q := fun σ2 b H3 => if b = true then tE K fa T WF e σ2 H3 fun y H4 => ∃ acc, H4 D = some (.lst acc) ∧ acc.length < sizeLine ∧ _ else _) S3 E3 ru hown qf fun σ2 b L4 h5 H4 S4 e4 k1 k2 => ?_
      have Z4 := Z3.ev hD n S4 e4
      cases b with
      | true =>
        obtain ⟨z, rfl, k⟩ := k1 rfl
        rw [if_pos rfl]
        refine k _ fun L5 H5 y S5 e5 r5 => ?_
        have Z5 := Z4.ev hD n S5 e5
        have hlen : va.length < sizeLine := by
          have a1 := Z5.vals.length
          have a2 : xs.length = acc.length + (1 + r'.length) := by
            rw [ex, er, List.length_append, List.length_append]
            rfl
          omega
        exact ⟨va, Z5.at_, hlen, L5, h4, _, _, r', Z5.push n r5, hs4, qr', by rw [ex, er]; simp⟩
      | false =>
        obtain ⟨rfl, rfl⟩ := k2 rfl
        rw [if_neg Bool.false_ne_true]
        exact ⟨L4, h5, acc, va, r', Z4, hs4, qr', by rw [ex, er]; rfl⟩
    · have hi' : s.items.length ≤ i := Nat.le_of_not_lt hi
      rw [List.drop_eq_nil_of_le hi'] at qr
      cases qr
      refine .inl ⟨w.2 hi', ?_⟩
      have ea : xs = acc := by rw [ex, List.append_nil]
      have hl' : va.length ≤ sizeLine := by rw [Z.vals.length, ← ea]; exact hl
      obtain ⟨f1, f2, f3⟩ := Z.fin n hl'
      rw [← ea] at f3
      exact o2 _ _ _ f1 f2 f3
theorem m_comp {elt tg iter : Expr} {ifs : List Expr} {scope : Scope} {own : List (Str × Nat)} {pos : Pos} {t : Tg} {it : It} {c : Exs} {e : Ex} (hown : ∀ i ∈ tgV t, i ∈ own.map (·.2)) (hc : X.calm = true) (hN : X.N.Nodup) (hi : PI X tg iter (tI K fa T W it)) (ok : BlkOk X.N X.env.scope scope own)
    (hg : ∀ (s : Shared) (H : Hp) (C : Addr) (cl : List (Str × Addr)) (fp : List Addr), PG (X.blk s H scope (compEnvC scope cl C X.env) fp) tg (gA K fa t)) (ht : ∀ (s : Shared) (H : Hp) (C : Addr) (cl : List (Str × Addr)) (fp : List Addr), PTs (X.blk s H scope (compEnvC scope cl C X.env) fp) ifs (tC K fa T WF c))
    (he : ∀ (s : Shared) (H : Hp) (C : Addr) (cl : List (Str × Addr)) (fp : List Addr), PE (X.blk s H scope (compEnvC scope cl C X.env) fp) elt (tE K fa T WF e)) (hs : ∀ x, foldedSetIterable iter X.env x = pure x) :
    PE X (.ListComp elt [⟨tg, iter, ifs, 0⟩] scope pos) (tE K fa T W (.comp t it c e (own.map (·.2)))) := PE.weak (pe_lc hc hN hi ok hg ht he hs) fun σ H Q x => comp_run hown x
theorem s_setLc {i : Nat} {y : Str} {py : Pos} {elt tg iter : Expr} {ifs : List Expr} {scope : Scope} {own : List (Str × Nat)} {pos spos : Pos} {t : Tg} {it : It} {c : Exs} {e : Ex} (hown : ∀ i ∈ tgV t, i ∈ own.map (·.2)) (hc : X.calm = true) (hN : X.N.Nodup) (hy : X.N[i]? = some y) (hyl : X.env.scope.names.lookup y = some .local)
    (hsw : swapsWith (.ListComp elt [⟨tg, iter, ifs, 0⟩] scope pos) (some (.Name y py)) spos.line X.env = pure true) (hi : PI X tg iter (tI K fa T W it)) (ok : BlkOk X.N X.env.scope scope own)
    (hg : ∀ (s : Shared) (H : Hp) (C : Addr) (cl : List (Str × Addr)) (fp : List Addr), PG (X.blk s H scope (compEnvC scope cl C X.env) fp) tg (gA K fa t)) (ht : ∀ (s : Shared) (H : Hp) (C : Addr) (cl : List (Str × Addr)) (fp : List Addr), PTs (X.blk s H scope (compEnvC scope cl C X.env) fp) ifs (tC K fa T WF c))
    (he : ∀ (s : Shared) (H : Hp) (C : Addr) (cl : List (Str × Addr)) (fp : List Addr), PE (X.blk s H scope (compEnvC scope cl C X.env) fp) elt (tE K fa T WF e)) (hs : ∀ x, foldedSetIterable iter X.env x = pure x) :
    PS X (.Assign [.Name y py] (.ListComp elt [⟨tg, iter, ifs, 0⟩] scope pos) spos) (tS K fa T W (.set (.nm i) (.comp t it c e (own.map (·.2))))) := PS.weak (ps_setLc hc hN hy hyl hsw hi ok hg ht he hs) fun D σ H x => by
  obtain ⟨L, σa, h, S, E, o⟩ := x
  replace o : OutS K fa W D L H ((evE T (.comp t it c e (own.map (·.2))) σa h).s σa fun v h => .nx (σa.set i (some v)) h) := o
  have y : tE K fa T W (.comp t it c e (own.map (·.2))) σ H fun x H1 => gName i x σ H1 D.nx := ⟨L, σa, h, S, E, (o.s E).mono fun u H1 ⟨L1, h1, v, q, S1, e1, rv, o1⟩ => o1 L1 H1 _ S1 (Ev.refl _ _) ((E.ev e1.toEw).set rv i)⟩
  exact comp_run hown y
end
end MP

set_option Elab.async false
set_option linter.all false
set_option maxRecDepth 100000
/-! M17: comprehensions of two clauses. -/
namespace MP
open PySem PySem.Spec PyProof.Rows L2
section
variable {K : PySem.W.Frag} {fa : FA} {T : GT} {W : WX} {L : LV} {H : Hp} {h : AH} {X : Cx}

noncomputable def turn2 (T : GT) (t : Tg) (c : Exs) (t2 : Tg) (it2 : It) (c2 : Exs) (e : Ex) (own2 : List Nat) (σ : AEnv) (x : AV) (h : AH) : R (List AV) := match asg t (.d x) σ with
  | some σ' => (evC T c σ' h).bind fun b h => if b = true then (evIt T it2 σ' h).bind fun s2 h => compL (turn T t2 c2 e (wipeA σ' own2)) s2.cell s2.items h else .ok [] h
  | none => .stuck
theorem compL_len {f : AV → AH → R (Option AV)} {o : Option (Nat × Cell)} {x : Exc} {h2 : AH} : ∀ (xs : List AV) (h : AH), compL f o xs h ≠ .exc x h2 := fun xs h z => by
  cases xs with
  | nil => cases z
  | cons a as =>
    unfold compL at z
    split at z
    · split at z
      · split at z <;> cases z
      · cases z
    · cases z
theorem compLL_len {f : AV → AH → R (List AV)} {o : Option (Nat × Cell)} {x : Exc} {h2 : AH} : ∀ (xs : List AV) (h : AH), compLL f o xs h ≠ .exc x h2 := fun xs h z => by
  cases xs with
  | nil => cases z
  | cons a as =>
    unfold compLL at z
    split at z
    · split at z
      · split at z <;> cases z
      · cases z
    · cases z
theorem turn2_run {t : Tg} {c : Exs} {t2 : Tg} {it2 : It} {c2 : Exs} {e : Ex} {own own2 : List Nat} {σa : AEnv} {σ : L2.St} {x : AV} {u : V} {v : List AV} {h1 : AH} {Q : L2.St → Bool → Hp → Prop} (S : SRh K fa L h H) (E : SRe K fa L H σa σ) (rx : RA K fa L H x u) (hown : ∀ i ∈ tgV t, i ∈ own)
    (q : turn2 T t c t2 it2 c2 e own2 (wipeA σa own) x h = .ok v h1)
    (g : ∀ (σ2 : L2.St) (σ1 : AEnv) (b : Bool) (L3 : LV) (h3 : AH) (H3 : Hp), SRh K fa L3 h3 H3 → SRe K fa L3 H3 σ1 σ2 → Ev L H L3 H3 → (b = true → ∃ s2 h4, evIt T it2 σ1 h3 = .ok s2 h4 ∧ compL (turn T t2 c2 e (wipeA σ1 own2)) s2.cell s2.items h4 = .ok v h1) → (b = false → v = [] ∧ h3 = h1) → Q σ2 b H3) :
    gA K fa t u (L2.wipe σ own) H fun σ2 H2 => L2.wipe σ2 own = L2.wipe σ own ∧ tC K fa T WF c σ2 H2 (Q σ2) := by
  unfold turn2 at q
  cases qa : asg t (.d x) (wipeA σa own) with
  | none => rw [qa] at q; cases q
  | some σ1 =>
    rw [qa] at q
    refine ⟨L, _, h, .d x, σ1, S, E.wipe own, rx, qa, fun σ2 E2 f => ⟨wipe_eq f hown, L, σ1, h, S, E2, ?_⟩⟩
    obtain ⟨b, h3, q1, q2⟩ := R.bind_ok q
    refine Out.ok_of q1 fun L3 H3 b' S3 e3 eb => ?_
    cases eb
    refine g σ2 σ1 b L3 h3 H3 S3 (E2.ev e3.toEw) e3 (fun hb => ?_) fun hb => ?_
    · subst hb
      rw [if_pos rfl] at q2
      obtain ⟨s2, h4, q3, q4⟩ := R.bind_ok q2
      exact ⟨s2, h4, q3, q4⟩
    · subst hb
      rw [if_neg Bool.false_ne_true] at q2
      cases q2
      exact ⟨rfl, rfl⟩
theorem comp2_run {t : Tg} {it : It} {c : Exs} {t2 : Tg} {it2 : It} {c2 : Exs} {e : Ex} {own own2 : List Nat} (hown : ∀ i ∈ tgV t, i ∈ own) (hown2 : ∀ i ∈ tgV t2, i ∈ own2) {σ : L2.St} {H : Hp} {Q : VK} (x : tE K fa T W (.comp2 t it c t2 it2 c2 e own own2) σ H Q) :
    tLc2 (tI K fa T W it) (gA K fa t) (tC K fa T WF c) (tI K fa T WF it2) (gA K fa t2) (tC K fa T WF c2) (tE K fa T WF e) own own2 σ H Q := by
  obtain ⟨L, σa, h, S, E, o⟩ := x
  let F := turn2 T t c t2 it2 c2 e own2 (wipeA σa own)
  replace o : Out K fa W σ (RM K fa) L H ((evIt T it σa h).bind fun s h => (compLL F s.cell s.items h).bind endL) Q := o
  refine ⟨L, σa, h, S, E, o.bindE.mono fun J H1 ⟨L1, h1, s, q, S1, e1, wk, o1⟩ D hD => ?_⟩
  have hcell := evIt_still q
  have n : D ∉ L1.m := S1.notm hD
  cases qc : compLL F s.cell s.items h1 with
  | exc x h2 => exact (compLL_len _ _ qc).elim
  | stuck => rw [qc] at o1; exact o1.elim
  | ok xs h2 =>
    rw [qc] at o1
    obtain ⟨hl, o2⟩ := endL_ok (h := h2) o1
    refine ⟨fun i m H => ∃ L h acc va rest, LcS K fa L1 H1 D L h H acc va ∧ stillAt s.cell h ∧ compLL F s.cell (s.items.drop i) h = .ok rest h2 ∧ xs = acc ++ rest ∧ m = s.items.length - i,
      ⟨s.items.length, L1.more D, h1, [], [], xs, LcS.start S1 hD, hcell, by rw [List.drop_zero]; exact qc, rfl, rfl⟩, fun i m Hc ⟨L2, h3, acc, va, rest, Z, hst, qr, ex, em⟩ => ?_⟩
    have w := wk L2 Hc h3 Z.st Z.ew hst i
    by_cases hi : i < s.items.length
    · have hx : s.items[i]? = some s.items[i] := List.getElem?_eq_getElem hi
      rw [List.drop_eq_getElem_cons hi] at qr
      obtain ⟨v, h4, r', qf, hs4, qr', er⟩ := compLL_cons qr
      obtain ⟨g1, g2⟩ := w.1 _ hx
      let Nx : Hp → Prop := fun H => ∃ L h acc va rest, LcS K fa L1 H1 D L h H acc va ∧ stillAt s.cell h ∧ compLL F s.cell (s.items.drop (i + 1)) h = .ok rest h2 ∧ xs = acc ++ rest
      refine .inr ⟨g1, Nx, fun H' ⟨L, h, acc, va, rest, z1, z2, z3, z4⟩ => ⟨m - 1, by omega, L, h, acc, va, rest, z1, z2, z3, z4, by omega⟩, fun u H3 y => ?_⟩
      obtain ⟨sm, ru⟩ := g2 u H3 y
      have S3 := Z.st.same sm
      have Z3 := Z.ev hD n S3 (Z.st.evs sm)
      have E3 : SRe K fa L2 H3 σa σ := (E.ev e1.toEw).ev Z3.ew
      refine turn2_run (Q := fun σ2 b H3 => if b = true then tI K fa T WF it2 σ2 H3 fun J1 H4 => _ else Nx H3) S3 E3 ru hown qf fun σ2 σ1 b L4 h5 H4 S4 E4 e4 k1 k2 => ?_
      have Z4 := Z3.ev hD n S4 e4
      cases b with
      | false =>
        obtain ⟨rfl, rfl⟩ := k2 rfl
        rw [if_neg Bool.false_ne_true]
        exact ⟨L4, h5, acc, va, r', Z4, hs4, qr', by rw [ex, er]; rfl⟩
      | true =>
        obtain ⟨s2, h6, qi, qv⟩ := k1 rfl
        rw [if_pos rfl]
        refine ⟨L4, σ1, h5, S4, E4, Out.ok_of qi fun L6 H6 J1 S6 e6 wk2 => ?_⟩
        have Z6 := Z4.ev hD n S6 e6
        let G := turn T t2 c2 e (wipeA σ1 own2)
        refine ⟨fun j k H => ∃ L h acc va rest, LcS K fa L1 H1 D L h H acc va ∧ Ew L6 H6 L H ∧ stillAt s2.cell h ∧ compL G s2.cell (s2.items.drop j) h = .ok rest h4 ∧ xs = acc ++ (rest ++ r') ∧ k = s2.items.length - j,
          ⟨s2.items.length, L6, h6, acc, va, v, Z6, (Ev.refl _ _).toEw, evIt_still qi, by rw [List.drop_zero]; exact qv, by rw [ex, er], rfl⟩, fun j k Hd ⟨L7, h7, acc7, va7, rest7, Z7, ew7, st7, q7, ex7, em7⟩ => ?_⟩
        have w2 := wk2 L7 Hd h7 Z7.st ew7 st7 j
        by_cases hj : j < s2.items.length
        · have hx2 : s2.items[j]? = some s2.items[j] := List.getElem?_eq_getElem hj
          rw [List.drop_eq_getElem_cons hj] at q7
          obtain ⟨v8, h8, r8, qf8, hs8, qr8, er8⟩ := compL_cons q7
          obtain ⟨gg1, gg2⟩ := w2.1 _ hx2
          refine .inr ⟨gg1, fun H => ∃ L h acc va rest, LcS K fa L1 H1 D L h H acc va ∧ Ew L6 H6 L H ∧ stillAt s2.cell h ∧ compL G s2.cell (s2.items.drop (j + 1)) h = .ok rest h4 ∧ xs = acc ++ (rest ++ r'),
            fun H' ⟨L, h, acc, va, rest, z1, z2, z3, z4, z5⟩ => ⟨k - 1, by omega, L, h, acc, va, rest, z1, z2, z3, z4, z5, by omega⟩, fun u2 H8 y2 => ?_⟩
          obtain ⟨sm8, ru8⟩ := gg2 u2 H8 y2
          have S8 := Z7.st.same sm8
          have e8 := Z7.st.evs sm8
          have Z8 := Z7.ev hD n S8 e8
          have E8 : SRe K fa L7 H8 σ1 σ2 := (E4.ev e6.toEw).ev (ew7.trans e8.toEw)
          refine turn_run (Q := fun σ3 b H6 => if b = true then tE K fa T WF e σ3 H6 fun y H7 => ∃ acc, H7 D = some (.lst acc) ∧ acc.length < sizeLine ∧ _ else _) S8 E8 ru8 hown2 qf8 fun σ3 b L9 h9 H9 S9 e9 k91 k92 => ?_
          have Z9 := Z8.ev hD n S9 e9
          have ew9 := (ew7.trans e8.toEw).trans e9.toEw
          cases b with
          | true =>
            obtain ⟨z, rfl, k'⟩ := k91 rfl
            rw [if_pos rfl]
            refine k' _ fun L10 H10 y10 S10 e10 r10 => ?_
            have Z10 := Z9.ev hD n S10 e10
            have hlen : va7.length < sizeLine := by
              have a1 := Z10.vals.length
              have a2 : xs.length = acc7.length + ((1 + r8.length) + r'.length) := by
                rw [ex7, er8, List.length_append, List.length_append, List.length_append]
                rfl
              omega
            exact ⟨va7, Z10.at_, hlen, L10, h8, _, _, r8, Z10.push n r10, (ew9.trans e10.toEw).trans (Ew.set (.inr Z10.mem)), hs8, qr8, by rw [ex7, er8]; simp⟩
          | false =>
            obtain ⟨rfl, rfl⟩ := k92 rfl
            rw [if_neg Bool.false_ne_true]
            exact ⟨L9, h9, acc7, va7, r8, Z9, ew9, hs8, qr8, by rw [ex7, er8]; rfl⟩
        · have hj' : s2.items.length ≤ j := Nat.le_of_not_lt hj
          rw [List.drop_eq_nil_of_le hj'] at q7
          cases q7
          exact .inl ⟨w2.2 hj', L7, _, acc7, va7, r', Z7, hs4, qr', by rw [ex7]; rfl⟩
    · have hi' : s.items.length ≤ i := Nat.le_of_not_lt hi
      rw [List.drop_eq_nil_of_le hi'] at qr
      cases qr
      refine .inl ⟨w.2 hi', ?_⟩
      have ea : xs = acc := by rw [ex, List.append_nil]
      have hl' : va.length ≤ sizeLine := by rw [Z.vals.length, ← ea]; exact hl
      obtain ⟨f1, f2, f3⟩ := Z.fin n hl'
      rw [← ea] at f3
      exact o2 _ _ _ f1 f2 f3
theorem m_comp2 {elt tg iter tg1 iter1 : Expr} {ifs ifs1 : List Expr} {scope : Scope} {own : List (Str × Nat)} {vs1 : List Nat} {pos : Pos} {t t2 : Tg} {it it2 : It} {c c2 : Exs} {e : Ex} (hown : ∀ i ∈ tgV t, i ∈ own.map (·.2)) (hown2 : ∀ i ∈ tgV t2, i ∈ vs1) (hc : X.calm = true) (hN : X.N.Nodup) (hi : PI X tg iter (tI K fa T W it)) (ok : BlkOk X.N X.env.scope scope own) (hv : ∀ i ∈ vs1, i ∈ own.map (·.2))
    (hg : ∀ (s : Shared) (H : Hp) (C : Addr) (cl : List (Str × Addr)) (fp : List Addr), PG (X.blk s H scope (compEnvC scope cl C X.env) fp) tg (gA K fa t)) (ht : ∀ (s : Shared) (H : Hp) (C : Addr) (cl : List (Str × Addr)) (fp : List Addr), PTs (X.blk s H scope (compEnvC scope cl C X.env) fp) ifs (tC K fa T WF c))
    (hi1 : ∀ (s : Shared) (H : Hp) (C : Addr) (cl : List (Str × Addr)) (fp : List Addr), PI (X.blk s H scope (compEnvC scope cl C X.env) fp) tg1 iter1 (tI K fa T WF it2))
    (hg1 : ∀ (s : Shared) (H : Hp) (C : Addr) (cl : List (Str × Addr)) (fp : List Addr), PG (X.blk s H scope (compEnvC scope cl C X.env) fp) tg1 (gA K fa t2)) (ht1 : ∀ (s : Shared) (H : Hp) (C : Addr) (cl : List (Str × Addr)) (fp : List Addr), PTs (X.blk s H scope (compEnvC scope cl C X.env) fp) ifs1 (tC K fa T WF c2))
    (he : ∀ (s : Shared) (H : Hp) (C : Addr) (cl : List (Str × Addr)) (fp : List Addr), PE (X.blk s H scope (compEnvC scope cl C X.env) fp) elt (tE K fa T WF e)) (hs : ∀ x, foldedSetIterable iter X.env x = pure x) (hs1 : ∀ env x, foldedSetIterable iter1 env x = pure x) :
    PE X (.ListComp elt [⟨tg, iter, ifs, 0⟩, ⟨tg1, iter1, ifs1, 0⟩] scope pos) (tE K fa T W (.comp2 t it c t2 it2 c2 e (own.map (·.2)) vs1)) := PE.weak (pe_lc2 hc hN hi ok hv hg ht hi1 hg1 ht1 he hs hs1) fun σ H Q x => comp2_run hown hown2 x
theorem s_setLc2 {i : Nat} {y : Str} {py : Pos} {elt tg iter tg1 iter1 : Expr} {ifs ifs1 : List Expr} {scope : Scope} {own : List (Str × Nat)} {vs1 : List Nat} {pos spos : Pos} {t t2 : Tg} {it it2 : It} {c c2 : Exs} {e : Ex} (hown : ∀ i ∈ tgV t, i ∈ own.map (·.2)) (hown2 : ∀ i ∈ tgV t2, i ∈ vs1) (hc : X.calm = true) (hN : X.N.Nodup) (hy : X.N[i]? = some y) (hyl : X.env.scope.names.lookup y = some .local)
    (hsw : swapsWith (.ListComp elt [⟨tg, iter, ifs, 0⟩, ⟨tg1, iter1, ifs1, 0⟩] scope pos) (some (.Name y py)) spos.line X.env = pure true) (hi : PI X tg iter (tI K fa T W it)) (ok : BlkOk X.N X.env.scope scope own) (hv : ∀ i ∈ vs1, i ∈ own.map (·.2))
    (hg : ∀ (s : Shared) (H : Hp) (C : Addr) (cl : List (Str × Addr)) (fp : List Addr), PG (X.blk s H scope (compEnvC scope cl C X.env) fp) tg (gA K fa t)) (ht : ∀ (s : Shared) (H : Hp) (C : Addr) (cl : List (Str × Addr)) (fp : List Addr), PTs (X.blk s H scope (compEnvC scope cl C X.env) fp) ifs (tC K fa T WF c))
    (hi1 : ∀ (s : Shared) (H : Hp) (C : Addr) (cl : List (Str × Addr)) (fp : List Addr), PI (X.blk s H scope (compEnvC scope cl C X.env) fp) tg1 iter1 (tI K fa T WF it2))
    (hg1 : ∀ (s : Shared) (H : Hp) (C : Addr) (cl : List (Str × Addr)) (fp : List Addr), PG (X.blk s H scope (compEnvC scope cl C X.env) fp) tg1 (gA K fa t2)) (ht1 : ∀ (s : Shared) (H : Hp) (C : Addr) (cl : List (Str × Addr)) (fp : List Addr), PTs (X.blk s H scope (compEnvC scope cl C X.env) fp) ifs1 (tC K fa T WF c2))
    (he : ∀ (s : Shared) (H : Hp) (C : Addr) (cl : List (Str × Addr)) (fp : List Addr), PE (X.blk s H scope (compEnvC scope cl C X.env) fp) elt (tE K fa T WF e)) (hs : ∀ x, foldedSetIterable iter X.env x = pure x) (hs1 : ∀ env x, foldedSetIterable iter1 env x = pure x) :
    PS X (.Assign [.Name y py] (.ListComp elt [⟨tg, iter, ifs, 0⟩, ⟨tg1, iter1, ifs1, 0⟩] scope pos) spos) (tS K fa T W (.set (.nm i) (.comp2 t it c t2 it2 c2 e (own.map (·.2)) vs1))) := PS.weak (ps_setLc2 hc hN hy hyl hsw hi ok hv hg ht hi1 hg1 ht1 he hs hs1) fun D σ H x => by
  obtain ⟨L, σa, h, S, E, o⟩ := x
  replace o : OutS K fa W D L H ((evE T (.comp2 t it c t2 it2 c2 e (own.map (·.2)) vs1) σa h).s σa fun v h => .nx (σa.set i (some v)) h) := o
  have y : tE K fa T W (.comp2 t it c t2 it2 c2 e (own.map (·.2)) vs1) σ H fun x H1 => gName i x σ H1 D.nx := ⟨L, σa, h, S, E, (o.s E).mono fun u H1 ⟨L1, h1, v, q, S1, e1, rv, o1⟩ => o1 L1 H1 _ S1 (Ev.refl _ _) ((E.ev e1.toEw).set rv i)⟩
  exact comp2_run hown hown2 y
end
end MP

set_option Elab.async false
set_option linter.all false
set_option maxRecDepth 100000
/-! M18: calls. -/
namespace MP
open PySem PySem.Spec PyProof.Rows L2

/-- a def's promise, nothing being represented or told around it -/
structure FnG (P : Program) (w : World) (K : PySem.W.Frag) (mg : Str → Option Value) (base : Heap) (gr : Prop) (k : Nat) (f : Addr) (fd : FuncData) (ps : List Str) (sp : Sp) : Prop where
  len : ∀ vs H Q E, sp vs H Q E → vs.length = ps.length
  run : ∀ (A : Around) (outer : List Env) (s : Shared) (H : Hp) (args : Args) (us : List Value) (vs : List V) (Q : VK) (E : XK), Room k A → (gr → A.guards = some []) → Env0 P w K mg base A outer s H → BindsTo s fd args (ps.zip us) → Vals vs us → sp vs H Q E →
    codeAny (model P w) A (.call (.ref f) args) (CR (L2.CX P w) outer P w H s Q E) s
theorem FnG.mono {P : Program} {w : World} {K : PySem.W.Frag} {mg : Str → Option Value} {base : Heap} {gr : Prop} {j k : Nat} {f : Addr} {fd : FuncData} {ps : List Str} {sp : Sp} (F : FnG P w K mg base gr j f fd ps sp) (h : j ≤ k) : FnG P w K mg base gr k f fd ps sp :=
  ⟨F.len, fun A outer s H args us vs Q E hr => F.run A outer s H args us vs Q E (hr.mono h)⟩

/-- the defs' own rule for defs with facts of the head -/
theorem FunD.fun' {K : PySem.W.Frag} {x qual : Str} {ps : Arguments} {body : List Stmt} {scope : Scope} {f : Addr} {fd : FuncData} (F : FunD K x qual ps body scope [] [] f fd) :
    ∃ (oc : Value) (od : Option Addr) (kV doc pm : Value) (an : Option Addr) (cdv ct : Value) (osl : Array (Option Value)), fd = PySem.W.fnOf x qual ps body scope .none kV doc pm an cdv ct ∧ K.lookup f = some ⟨oc, od, .func fd, osl⟩ ∧ PySem.W.codeIn K cdv qual = true := by
  obtain ⟨oc, od, dV, kV, doc, pm, an, cdv, ct, osl, e, lk, hcd, hD, _⟩ := F.ex
  rcases hD with ⟨_, z⟩ | ⟨z, _⟩
  · subst z
    exact ⟨oc, od, kV, doc, pm, an, cdv, ct, osl, e, lk, hcd⟩
  · exact absurd rfl z

/-- the def's code object -/
def CodeAt (K : PySem.W.Frag) (f : Addr) (qual : Str) (cdv : Value) : Prop := PySem.W.codeIn K cdv qual = true ∧ ∃ (oc : Value) (od : Option Addr) (osl : Array (Option Value)) (fd : FuncData), K.lookup f = some ⟨oc, od, .func fd, osl⟩ ∧ fd.code = cdv
/-- a def of the text, by its body -/
theorem fnG_of {P : Program} {w : World} {K : PySem.W.Frag} {mg : Str → Option Value} {base : Heap} {gr : Prop} {k : Nat} {f : Addr} {x qual : Str} {pa : Arguments} {body : List Stmt} {scope : Scope} {fd : FuncData} {N ps : List Str} {sp : Sp} (F : FunD K x qual pa body scope [] [] f fd) (S : FnScope N ps scope)
    (len : ∀ vs H Q E, sp vs H Q E → vs.length = ps.length)
    (hbody : ∀ (cdv : Value) (A : Around) (outer : List Env) (s : Shared) (H : Hp) (vs : List V) (Q : VK) (E : XK), CodeAt K f qual cdv → Room k (A.deeper (envOfC qual scope s.heap.objs.size f cdv)) → (gr → A.guards = some []) → sp vs H Q E →
      ∃ t, PSs (cxOf (L2.CX P w) P w K mg base N qual scope f cdv A outer s H E) body t ∧ t { nx := fun _ H' => Q .non H', rt := Q } (start N vs) H) : FnG P w K mg base gr (k + 1) f fd ps sp := by
  obtain ⟨oc, od, kV, doc, pm, an, cdv, ct, osl, rfl, lk, hcd⟩ := FunD.fun' F
  refine ⟨len, fun A outer s H args us vs Q E hr hgd e0 hb r hsp => ?_⟩
  have hl := len _ _ _ _ hsp
  have inK : K.In s.heap := e0.mod.kin.keeps fun b o e => (e0.bs b o e).1
  have noLim : s.heap.NoLimit := e0.mod.nolimit.keeps fun b o e => (e0.bs b o e).1
  have kinds : ∀ y ∈ ps.zip us, scope.names.lookup y.1 = some .local ∨ (scope.names.lookup y.1 = some .cell ∧ ((cellsFrom (s.heap.objs.size + 1) scope.names []).lookup y.1).isSome = true) := fun ⟨n, v⟩ hy =>
    (S.par n (List.of_mem_zip hy).1).imp id fun q => ⟨q, PySem.W.cellsFrom_some _ _ _ (.inl q)⟩
  refine codeAny_call_function hr.depth (inK _ _ lk) rfl S.co S.gen rfl (PySem.W.codeRec_of inK hcd) (hb _ _ _ _ ?_)
  refine wpAny_newFunctionEnv_cells S.kind kinds fun env he s1 x1 => ?_
  subst he
  refine ⟨noLim.keeps x1.toInCall.keep, codeAny_func ?_⟩
  obtain ⟨t, ht, hq⟩ := hbody cdv A outer s H vs Q E ⟨hcd, oc, od, osl, _, lk, rfl⟩ (hr.deeper _) hgd hsp
  have I := inv_start (CX := L2.CX P w) (qual := qual) (f := f) (cd := cdv) (E := E) S hr.hd e0 hl r x1
  refine wpAny_mono (ht.run [] s1 (start N vs) H _ I hq) (fun fl s' hs => ?_) fun e s' hs => hs
  cases fl with
  | ret u =>
    obtain ⟨v, σ', H', J, rv, q⟩ := hs
    exact ⟨v, H', J.os, J.bare, J.base, J.hok, rv, q⟩
  | next =>
    obtain ⟨σ', H', J, q⟩ := hs
    exact ⟨V.non, H', J.os, J.bare, J.base, J.hok, rfl, q⟩
  | brk =>
    obtain ⟨_, _, _, q⟩ := hs
    exact q.elim
  | cont =>
    obtain ⟨_, _, _, q⟩ := hs
    exact q.elim
section
variable {X : Cx} {gr : Prop} {k : Nat} {f : Addr} {fd : FuncData} {ps : List Str} {sp : Sp} {E : L2.St → XK}
theorem run_fnG {pins : List (Addr × Obj)} {σ : L2.St} {H : Hp} {s : Shared} {Q : VK} {us : List Value} {vs : List V} (F : FnG X.prog X.w X.K X.mg X.base gr k f fd ps sp) (hr : Room k X.A) (hgd : gr → X.A.guards = some []) (hb : Binds X.K fd ps []) (hx : PassesAt (L2.CX X.prog X.w) X σ (E σ))
    (I : Inv X pins σ H s) (r : Vals vs us) (h : sp vs H Q (E σ)) : wpAny (model X.prog X.w) X.A (call (.ref f) us) (EP X pins σ Q) X.xe s := by
  have hl : us.length = ps.length := r.length.symm.trans (F.len _ _ _ _ h)
  have b := hb s us I.kIn (by rw [List.append_nil]; exact hl)
  rw [List.append_nil] at b
  refine wpAny_call (codeAny_mono (F.run X.A X.stack s H ⟨us, []⟩ us vs Q (E σ) hr hgd I.env0 b r h) fun r s' hq => ?_)
  cases r with
  | error e => exact hx pins H s e s' I hq
  | ok fl =>
    cases fl with
    | ret u => exact I.after hq
    | next => exact hq.elim
    | brk => exact hq.elim
    | cont => exact hq.elim
theorem pe_callG {x : Str} {p pos : Pos} {e : Expr} {es : List Expr} {t : TA} (F : FnG X.prog X.w X.K X.mg X.base gr k f fd ps sp) (hr : Room k X.A) (hgd : gr → X.A.guards = some []) (hg : Gl X x) (hm : X.mg x = some (.ref f)) (hk : PySem.W.keepIn X.K (.ref f) = true) (hb : Binds X.K fd ps []) (hx : ∀ σ, PassesAt (L2.CX X.prog X.w) X σ (E σ))
    (ha : PA X (e :: es) t) (hdb : (x == ("__debug__" : Str)) = false) (he : starEach (e :: es) X.env = (false, eval e X.env) :: starEach es X.env) (hpl : (backTo pos (starEach es X.env)).any (·.1) = false) :
    PE X (.Call (.Name x p) (e :: es) [] pos) (tCallS sp E t) := by
  refine ⟨fun pins s σ H Q I h => wpAny_Call_Name_kw (ld_glob I hg hm ?_ hdb)⟩
  exact PySem.W.callWith_K (h₀ := X.base) I.ok.mod.kin hk (thn (ha.run pos pins s σ H _ I h) fun us s1 ⟨vs, H1, I1, r, q⟩ => ⟨I1.kIn, run_fnG F hr hgd hb (hx σ) I1 r q⟩) he hpl
theorem pe_callG0 {x : Str} {p pos : Pos} (F : FnG X.prog X.w X.K X.mg X.base gr k f fd ps sp) (hr : Room k X.A) (hgd : gr → X.A.guards = some []) (hg : Gl X x) (hm : X.mg x = some (.ref f)) (hk : PySem.W.keepIn X.K (.ref f) = true) (hb : Binds X.K fd ps []) (hx : ∀ σ, PassesAt (L2.CX X.prog X.w) X σ (E σ))
    (hdb : (x == ("__debug__" : Str)) = false) : PE X (.Call (.Name x p) [] [] pos) (tCallS sp E tNil) := by
  refine ⟨fun pins s σ H Q I h => wpAny_Call_Name_kw (ld_glob I hg hm ?_ hdb)⟩
  exact PySem.W.callWith_K0 I.kIn hk (run_fnG (us := []) F hr hgd hb (hx σ) I .nil h)
end

section
variable {K : PySem.W.Frag} {fa : FA} {T : GT} {W : WX} {L : LV} {H : Hp} {h : AH} {X : Cx}
/-- the interpreter's call, as a promise -/
def spM (K : PySem.W.Frag) (fa : FA) (n : Nat) (f : List MV → AH → R MV) : Sp := fun vs H Q E => vs.length = n ∧ ∃ L h args, SRh K fa L h H ∧ RMs K fa L H args vs ∧ Out K fa (fun c d _ H => E c d H) [] (RM K fa) L H (f args h) Q
theorem Out.env {α β : Type} {rel : LV → Hp → α → β → Prop} {W W' : WX} {σ σ' : L2.St} {r : R α} {Q : β → Hp → Prop} (o : Out K fa W σ rel L H r Q) (w : ∀ c d H, W c d σ H → W' c d σ' H) : Out K fa W' σ' rel L H r Q := by
  cases r with
  | ok v h => exact o
  | exc x h => exact fun L' H' c d S e q => w _ _ _ (o L' H' c d S e q)
  | stuck => exact o
theorem tE_call {f : Nat} {ms : Exs} {σ : L2.St} {H : Hp} {Q : VK} (x : tE K fa T W (.call f ms) σ H Q) : tCallS (spM K fa (exsLen ms) (T.fn f)) (WE W) (tEs K fa T W ms) σ H Q := by
  obtain ⟨L, σa, h, S, E, o⟩ := x
  replace o : Out K fa W σ (RM K fa) L H ((evEs T ms σa h).bind fun vs h => T.fn f vs h) Q := o
  refine ⟨L, σa, h, S, E, o.bindE.mono fun us H1 ⟨L1, h1, vs, q, S1, e1, rv, o1⟩ => ⟨?_, L1, h1, vs, S1, rv, o1.env fun _ _ _ z => z⟩⟩
  rw [rv.length, evEs_len q]
theorem m_call {gr : Prop} {f : Nat} {n k : Nat} {x : Str} {a : Addr} {fd : FuncData} {ps : List Str} {p pos : Pos} {e : Expr} {es : List Expr} {ms : Exs} (F : FnG X.prog X.w X.K X.mg X.base gr k a fd ps (spM X.K fa n (T.fn f))) (hn : exsLen ms = n) (tk : Takes X W) (hr : Room k X.A) (hgd : gr → X.A.guards = some []) (hg : Gl X x) (hm : X.mg x = some (.ref a)) (hk : PySem.W.keepIn X.K (.ref a) = true) (hb : Binds X.K fd ps [])
    (ha : PA X (e :: es) (tEs X.K fa T W ms)) (hdb : (x == ("__debug__" : Str)) = false) (he : starEach (e :: es) X.env = (false, eval e X.env) :: starEach es X.env) (hpl : (backTo pos (starEach es X.env)).any (·.1) = false) :
    PE X (.Call (.Name x p) (e :: es) [] pos) (tE X.K fa T W (.call f ms)) := by
  subst hn
  exact PE.weak (pe_callG F hr hgd hg hm hk hb (passAt tk) ha hdb he hpl) fun σ H Q x => tE_call x
theorem m_call0 {gr : Prop} {f : Nat} {n k : Nat} {x : Str} {a : Addr} {fd : FuncData} {ps : List Str} {p pos : Pos} (F : FnG X.prog X.w X.K X.mg X.base gr k a fd ps (spM X.K fa n (T.fn f))) (hn : 0 = n) (tk : Takes X W) (hr : Room k X.A) (hgd : gr → X.A.guards = some []) (hg : Gl X x) (hm : X.mg x = some (.ref a)) (hk : PySem.W.keepIn X.K (.ref a) = true) (hb : Binds X.K fd ps [])
    (hdb : (x == ("__debug__" : Str)) = false) : PE X (.Call (.Name x p) [] [] pos) (tE X.K fa T W (.call f .nil)) := by
  subst hn
  refine PE.weak (pe_callG0 F hr hgd hg hm hk hb (passAt tk) hdb) fun σ H Q x => ?_
  obtain ⟨L, σa, h, S, E, o⟩ := tE_call x
  exact o L H [] S (Ev.refl _ _) rfl

/-! ### a body -/
theorem start_rel {vs : List V} {args : List MV} {N : List Str} (r : RMs K fa L H args vs) : SRe K fa L H (startA N.length args) (L2.start N vs) := by
  have hl := r.length
  unfold startA L2.start
  refine ⟨by simp [hl], fun i v e => ?_⟩
  by_cases hi : i < args.length
  · rw [List.getElem?_append_left (by simpa using hi), List.getElem?_map] at e
    cases q : args[i]? with
    | none => rw [q] at e; cases e
    | some w =>
      rw [q] at e
      cases e
      obtain ⟨u, hu, ru⟩ := r.get q
      exact ⟨u, by rw [List.getElem?_append_left (by rw [List.length_map, hl]; exact hi), List.getElem?_map, hu]; rfl, ru⟩
  · rw [List.getElem?_append_right (by simpa using hi), List.getElem?_replicate] at e
    split at e <;> cases e
theorem Kp.fewer {L' L0 : LV} {H' : Hp} (hc : ∀ a, a ∈ L0 → a ∈ L') : Kp L' H' L0 H' := fun a o e _ n => ⟨e, fun z => n (hc a z)⟩
/-- cells below n only -/
theorem RM.cut {L' L0 : LV} {H' : Hp} {n : Nat} (hc : ∀ a, a ∈ L0 → a ∈ L') (hx : ∀ i, i < n → L0.c[i]? = L'.c[i]?) : ∀ {v : MV} {u : V}, refOk n v = true → RM K fa L' H' v u → RM K fa L0 H' v u
  | .d v, u, _, r => RA.kp (Kp.fewer hc) v u r
  | .ref i, u, e, ⟨a, h1, h2⟩ => ⟨a, by rw [hx i (of_decide_eq_true e)]; exact h1, h2⟩
theorem RMs.cut {L' L0 : LV} {H' : Hp} {n : Nat} (hc : ∀ a, a ∈ L0 → a ∈ L') (hx : ∀ i, i < n → L0.c[i]? = L'.c[i]?) : ∀ {vs : List MV} {us : List V}, vs.all (refOk n) = true → RMs K fa L' H' vs us → RMs K fa L0 H' vs us
  | [], _, _, r => r
  | v :: vs, _, e, ⟨u, t, e1, e2, e3⟩ => by
    rw [List.all_cons, Bool.and_eq_true] at e
    exact ⟨u, t, e1, RM.cut hc hx e.1 e2, RMs.cut hc hx e.2 e3⟩
theorem CellAt.cut {L' L0 : LV} {H' : Hp} {n : Nat} (hc : ∀ a, a ∈ L0 → a ∈ L') (hx : ∀ i, i < n → L0.c[i]? = L'.c[i]?) {a : Addr} {c : Cell} (ok : cellOk n c = true) (h : CellAt K fa L' H' a c) : CellAt K fa L0 H' a c := by
  cases c with
  | lst xs => obtain ⟨us, h1, h2, h3⟩ := h; exact ⟨us, h1, h2, RAs.kp (Kp.fewer hc) _ _ h3⟩
  | mls xs => obtain ⟨us, h1, h2, h3⟩ := h; exact ⟨us, h1, h2, RMs.cut hc hx ok h3⟩
  | dct t ks vs => obtain ⟨us, h1, h3⟩ := h; exact ⟨us, h1, RAs.kp (Kp.fewer hc) _ _ h3⟩
theorem pre_get {L L' : LV} (p : L.c <+: L'.c) {i : Nat} (hi : i < L.c.length) : L.c[i]? = L'.c[i]? := by
  obtain ⟨t, ht⟩ := p
  rw [← ht, List.getElem?_append_left hi]
/-- behind a call: the caller's cells -/
theorem SRh.cut {h' : AH} {L' : LV} {H' : Hp} (S : SRh K fa L h H) (S' : SRh K fa L' h' H') (e : Ev L H L' H') (ok : (h'.take h.length).all (cellOk h.length) = true) : SRh K fa L (h'.take h.length) H' := by
  have sub : ∀ a, a ∈ L → a ∈ L' := fun a ha => by
    rcases ha with z | z
    · exact .inl (e.pre.subset z)
    · exact .inr (by rw [e.mor]; exact z)
  have hl : h.length ≤ h'.length := by rw [← S.len, ← S'.len]; exact e.pre.length_le
  refine ⟨by rw [List.length_take, S.len]; omega, S.nd, S.dis, fun a ha => S'.trm a (by rw [e.mor]; exact ha), fun p hp => ⟨(S.tabs p hp).1, (S'.tabs p hp).2⟩, fun i c a hc ha => ?_⟩
  have hi : i < h.length := by
    have := (List.getElem?_eq_some_iff.mp hc).1
    rw [List.length_take] at this
    omega
  rw [List.all_eq_true] at ok
  have hok := ok c (List.mem_of_getElem? hc)
  rw [List.getElem?_take_of_lt hi] at hc
  refine CellAt.cut sub (fun j hj => pre_get e.pre (by rw [S.len]; exact hj)) hok (S'.cells i c a hc ?_)
  rw [← pre_get e.pre (by rw [S.len]; exact hi)]
  exact ha
theorem Ev.cut {L' : LV} {H' : Hp} (e : Ev L H L' H') : Ev L H L H' := ⟨⟨List.prefix_refl _, fun a o ha t n => ⟨(e.keep a o ha t n).1, n⟩⟩, rfl, e.same⟩
/-- a new cell that is handed back -/
theorem cut_new {h' : AH} {L' : LV} {H' : Hp} (S : SRh K fa L h H) (S' : SRh K fa L' h' H') (e : Ev L H L' H') (ok : (h'.take h.length).all (cellOk h.length) = true) {i : Nat} {a : Addr} {c : Cell} (hi : h.length ≤ i) (hc : h'[i]? = some c) (ha : L'.c[i]? = some a) (hok : cellOk 0 c = true) :
    a ∉ L ∧ CellAt K fa L H' a c ∧ SRh K fa (L.push a) (h'.take h.length ++ [c]) H' ∧ Ev L H (L.push a) H' := by
  have sub : ∀ a, a ∈ L → a ∈ L' := fun a ha => by
    rcases ha with z | z
    · exact .inl (e.pre.subset z)
    · exact .inr (by rw [e.mor]; exact z)
  have hac : a ∈ L'.c := List.mem_of_getElem? ha
  have nin : a ∉ L := fun z => by
    rcases z with z | z
    · obtain ⟨j, hj, ej⟩ := List.mem_iff_getElem.mp z
      have : L'.c[j]? = some a := by rw [← pre_get e.pre hj, List.getElem?_eq_getElem hj, ej]
      have := (List.getElem?_inj (List.getElem?_eq_some_iff.mp ha).1 S'.nd).mp (ha.trans this.symm)
      rw [S.len] at hj
      omega
    · exact S'.dis a hac (by rw [e.mor]; exact z)
  have sub2 : ∀ b, b ∈ L.push a → b ∈ L' := fun b hb => by
    rcases hb with z | z
    · rcases List.mem_append.mp z with z | z
      · exact sub b (.inl z)
      · rw [List.mem_singleton] at z
        subst z
        exact .inl hac
    · exact sub b (.inr z)
  have S0 := SRh.cut S S' e ok
  have hl : h.length ≤ h'.length := by rw [← S.len, ← S'.len]; exact e.pre.length_le
  have hcell := S'.cells i c a hc ha
  refine ⟨nin, CellAt.cut (n := 0) sub (fun j hj => absurd hj (Nat.not_lt_zero _)) hok hcell, ?_, ⟨⟨List.prefix_append _ _, fun b o hb t nb => ?_⟩, rfl, e.same⟩⟩
  · refine ⟨?_, ?_, fun b hb hm => ?_, fun b hb => S'.trm b (by rw [e.mor]; exact hb), fun p hp => ⟨(S.tabs p hp).1, (S'.tabs p hp).2⟩, fun j d b hj hb => ?_⟩
    · show (L.c ++ [a]).length = _
      rw [List.length_append, List.length_append, S0.len]
      rfl
    · show (L.c ++ [a]).Nodup
      rw [List.nodup_append]
      exact ⟨S.nd, by simp, fun x hx y hy => by
        rw [List.mem_singleton] at hy
        subst hy
        exact fun z => nin (.inl (by rw [← z]; exact hx))⟩
    · rcases List.mem_append.mp hb with z | z
      · exact S.dis b z hm
      · rw [List.mem_singleton] at z
        subst z
        exact nin (.inr hm)
    · replace hb : (L.c ++ [a])[j]? = some b := hb
      have hl0 : (h'.take h.length).length = h.length := by rw [List.length_take]; omega
      by_cases hj' : j < h.length
      · rw [List.getElem?_append_left (by rw [hl0]; exact hj')] at hj
        rw [List.getElem?_append_left (by rw [S.len]; exact hj')] at hb
        rw [List.all_eq_true] at ok
        have hok' := ok d (List.mem_of_getElem? hj)
        rw [List.getElem?_take_of_lt hj'] at hj
        refine CellAt.cut (n := h.length) sub2 (fun q hq => ?_) hok' (S'.cells j d b hj (by rw [← pre_get e.pre (by rw [S.len]; exact hj')]; exact hb))
        show (L.c ++ [a])[q]? = _
        rw [List.getElem?_append_left (by rw [S.len]; exact hq)]
        exact pre_get e.pre (by rw [S.len]; exact hq)
      · rw [List.getElem?_append_right (by rw [hl0]; omega), hl0] at hj
        rw [List.getElem?_append_right (by rw [S.len]; omega), S.len] at hb
        have h0 : j - h.length = 0 := by
          have := (List.getElem?_eq_some_iff.mp hj).1
          simp at this
          omega
        rw [h0] at hj hb
        cases hj
        cases hb
        exact CellAt.cut (n := 0) sub2 (fun q hq => absurd hq (Nat.not_lt_zero _)) hok hcell
  · exact ⟨(e.keep b o hb t nb).1, fun z => (e.keep b o hb t nb).2 (sub2 b z)⟩
theorem fin_run {mt : Bool} {σ : L2.St} {E : XK} {Q : VK} {v : MV} {h' : AH} (S : SRh K fa L h H) (o : Out K fa (fun c d _ H => E c d H) σ (RM K fa) L H (fin mt h.length v h') Q) : ∀ L' H' u, SRh K fa L' h' H' → Ev L H L' H' → RM K fa L' H' v u → Q u H' := by
  intro L' H' u S' e r
  have sub : ∀ a, a ∈ L → a ∈ L' := fun a ha => by
    rcases ha with z | z
    · exact .inl (e.pre.subset z)
    · exact .inr (by rw [e.mor]; exact z)
  unfold fin at o
  split at o
  · rename_i ok
    have S0 := SRh.cut S S' e ok
    cases v with
    | d v => exact o L H' u S0 e.cut (RA.kp (Kp.fewer sub) v u r)
    | ref i =>
      obtain ⟨a, ha, rfl⟩ := r
      dsimp only at o
      split at o
      · rename_i hi
        exact o L H' _ S0 e.cut ⟨a, by rw [pre_get e.pre (by rw [S.len]; exact hi)]; exact ha, rfl⟩
      · rename_i hi
        have hi' : h.length ≤ i := Nat.le_of_not_lt hi
        split at o
        · rename_i xs hc
          obtain ⟨z1, ⟨us, z2, z3, z4⟩, z5, z6⟩ := cut_new S S' e ok hi' hc ha rfl
          split at o
          · exact o _ H' _ z5 z6 ⟨a, by show (L.c ++ [a])[h.length]? = _; rw [← S.len, List.getElem?_append_right (Nat.le_refl _), Nat.sub_self]; rfl, rfl⟩
          · exact o L H' _ S0 e.cut ⟨a, us, rfl, z1, z2, z3, z4⟩
        · rename_i t ks vs hc
          obtain ⟨z1, ⟨us, z2, z4⟩, z5, z6⟩ := cut_new S S' e ok hi' hc ha rfl
          split at o
          · exact o _ H' _ z5 z6 ⟨a, by show (L.c ++ [a])[h.length]? = _; rw [← S.len, List.getElem?_append_right (Nat.le_refl _), Nat.sub_self]; rfl, rfl⟩
          · exact o L H' _ S0 e.cut ⟨a, us, rfl, z1, z2, z4⟩
        · exact o.elim
  · exact o.elim
theorem body_run {mt : Bool} {E : XK} {Q : VK} {r : RS} (S : SRh K fa L h H) (o : Out K fa (fun c d _ H => E c d H) [] (RM K fa) L H (finS mt h.length r) Q) : OutS K fa (fun c d _ H => E c d H) { nx := fun _ H' => Q .non H', rt := Q } L H r := by
  cases r with
  | nx σa h' => exact fun L' H' σ' S' e _ => fin_run (mt := mt) (v := .d .non) S o L' H' .non S' e rfl
  | rt v h' => exact fun L' H' u S' e r => fin_run (mt := mt) (v := v) S o L' H' u S' e r
  | bk σa h' => exact o.elim
  | ct σa h' => exact o.elim
  | exc x σa h' =>
    intro L' H' σ' cls d S' e _ xx
    replace o : Out K fa (fun c d _ H => E c d H) [] (RM K fa) L H (finX h.length x h') Q := o
    unfold finX at o
    split at o
    · rename_i ok
      exact o L H' cls d (SRh.cut S S' e ok) e.cut xx
    · exact o.elim
  | stuck => exact o
/-- a def, by the interpreter's one -/
theorem fnM {gr : Prop} {P : Program} {w : World} {mg : Str → Option Value} {base : Heap} {k : Nat} {f : Addr} {x qual : Str} {pa : Arguments} {body : List Stmt} {scope : Scope} {fd : FuncData} {N ps : List Str} {Pr : Nat → Option FD} {G : Nat → Option AV} {d i : Nat} {m : FD} (F : FunD K x qual pa body scope [] [] f fd) (S : FnScope N ps scope) (hi : Pr i = some m) (hps : m.ps = ps.length) (hns : m.ns = N.length)
    (hbody : ∀ (cdv : Value) (A : Around) (outer : List Env) (s : Shared) (H : Hp) (E : XK), CodeAt K f qual cdv → Room k (A.deeper (envOfC qual scope s.heap.objs.size f cdv)) → (gr → A.guards = some []) →
      PSs (cxOf (L2.CX P w) P w K mg base N qual scope f cdv A outer s H E) body (tSs K fa ⟨callF Pr G d, G⟩ (fun c d _ H => E c d H) m.body)) : FnG P w K mg base gr (k + 1) f fd ps (spM K fa ps.length (callF Pr G (d + 1) i)) := by
  refine fnG_of F S (fun vs H Q E h => h.1) fun cdv A outer s H vs Q E hcd hr hgd ⟨hl, L, h, args, Sh, ra, o⟩ => ⟨_, hbody cdv A outer s H E hcd hr hgd, ?_⟩
  have hal : args.length = m.ps := by rw [hps, ← hl, ra.length]
  have e : callF Pr G (d + 1) i args h = finS m.mt h.length (evSs ⟨callF Pr G d, G⟩ m.body (startA m.ns args) h) := by
    show (match Pr i with | some fd => if args.length = fd.ps then finS fd.mt h.length (evSs ⟨callF Pr G d, G⟩ fd.body (startA fd.ns args) h) else R.stuck | none => R.stuck) = _
    rw [hi]
    dsimp only
    rw [if_pos hal]
  rw [e] at o
  exact ⟨L, _, h, Sh, by rw [hns]; exact start_rel ra, body_run Sh o⟩
end
end MP

set_option Elab.async false
set_option linter.all false
set_option maxRecDepth 100000
/-! M19: exceptions without fields; what a lambda tells. -/
namespace MP
open PySem PySem.Spec PyProof.Rows L2
section
variable {K : PySem.W.Frag} {fa : FA} {T : GT} {W : WX} {L : LV} {H : Hp} {h : AH} {X : Cx}

/-- C() for an own class of exceptions without __init__ -/
theorem pmk_own0 {C : Addr} {bmB : List Value} {B newId initId : String} {x : Str} {p pos : Pos} (F : ExcBaseFacts B newId initId bmB) (q : PySem.W.excIn X.K C bmB newId = true) (gC : X.mg x = some (.ref C)) (kC : PySem.W.keepIn X.K (.ref C) = true) (r : Raises X (.ref C)) (hg : Gl X x)
    (hdb : (x == ("__debug__" : Str)) = false) : PMk X (.Call (.Name x p) [] [] pos) (fun _ H Q => Q (.ref C) none H) := by
  intro pins s σ H Q I hyp
  refine wpAny_Call_Name_kw (ld_glob I hg gC ?_ hdb)
  refine PySem.W.callWith_K0 I.kIn kC ?_
  obtain ⟨bm, N, nm, qn, bs, hdct, sn, sub, ab, col, dd, k0, k1, k2, k3, k5, mN, hC, hN, hni, tl⟩ := exc_obj I.kIn q
  exact wpAny_call_exc_subT F tl hC hN hni (fun h' e hm => mk_of I hm r hyp (I.hok.gone hm.new)) (Nat.zero_le _)
theorem s_rai {c : Nat} {C : Addr} {bmB : List Value} {B newId initId : String} {x : Str} {p pos pos' : Pos} (hc : X.calm = true) (tk : Takes X W) (F : ExcBaseFacts B newId initId bmB) (q : PySem.W.excIn X.K C bmB newId = true) (gC : X.mg x = some (.ref C)) (kC : PySem.W.keepIn X.K (.ref C) = true) (r : Raises X (.ref C)) (hg : Gl X x)
    (hdb : (x == ("__debug__" : Str)) = false) (ha : fa.ad c = some C) : PS X (.Raise (some (.Call (.Name x p) [] [] pos)) none pos') (tS K fa T W (.rai c)) :=
  PS.weak (ps_raise hc tk (pmk_own0 F q gC kC r hg hdb)) fun D σ H ⟨L, σa, h, S, E, o⟩ => o L H σ (.ref C) none S (Ev.refl _ _) E ⟨C, ha, rfl, fun _ => rfl, rfl⟩

/-! ### what a lambda tells -/
def TTm (K : PySem.W.Frag) (CS : Addr) (r1 r2 : Str) : (XK → Hp → VK → Prop) → Hp → VK → Prop := fun tl H Q =>
  tl (fun cls _ H' => ∃ b, PySem.W.exmOne K cls (.ref CS) = some b ∧ (b = true → ∀ p, H' p = none → Q (.ref p) (upd H' p (.tup [.str r2]))) ∧ (b = false → False)) H fun v H' => [V.str r1, v].length ≤ sizeLine ∧ ∀ p, H' p = none → Q (.ref p) (upd H' p (.tup [.str r1, v]))
theorem toldG {Ng : List Str} {x a e q r1 r2 : Str} {sg : Scope} {g CS : Addr} {cdg : Value} {j1 j2 kt1 kt2 : Nat} {q1 q2 q3 q4 p1 p2 p3 p4 p6 p7 p8 : Pos} (hge : sg.names.lookup e = some .globalImplicit) (hme : X.mg e = some (.ref CS)) (hde : (e == ("__debug__" : Str)) = false) (h0 : ∀ f : Addr, (L2.start Ng [V.ref f])[0]? = some (some (V.ref f))) :
    LamX.GivesTo X Ng x sg g cdg [.Try [.Return (some (.Tuple [.Constant (.str r1) j1 q1, .Call (.Name a p1) [] [] p2] kt1 q2)) p3] [.ExceptHandler (some (.Name e p4)) none [.Return (some (.Tuple [.Constant (.str r2) j2 q3] kt2 q4)) p6] p7] [] [] p8] a q (TTm X.K CS r1 r2) := by
  intro f c' s H Q tl act hc hyp
  have hgl : Gl (cxOf C8.CX0 X.prog X.w X.K X.mg X.base Ng x sg g cdg X.A X.stack s H C8.E0).nox e := hge
  have oneL : (1 : Nat) ≤ sizeLine := by rw [sizeLine_eq]; decide
  refine ⟨_, pss_one (ps_try_only (X := (cxOf C8.CX0 X.prog X.w X.K X.mg X.base Ng x sg g cdg X.A X.stack s H C8.E0).nox) (c := .ref CS)
      (tb := fun W D σ H => ∃ Ech : XK, (∀ cls d σ' H', Ech cls d H' → W cls d σ' H') ∧ σ[0]? = some (some (.ref f)) ∧ H c' = some (LamX.CodeO c' q) ∧ tl Ech H fun v H' => [V.str r1, v].length ≤ sizeLine ∧ ∀ p, H' p = none → D.rt (.ref p) (upd H' p (.tup [.str r1, v])))
      rfl rfl ⟨hgl, hde, .inl hme⟩ LamX.takes0 (fun W pn xe tk _ => ?_) (fun a oe cls d pn _ _ => pss_one (ps_ret (pe_tup (pa_cons pe_str pa_nil))))), ?_⟩
  · refine ⟨fun pins s' σ H' D I hyp' => ?_⟩
    obtain ⟨Ech, hW, h1, h2, h3⟩ := hyp'
    have hp := PE.weak (act W pn xe Ech p1 p2 tk hW) (t' := fun σZ HZ Q => (σZ[0]? = some (some (.ref f)) ∧ HZ c' = some (LamX.CodeO c' q)) ∧ tl Ech HZ Q) fun σZ HZ Q z => ⟨z.1.1, z.1.2, z.2⟩
    have hq := pss_one (ps_ret (pos := p3) (pe_tup (x1 := kt1) (pos := q2) (pa_cons (pe_str (x := r1) (j := j1) (pos := q1)) (pa_cons hp pa_nil))))
    exact hq.run pins s' σ H' D I ⟨⟨h1, h2⟩, h3⟩
  · exact ⟨fun cls _ H' => ∃ b, PySem.W.exmOne X.K cls (.ref CS) = some b ∧ (b = true → ∀ p, H' p = none → Q (.ref p) (upd H' p (.tup [.str r2]))) ∧ (b = false → False), fun cls d σ' H' ⟨b, e1, e2, e3⟩ => ⟨b, e1, fun hb a _ => ⟨oneL, e2 hb⟩, fun hb => e3 hb⟩, h0 f, hc, hyp⟩
/-- tables grow, all else stays -/
theorem Ew.extN {H1 : Hp} (e : LamX.ExtN H H1) : Ew L H L H1 := ⟨List.prefix_refl _, fun a o ha nt n => ⟨e a o ha nt, n⟩⟩
theorem mutL_nt {o : HO} (m : MutL o) : NT o := fun ps z => by
  subst z
  exact m
theorem SRh.extN {H1 : Hp} (S : SRh K fa L h H) (e : LamX.ExtN H H1) (t : LamX.Tabs fa.ts H1) : SRh K fa L h H1 ∧ Ev L H L H1 := by
  refine ⟨⟨S.len, S.nd, S.dis, fun a ha => ?_, fun p hp => ⟨(S.tabs p hp).1, t p hp⟩, fun i c a hc ha => ?_⟩, Ew.extN e, rfl, fun a ha => ?_⟩
  · rcases S.trm a ha with ⟨o, h, m⟩ | z
    · exact .inl ⟨o, e a o h (mutL_nt m), m⟩
    · exact .inr z
  · have q := S.cells i c a hc ha
    obtain ⟨o, h, m⟩ := q.mut
    exact q.ev (Ew.extN e) ((e a o h (mutL_nt m)).trans h.symm)
  · rcases S.trm a ha with ⟨o, h, m⟩ | ⟨q, hq⟩
    · exact .of ((e a o h (mutL_nt m)).trans h.symm)
    · obtain ⟨ps, z1, _⟩ := (S.tabs _ hq).2
      obtain ⟨ps', z2, _⟩ := t _ hq
      exact ⟨fun n => (n ps z1).elim, fun _ _ => ⟨ps', z2⟩⟩
theorem tE_told {g : Nat} {m : Ex} {CS : Addr} {σ : L2.St} {H : Hp} {Q : VK} (hg : fa.ad g = some CS) (hk : PySem.W.exmOne K (.ref CS) (.ref CS) = some true) (x : tE K fa T W (.told g m) σ H Q) : LamX.tLam fa.ts (TTm K CS "told" "nothing") (fun E => tE K fa T (fun c d _ H => E c d H) m) σ H Q := by
  obtain ⟨L, σa, h, S, E, o⟩ := x
  refine ⟨fun p hp => (S.tabs p hp).2, fun H1 e t => ?_⟩
  obtain ⟨S1, e1⟩ := S.extN e t
  replace o : Out K fa W σ (RM K fa) L H (match evE T m σa h with
    | .ok (.d v) h => .ok (.d (.tup [.str "told", v])) h
    | .ok (.ref _) _ => .stuck
    | .exc x h => if x.cls = g then .ok (.d (.tup [.str "nothing"])) h else .stuck
    | .stuck => .stuck) Q := o
  have two : ∀ v : V, [V.str "told", v].length ≤ sizeLine := fun v => by show (2 : Nat) ≤ sizeLine; rw [sizeLine_eq]; decide
  have len7 : ∀ z : Str, z.length ≤ 7 → z.length ≤ sizeLine := fun z hz => Nat.le_trans hz (by rw [sizeLine_eq]; decide)
  refine ⟨L, σa, h, S1, E.ev e1.toEw, ?_⟩
  cases q : evE T m σa h with
  | stuck => rw [q] at o; exact o.elim
  | exc x h2 =>
    rw [q] at o
    replace o : Out K fa W σ (RM K fa) L H (if x.cls = g then .ok (.d (.tup [.str "nothing"])) h2 else .stuck) Q := o
    split at o
    · rename_i hx
      intro L' H' cls d S' e' ⟨C, z1, z2, _⟩
      rw [hx, hg] at z1
      cases z1
      subst z2
      refine ⟨true, hk, fun _ p hp => ?_, fun z => nomatch z⟩
      exact o L' _ (.ref p) (S'.same (same_upd hp)) ((e1.trans e').trans (S'.evs (same_upd hp))) (RA.tup S' hp (by show (1 : Nat) ≤ sizeLine; rw [sizeLine_eq]; decide) ⟨_, [], rfl, ⟨rfl, len7 _ (by decide)⟩, rfl⟩)
    · exact o.elim
  | ok v h2 =>
    rw [q] at o
    cases v with
    | ref i => exact o.elim
    | d v =>
      intro L' H' u S' e' r
      refine ⟨two u, fun p hp => ?_⟩
      exact o L' _ (.ref p) (S'.same (same_upd hp)) ((e1.trans e').trans (S'.evs (same_upd hp))) (RA.tup S' hp (two u) ⟨_, _, rfl, ⟨rfl, len7 _ (by decide)⟩, u, [], rfl, r, rfl⟩)
end
end MP

set_option Elab.async false
set_option linter.all false
set_option maxRecDepth 100000
/-! M20: a law's end. -/
namespace MP
open PySem PySem.Spec PyProof.Rows L2

section
variable {K : PySem.W.Frag}
/-- what lies in the abstract heap when a law begins: the script, the tables -/
def hp0 (K : PySem.W.Frag) (a : Addr) (vs : Array Value) (ns : List Int) (ts : List Addr) : Hp := fun b =>
  if b ∈ ts then some (.tbl #[]) else if b = a ∧ K.lookup a = none then some (.frz { cls := .type "list", data := .seq vs } (.lst (ns.map V.int))) else none
theorem hp0_tab {a : Addr} {vs : Array Value} {ns : List Int} {ts : List Addr} {b : Addr} (h : b ∈ ts) : hp0 K a vs ns ts b = some (.tbl #[]) := if_pos h
theorem hp0_cases {a : Addr} {vs : Array Value} {ns : List Int} {ts : List Addr} {b : Addr} {u : HO} (h : hp0 K a vs ns ts b = some u) :
    (b ∈ ts ∧ u = .tbl #[]) ∨ (b = a ∧ K.lookup a = none ∧ u = .frz { cls := .type "list", data := .seq vs } (.lst (ns.map V.int))) := by
  unfold hp0 at h
  split at h
  · rename_i hb
    cases h
    exact .inl ⟨hb, rfl⟩
  · split at h
    · rename_i hb
      cases h
      exact .inr ⟨hb.1, hb.2, rfl⟩
    · cases h
/-- a law's run, by its promise -/
theorem law_callG {P : Program} {w : World} {mg mb : Str → Option Value} {k : Nat} {fn a : Addr} {cs : List (Addr × Addr)} {fd : FuncData} {x : Str} {sp : Sp} {s₁ : Shared} {vs : List Value} {ns : List Int}
    (inK : K.In s₁.heap) (hns : s₁.heap.Ns mainGlobals mg) (hb : s₁.heap.Ns builtinsNs mb) (hbb : ∀ x : Str, x ≠ "__name__" → mb x = bootBuiltins x) (hlim : s₁.heap.NoLimit) (hg : s₁.gens = #[])
    (hT : ∀ p ∈ cs, s₁.heap.get? p.2 = some { cls := .none, data := .fields #[] }) (nT : ∀ p ∈ cs, K.lookup p.2 = none) (cH : ∀ p ∈ cs, PySem.W.CodeHd s₁.heap p.1 p.2)
    (hbm : ∃ (bm : Addr) (ob : Obj), mg "__builtins__" = some (.ref bm) ∧ bm ≠ builtinsNs ∧ s₁.heap.get? bm = some ob ∧ ob.cls = .type "module" ∧ ob.dict = some builtinsNs ∧ ob.data = .plain)
    (ha : s₁.heap.get? a = some { cls := .type "list", data := .seq vs.toArray }) (hi : IntsAre vs ns) (hl : ns.length ≤ sizeLine) (hr : Room k callerA)
    (F : ∀ base : Heap, K.In base → base.Ns mainGlobals mg → (∀ p ∈ cs, LamX.TabB base mg p.1 p.2) → FnG P w K mg base True k fn fd [x] sp) (hbind : ∀ (s : Shared) (u : Value), BindsTo s fd ⟨[u], []⟩ [(x, u)])
    (hsp : ∀ H : Hp, (∀ p ∈ cs, H p.2 = some (.tbl #[])) → SqL K H a (ns.map V.int) → (∀ b, H b = none ∨ b ∈ cs.map (·.2) ∨ b = a) → a ∉ cs.map (·.2) → (K.lookup a = none → ∃ o, H a = some (.frz o (.lst (ns.map V.int)))) → (K.lookup a ≠ none → KL K a (ns.map V.int)) → sp [.ref a] H (fun v _ => v = .bl true) fun _ _ _ => False) :
    codeAny (model P w) callerA (.call (.ref fn) ⟨[.ref a], []⟩) (fun r s' => r = .ok (.ret (.bool true)) ∧ OldK s₁.heap s'.heap ∧ s'.os = s₁.os ∧ AllBare s'.gens) s₁ := by
  have rv := vals_ints hi
  let ts := cs.map (·.2)
  have tabAt : ∀ b, b ∈ ts → s₁.heap.get? b = some { cls := .none, data := .fields #[] } := fun b hm => by
    obtain ⟨p, hp, e⟩ := List.mem_map.mp hm
    exact e ▸ hT p hp
  have tabNoK : ∀ b, b ∈ ts → K.lookup b = none := fun b hm => by
    obtain ⟨p, hp, e⟩ := List.mem_map.mp hm
    exact e ▸ nT p hp
  have aNot : a ∉ ts := fun z => by
    have e := (tabAt a z).symm.trans ha
    have e2 : Data.fields #[] = Data.seq vs.toArray _ := congrArg Obj.data (Option.some.inj e)
    cases e2
  let H : Hp := hp0 K a vs.toArray ns ts
  have Hcell : ∀ b u, H b = some u → (b ∈ ts ∧ u = .tbl #[]) ∨ (b = a ∧ K.lookup a = none ∧ u = .frz { cls := .type "list", data := .seq vs.toArray } (.lst (ns.map V.int))) := fun b u e => hp0_cases e
  -- untracked: whatever holds neither a list's nor a table's data, whatever the written part holds
  have seen : ∀ {b : Addr} {o : Obj}, s₁.heap.get? b = some o → (∀ its n, o.data ≠ .seq its n) → o.data ≠ .fields #[] → H b = none := fun {b o} e n1 n2 => by
    cases q : H b with
    | none => rfl
    | some u =>
      rcases Hcell b u q with ⟨z, _⟩ | ⟨z, _, _⟩
      · have e2 := (tabAt b z).symm.trans e
        cases e2
        exact (n2 rfl).elim
      · rw [z, ha] at e
        cases e
        exact (n1 _ _ rfl).elim
  have seenK : ∀ {b : Addr} {o : Obj}, K.lookup b = some o → H b = none := fun {b o} e => by
    cases q : H b with
    | none => rfl
    | some u =>
      rcases Hcell b u q with ⟨z, _⟩ | ⟨z, z2, _⟩
      · rw [tabNoK b z] at e; cases e
      · rw [z, z2] at e; cases e
  have dictSeen : ∀ {b : Addr} {o : Obj} {es : Array DictEntry} {ep : Nat}, s₁.heap.get? b = some o → o.data = .dict es ep → H b = none := fun {b o es ep} e d => seen e (fun _ _ z => by rw [d] at z; cases z) fun z => by rw [d] at z; cases z
  let base := hidT s₁.heap H
  have nsB : ∀ {b : Addr} {m : Str → Option Value}, s₁.heap.Ns b m → base.Ns b m := fun {b m} n => by
    obtain ⟨o, es, ep, e, d, r⟩ := n
    exact ⟨o, es, ep, hidT_get e (dictSeen e d), d, r⟩
  have inB : K.In base := fun b o e => hidT_get (inK b o e) (seenK e)
  have md : L2.Mod K mg base := by
    obtain ⟨mc, l1, l2⟩ := hlim
    exact ⟨inB, nsB hns, ⟨mb, nsB hb, hbb⟩, mc, nsB l1, l2⟩
  have globNe : ∀ {b : Addr} {o : Obj}, s₁.heap.get? b = some o → (∀ es ep, o.data ≠ .dict es ep) → b ≠ mainGlobals := fun {b o} e n z => by
    obtain ⟨o2, es, ep, e2, d, _⟩ := hns
    rw [z, e2] at e
    cases e
    exact n _ _ d
  have tb : ∀ p ∈ cs, LamX.TabB base mg p.1 p.2 := fun p hp => by
    refine ⟨?_, ?_, (globNe (hT p hp) fun _ _ z => nomatch z).symm⟩
    · obtain ⟨o, us, file, tf, flags, tg, inF, text, tt, c1, cc, c2, c3, cr⟩ := cH p hp
      refine ⟨o, us, file, tf, flags, tg, inF, text, tt, hidT_get c1 (seen c1 (fun _ _ z => by rw [c2] at z; cases z) fun z => ?_), cc, c2, c3, cr⟩
      rw [c2] at z
      cases z
      simp at c3
    · obtain ⟨bm, ob, b1, b2, b3, b4, b5, b6⟩ := hbm
      have bmG : bm ≠ mainGlobals := globNe b3 fun _ _ z => (by rw [b6] at z; cases z)
      refine ⟨bm, ob, b1, b2, bmG, fun z => ?_, hidT_get b3 (seen b3 (fun _ _ z => (by rw [b6] at z; cases z)) fun z => (by rw [b6] at z; cases z)), b4, b5, b6⟩
      rw [z, hT p hp] at b3
      cases b3
      cases b6
  have hok : HOk P w H s₁.heap := fun b u e => by
    rcases Hcell b u e with ⟨z, rfl⟩ | ⟨rfl, _, rfl⟩
    · exact tabAt b z
    · exact ⟨ha, by rw [List.length_map]; exact hl, vs, _, rv, ha⟩
  have env : Env0 P w K mg base callerA [] s₁ H := ⟨rfl, md, fun b o e => of_hidT e, Nat.le_of_eq (hidT_size _ _), trivial, (fun b hm => nomatch (show b ∈ ([] : List Addr) from hm)), hok, .of_eq hg⟩
  have kl : K.lookup a ≠ none → KL K a (ns.map V.int) := fun n => by
    cases q : K.lookup a with
    | none => exact absurd q n
    | some o =>
      have e := (inK a o q).symm.trans ha
      cases e
      exact ⟨_, vs.toArray, _, q, rfl, rfl, rfl, by rw [List.size_toArray, hi.length]; exact hl, by simpa using rv⟩
  have fr : K.lookup a = none → ∃ o, H a = some (.frz o (.lst (ns.map V.int))) := fun q => ⟨_, (if_neg aNot).trans (if_pos ⟨rfl, q⟩)⟩
  have sq : SqL K H a (ns.map V.int) := by
    cases q : K.lookup a with
    | none =>
      obtain ⟨o, z⟩ := fr q
      exact .inl (.inr ⟨o, z⟩)
    | some o => exact .inr (kl (by rw [q]; simp))
  have only : ∀ b, H b = none ∨ b ∈ ts ∨ b = a := fun b => by
    cases q : H b with
    | none => exact .inl rfl
    | some u =>
      rcases Hcell b u q with ⟨z, _⟩ | ⟨z, _⟩
      · exact .inr (.inl z)
      · exact .inr (.inr z)
  have run := (F base inB (nsB hns) tb).run callerA [] s₁ H ⟨[.ref a], []⟩ [.ref a] [.ref a] _ _ hr (fun _ => rfl) env (hbind s₁ (.ref a)) (.cons rfl .nil) (hsp H (fun p hp => hp0_tab (List.mem_map.mpr ⟨p, hp, rfl⟩)) sq only aNot fr kl)
  refine codeAny_mono run fun r s' q => ?_
  cases r with
  | error e =>
    obtain ⟨_, _, _, _, _, _, _, _, _, _, _, _, z⟩ := q
    exact z.elim
  | ok fl =>
    cases fl with
    | next => exact False.elim q
    | brk => exact False.elim q
    | cont => exact False.elim q
    | ret u =>
      obtain ⟨v, H', os, bare, un, hok', rv', qv⟩ := q
      have qv : v = .bl true := qv
      subst qv
      obtain rfl : u = Value.bool true := rv'
      have stay : ∀ b o, b ∉ ts → s₁.heap.get? b = some o → s'.heap.get? b = some o := fun b o nb e => by
        cases q : H b with
        | none => exact un.keep b o e q (fun z => nomatch (show b ∈ ([] : List Addr) from z)) (fun z => nomatch (show b ∈ ([] : List Addr) from z))
        | some u =>
          rcases Hcell b u q with ⟨z, _⟩ | ⟨rfl, _, rfl⟩
          · exact absurd z nb
          · obtain ⟨z, _⟩ := hok' b _ (un.frzs b _ _ q)
            rw [ha] at e
            cases e
            exact z
      have grown : ∀ p ∈ cs, ∃ more : Array Value, s'.heap.get? p.2 = some { cls := .none, data := .fields more } := fun p hp => by
        obtain ⟨more, z⟩ := un.tbls p.2 #[] (hp0_tab (List.mem_map.mpr ⟨p, hp, rfl⟩))
        exact ⟨_, hok' p.2 _ z⟩
      refine ⟨rfl, ⟨fun b o e => ?_, fun b o e => ?_⟩, os, bare⟩
      · by_cases hm : b ∈ ts
        · obtain ⟨p, hp, rfl⟩ := List.mem_map.mp hm
          obtain ⟨more, z⟩ := grown p hp
          rw [hT p hp] at e
          cases e
          exact .inr (.inl ⟨((cH p hp).tab (hT p hp)).isCodeTable, rfl, #[], more, rfl, by rw [Array.empty_append]; exact z⟩)
        · exact .inl (stay b o hm e)
      · by_cases hm : b ∈ ts
        · obtain ⟨p, hp, rfl⟩ := List.mem_map.mp hm
          obtain ⟨more, z⟩ := grown p hp
          exact ⟨_, z⟩
        · exact ⟨o, stay b o hm e⟩
end
end MP

set_option Elab.async false
set_option linter.all false
set_option maxRecDepth 100000
/-! M21: the walk of a law; what a lambda tells, as a rule. -/
namespace MP
open PySem PySem.Spec PyProof.Rows L2
/-- what is known of the law's promise -/
def LawG (l : PySem.W.OpenLaw) (w : World) (K : PySem.W.Frag) (k n : Nat) (x : Str) (mg : Str → Option Value) (fn : Addr) (h : Heap) : Prop :=
  ∃ (fd : FuncData) (cs : List (Addr × Addr)) (fa : FA) (q : Str) (f : List MV → AH → R MV), (∀ p ∈ cs, h.get? p.2 = some { cls := .none, data := .fields #[] }) ∧ (∀ p ∈ cs, K.lookup p.2 = none) ∧ (∀ p ∈ cs, PySem.W.CodeHd h p.1 p.2) ∧
    fa.ts = cs.map (fun p => (p.2, q)) ∧ (∀ (s : Shared) (u : Value), BindsTo s fd ⟨[u], []⟩ [(x, u)]) ∧
    (∀ ns : List Int, ns.length ≤ n → (∀ z ∈ ns, Builtin.Int.intBits z ≤ 1048576) → ∃ h', f [.d (.scr ns)] [] = .ok (.d (.bl true)) h') ∧
    ∀ base : Heap, K.In base → base.Ns mainGlobals mg → (∀ p ∈ cs, LamX.TabB base mg p.1 p.2) → FnG l.prog w K mg base True k fn fd [x] (spM K fa 1 f)
theorem law_sp {K : PySem.W.Frag} {fa : FA} {cs : List (Addr × Addr)} {q : Str} {f : List MV → AH → R MV} {a : Addr} {ns : List Int} {H : Hp} (hts : fa.ts = cs.map (fun p => (p.2, q))) (hl : ns.length ≤ sizeLine) (hT : ∀ p ∈ cs, H p.2 = some (.tbl #[])) (aN : a ∉ cs.map (·.2))
    (fr : K.lookup a = none → ∃ o, H a = some (.frz o (.lst (ns.map V.int)))) (kl : K.lookup a ≠ none → KL K a (ns.map V.int)) (pu : ∃ h', f [.d (.scr ns)] [] = .ok (.d (.bl true)) h') : spM K fa 1 f [.ref a] H (fun v _ => v = .bl true) fun _ _ _ => False := by
  obtain ⟨h', e⟩ := pu
  have ht : ∀ p ∈ fa.ts, p.1 ∈ cs.map (·.2) ∧ LamX.TabS H p.1 p.2 := fun p hp => by
    rw [hts] at hp
    obtain ⟨c, hc, rfl⟩ := List.mem_map.mp hp
    exact ⟨List.mem_map.mpr ⟨c, hc, rfl⟩, LamX.TabS.nil (hT c hc)⟩
  have S : SRh K fa ⟨[], cs.map (·.2)⟩ [] H := ⟨rfl, List.nodup_nil, (fun _ z => (nomatch z)), fun b hb => by
    obtain ⟨c, hc, rfl⟩ := List.mem_map.mp hb
    exact .inr ⟨q, by rw [hts]; exact List.mem_map.mpr ⟨c, hc, rfl⟩⟩, ht, fun i c b hc => by simp at hc⟩
  have nin : a ∉ (⟨[], cs.map (·.2)⟩ : LV) := fun z => by
    rcases z with z | z
    · cases z
    · exact aN z
  refine ⟨rfl, _, [], [.d (.scr ns)], S, ⟨_, [], rfl, ⟨a, rfl, ?_, hl⟩, rfl⟩, ?_⟩
  · cases z : K.lookup a with
    | none =>
      obtain ⟨o, r⟩ := fr z
      exact .inl ⟨o, nin, r⟩
    | some o => exact .inr (kl (by rw [z]; simp))
  · rw [e]
    exact fun L' H' u _ _ r => r
theorem walk_ofG {l : PySem.W.OpenLaw} {n k : Nat} {q : Program} {loose : List Str} {XP : (Str → Option Value) → Heap → Prop} {YP : World → Heap → Prop} {d : DefRec} {x : Str}
    (hn : l.most = some n) (hn2 : n ≤ sizeLine) (hdf : d.params.defaults = []) (hr : Room k callerA)
    (F : ∀ (w : World) (mg : Str → Option Value) (fn : Addr) (h : Heap), YP w h → h.Ns mainGlobals mg → mg d.name = some (.ref fn) → ∃ K : PySem.W.Frag, K.In h ∧ LawG l w K k n x mg fn h) :
    PySem.W.WalkO q loose XP YP l.row.toRowW d [] (fun f vs => PySem.call f vs) := by
  refine Att.attach_callB hn hdf fun w s₀ s₁ mg mb fn o pm cd doc a vs ns G Y ho hd hcd hmg hobj hints hlen hbits hg => ?_
  obtain ⟨K, inK, fd, cs, fa, q, f, hT, nT, cH, hts, hb, pu, hF⟩ := F w mg fn _ Y G.T.g hmg
  exact law_callG inK G.T.g G.T.b G.T.builtins G.T.nolimit hg hT nT cH G.T.bmain hobj hints (Nat.le_trans hlen hn2) hr hF hb fun H hH _ _ aN fr kl => law_sp hts (Nat.le_trans hlen hn2) hH aN fr kl (pu ns hlen hbits)

/-! ### what a lambda tells -/
section
variable {fa : FA} {T : GT} {W : WX} {X : Cx}
theorem m_told {x a e q : Str} {g c P CS : Addr} {gi k : Nat} {pg : Arguments} {sg : Scope} {fd : FuncData} {Ng : List Str} {j1 j2 kt1 kt2 : Nat} {q1 q2 q3 q4 r1 r2 r3 r4 r6 r7 r8 : Pos} {params : Arguments} {body : Expr} {scope : Scope} {m : Ex} {p lpos pos : Pos}
    (F : FunD X.K x x pg [.Try [.Return (some (.Tuple [.Constant (.str "told") j1 q1, .Call (.Name a r1) [] [] r2] kt1 q2)) r3] [.ExceptHandler (some (.Name e r4)) none [.Return (some (.Tuple [.Constant (.str "nothing") j2 q3] kt2 q4)) r6] r7] [] [] r8] sg [] [] g fd)
    (hq : X.env.qual ++ "<lambda>" = q) (hts : fa.ts = [(P, q)]) (hg : Gl X x) (hm : X.mg x = some (.ref g)) (hb : L2.Binds X.K fd [a] []) (Sg : FnScope Ng [a] sg) (hNg : Ng[0]? = some a) (hva : Vis sg a)
    (hge : sg.names.lookup e = some .globalImplicit) (hme : X.mg e = some (.ref CS)) (hde : (e == ("__debug__" : Str)) = false) (h0 : ∀ f : Addr, (L2.start Ng [V.ref f])[0]? = some (some (V.ref f)))
    (TB : LamX.TabB X.base X.mg c P) (hcode : X.env.code = .ref c) (hr : Room (k + 2) X.A) (ls : LamX.LamS X.env.scope scope) (hdef : defaultsOf params X.env = ([], []))
    (hbind : ∀ (q : Str) (cl : List (Str × Addr)) (pm cv ctv : Value), bindArgs (PySem.W.kla_fn "<lambda>" q params body scope cl pm cv ctv) ⟨[], []⟩ = pure [])
    (hbody : ∀ (A : Around) (outer : List Env) (s : Shared) (H : Hp) (E : XK) (f c' : Addr), Room k (A.deeper (LamX.lamEnv X scope s.heap.objs.size f c')) → PE (LamX.lamCx X A outer s H E scope f c') body (tE X.K fa T (fun c d _ H => E c d H) m))
    (hx : fa.ad gi = some CS) (hk : PySem.W.exmOne X.K (.ref CS) (.ref CS) = some true)
    (hdb : (x == ("__debug__" : Str)) = false) (hd : (a == ("__debug__" : Str)) = false) (hcd : (a == ("__classdict__" : Str)) = false) :
    PE X (.Call (.Name x p) [.Lambda params body scope lpos] [] pos) (tE X.K fa T W (.told gi m)) := by
  obtain ⟨oc, od, kV, doc, pm, an, cdv, ct, osl, rfl, lk, hcg⟩ := FunD.fun' F
  subst hq
  exact PE.weak (LamX.pe_lamcall (T := fa.ts) (TT := TTm X.K CS "told" "nothing") (t := fun E => tE X.K fa T (fun c d _ H => E c d H) m) hg hm F.kp lk hcg hb Sg hNg hva (toldG hge hme hde h0) TB hcode (by rw [hts]; exact List.mem_singleton.mpr rfl)
    (fun p hp _ => by
      rw [hts] at hp
      rw [List.mem_singleton.mp hp]) hr ls hdef hbind hbody hdb hd hcd) fun σ H Q z => tE_told hx hk z
end
end MP

set_option Elab.async false
set_option linter.all false
set_option maxRecDepth 100000
/-! M22: enumerate. -/
namespace MP
open PySem PySem.Spec PyProof.Rows L2
open PySem (AutoSeq1.wpAny_loadPart')

set_option maxHeartbeats 1000000 in
theorem meets_enum1 {v : Value} {o : Obj} {H : Heap → Prop} (B : Begins v o H) :
    Meets (Builtin.«enumerate.__new__» ⟨[.type "enumerate", v], []⟩) (fun _ R s => H s.heap ∧
      R (.ok (.ret (.ref (s.heap.push o).objs.size))) { s with heap := (s.heap.push o).push { cls := .type "enumerate", data := .fields #[.none, .bool false, .ref s.heap.objs.size, rawInt 0, .none, .none] } }) :=
  .of_wp fun prog w A R s hyp => by
    obtain ⟨hp, g, d, tk, os⟩ := s
    obtain ⟨h1, h2⟩ := hyp
    have hsub := sub_enumerate
    have it1 : ∀ {A' : Around} {E : Value → Shared → Prop} {Q : Value → Shared → Prop}, Q (.ref hp.objs.size) ⟨hp.push o, g, d, tk, os⟩ → wpAny (model prog w) A' (pyIter v) Q E ⟨hp, g, d, tk, os⟩ :=
      fun q => B.iter prog w _ _ ⟨hp, g, d, tk, os⟩ _ h1 q
    wp_walk using it1
    refine wpAny_stack_any fun st => wpAny_pure ?_
    split
    · rename_i c _ _ _ _ _
      cases (c == Value.type "enumerate")
      · wp_walk using it1
        exact ⟨_, rfl, h2⟩
      · wp_walk using it1
        exact ⟨_, rfl, h2⟩
    · wp_walk using it1
      exact ⟨_, rfl, h2⟩
theorem call_enum1 {prog : Program} {w : World} {A : Around} {E : Value → Shared → Prop} {s : Shared} {v : Value} {o : Obj} {H : Heap → Prop} {Q : Value → Shared → Prop} (B : Begins v o H) (h1 : H s.heap)
    (k : ∀ h', IsEnum h' (s.heap.objs.size + 1) s.heap.objs.size 0 .none → h'.get? s.heap.objs.size = some o → (∀ b o, s.heap.get? b = some o → h'.get? b = some o) → Q (.ref (s.heap.objs.size + 1)) { s with heap := h' }) :
    wpAny (model prog w) A (call (.type "enumerate") [v]) Q E s := by
  refine callType_new F.called_enumerate (by decide) (F.typeCall_enumerate_1 _) (F.newCall_enumerate_1 _) (fun obj => F.args_object_init_2 obj _) F.entry_enumerate_new (meets_enum1 B) ⟨h1, ?_⟩
  have hz : (s.heap.push o).objs.size = s.heap.objs.size + 1 := Heap.size_push ..
  show _ ∧ _
  rw [hz]
  have e1 : IsEnum ((s.heap.push o).push { cls := .type "enumerate", data := .fields #[.none, .bool false, .ref s.heap.objs.size, rawInt 0, .none, .none] }) (s.heap.objs.size + 1) s.heap.objs.size 0 .none := by
    have := Heap.get?_push_size (s.heap.push o) (o := { cls := .type "enumerate", data := .fields #[.none, .bool false, .ref s.heap.objs.size, rawInt 0, .none, .none] }) rfl
    rw [hz] at this
    exact this
  exact ⟨⟨_, e1, rfl⟩, k _ e1 (Heap.get?_push_of_some _ (Heap.get?_push_size _ B.free)) fun b o x => Heap.get?_push_of_some _ (Heap.get?_push_of_some _ x)⟩
/-- the end of a walk, wherever its place is -/
theorem draws_at {prog : Program} {w : World} {A : Around} (hh : A.handled = none) (it t : Addr) (items : Array Value) (i : Nat) (hx : items[i]? = none) :
    Draws prog w A it [it, t] i (fun _ _ => True) (fun j h => j = i ∧ h.IsTupleIter it t j ∧ h.IsTuple t items) where
  live := fun _ _ st => let ⟨o, ho, _⟩ := st.2.1; ⟨o, ho⟩
  frame := fun _ _ _ st hk => ⟨st.1, st.2.1.at fun o e => hk it (by simp) o e, st.2.2.at fun o e => hk t (by simp) o e⟩
  item := fun j s Q E hi st _ => absurd hi (by rw [st.1]; exact Nat.lt_irrefl _)
  done := fun s Q E st hE => wpAny_nextOf_tuple_end hh st.2.1 st.2.2 hx hE
/-- enumerate over a tuple -/
def Ixt (K : PySem.W.Frag) (a : Addr) : L2.It :=
  ⟨fun i H => ∃ (xs : List V) (x : V), SqT K H a xs ∧ xs[i]? = some x, fun i H v H' => ∃ T x, v = .ref T ∧ H T = none ∧ H' = upd H T (.tup [.int (i : Nat), x]) ∧ ∀ xs, SqT K H a xs → xs[i]? = some x, fun i H => ∃ xs : List V, SqT K H a xs ∧ xs.length ≤ i⟩
theorem turn_enumT {P : Program} {w : World} {K : PySem.W.Frag} {elts : List Expr} {kk : Nat} {tpos : Pos} (a e it : Addr) (nai : a ≠ it) (nae : e ≠ a) :
    Turn P w K (.Tuple elts kk tpos) (Ixt K a) [e, it] e (fun i h => (∃ old, IsEnum h e it ((i : Nat) : Int) old) ∧ h.IsTupleIter it a i ∧ e ≠ it) where
  mem := by simp
  obj := fun i h st b hb => by
    obtain ⟨⟨old, he⟩, ⟨o, ho, hc, hd⟩, _⟩ := st
    have e' : b = e ∨ b = it := by simpa using hb
    rcases e' with z | z
    · subst z
      exact ⟨_, he, fun v q => nomatch q⟩
    · subst z
      exact ⟨o, ho, fun v q => (by rw [hd] at q; cases q)⟩
  keep := fun i h h' st k => by
    obtain ⟨⟨old, he⟩, hi, hne⟩ := st
    exact ⟨⟨old, k e (by simp) _ he⟩, hi.at fun o q => k it (by simp) o q, hne⟩
  item := by
    intro X hP hw hK hc i pins s σ H E I hf st hg
    subst hP hw hK
    obtain ⟨⟨old, he⟩, hit, hne⟩ := st
    obtain ⟨xs, x, hq, hx⟩ := hg
    obtain ⟨its, rv, p, hz⟩ := I.tuple hq
    obtain ⟨u, hu, ru⟩ := rv.get hx
    have p' : s.heap.IsTuple a its.toArray := p
    have hel : e < s.heap.objs.size := Heap.lt_size he
    have hil : it < s.heap.objs.size := by obtain ⟨_, q, _⟩ := hit; exact Heap.lt_size q
    have hlt : i < its.toArray.size := by rw [List.size_toArray]; exact (List.getElem?_eq_some_iff.mp hu).1
    refine wpAny_pyNext_enum_itemD (Draws.tuple (show X.A.in1.handled = none from I.ok.hd hc) it a nai its.toArray) he ⟨hit, p'⟩ hlt hne (by simp; exact ⟨hne, nae⟩) fun y h' tk py ho st' hT hsz hk => ?_
    have ey : y = u := by
      have e1 : its.toArray[i]? = some u := by simpa using hu
      rw [e1] at py
      exact (Option.some.inj py).symm
    subst ey
    refine ⟨_, rfl, wpAny_letOwnedTupleGo_enum (s := { s with heap := h', toks := tk + 1 }) ho fun h'' he' sb => ?_⟩
    have hT2 : h''.get? s.heap.objs.size = some { cls := .type "tuple", data := .seq #[.int i tk, y] } := (sb.2 _ (Nat.ne_of_gt hel)).trans hT
    have new : ObjOk X.prog X.w (upd H s.heap.objs.size (.tup [.int (i : Nat), x])) h'' s.heap.objs.size (.tup [.int (i : Nat), x]) :=
      ⟨by show 2 ≤ sizeLine; decide, [.int i tk, y], .cons ⟨_, rfl⟩ (.cons ru .nil), ⟨_, hT2, rfl, _, rfl⟩⟩
    have I1 : Inv X pins σ (upd H s.heap.objs.size (.tup [.int (i : Nat), x])) { s with heap := h'', toks := tk + 1 } :=
      I.turnedNew (ch := [e, it]) (fun b ob hb q => (sb.2 b (fun z => hb (by simp [z]))).trans (hk b ob (fun z => hb (by simp [z])) (fun z => hb (by simp [z])) q)) hf (Nat.le_refl _) new
    refine ⟨.ref s.heap.objs.size, _, I1, rfl, ⟨_, x, rfl, I.hok.fresh (Nat.le_refl _), rfl, fun ys hy => by rw [I.tuple_inj hy hq]; exact hx⟩, ⟨⟨y, ?_⟩, st'.1.at fun o q => (sb.2 it (Ne.symm hne)).trans q, hne⟩, fun b hb => ?_⟩
    · have e1 : ((i + 1 : Nat) : Int) = (i : Int) + 1 := by omega
      rw [e1]
      exact he'
    · have hb' : b < s.heap.objs.size := by
        have e' : b = e ∨ b = it := by simpa using hb
        rcases e' with z | z
        · exact z ▸ hel
        · exact z ▸ hil
      rw [upd_ne (Nat.ne_of_lt hb')]
      exact (hf b hb).1
  done := by
    intro X hP hw hK hc i pins s σ H E I hf st hg
    subst hP hw hK
    obtain ⟨⟨old, he⟩, hit, hne⟩ := st
    obtain ⟨xs, hq, hx⟩ := hg
    obtain ⟨its, rv, p, hz⟩ := I.tuple hq
    obtain ⟨f0, f1, f2, f3, f4, f5⟩ := hf it (by simp)
    have hl := rv.length
    exact wpAny_pyNext_enum_endD (draws_at (show X.A.in1.handled = none from I.ok.hd hc) it a its.toArray i (by simp; omega)) he ⟨rfl, hit, p⟩ fun h' eb => ⟨rfl, I.turned (t' := s.toks) (fun b o hb q => eb b o hb q) f0 f1 f3 f4 f5⟩
  self := fun A i s Q E st h => let ⟨⟨_, he⟩, _⟩ := st; wpAny_pyIter_enum he h
def iEnumT (K : PySem.W.Frag) (ta : TA) : TI := fun σ H R => ta σ H fun vs H1 => ∃ a xs, vs = [.ref a] ∧ SqT K H1 a xs ∧ R (Ixt K a) H1
theorem pi_enumT {X : Cx} {e : Expr} {ta : TA} {p pos tpos : Pos} {elts : List Expr} {kk : Nat} (hg : Gl X "enumerate") (hm : X.mg "enumerate" = none) (ha : PA X [e] ta) (hs : starEach [e] X.env = [(false, eval e X.env)]) :
    PI X (.Tuple elts kk tpos) (.Call (.Name "enumerate" p) [e] [] pos) (iEnumT X.K ta) := by
  refine ⟨fun pins s σ H R I hyp => ?_⟩
  refine Call_ (ld_blt I hg hm boot_enumerate (PyProof.Rows.callWith_type1 (thn (ha.run pos pins s σ H _ I hyp) fun us s1 ⟨vs, H1, I1, r1, q1⟩ => ?_) hs rfl))
  obtain ⟨a, xs, ex, hq, q⟩ := q1
  subst ex
  obtain ⟨u, rfl, ru⟩ := vals1 r1
  cases ru
  obtain ⟨its, rv, p', hz⟩ := I1.tuple hq
  have tp : s1.heap.IsTuple a its.toArray := p'
  have la : a < s1.heap.objs.size := by
    obtain ⟨o, ho, _⟩ := tp
    exact Heap.lt_size ho
  refine call_enum1 (begins_tuple a its.toArray) tp fun h' he hit hk => wpAny_pyIter_enum he ?_
  have I2 : Inv X pins σ H1 { s1 with heap := h' } := I1.kept (t' := s1.toks) hk
  refine ⟨s1.heap.objs.size + 1, [s1.heap.objs.size + 1, s1.heap.objs.size], _, _, H1, rfl, I2, turn_enumT a (s1.heap.objs.size + 1) s1.heap.objs.size (Nat.ne_of_lt la) (Nat.ne_of_gt (Nat.lt_succ_of_lt la)), ⟨⟨.none, he⟩, ⟨_, hit, rfl, rfl⟩, Nat.succ_ne_self _⟩, fun b hb => ?_, q⟩
  have e' : b = s1.heap.objs.size + 1 ∨ b = s1.heap.objs.size := by simpa using hb
  have hle : s1.heap.objs.size ≤ b := by
    rcases e' with z | z
    · subst z; exact Nat.le_succ _
    · subst z; exact Nat.le_refl _
  exact I1.fpOk hle (I1.hok.fresh hle)
section
variable {K : PySem.W.Frag} {fa : FA} {T : GT} {W : WX} {L : LV} {H : Hp} {h : AH} {X : Cx}
def SqX (K : PySem.W.Frag) (t : Bool) (H : Hp) (a : Addr) (us : List V) : Prop := match t with
  | true => SqT K H a us
  | false => SqL K H a us
/-- a list (or tuple) that stands as long as its cell does -/
def Stands (K : PySem.W.Frag) (fa : FA) (t : Bool) (L : LV) (H : Hp) (s : Src) (a : Addr) : Prop :=
  ∀ (L' : LV) (H' : Hp) (h' : AH), SRh K fa L' h' H' → Ew L H L' H' → stillAt s.cell h' → ∃ us, SqX K t H' a us ∧ RAs K fa L' H' s.items us
def isTp : AV → Bool
  | .lst _ => false
  | _ => true
theorem stands_of {v : MV} {u : V} {s : Src} {h1 : AH} {z : AV} (S : SRh K fa L h H) (r : RM K fa L H v u) (hz : view v h = some z) (e : srcE v h = .ok s h1) : ∃ a, u = .ref a ∧ Stands K fa (isTp z) L H s a := by
  unfold srcE at e
  rw [hz] at e
  cases z with
  | tup xs =>
    cases e
    obtain ⟨a, us, rfl, t1, l1, q1⟩ := view_vw S r hz
    exact ⟨a, rfl, fun L' H' h' S' e' _ => ⟨us, (t1.ev e').sq, RAs.ev e' _ _ q1⟩⟩
  | ktp xs =>
    cases e
    obtain ⟨a, us, rfl, t1, l1, q1⟩ := view_vw S r hz
    exact ⟨a, rfl, fun L' H' h' S' e' _ => ⟨us, t1.sq, RAs.ev e' _ _ q1⟩⟩
  | lst xs =>
    cases e
    cases v with
    | d v =>
      cases hz
      obtain ⟨a, us, rfl, n, t1, l1, q1⟩ := r
      exact ⟨a, rfl, fun L' H' h' S' e' _ => ⟨us, .inl (.inl (e'.keep a _ t1 (fun _ z => nomatch z) n).1), RAs.ev e' _ _ q1⟩⟩
    | ref j =>
      obtain ⟨a, ha, rfl⟩ := r
      refine ⟨a, rfl, fun L' H' h' S' e' st => ?_⟩
      have q' : (match h[j]? with | some c => c.view | none => none) = some (.lst xs) := hz
      cases qc : h[j]? with
      | none => rw [qc] at q'; cases q'
      | some c =>
        rw [qc] at q'
        have hcell : cellOf (.ref j) h = some (j, c) := by
          show (h[j]?).map _ = _
          rw [qc]
          rfl
        replace st : stillAt (cellOf (.ref j) h) h' := st
        rw [hcell] at st
        replace st : h'[j]? = some c := st
        have ha' : L'.c[j]? = some a := by
          obtain ⟨t, ht⟩ := e'.pre
          rw [← ht, List.getElem?_append_left (List.getElem?_eq_some_iff.mp ha).1]
          exact ha
        have hv : view (.ref j) h' = some (.lst xs) := by
          show (match h'[j]? with | some c => c.view | none => none) = _
          rw [st]
          exact q'
        obtain ⟨b, us, eb, t1, l1, q1⟩ := view_vw S' (v := .ref j) (u := .ref a) ⟨a, ha', rfl⟩ hv
        cases eb
        exact ⟨us, .inl (.inl t1), q1⟩
  | _ => cases e
theorem enum_get : ∀ {xs : List AV} {i n : Nat} {x : AV}, (enumItems n xs)[i]? = some x → ∃ y, xs[i]? = some y ∧ x = .tup [.int ((n + i : Nat) : Int), y]
  | [], _, _, _, e => by simp [enumItems] at e
  | y :: ys, 0, n, x, e => by
    replace e : some (AV.tup [.int n, y]) = some x := e
    cases e
    exact ⟨y, rfl, rfl⟩
  | y :: ys, i + 1, n, x, e => by
    obtain ⟨z, h1, h2⟩ := enum_get (xs := ys) (i := i) (n := n + 1) (x := x) e
    exact ⟨z, by simpa using h1, by rw [h2]; congr 3; omega⟩
theorem enum_len : ∀ (xs : List AV) (n : Nat), (enumItems n xs).length = xs.length
  | [], _ => rfl
  | y :: ys, n => by
    show (enumItems (n + 1) ys).length + 1 = _
    rw [enum_len ys]
    rfl
def Ixx (K : PySem.W.Frag) (t : Bool) (a : Addr) : L2.It := match t with
  | true => Ixt K a
  | false => Ite K a
theorem walks_enm {t : Bool} {s : Src} {a : Addr} (w : Stands K fa t L H s a) : Walks K fa L H ⟨enumItems 0 s.items, s.cell⟩ (Ixx K t a) := fun L' H' h' S e st i => by
  obtain ⟨us, q, r⟩ := w L' H' h' S e st
  have two : (2 : Nat) ≤ sizeLine := by rw [sizeLine_eq]; decide
  refine ⟨fun x hx => ?_, fun hl => ?_⟩
  · obtain ⟨y, hy, rfl⟩ := enum_get hx
    obtain ⟨u, hu, ru⟩ := r.get hy
    have fin : ∀ {p : Addr}, H' p = none → RA K fa L' (upd H' p (.tup [.int (i : Nat), u])) (.tup [.int ((0 + i : Nat) : Int), y]) (.ref p) := fun {p} hp => RA.tup S hp two ⟨_, _, rfl, by rw [Nat.zero_add]; rfl, u, [], rfl, ru, rfl⟩
    cases t with
    | true =>
      refine ⟨⟨us, u, q, hu⟩, fun v H2 yy => ?_⟩
      obtain ⟨p, z, rfl, hp, rfl, k⟩ := yy
      have ez := k us q
      rw [hu] at ez
      cases ez
      exact ⟨same_upd hp, fin hp⟩
    | false =>
      refine ⟨⟨us, u, q, hu⟩, fun v H2 yy => ?_⟩
      obtain ⟨p, z, rfl, hp, rfl, k⟩ := yy
      have ez := k us q
      rw [hu] at ez
      cases ez
      exact ⟨same_upd hp, fin hp⟩
  · replace hl : (enumItems 0 s.items).length ≤ i := hl
    rw [enum_len] at hl
    have hl' : us.length ≤ i := by rw [r.length]; exact hl
    cases t with
    | true => exact ⟨us, q, hl'⟩
    | false => exact ⟨us, q, hl'⟩
theorem m_enm {e : Expr} {m : Ex} {p pos tpos : Pos} {elts : List Expr} {kk : Nat} (hg : Gl X "enumerate") (hm : X.mg "enumerate" = none) (ha : PA X [e] (tEs X.K fa T W (.cons m .nil))) (hs : starEach [e] X.env = [(false, eval e X.env)]) :
    PI X (.Tuple elts kk tpos) (.Call (.Name "enumerate" p) [e] [] pos) (tI X.K fa T W (.enm m)) :=
  PI.weak (PI.or (pi_enum hg hm ha hs) (pi_enumT hg hm ha hs)) fun σ H R ⟨L, σa, h, S, E, o⟩ => by
    replace o : Out X.K fa W σ (Walks X.K fa) L H ((evE T m σa h).bind fun v h => (srcE v h).bind fun s h => .ok ⟨enumItems 0 s.items, s.cell⟩ h) R := o
    have arg : ∀ {v0 : MV} {h0 : AH}, evE T m σa h = .ok v0 h0 → evEs T (.cons m .nil) σa h = .ok [v0] h0 := fun {v0 h0} q => by
      show ((evE T m σa h).bind fun v h => MP.R.ok [v] h) = _
      rw [q]
      rfl
    cases q : evE T m σa h with
    | stuck => rw [q] at o; exact o.elim
    | exc x h1 =>
      rw [q] at o
      refine .inl ⟨L, σa, h, S, E, ?_⟩
      have e0 : evEs T (.cons m .nil) σa h = .exc x h1 := by
        show ((evE T m σa h).bind fun v h => MP.R.ok [v] h) = _
        rw [q]
        rfl
      rw [e0]
      exact o
    | ok v0 h0 =>
      rw [q] at o
      replace o : Out X.K fa W σ (Walks X.K fa) L H ((srcE v0 h0).bind fun s h => .ok ⟨enumItems 0 s.items, s.cell⟩ h) R := o
      cases qs : srcE v0 h0 with
      | stuck => rw [qs] at o; exact o.elim
      | exc x h1 =>
        exfalso
        unfold srcE at qs
        split at qs <;> cases qs
      | ok s h1 =>
        rw [qs] at o
        have e1 : h1 = h0 := by
          unfold srcE at qs
          split at qs <;> first | (cases qs; rfl) | cases qs
        subst e1
        -- which kind it is hangs on the value alone
        have key : ∀ t : Bool, (∀ (L1 : LV) (H1 : Hp) (u : V), SRh X.K fa L1 h1 H1 → RM X.K fa L1 H1 v0 u → ∃ a, u = .ref a ∧ Stands X.K fa t L1 H1 s a) → tEs X.K fa T W (.cons m .nil) σ H fun vs H1 => ∃ a xs, vs = [.ref a] ∧ SqX X.K t H1 a xs ∧ R (Ixx X.K t a) H1 := fun t ht =>
          ⟨L, σa, h, S, E, Out.ok_of (arg q) fun L1 H1 us S1 e1 r1 => by
            obtain ⟨u, t', rfl, ru, rt⟩ := r1
            cases rt
            obtain ⟨a, rfl, w⟩ := ht L1 H1 u S1 ru
            obtain ⟨xs, w1, _⟩ := w L1 H1 h1 S1 (Ev.refl _ _).toEw (srcOf_still (srcE_src qs))
            exact ⟨a, xs, rfl, w1, o L1 H1 _ S1 e1 (walks_enm w)⟩⟩
        cases hv : view v0 h1 with
        | none =>
          unfold srcE at qs
          rw [hv] at qs
          cases qs
        | some z =>
          cases ht : isTp z with
          | false => exact .inl (key false fun L1 H1 u S1 r1 => ht ▸ stands_of S1 r1 hv qs)
          | true => exact .inr (key true fun L1 H1 u S1 r1 => ht ▸ stands_of S1 r1 hv qs)
end
end MP

set_option Elab.async false
set_option linter.all false
set_option maxRecDepth 100000
/-! M23: sorted(d), dict(pairs). -/
namespace MP
open PySem PySem.Spec PyProof.Rows L2
def keyD : L2.Key → PyData
  | .inl i => .int i
  | .inr s => .str s
/-- a key's data -/
def keyDat (k : List L2.Key) : PyData := .tuple (k.map keyD)
section
variable {X : Cx} {pins : List (Addr × Obj)} {σ : L2.St} {H : Hp} {s : Shared}
theorem leaf_reads {h : Heap} : ∀ {k : List L2.Key} {its : List Value}, Vals (k.map kV) its → ReadsAll h its (k.map keyD) []
  | [], _, .nil => .nil
  | c :: cs, _, .cons r t => by
    have ih := leaf_reads (h := h) t
    have one : ∀ {v : Value}, RelV (kV c) v → Reads h v (keyD c) [] := fun {v} rv => by
      cases c with
      | inl i =>
        obtain ⟨u, rfl⟩ := rv
        exact .int i u
      | inr x =>
        obtain ⟨u, rfl⟩ := rv
        exact .str x u
    exact ReadsAll.cons (as := []) (bs := []) (one r) ih
theorem key_reads (I : Inv X pins σ H s) {b : Addr} {k : List L2.Key} (e : H b = some (.tup (k.map kV))) : Reads s.heap (.ref b) (keyDat k) [] := by
  obtain ⟨_, its, r, o, h1, h2, n, h3⟩ := (show ObjOk X.prog X.w H s.heap b (.tup (k.map kV)) from I.hok b _ e)
  exact .tuple h1 h2 h3 (by simpa using leaf_reads r)
def KeyAt (H : Hp) (u : V) (k : List L2.Key) : Prop := ∃ b, u = .ref b ∧ H b = some (.tup (k.map kV))
def KeyVal (H : Hp) (v : Value) (k : List L2.Key) : Prop := ∃ b, v = .ref b ∧ H b = some (.tup (k.map kV))
theorem each_pt {α β : Type} {R : α → β → Prop} : ∀ {vs : List α} {bs : List β}, vs.length = bs.length → (∀ (j : Nat) (v : α), vs[j]? = some v → ∃ b, bs[j]? = some b ∧ R v b) → PySem.W.EachIs R vs bs
  | [], [], _, _ => .nil
  | [], b :: bs, e, _ => by cases e
  | v :: vs, [], e, _ => by cases e
  | v :: vs, b :: bs, e, h => by
    obtain ⟨b', h1, h2⟩ := h 0 v rfl
    have e' : b = b' := by simpa using h1
    subst e'
    exact .cons h2 (each_pt (Nat.succ.inj e) fun j w hj => by simpa using h (j + 1) w (by simpa using hj))
theorem each_imp {α β : Type} {R R' : α → β → Prop} (w : ∀ a b, R a b → R' a b) : ∀ {vs : List α} {bs : List β}, PySem.W.EachIs R vs bs → PySem.W.EachIs R' vs bs
  | _, _, .nil => .nil
  | _, _, .cons h t => .cons (w _ _ h) (each_imp w t)
theorem keys_out {H : Hp} : ∀ {out : List Value} {ks : List (List L2.Key)}, PySem.W.EachIs (KeyVal H) out ks → ∃ us, Vals us out ∧ Paired (KeyAt H) us ks
  | _, _, .nil => ⟨[], .nil, .nil⟩
  | _, _, .cons ⟨b, e1, e2⟩ t => by
    obtain ⟨us, h1, h2⟩ := keys_out t
    subst e1
    exact ⟨.ref b :: us, .cons rfl h1, .cons ⟨b, rfl, e2⟩ h2⟩
/-- sorted of a dict with tuple keys -/
def rSortDT : List V → Hp → VK → Prop := fun xs H Q => ∃ (a : Addr) (kvs : List (List L2.Key × V)), xs = [.ref a] ∧ H a = some (.dT kvs) ∧ PySem.W.AllAlike (kvs.map fun p => keyDat p.1) ∧ PySem.W.Sortable (kvs.map fun p => keyDat p.1) ∧ (∀ p ∈ kvs, (keyDat p.1).depth ≤ 64) ∧ kvs.length ≤ sizeLine ∧
  ∀ us p, Paired (KeyAt H) us ((kvs.map (·.1)).mergeSort (PySem.W.dataLe false keyDat)) → H p = none → Q (.ref p) (upd H p (.lst us))
theorem cr_sortDT (hc : X.calm = true) (hu : X.A.units + 70 < cLine) : CallR X (.builtin "sorted") rSortDT := by
  intro pins s σ H xs us Q I r hyp
  obtain ⟨a, kvs, rfl, hd, hal, hso, hdep, hz0, q⟩ := hyp
  obtain ⟨u, rfl, ru⟩ := vals1 r
  cases ru
  obtain ⟨z, lo, ys, rel, dd⟩ := dt_of I.hok hd
  obtain ⟨es, ep, raw, hes, hent⟩ := dd.raw
  have hly : ys.length = kvs.length := (Paired.length rel).symm
  let bs := kvs.map (·.1)
  refine Calls.call_function_entry PyProof.Rows.kind_sorted PyProof.Rows.plain_sorted PyProof.Rows.entry_sorted (PyProof.Rows.args_sorted1 _) ?_
  unfold Builtin.«sorted»
  refine wpAny_bind (m := checkCount "sorted" 1 1 _) (wpAny_pure ?_)
  refine wpAny_bind (PySem.W.kdu_collect (A := X.A.in1) (KdlSrc.rawDict (es := es) (ep := ep) lo) (I.ok.hd hc) raw (by rw [hes, hly]; exact z) fun h' tk acc hk hacc => ?_)
  have hlen : acc.toList.length = bs.length := by rw [Array.length_toList, hacc.1, hes, hly, List.length_map]
  have each : PySem.W.EachIs (KeyVal H) acc.toList bs := each_pt hlen fun j v e => by
    obtain ⟨hi, ev⟩ := hacc.2 j v (by rw [← Array.getElem?_toList]; exact e)
    obtain ⟨y, h1, h2, _⟩ := hent j hi
    obtain ⟨kv, h3, h4⟩ := DX.pget rel h1
    exact ⟨kv.1, by rw [List.getElem?_map, h3]; rfl, y.2.1, ev.trans h2, h4.2.1⟩
  have I1 : Inv X pins σ H { s with heap := h', toks := tk } := I.kept hk
  have hz1 : acc.toList.length ≤ sizeLine := by rw [hlen, List.length_map]; exact z
  refine wpAny_bind (wpAny_newList ?_ hz1)
  have hoL : (h'.push (seqObj "list" acc.toList.toArray 0)).get? h'.objs.size = some (seqObj "list" acc.toList.toArray 0) := Heap.get?_push_size _ rfl
  have keep2 : ∀ b o, h'.get? b = some o → (h'.push (seqObj "list" acc.toList.toArray 0)).get? b = some o := fun b o e => Heap.get?_push_of_some _ e
  show wpAny _ _ _ _ _ { s with heap := h'.push (seqObj "list" acc.toList.toArray 0), toks := tk }
  have eqm : bs.map keyDat = kvs.map fun p => keyDat p.1 := by rw [List.map_map]; rfl
  refine wpAny_bind (wpAny_holding (PySem.W.list_sort_data (s := { s with heap := h'.push (seqObj "list" acc.toList.toArray 0), toks := tk }) (R := KeyVal H) (enc := keyDat) hoL each
    (each_imp (fun v k ⟨b, e1, e2⟩ => ⟨[], e1 ▸ PyProof.Rows.Reads.keeps keep2 (key_reads I1 e2), by simp⟩) each) (by rw [eqm]; exact hal) (by rw [eqm]; exact hso) (by rw [List.length_map]; exact z)
    (fun b hb => by
      obtain ⟨p, hp, rfl⟩ := List.mem_map.mp hb
      have := hdep p hp
      show X.A.units + 1 + 1 + _ < _
      omega) fun out hout e3 => ?_))
  obtain ⟨vs, v1, v2⟩ := keys_out e3
  obtain ⟨e', he'⟩ := PyProof.Rows.sortedHeap_at (vs := acc.toList) (out := out.toArray) hoL
  have hvl : vs.length ≤ sizeLine := by rw [v1.length, hout, List.length_map]; exact z
  refine wpAny_pure ⟨_, rfl, .ref h'.objs.size, upd H h'.objs.size (.lst vs), I1.laid (t' := tk) (fun b u e => ?_) (Nat.le_refl _) (show ObjOk X.prog X.w _ _ _ (.lst vs) from ⟨hvl, out, e', v1, he'⟩), rfl, q vs _ v2 (I1.hok.fresh (Nat.le_refl _))⟩
  have hb : b < h'.objs.size := Heap.lt_size e
  rw [PyProof.Rows.sortedHeap_old (Nat.ne_of_lt hb) (by rw [size_push']; exact Nat.lt_succ_of_lt hb)]
  exact Heap.get?_push_of_some _ e
end
section
variable {K : PySem.W.Frag} {fa : FA} {T : GT} {W : WX} {L : LV} {H : Hp} {h : AH} {X : Cx}
theorem SRh.tup_free (S : SRh K fa L h H) {b : Addr} {us : List V} (e : H b = some (.tup us)) : b ∉ L := fun z => by
  rcases z with z | z
  · obtain ⟨i, hi, rfl⟩ := List.mem_iff_getElem.mp z
    have hi' : i < h.length := by rw [← S.len]; exact hi
    obtain ⟨o, h1, h2⟩ := (S.cells i _ _ (List.getElem?_eq_getElem hi') (List.getElem?_eq_getElem hi)).mut
    rw [e] at h1
    cases h1
    exact h2
  · rcases S.trm b z with ⟨o, h1, h2⟩ | ⟨q, hq⟩
    · rw [e] at h1
      cases h1
      exact h2
    · obtain ⟨ps, h1, _⟩ := (S.tabs _ hq).2
      rw [e] at h1
      cases h1
theorem leaf_ra : ∀ {xs : List AV} {k : List L2.Key}, keysK xs = some k → xs.all fitK = true → RAs K fa L H xs (k.map kV)
  | [], _, e, _ => by cases e; rfl
  | x :: xs, k, e, f => by
    unfold keysK at e
    split at e
    · rename_i c cs q1 q2
      cases e
      rw [List.all_cons, Bool.and_eq_true] at f
      refine ⟨kV c, _, rfl, ?_, leaf_ra q2 f.2⟩
      cases x with
      | int i => cases q1; rfl
      | str s => cases q1; exact ⟨rfl, of_decide_eq_true f.1⟩
      | _ => cases q1
    · cases e
theorem key_ra (S : SRh K fa L h H) {x : AV} {k : List L2.Key} {u : V} (e : keyT x = some k) (f : fitT x = true) (a : KeyAt H u k) : RA K fa L H x u := by
  unfold keyT at e
  split at e
  · rename_i xs
    obtain ⟨b, rfl, hb⟩ := a
    replace f : (xs.all fitK && decide (xs.length ≤ sizeLine)) = true := f
    rw [Bool.and_eq_true] at f
    have r := leaf_ra (K := K) (fa := fa) (L := L) (H := H) e f.1
    exact ⟨b, _, rfl, ⟨S.tup_free hb, hb⟩, by rw [r.length]; exact of_decide_eq_true f.2, r⟩
  · cases e
theorem keys_ra (S : SRh K fa L h H) : ∀ {xs : List AV} {kk : List (List L2.Key)} {us : List V}, keysT xs = some kk → xs.all fitT = true → Paired (KeyAt H) us kk → RAs K fa L H xs us
  | [], _, _, e, _, p => by cases e; cases p; rfl
  | x :: xs, kk, us, e, f, p => by
    unfold keysT at e
    split at e
    · rename_i c cs q1 q2
      cases e
      rw [List.all_cons, Bool.and_eq_true] at f
      cases p with
      | cons a t => exact ⟨_, _, rfl, key_ra S q1 f.1 a, keys_ra S q2 f.2 t⟩
    · cases e
theorem keyK_dat {x : AV} {c : L2.Key} (e : keyK x = some c) : x.toD = keyD c := by
  cases x with
  | int i => cases e; rfl
  | str s => cases e; rfl
  | _ => cases e
theorem keysK_dat : ∀ {xs : List AV} {k : List L2.Key}, keysK xs = some k → AV.toDs xs = k.map keyD
  | [], _, e => by cases e; rfl
  | x :: xs, k, e => by
    unfold keysK at e
    split at e
    · rename_i c cs q1 q2
      cases e
      show x.toD :: AV.toDs xs = _
      rw [keyK_dat q1, keysK_dat q2]
      rfl
    · cases e
theorem keyT_dat {x : AV} {k : List L2.Key} (e : keyT x = some k) : x.toD = keyDat k := by
  unfold keyT at e
  split at e
  · rename_i xs
    show PyData.tuple (AV.toDs xs) = _
    rw [keysK_dat e]
    rfl
  · cases e
theorem keysT_pair : ∀ {xs : List AV} {kk : List (List L2.Key)}, keysT xs = some kk → ∃ ps : List (AV × List L2.Key), ps.map (·.1) = xs ∧ ps.map (·.2) = kk ∧ ∀ p ∈ ps, keyT p.1 = some p.2
  | [], _, e => by cases e; exact ⟨[], rfl, rfl, fun _ z => nomatch z⟩
  | x :: xs, kk, e => by
    unfold keysT at e
    split at e
    · rename_i c cs q1 q2
      cases e
      obtain ⟨ps, h1, h2, h3⟩ := keysT_pair q2
      refine ⟨(x, c) :: ps, by rw [List.map_cons, h1], by rw [List.map_cons, h2], fun p hp => ?_⟩
      rcases List.mem_cons.mp hp with z | z
      · rw [z]; exact q1
      · exact h3 p z
    · cases e
theorem keysT_of : ∀ {ps : List (AV × List L2.Key)}, (∀ p ∈ ps, keyT p.1 = some p.2) → keysT (ps.map (·.1)) = some (ps.map (·.2))
  | [], _ => rfl
  | p :: ps, h => by
    rw [List.map_cons]
    unfold keysT
    rw [h p List.mem_cons_self, keysT_of fun q hq => h q (List.mem_cons_of_mem _ hq)]
    rfl
theorem sort_keys {xs : List AV} {kk : List (List L2.Key)} (e : keysT xs = some kk) : keysT (sortA xs) = some (kk.mergeSort (PySem.W.dataLe false keyDat)) := by
  obtain ⟨ps, h1, h2, h3⟩ := keysT_pair e
  have dat : ∀ p ∈ ps, p.1.toD = keyDat p.2 := fun p hp => keyT_dat (h3 p hp)
  have e1 : (ps.mergeSort (PySem.W.dataLe false fun p => p.1.toD)).map (·.1) = sortA xs := by
    unfold sortA
    rw [List.map_mergeSort (r := PySem.W.dataLe false fun p : AV × List L2.Key => p.1.toD) (s := PySem.W.dataLe false AV.toD) (fun _ _ _ _ => rfl), h1]
  have e2 : (ps.mergeSort (PySem.W.dataLe false fun p => p.1.toD)).map (·.2) = kk.mergeSort (PySem.W.dataLe false keyDat) := by
    rw [List.map_mergeSort (r := PySem.W.dataLe false fun p : AV × List L2.Key => p.1.toD) (s := PySem.W.dataLe false keyDat) (fun a ha b hb => by
      unfold PySem.W.dataLe PySem.W.sortLe
      dsimp only
      rw [dat a ha, dat b hb]), h2]
  rw [← e1, ← e2]
  exact keysT_of fun p hp => h3 p ((List.mergeSort_perm _ _).mem_iff.mp hp)
def rSortAll (K : PySem.W.Frag) : List V → Hp → VK → Prop := fun xs H Q => rSortM K xs H Q ∨ rSortDT xs H Q
theorem cr_sortAll (hc : X.calm = true) (hu : X.A.units + 70 < cLine) : CallR X (.builtin "sorted") (rSortAll X.K) := CallR.or (cr_sortM hu) (cr_sortDT hc hu)
theorem all_sort {xs : List AV} {f : AV → Bool} (e : xs.all f = true) : (sortA xs).all f = true := by
  rw [List.all_eq_true] at e ⊢
  exact fun x hx => e x ((List.mergeSort_perm _ _).mem_iff.mp hx)
theorem bi_sorted : BiR K fa (biF .sorted) (rSortAll K) := by
  intro L H h xs z us Q S r e k
  obtain ⟨x, u, rfl, r1, e⟩ := one_run (g := srtA) r e
  cases x with
  | lst xs => exact .inl (bi_sortedL S ⟨u, [], rfl, r1, rfl⟩ e k)
  | dct t ks vs =>
    cases t with
    | false => cases e
    | true =>
      replace e : (if sortOk ks && ks.all fitT then some (AV.lst (sortA ks)) else none) = some z := e
      split at e
      · rename_i hs
        cases e
        rw [Bool.and_eq_true] at hs
        obtain ⟨a, ws, rfl, ⟨kk, h1, h2, h3, h4⟩, q⟩ := r1
        obtain ⟨f1, f2, f3⟩ := sortOk_facts hs.1
        obtain ⟨ps, p1, p2, p3⟩ := keysT_pair h1
        have em : (kk.zip ws).map (fun p => keyDat p.1) = ks.map AV.toD := by
          have e1 : (kk.zip ws).map (fun p => keyDat p.1) = ((kk.zip ws).map (·.1)).map keyDat := by rw [List.map_map]; rfl
          rw [e1, zip_fst_map h2, ← p1, ← p2, List.map_map, List.map_map]
          exact List.map_congr_left fun p hp => (keyT_dat (p3 p hp)).symm
        refine .inr ⟨a, kk.zip ws, rfl, h4, by rw [em]; exact f2, by rw [em]; exact f3, fun p hp => ?_, by rw [List.length_zip, h2, Nat.min_self]; exact h3, fun us p hk hp => ?_⟩
        · have hm : keyDat p.1 ∈ ks.map AV.toD := by rw [← em]; exact List.mem_map.mpr ⟨p, hp, rfl⟩
          obtain ⟨v, hv, ev⟩ := List.mem_map.mp hm
          rw [← ev]
          exact SeqAt.depth_of_shaped (f1 v hv).2
        · rw [zip_fst_map h2] at hk
          have rr := keys_ra S (sort_keys h1) (all_sort hs.2) hk
          refine k _ _ (same_upd hp) (RA.lst S hp ?_ rr)
          rw [rr.length, sortA_len, ← keysT_len h1, h2]
          exact h3
      · cases e
  | _ => cases e

/-! ### dict(pairs) -/
def rDictT (K : PySem.W.Frag) : List V → Hp → VK → Prop := fun xs H Q => ∃ (a : Addr) (ps : List Addr) (kvs : List (List L2.Key × V)), xs = [.ref a] ∧ SqL K H a (ps.map V.ref) ∧ Paired (fun p kv => ∃ b, SqT K H p [.ref b, kv.2] ∧ H b = some (.tup (kv.1.map kV))) ps kvs ∧
  ∀ p, H p = none → Q (.ref p) (upd H p (.dT (allT kvs [])))
theorem trips {pins : List (Addr × Obj)} {σ : L2.St} {s : Shared} (I : Inv X pins σ H s) : ∀ {ps : List Addr} {kvs : List (List L2.Key × V)}, Paired (fun p kv => ∃ b, SqT X.K H p [.ref b, kv.2] ∧ H b = some (.tup (kv.1.map kV))) ps kvs →
    ∃ xs : List (List L2.Key × Addr × Value), xs.length = ps.length ∧ (∀ acc ys, L2.KT H acc ys → L2.KT H (allT kvs acc) (storedAllH ys xs)) ∧ (∀ x ∈ xs, H x.2.1 = some (.tup (x.1.map kV))) ∧
      ∀ (j : Nat) (k v : Value), (xs.map fun x => (Value.ref x.2.1, x.2.2))[j]? = some (k, v) → ∃ b, ps[j]? = some b ∧ s.heap.IsTuple b #[k, v]
  | _, _, .nil => ⟨[], rfl, fun _ _ r => r, (fun _ z => (nomatch z)), fun j k v e => by simp at e⟩
  | p :: ps, kv :: kvs, .cons ⟨b, h1, h2⟩ t => by
    obtain ⟨xs, g1, g2, g3, g4⟩ := trips I t
    obtain ⟨its, rv, ht, _⟩ := I.tuple h1
    obtain ⟨u, y, rfl, ru, ry⟩ := vals2 rv
    obtain rfl : u = Value.ref b := ru
    refine ⟨(kv.1, b, y) :: xs, by rw [List.length_cons, List.length_cons, g1], fun acc ys r => g2 _ _ (r.put kv.1 h2 ry), fun x hx => ?_, fun j k v e => ?_⟩
    · rcases List.mem_cons.mp hx with z | z
      · rw [z]; exact h2
      · exact g3 x z
    · cases j with
      | zero =>
        have e' : (Value.ref b, y) = (k, v) := by simpa using e
        cases e'
        exact ⟨p, rfl, ht⟩
      | succ j =>
        obtain ⟨c, e1, e2⟩ := g4 j k v (by simpa using e)
        exact ⟨c, by simpa using e1, e2⟩
theorem cr_dictT (hc : X.calm = true) (hu : X.A.units + 70 < cLine) : CallR X (.type "dict") (rDictT X.K) := by
  intro pins s σ H xs us Q I r hyp
  obtain ⟨a, ps, kvs, rfl, hq, hp, q⟩ := hyp
  obtain ⟨u, rfl, ru⟩ := vals1 r
  cases ru
  obtain ⟨its, rv, pl, hz⟩ := I.list hq
  have ei := refs_at rv
  subst ei
  rw [List.length_map] at hz
  obtain ⟨xs, g1, g2, g3, g4⟩ := trips I hp
  obtain ⟨o, n, ho, hcl, hd, hdat⟩ := pl
  let prs := xs.map fun x => (Value.ref x.2.1, x.2.2)
  have lp : prs.length = ps.length := by rw [List.length_map, g1]
  have hk3 : kvs.length = ps.length := (Paired.length hp).symm
  have hst : ∀ h' : Heap, (∀ b o, b ≠ s.heap.objs.size → b ∉ ([] : List Addr) → s.heap.get? b = some o → h'.get? b = some o) → ∀ x ∈ xs, (tupleKind (mixKind X.prog X.w)).is h' x.1 x.2.1 := fun h' k x hx => by
    obtain ⟨o, its, n, h1, h2, h3, h4⟩ := key_of I.hok (g3 x hx)
    exact ⟨o, its, n, k _ o (Nat.ne_of_lt (Heap.lt_size h1)) (by simp) h1, h2, h3, h4⟩
  refine call_dict_pairsH (knd := tupleKind (mixKind X.prog X.w)) (ps := xs) (PairArg.list a (ps.map Value.ref).toArray (fun j => ps.getD j 0) prs) (I.ok.hd hc) (show X.A.in1.in1.units < cLine from by show X.A.units + 1 + 1 < _; omega)
    ⟨⟨o, n, ho, hcl, hd, hdat⟩, by rw [List.size_toArray, List.length_map, lp], fun j k v e => ?_⟩ ⟨by rw [lp, g1], fun i key v e => ?_⟩ hst (by rw [lp]; exact hz) fun h' tk dd k => ?_
  · obtain ⟨b, e1, e2⟩ := g4 j k v e
    have e3 : ps.getD j 0 = b := by rw [List.getD_eq_getElem?_getD, e1]; rfl
    refine ⟨?_, .inl (by show s.heap.IsTuple (ps.getD j 0) #[k, v]; rw [e3]; exact e2)⟩
    show (ps.map Value.ref).toArray[j]? = some (.ref (ps.getD j 0))
    rw [e3]
    simp [e1]
  · have e' : prs[i]? = some (key, v) := e
    rw [List.getElem?_map] at e'
    cases hx : xs[i]? with
    | none => rw [hx] at e'; cases e'
    | some x =>
      rw [hx] at e'
      cases e'
      exact ⟨x.1, x.2.1, rfl, rfl⟩
  · have hlo : (s.heap.objs.size == sysModules) = false := beq_eq_false_iff_ne.mpr (Nat.ne_of_gt I.big)
    obtain ⟨ob, es, ep, d1, d2, d3, d4, _, d5⟩ := dd
    have hl : (allT kvs []).length ≤ sizeLine := by
      have := length_allT kvs []
      rw [List.length_nil, hk3] at this
      omega
    have hnone : H s.heap.objs.size = none := I.hok.fresh (Nat.le_refl _)
    refine ⟨.ref s.heap.objs.size, upd H s.heap.objs.size (.dT (allT kvs [])), I.laid (t' := tk) (fun b o e => k b o (by simp) e) (Nat.le_refl _) (show ObjOk X.prog X.w _ _ _ (.dT (allT kvs [])) from ⟨hl, hlo, _, (g2 [] [] .nil).keeps fun c zs ec => ?_, ob, es, ep, d1, d2, d3, d4, d5⟩), rfl, q _ hnone⟩
    rw [upd_ne (ne_of_none ec hnone)]
    exact ec
theorem pairsOf_rel : ∀ {xs : List AV} {us : List V} {ks vs : List AV} {kk : List (List L2.Key)}, RAs K fa L H xs us → pairsOf xs = some (ks, vs) → keysT ks = some kk → ∃ (ps : List Addr) (ws : List V), us = ps.map V.ref ∧ RAs K fa L H vs ws ∧ Paired (fun p kv => ∃ b, SqT K H p [.ref b, kv.2] ∧ H b = some (.tup (kv.1.map kV))) ps (kk.zip ws)
  | [], us, _, _, _, r, e, ek => by cases e; cases ek; exact ⟨[], [], r, rfl, .nil⟩
  | x :: xs, us, ks, vs, kk, r, e, ek => by
    unfold pairsOf at e
    split at e
    · rename_i heq; cases heq
    · rename_i k v r' heq
      cases heq
      split at e
      · rename_i ks' vs' q
        cases e
        obtain ⟨u, t, rfl, ru, rt⟩ := r
        unfold keysT at ek
        split at ek
        · rename_i c cs q1 q2
          cases ek
          obtain ⟨ps, ws, e1, e2, e3⟩ := pairsOf_rel rt q q2
          obtain ⟨a, us2, rfl, t1, l1, y1, t2, rfl, ry1, y2, t3, rfl, ry2, e4⟩ := ru
          cases e4
          obtain ⟨b, rfl, hb⟩ := RA.keyT ry1 q1
          exact ⟨a :: ps, y2 :: ws, by rw [e1]; rfl, ⟨y2, ws, rfl, ry2, e2⟩, .cons ⟨b, t1.sq, hb⟩ e3⟩
        · cases ek
      · cases e
    · cases e
theorem dict_run {v z : AV} {u : V} (r : VW K fa L H v u) (e : dicA v = some z) : ∃ (a : Addr) (ps : List Addr) (kk : List (List L2.Key)) (ks vs : List AV) (ws : List V), u = .ref a ∧ SqL K H a (ps.map V.ref) ∧ Paired (fun p kv => ∃ b, SqT K H p [.ref b, kv.2] ∧ H b = some (.tup (kv.1.map kV))) ps (kk.zip ws) ∧
    z = .dct true ks vs ∧ keysT ks = some kk ∧ kk.length = ws.length ∧ ws.length ≤ sizeLine ∧ kk.Nodup ∧ RAs K fa L H vs ws := by
  unfold dicA at e
  split at e
  · rename_i xs
    split at e
    · rename_i ks vs q
      split at e
      · rename_i kk qk
        split at e
        · rename_i hn
          cases e
          obtain ⟨a, us, rfl, t1, l1, q1⟩ := r
          obtain ⟨ps, ws, rfl, e2, e3⟩ := pairsOf_rel q1 q qk
          have hl3 := Paired.length e3
          have lk : ∀ {xs : List AV} {ks vs : List AV}, pairsOf xs = some (ks, vs) → ks.length = vs.length := by
            intro xs
            induction xs with
            | nil => intro ks vs e; cases e; rfl
            | cons x xs ih =>
              intro ks vs e
              unfold pairsOf at e
              split at e
              · rename_i heq; cases heq
              · rename_i k v r' heq
                cases heq
                split at e
                · rename_i q'
                  cases e
                  rw [List.length_cons, List.length_cons, ih q']
                · cases e
              · cases e
          have hkw : kk.length = ws.length := by rw [keysT_len qk, lk q, e2.length]
          have hps : ps.length = ws.length := by rw [hl3, List.length_zip, hkw, Nat.min_self]
          rw [List.length_map] at l1
          exact ⟨a, ps, kk, ks, vs, ws, rfl, .inl (.inl t1), e3, rfl, qk, hkw, by rw [← hps]; exact l1, hn, e2⟩
        · cases e
      · cases e
    · cases e
  · cases e
theorem bn_dict : BiN K fa (biF .dict) (rDictT K) := by
  intro L H h xs z us Q S r e k
  obtain ⟨x, u, rfl, r1, e⟩ := one_run (g := dicA) r e
  obtain ⟨a, ps, kk, ks, vs, ws, rfl, h1, h2, rfl, h3, h4, h5, h6, h7⟩ := dict_run r1 e
  refine ⟨a, ps, _, rfl, h1, h2, fun p hp => ?_⟩
  rw [allT_new (by rw [zip_fst_map h4]; exact h6)]
  exact k p (.dct true ks vs) _ rfl hp ⟨ws, ⟨kk, h3, h4, h5, upd_same⟩, RAs.ev (S.evn hp).toEw _ _ h7⟩
end
end MP

set_option Elab.async false
set_option linter.all false
set_option maxRecDepth 100000
set_option maxHeartbeats 4000000
namespace MP
open PySem PySem.Spec PyProof.Rows L2
/-! the defs, as the interpreter's trees -/
/-- _law_bag(script) -/
def b0 : Sms := (.cons (.ret (.newl (.cons (.cI 0) (.cons (.cI 1234567891) (.cons (.cI 0) (.cons (.comp (.nm 1) (.of (.slc (.var 0) .nil (.cons (.cI 63) .nil))) .nil (.bi .abs (.cons (.var 1) .nil)) [1]) .nil))))))
  .nil)
/-- _law_alike(found, due) -/
def b1 : Sms := (.cons (.ret (.and (.cmp .eq (.bi .repr (.cons (.var 0) .nil)) (.bi .repr (.cons (.var 1) .nil))) (.cmp .eq (.var 0) (.var 1))))
  .nil)
/-- _law_take(bag, many) -/
def b2 : Sms := (.cons (.ifs (.cmp .eq (.idx (.var 0) (.cI 0)) (.cI 0)) (.cons (.set (.nm 4) (.idx (.bin .add (.slc (.idx (.var 0) (.cI 3)) (.cons (.idx (.var 0) (.cI 2)) .nil) .nil) (.lst (.cons (.cI 0) .nil))) (.cI 0)))
  (.cons (.augp (.var 0) (.cI 2) .add (.cI 1))
  (.cons (.ifs (.cmp .ge (.var 4) (.bin .pow (.cI 10) (.cI 18))) (.cons (.put (.var 0) (.cI 0) (.var 4))
  .nil) .nil)
  (.cons (.set (.nm 5) (.bin .add (.bin .add (.bin .mul (.idx (.var 0) (.cI 1)) (.cI 48271)) (.bin .mod (.bi .int (.cons (.var 4) .nil)) (.cI 2147483647))) (.bin .mul (.cI 7919) (.idx (.var 0) (.cI 2)))))
  (.cons (.put (.var 0) (.cI 1) (.bin .mod (.bi .int (.cons (.var 5) .nil)) (.cI 2147483647)))
  .nil))))) .nil)
  (.cons (.ifs (.cmp .gt (.idx (.var 0) (.cI 0)) (.cI 0)) (.cons (.set (.nm 6) (.bin .mod (.bi .int (.cons (.idx (.var 0) (.cI 0)) .nil)) (.var 1)))
  (.cons (.put (.var 0) (.cI 0) (.bin .fdiv (.bi .int (.cons (.idx (.var 0) (.cI 0)) .nil)) (.var 1)))
  (.cons (.ret (.var 6))
  .nil))) .nil)
  (.cons (.set (.nm 2) (.bin .mod (.bi .int (.cons (.bin .mul (.bin .add (.idx (.var 0) (.cI 1)) (.cI 1)) (.cI 39373)) .nil)) (.cI 1000000007)))
  (.cons (.set (.nm 3) (.bin .mod (.bi .int (.cons (.bin .mul (.bin .mod (.bi .int (.cons (.bin .mul (.var 2) (.var 2)) .nil)) (.cI 998244353)) (.cI 30011)) .nil)) (.cI 998244353)))
  (.cons (.ret (.bin .mod (.bi .int (.cons (.bin .fdiv (.var 3) (.cI 7)) .nil)) (.var 1)))
  .nil)))))
/-- _law_some(bag, things) -/
def b3 : Sms := (.cons (.ret (.idx (.var 1) (.call 2 (.cons (.var 0) (.cons (.bi .len (.cons (.var 1) .nil)) .nil)))))
  .nil)
/-- _law_couples(pair) -/
def b4 : Sms := (.cons (.par [1, 2] (.cons (.dst (.cons (.tup (.cons (.cI 0) (.cons (.cI 0) .nil))) (.cons (.tup .nil) .nil))) (.cons (.newl (.cons (.tup (.cons (.cI 0) (.cons (.cI 0) .nil))) .nil)) .nil)))
  (.cons (.whl (.cmp .ne (.var 2) (.lst .nil)) (.cons (.set (.nm 3) (.newl .nil))
  (.cons (.fr (.tp (.cons (.nm 4) (.cons (.nm 5) .nil))) (.of (.var 2)) (.cons (.set (.nm 6) (.dgt (.var 1) (.tup (.cons (.var 4) (.cons (.var 5) .nil)))))
  (.cons (.fr (.tp (.cons (.nm 8) (.cons (.tp (.cons (.nm 10) (.cons (.nm 11) (.cons (.nm 12) (.cons (.nm 13) .nil))))) .nil))) (.enm (.idx (.idx (.var 0) (.cI 0)) (.cI 1))) (.cons (.ifs (.and (.cmp .eq (.var 10) (.var 4)) (.cmp .eq (.var 11) (.cS "step"))) (.cons (.ex (.meth .append (.var 3) (.cons (.tup (.cons (.tup (.cons (.var 13) (.cons (.var 5) .nil))) (.cons (.bin .add (.var 6) (.tup (.cons (.tup (.cons (.cS "left") (.cons (.var 8) .nil))) .nil))) .nil))) .nil)))
  .nil) .nil)
  (.cons (.fr (.tp (.cons (.nm 9) (.cons (.tp (.cons (.nm 14) (.cons (.nm 15) (.cons (.nm 16) (.cons (.nm 17) .nil))))) .nil))) (.enm (.idx (.idx (.var 0) (.cI 1)) (.cI 1))) (.cons (.ifs (.and (.cmp .eq (.tup (.cons (.var 10) (.cons (.var 14) (.cons (.var 12) .nil)))) (.tup (.cons (.var 4) (.cons (.var 5) (.cons (.var 16) .nil))))) (.cmp .eq (.tup (.cons (.var 11) (.cons (.var 15) .nil))) (.tup (.cons (.cS "send") (.cons (.cS "take") .nil))))) (.cons (.ex (.meth .append (.var 3) (.cons (.tup (.cons (.tup (.cons (.var 13) (.cons (.var 17) .nil))) (.cons (.bin .add (.var 6) (.tup (.cons (.tup (.cons (.cS "left") (.cons (.var 8) .nil))) (.cons (.tup (.cons (.cS "right") (.cons (.var 9) .nil))) .nil)))) .nil))) .nil)))
  .nil) .nil)
  (.cons (.ifs (.and (.cmp .eq (.tup (.cons (.var 10) (.cons (.var 14) (.cons (.var 12) .nil)))) (.tup (.cons (.var 4) (.cons (.var 5) (.cons (.var 16) .nil))))) (.cmp .eq (.tup (.cons (.var 11) (.cons (.var 15) .nil))) (.tup (.cons (.cS "take") (.cons (.cS "send") .nil))))) (.cons (.ex (.meth .append (.var 3) (.cons (.tup (.cons (.tup (.cons (.var 13) (.cons (.var 17) .nil))) (.cons (.bin .add (.var 6) (.tup (.cons (.tup (.cons (.cS "right") (.cons (.var 9) .nil))) (.cons (.tup (.cons (.cS "left") (.cons (.var 8) .nil))) .nil)))) .nil))) .nil)))
  .nil) .nil)
  .nil)))
  .nil)))
  (.cons (.fr (.tp (.cons (.nm 9) (.cons (.tp (.cons (.nm 14) (.cons (.nm 15) (.cons (.nm 16) (.cons (.nm 17) .nil))))) .nil))) (.enm (.idx (.idx (.var 0) (.cI 1)) (.cI 1))) (.cons (.ifs (.and (.cmp .eq (.var 14) (.var 5)) (.cmp .eq (.var 15) (.cS "step"))) (.cons (.ex (.meth .append (.var 3) (.cons (.tup (.cons (.tup (.cons (.var 4) (.cons (.var 17) .nil))) (.cons (.bin .add (.var 6) (.tup (.cons (.tup (.cons (.cS "right") (.cons (.var 9) .nil))) .nil))) .nil))) .nil)))
  .nil) .nil)
  .nil))
  .nil))))
  (.cons (.set (.nm 2) (.newl .nil))
  (.cons (.fr (.tp (.cons (.nm 7) (.cons (.nm 6) .nil))) (.of (.var 3)) (.cons (.ifs (.din true (.var 7) (.var 1)) (.cons (.dpt (.var 1) (.var 7) (.var 6))
  (.cons (.ex (.meth .append (.var 2) (.cons (.var 7) .nil)))
  .nil)) .nil)
  .nil))
  .nil)))))
  (.cons (.ret (.var 1))
  .nil)))
/-- _law_sends(side, state) -/
def b5 : Sms := (.cons (.ret (.comp (.nm 2) (.of (.idx (.var 0) (.cI 1))) (.cons (.and (.cmp .eq (.idx (.var 2) (.cI 0)) (.var 1)) (.cmp .eq (.idx (.var 2) (.cI 1)) (.cS "send"))) .nil) (.var 2) [2]))
  .nil)
/-- _law_first_duel(pair) -/
def b6 : Sms := (.cons (.fr (.tp (.cons (.nm 1) (.cons (.nm 2) .nil))) (.of (.bi .sorted (.cons (.call 4 (.cons (.var 0) .nil)) .nil))) (.cons (.ifs (.and (.cmp .ne (.call 5 (.cons (.idx (.var 0) (.cI 0)) (.cons (.var 1) .nil))) (.lst .nil)) (.cmp .ne (.call 5 (.cons (.idx (.var 0) (.cI 1)) (.cons (.var 2) .nil))) (.lst .nil))) (.cons (.ret (.tup (.cons (.var 1) (.cons (.var 2) .nil))))
  .nil) .nil)
  .nil))
  (.cons (.ret .cN)
  .nil))
/-- _law_without(side, bad) -/
def b7 : Sms := (.cons (.ret (.tup (.cons (.idx (.var 0) (.cI 0)) (.cons (.bi .tuple (.cons (.comp (.nm 2) (.of (.idx (.var 0) (.cI 1))) (.cons (.cmp .nin (.var 2) (.var 1)) .nil) (.var 2) [2]) .nil)) (.cons (.idx (.var 0) (.cI 2)) .nil)))))
  .nil)
/-- _law_any_move(bag, many, sends, takes) -/
def b8 : Sms := (.cons (.set (.nm 4) (.call 3 (.cons (.var 0) (.cons (.lst (.cons (.cS "send") (.cons (.cS "take") (.cons (.cS "send") (.cons (.cS "take") (.cons (.cS "step") .nil)))))) .nil))))
  (.cons (.set (.nm 5) (.ite (.cmp .ne (.var 4) (.cS "step")) (.call 3 (.cons (.var 0) (.cons (.ite (.cmp .eq (.var 4) (.cS "send")) (.var 2) (.var 3)) .nil))) (.cS "")))
  (.cons (.ret (.tup (.cons (.call 2 (.cons (.var 0) (.cons (.var 1) .nil))) (.cons (.var 4) (.cons (.var 5) (.cons (.call 2 (.cons (.var 0) (.cons (.var 1) .nil))) .nil))))))
  .nil)))
/-- _law_turned_side(side) -/
def b9 : Sms := (.cons (.set (.nm 1) (.dsp (.cons (.cS "send") (.cons (.cS "take") (.cons (.cS "take") (.cons (.cS "send") (.cons (.cS "step") (.cons (.cS "step") .nil))))))))
  (.cons (.ret (.tup (.cons (.idx (.var 0) (.cI 0)) (.cons (.bi .tuple (.cons (.bi .sorted (.cons (.comp (.tp (.cons (.nm 2) (.cons (.nm 3) (.cons (.nm 4) (.cons (.nm 5) .nil))))) (.of (.idx (.var 0) (.cI 1))) .nil (.tup (.cons (.var 2) (.cons (.dgt (.var 1) (.var 3)) (.cons (.var 4) (.cons (.var 5) .nil))))) [2, 3, 4, 5]) .nil)) .nil)) (.cons (.idx (.var 0) (.cI 2)) .nil)))))
  .nil))
/-- _law_talk_pair(bag) -/
def b10 : Sms := (.cons (.par [7, 8] (.cons (.bin .add (.cI 2) (.call 2 (.cons (.var 0) (.cons (.cI 3) .nil)))) (.cons (.newd true) .nil)))
  (.cons (.fr (.nm 1) (.rng (.cons (.var 7) .nil)) (.cons (.set (.nm 9) (.call 3 (.cons (.var 0) (.cons (.lst (.cons (.cS "send") (.cons (.cS "take") .nil))) .nil))))
  (.cons (.dpt (.var 8) (.tup (.cons (.var 1) (.cons (.var 9) (.cons (.call 3 (.cons (.var 0) (.cons (.ite (.cmp .eq (.var 9) (.cS "send")) (.lst (.cons (.cS "a") (.cons (.cS "b") .nil))) (.lst (.cons (.cS "x") (.cons (.cS "y") .nil)))) .nil))) (.cons (.bin .mod (.bin .add (.var 1) (.cI 1)) (.var 7)) .nil))))) (.cB true))
  .nil)))
  (.cons (.fr (.nm 1) (.rng (.cons (.call 2 (.cons (.var 0) (.cons (.cI 3) .nil))) .nil)) (.cons (.dpt (.var 8) (.call 8 (.cons (.var 0) (.cons (.var 7) (.cons (.lst (.cons (.cS "a") (.cons (.cS "b") .nil))) (.cons (.lst (.cons (.cS "x") (.cons (.cS "y") .nil))) .nil))))) (.cB true))
  .nil))
  (.cons (.set (.nm 2) (.bi .tuple (.cons (.comp (.nm 1) (.rng (.cons (.var 7) .nil)) (.cons (.cmp .gt (.call 2 (.cons (.var 0) (.cons (.cI 3) .nil))) (.cI 0)) .nil) (.var 1) [1]) .nil)))
  (.cons (.set (.nm 3) (.tup (.cons (.var 7) (.cons (.bi .tuple (.cons (.bi .sorted (.cons (.var 8) .nil)) .nil)) (.cons (.var 2) .nil)))))
  (.cons (.set (.nm 4) (.new (.bi .dict (.cons (.comp (.nm 13) (.of (.idx (.call 9 (.cons (.var 3) .nil)) (.cI 1))) (.cons (.cmp .gt (.call 2 (.cons (.var 0) (.cons (.cI 8) .nil))) (.cI 0)) .nil) (.tup (.cons (.var 13) (.cons (.cB true) .nil))) [13]) .nil))))
  (.cons (.fr (.nm 1) (.rng (.cons (.call 2 (.cons (.var 0) (.cons (.cI 3) .nil))) .nil)) (.cons (.dpt (.var 4) (.call 8 (.cons (.var 0) (.cons (.var 7) (.cons (.lst (.cons (.cS "x") (.cons (.cS "y") .nil))) (.cons (.lst (.cons (.cS "a") (.cons (.cS "b") .nil))) .nil))))) (.cB true))
  .nil))
  (.cons (.set (.nm 5) (.tup (.cons (.var 3) (.cons (.tup (.cons (.var 7) (.cons (.bi .tuple (.cons (.bi .sorted (.cons (.var 4) .nil)) .nil)) (.cons (.slc (.var 2) .nil (.cons (.bin .sub (.var 7) (.cI 1)) .nil)) .nil)))) .nil))))
  (.cons (.fr (.nm 6) (.rng (.cons (.ite (.cmp .gt (.call 2 (.cons (.var 0) (.cons (.cI 5) .nil))) (.cI 0)) (.cI 30) (.cI 0)) .nil)) (.cons (.set (.nm 10) (.call 6 (.cons (.var 5) .nil)))
  (.cons (.ifs (.cmp .is_ (.var 10) .cN) (.cons (.ret (.var 5))
  .nil) .nil)
  (.cons (.set (.nm 1) (.call 2 (.cons (.var 0) (.cons (.cI 2) .nil))))
  (.cons (.set (.nm 11) (.comp (.nm 13) (.of (.idx (.idx (.var 5) (.var 1)) (.cI 1))) (.cons (.and (.cmp .eq (.idx (.var 13) (.cI 0)) (.idx (.var 10) (.var 1))) (.cmp .eq (.idx (.var 13) (.cI 1)) (.cS "send"))) .nil) (.var 13) [13]))
  (.cons (.set (.nm 12) (.call 7 (.cons (.idx (.var 5) (.var 1)) (.cons (.slc (.var 11) .nil (.cons (.cI 1) .nil)) .nil))))
  (.cons (.set (.nm 5) (.ite (.cmp .eq (.var 1) (.cI 0)) (.tup (.cons (.var 12) (.cons (.idx (.var 5) (.cI 1)) .nil))) (.tup (.cons (.idx (.var 5) (.cI 0)) (.cons (.var 12) .nil)))))
  .nil)))))))
  (.cons (.ret (.var 5))
  .nil))))))))))
/-- _law_acts(pair) -/
def b11 : Sms := (.cons (.ret (.bin .add (.comp (.nm 1) (.rng (.cons (.bi .len (.cons (.idx (.idx (.var 0) (.cI 0)) (.cI 1)) .nil)) .nil)) .nil (.tup (.cons (.cS "left") (.cons (.var 1) .nil))) [1]) (.comp (.nm 1) (.rng (.cons (.bi .len (.cons (.idx (.idx (.var 0) (.cI 1)) (.cI 1)) .nil)) .nil)) .nil (.tup (.cons (.cS "right") (.cons (.var 1) .nil))) [1])))
  .nil)
/-- _law_do(pair, here, act) -/
def b12 : Sms := (.cons (.set (.tp (.cons (.nm 4) (.cons (.nm 5) (.cons (.nm 6) (.cons (.nm 7) .nil))))) (.var 1))
  (.cons (.set (.nm 3) (.ite (.cmp .eq (.idx (.var 2) (.cI 0)) (.cS "left")) (.idx (.idx (.var 0) (.cI 0)) (.cI 1)) (.idx (.idx (.var 0) (.cI 1)) (.cI 1))))
  (.cons (.set (.tp (.cons (.nm 8) (.cons (.nm 9) (.cons (.nm 10) (.cons (.nm 11) .nil))))) (.idx (.var 3) (.idx (.var 2) (.cI 1))))
  (.cons (.ifs (.cmp .ne (.var 8) (.ite (.cmp .eq (.idx (.var 2) (.cI 0)) (.cS "left")) (.var 4) (.var 5))) (.cons (.ret .cN)
  .nil) .nil)
  (.cons (.set (.tp (.cons (.nm 12) (.cons (.nm 13) .nil))) (.ite (.cmp .eq (.idx (.var 2) (.cI 0)) (.cS "left")) (.tup (.cons (.var 6) (.cons (.var 7) .nil))) (.tup (.cons (.var 7) (.cons (.var 6) .nil)))))
  (.cons (.ifs (.cmp .eq (.var 9) (.cS "send")) (.cons (.set (.nm 12) (.bin .add (.var 12) (.tup (.cons (.var 10) .nil))))
  .nil) .nil)
  (.cons (.ifs (.cmp .eq (.var 9) (.cS "take")) (.cons (.ifs (.cmp .ne (.slc (.var 13) .nil (.cons (.cI 1) .nil)) (.tup (.cons (.var 10) .nil))) (.cons (.ret .cN)
  .nil) .nil)
  (.cons (.set (.nm 13) (.slc (.var 13) (.cons (.cI 1) .nil) .nil))
  .nil)) .nil)
  (.cons (.ret (.ite (.cmp .eq (.idx (.var 2) (.cI 0)) (.cS "left")) (.tup (.cons (.var 11) (.cons (.var 5) (.cons (.var 12) (.cons (.var 13) .nil))))) (.tup (.cons (.var 4) (.cons (.var 11) (.cons (.var 13) (.cons (.var 12) .nil)))))))
  .nil))))))))
/-- _law_moves_at(pair, here) -/
def b13 : Sms := (.cons (.ret (.comp (.nm 2) (.of (.call 11 (.cons (.var 0) .nil))) (.cons (.cmp .isn (.call 12 (.cons (.var 0) (.cons (.var 1) (.cons (.var 2) .nil)))) .cN) .nil) (.var 2) [2]))
  .nil)
/-- _law_drawn_run(bag, pair, most, one_way) -/
def b14 : Sms := (.cons (.set (.tp (.cons (.nm 5) (.cons (.nm 6) .nil))) (.tup (.cons (.tup .nil) (.cons (.tup (.cons (.cI 0) (.cons (.cI 0) (.cons (.tup .nil) (.cons (.tup .nil) .nil))))) .nil))))
  (.cons (.fr (.nm 4) (.rng (.cons (.var 2) .nil)) (.cons (.set (.nm 7) (.call 13 (.cons (.var 1) (.cons (.var 6) .nil))))
  (.cons (.ifs (.cmp .eq (.var 3) (.cI 1)) (.cons (.set (.nm 7) (.comp (.nm 8) (.of (.var 7)) (.cons (.cmp .in_ (.tup .nil) (.slc (.call 12 (.cons (.var 1) (.cons (.var 6) (.cons (.var 8) .nil)))) (.cons (.cI 2) .nil) .nil)) .nil) (.var 8) [8]))
  .nil) .nil)
  (.cons (.ifs (.cmp .eq (.var 7) (.lst .nil)) (.cons (.ret (.var 5))
  .nil) .nil)
  (.cons (.set (.nm 8) (.call 3 (.cons (.var 0) (.cons (.var 7) .nil))))
  (.cons (.set (.tp (.cons (.nm 5) (.cons (.nm 6) .nil))) (.tup (.cons (.bin .add (.var 5) (.tup (.cons (.var 8) .nil))) (.cons (.call 12 (.cons (.var 1) (.cons (.var 6) (.cons (.var 8) .nil)))) .nil))))
  .nil))))))
  (.cons (.ret (.var 5))
  .nil)))
/-- begin() -/
def b15 : Sms := (.cons (.ret (.tup (.cons (.cI 0) (.cons (.cI 0) (.cons (.tup .nil) (.cons (.tup .nil) .nil))))))
  .nil)
/-- is_name(thing) -/
def b16 : Sms := (.cons (.ifs (.or (.not (.isi (.var 0) .str)) (.not (.chn .le .le (.cI 1) (.bi .len (.cons (.var 0) .nil)) (.glb 2)))) (.cons (.ret (.cB false))
  .nil) .nil)
  (.cons (.ifs (.or (.cmp .nin (.idx (.var 0) (.cI 0)) (.glb 0)) (.cmp .in_ (.var 0) (.glb 3))) (.cons (.ret (.cB false))
  .nil) .nil)
  (.cons (.ret (.bi .all (.cons (.comp (.nm 1) (.of (.var 0)) .nil (.cmp .in_ (.var 1) (.bin .add (.glb 0) (.glb 1))) [1]) .nil)))
  .nil)))
/-- is_row(thing) -/
def b17 : Sms := (.cons (.ret (.and (.isi (.var 0) .tuple) (.and (.cmp .le (.bi .len (.cons (.var 0) .nil)) (.glb 5)) (.bi .all (.cons (.comp (.nm 1) (.of (.var 0)) .nil (.call 16 (.cons (.var 1) .nil)) [1]) .nil)))))
  .nil)
/-- is_number(thing) -/
def b18 : Sms := (.cons (.ret (.and (.isi (.var 0) .int) (.not (.isi (.var 0) .bool))))
  .nil)
/-- is_index(thing) -/
def b19 : Sms := (.cons (.ret (.and (.call 18 (.cons (.var 0) .nil)) (.cmp .ge (.var 0) (.cI 0))))
  .nil)
/-- is_configuration(pair, thing) -/
def b20 : Sms := (.cons (.ifs (.or (.not (.isi (.var 1) .tuple)) (.or (.cmp .ne (.bi .len (.cons (.var 1) .nil)) (.cI 4)) (.or (.not (.call 19 (.cons (.idx (.var 1) (.cI 0)) .nil))) (.not (.call 19 (.cons (.idx (.var 1) (.cI 1)) .nil)))))) (.cons (.ret (.cB false))
  .nil) .nil)
  (.cons (.ret (.and (.cmp .lt (.idx (.var 1) (.cI 0)) (.idx (.idx (.var 0) (.cI 0)) (.cI 0))) (.and (.cmp .lt (.idx (.var 1) (.cI 1)) (.idx (.idx (.var 0) (.cI 1)) (.cI 0))) (.and (.call 17 (.cons (.idx (.var 1) (.cI 2)) .nil)) (.call 17 (.cons (.idx (.var 1) (.cI 3)) .nil))))))
  .nil))
/-- _law_is_int(thing) -/
def b21 : Sms := (.cons (.ret (.and (.isi (.var 0) .int) (.not (.isi (.var 0) .bool))))
  .nil)
/-- _law_is_move(pair, thing) -/
def b22 : Sms := (.cons (.ifs (.or (.not (.isi (.var 1) .tuple)) (.or (.cmp .ne (.bi .len (.cons (.var 1) .nil)) (.cI 2)) (.or (.not (.isi (.idx (.var 1) (.cI 0)) .str)) (.or (.cmp .nin (.idx (.var 1) (.cI 0)) (.tup (.cons (.cS "left") (.cons (.cS "right") .nil)))) (.not (.call 21 (.cons (.idx (.var 1) (.cI 1)) .nil))))))) (.cons (.ret (.cB false))
  .nil) .nil)
  (.cons (.ret (.chn .le .lt (.cI 0) (.idx (.var 1) (.cI 1)) (.bi .len (.cons (.idx (.idx (.var 0) (.ite (.cmp .eq (.idx (.var 1) (.cI 0)) (.cS "left")) (.cI 0) (.cI 1))) (.cI 1)) .nil))))
  .nil))
/-- _law_played(pair, run) -/
def b23 : Sms := (.cons (.set (.nm 2) (.newl (.cons (.tup (.cons (.cI 0) (.cons (.cI 0) (.cons (.tup .nil) (.cons (.tup .nil) .nil))))) .nil)))
  (.cons (.fr (.nm 3) (.of (.var 1)) (.cons (.set (.nm 4) (.ite (.call 22 (.cons (.var 0) (.cons (.var 3) .nil))) (.call 12 (.cons (.var 0) (.cons (.idx (.var 2) (.neg (.cI 1))) (.cons (.var 3) .nil)))) .cN))
  (.cons (.ifs (.cmp .is_ (.var 4) .cN) (.cons (.ret .cN)
  .nil) .nil)
  (.cons (.ex (.meth .append (.var 2) (.cons (.var 4) .nil)))
  .nil))))
  (.cons (.ret (.var 2))
  .nil)))
/-- is_move(pair, thing) -/
def b24 : Sms := (.cons (.ifs (.or (.not (.isi (.var 1) .tuple)) (.or (.cmp .ne (.bi .len (.cons (.var 1) .nil)) (.cI 2)) (.or (.not (.isi (.idx (.var 1) (.cI 0)) .str)) (.cmp .nin (.idx (.var 1) (.cI 0)) (.glb 4))))) (.cons (.ret (.cB false))
  .nil) .nil)
  (.cons (.ret (.and (.call 19 (.cons (.idx (.var 1) (.cI 1)) .nil)) (.cmp .lt (.idx (.var 1) (.cI 1)) (.bi .len (.cons (.idx (.idx (.var 0) (.vme .index (.glb 4) (.cons (.idx (.var 1) (.cI 0)) .nil))) (.cI 1)) .nil)))))
  .nil))
/-- fault_of(pair, configuration, move) -/
def b25 : Sms := (.cons (.set (.nm 3) (.vme .index (.glb 4) (.cons (.idx (.var 2) (.cI 0)) .nil)))
  (.cons (.set (.tp (.cons (.nm 5) (.cons (.nm 6) (.cons (.nm 7) (.cons (.nm 8) .nil))))) (.idx (.idx (.idx (.var 0) (.var 3)) (.cI 1)) (.idx (.var 2) (.cI 1))))
  (.cons (.ifs (.cmp .ne (.idx (.var 1) (.var 3)) (.var 5)) (.cons (.ret (.cS "state"))
  .nil) .nil)
  (.cons (.set (.nm 4) (.idx (.var 1) (.bin .sub (.cI 3) (.var 3))))
  (.cons (.ret (.ite (.and (.cmp .eq (.var 6) (.cS "take")) (.cmp .ne (.slc (.var 4) .nil (.cons (.cI 1) .nil)) (.tup (.cons (.var 7) .nil)))) (.cS "queue") .cN))
  .nil)))))
/-- behind(pair, configuration, move) -/
def b26 : Sms := (.cons (.set (.nm 3) (.vme .index (.glb 4) (.cons (.idx (.var 2) (.cI 0)) .nil)))
  (.cons (.set (.tp (.cons (.nm 6) (.cons (.nm 7) (.cons (.nm 8) (.cons (.nm 5) .nil))))) (.idx (.idx (.idx (.var 0) (.var 3)) (.cI 1)) (.idx (.var 2) (.cI 1))))
  (.cons (.set (.nm 4) (.new (.bi .list (.cons (.var 1) .nil))))
  (.cons (.put (.var 4) (.var 3) (.var 5))
  (.cons (.ifs (.cmp .eq (.var 7) (.cS "send")) (.cons (.put (.var 4) (.bin .add (.cI 2) (.var 3)) (.bin .add (.idx (.var 4) (.bin .add (.cI 2) (.var 3))) (.tup (.cons (.var 8) .nil))))
  .nil) (.cons (.ifs (.cmp .eq (.var 7) (.cS "take")) (.cons (.put (.var 4) (.bin .sub (.cI 3) (.var 3)) (.slc (.idx (.var 4) (.bin .sub (.cI 3) (.var 3))) (.cons (.cI 1) .nil) .nil))
  .nil) .nil)
  .nil))
  (.cons (.ret (.bi .tuple (.cons (.var 4) .nil)))
  .nil))))))
/-- can_be_done(pair, configuration, move) -/
def b27 : Sms := (.cons (.ifs (.cmp .isn (.call 25 (.cons (.var 0) (.cons (.var 1) (.cons (.var 2) .nil)))) .cN) (.cons (.ret (.cB false))
  .nil) .nil)
  (.cons (.ret (.cmp .le (.bi .max (.cons (.comp (.nm 3) (.of (.slc (.call 26 (.cons (.var 0) (.cons (.var 1) (.cons (.var 2) .nil)))) (.cons (.cI 2) .nil) .nil)) .nil (.bi .len (.cons (.var 3) .nil)) [3]) .nil)) (.glb 5)))
  .nil))
/-- moves_at(pair, configuration) -/
def b28 : Sms := (.cons (.ifs (.not (.call 20 (.cons (.var 0) (.cons (.var 1) .nil)))) (.cons (.rai 0)
  .nil) .nil)
  (.cons (.set (.nm 2) (.comp2 (.tp (.cons (.nm 3) (.cons (.nm 4) .nil))) (.enm (.glb 4)) .nil (.nm 5) (.rng (.cons (.bi .len (.cons (.idx (.idx (.var 0) (.var 3)) (.cI 1)) .nil)) .nil)) .nil (.tup (.cons (.var 4) (.cons (.var 5) .nil))) [3, 4, 5] [5]))
  (.cons (.ret (.bi .tuple (.cons (.comp (.nm 6) (.of (.var 2)) (.cons (.call 27 (.cons (.var 0) (.cons (.var 1) (.cons (.var 6) .nil)))) .nil) (.var 6) [6]) .nil)))
  .nil)))
/-- do(pair, configuration, move) -/
def b29 : Sms := (.cons (.ifs (.or (.not (.call 20 (.cons (.var 0) (.cons (.var 1) .nil)))) (.not (.call 24 (.cons (.var 0) (.cons (.var 2) .nil))))) (.cons (.rai 0)
  .nil) .nil)
  (.cons (.ret (.ite (.call 27 (.cons (.var 0) (.cons (.var 1) (.cons (.var 2) .nil)))) (.call 26 (.cons (.var 0) (.cons (.var 1) (.cons (.var 2) .nil)))) .cN))
  .nil))
/-- law(script) -/
def b30 : Sms := (.cons (.set (.nm 1) (.call 0 (.cons (.var 0) .nil)))
  (.cons (.ifs (.not (.call 1 (.cons (.call 15 .nil) (.cons (.tup (.cons (.cI 0) (.cons (.cI 0) (.cons (.tup .nil) (.cons (.tup .nil) .nil))))) .nil)))) (.cons (.ret (.cB false))
  .nil) .nil)
  (.cons (.fr (.nm 2) (.rng (.cons (.cI 4) .nil)) (.cons (.set (.nm 3) (.call 10 (.cons (.var 1) .nil)))
  (.cons (.set (.nm 4) (.call 14 (.cons (.var 1) (.cons (.var 3) (.cons (.cI 6) (.cons (.cI 0) .nil))))))
  (.cons (.set (.nm 5) (.lst (.cons (.tup .nil) (.cons (.tup (.cons (.cS "a") .nil)) (.cons (.tup (.cons (.cS "b") (.cons (.cS "a") .nil))) (.cons (.tup (.cons (.cS "x") (.cons (.cS "y") (.cons (.cS "x") .nil)))) .nil))))))
  (.cons (.set (.nm 6) (.bin .add (.slc (.call 23 (.cons (.var 3) (.cons (.var 4) .nil))) (.cons (.neg (.cI 2)) .nil) .nil) (.comp (.nm 17) (.rng (.cons (.cI 3) .nil)) .nil (.tup (.cons (.call 2 (.cons (.var 1) (.cons (.idx (.idx (.var 3) (.cI 0)) (.cI 0)) .nil))) (.cons (.call 2 (.cons (.var 1) (.cons (.idx (.idx (.var 3) (.cI 1)) (.cI 0)) .nil))) (.cons (.call 3 (.cons (.var 1) (.cons (.var 5) .nil))) (.cons (.call 3 (.cons (.var 1) (.cons (.var 5) .nil))) .nil))))) [17])))
  (.cons (.fr (.nm 7) (.of (.var 6)) (.cons (.set (.nm 10) (.bi .repr (.cons (.var 7) .nil)))
  (.cons (.ifs (.not (.call 1 (.cons (.lst (.cons (.call 20 (.cons (.var 3) (.cons (.var 7) .nil))) (.cons (.call 28 (.cons (.var 3) (.cons (.var 7) .nil))) .nil))) (.cons (.lst (.cons (.cB true) (.cons (.bi .tuple (.cons (.call 13 (.cons (.var 3) (.cons (.var 7) .nil))) .nil)) .nil))) .nil)))) (.cons (.ret (.cB false))
  .nil) .nil)
  (.cons (.fr (.nm 11) (.of (.call 11 (.cons (.var 3) .nil))) (.cons (.ifs (.or (.not (.call 1 (.cons (.lst (.cons (.call 24 (.cons (.var 3) (.cons (.var 11) .nil))) (.cons (.call 29 (.cons (.var 3) (.cons (.var 7) (.cons (.var 11) .nil)))) .nil))) (.cons (.lst (.cons (.cB true) (.cons (.call 12 (.cons (.var 3) (.cons (.var 7) (.cons (.var 11) .nil)))) .nil))) .nil)))) (.cmp .ne (.bi .repr (.cons (.var 7) .nil)) (.var 10))) (.cons (.ret (.cB false))
  .nil) .nil)
  .nil))
  .nil))))
  (.cons (.set (.tp (.cons (.nm 12) (.cons (.nm 13) (.cons (.nm 14) (.cons (.nm 15) .nil))))) (.idx (.var 6) (.cI 0)))
  (.cons (.set (.nm 8) (.lst (.cons .cN (.cons (.tup .nil) (.cons (.bi .list (.cons (.idx (.var 6) (.cI 0)) .nil)) (.cons (.tup (.cons (.var 12) (.cons (.var 13) (.cons (.var 14) .nil)))) (.cons (.tup (.cons (.var 12) (.cons (.var 13) (.cons (.var 14) (.cons (.var 15) (.cons (.tup .nil) .nil)))))) (.cons (.tup (.cons (.idx (.idx (.var 3) (.cI 0)) (.cI 0)) (.cons (.var 13) (.cons (.var 14) (.cons (.var 15) .nil))))) (.cons (.tup (.cons (.var 12) (.cons (.idx (.idx (.var 3) (.cI 1)) (.cI 0)) (.cons (.var 14) (.cons (.var 15) .nil))))) (.cons (.tup (.cons (.cB true) (.cons (.var 13) (.cons (.var 14) (.cons (.var 15) .nil))))) (.cons (.tup (.cons (.neg (.cI 1)) (.cons (.var 13) (.cons (.var 14) (.cons (.var 15) .nil))))) (.cons (.tup (.cons (.var 12) (.cons (.var 13) (.cons (.bi .list (.cons (.var 14) .nil)) (.cons (.var 15) .nil))))) .nil))))))))))))
  (.cons (.set (.nm 8) (.bin .add (.var 8) (.lst (.cons (.tup (.cons (.var 12) (.cons (.var 13) (.cons (.tup (.cons (.cS "if then") .nil)) (.cons (.var 15) .nil))))) (.cons (.tup (.cons (.var 12) (.cons (.var 13) (.cons (.tup (.cons (.cI 0) .nil)) (.cons (.var 15) .nil))))) (.cons (.tup (.cons (.var 12) (.cons (.var 13) (.cons (.var 14) (.cons .cN .nil))))) (.cons (.tup (.cons (.var 12) (.cons (.var 13) (.cons (.tup (.cons (.cS "take") .nil)) (.cons (.var 15) .nil))))) (.cons (.tup (.cons (.var 12) (.cons (.var 13) (.cons (.bin .mul (.tup (.cons (.cS "a") .nil)) (.cI 5001)) (.cons (.var 15) .nil))))) .nil))))))))
  (.cons (.fr (.nm 9) (.of (.var 8)) (.cons (.set (.nm 16) (.newl (.cons (.told 0 (.call 28 (.cons (.var 3) (.cons (.var 9) .nil)))) .nil)))
  (.cons (.ex (.meth .append (.var 16) (.cons (.told 0 (.call 29 (.cons (.var 3) (.cons (.var 9) (.cons (.tup (.cons (.cS "left") (.cons (.cI 0) .nil))) .nil))))) .nil)))
  (.cons (.ifs (.or (.cmp .isn (.call 20 (.cons (.var 3) (.cons (.var 9) .nil))) (.cB false)) (.cmp .ne (.var 16) (.bin .mul (.lst (.cons (.tup (.cons (.cS "nothing") .nil)) .nil)) (.cI 2)))) (.cons (.ret (.cB false))
  .nil) .nil)
  .nil))))
  (.cons (.fr (.nm 9) (.of (.lst (.cons .cN (.cons (.tup .nil) (.cons (.tup (.cons (.cS "left") .nil)) (.cons (.lst (.cons (.cS "left") (.cons (.cI 0) .nil))) (.cons (.tup (.cons (.cS "zoo") (.cons (.cI 0) .nil))) (.cons (.tup (.cons (.cS "left") (.cons (.bi .len (.cons (.idx (.idx (.var 3) (.cI 0)) (.cI 1)) .nil)) .nil))) (.cons (.tup (.cons (.cS "right") (.cons (.bi .len (.cons (.idx (.idx (.var 3) (.cI 1)) (.cI 1)) .nil)) .nil))) (.cons (.tup (.cons (.cS "left") (.cons (.cB true) .nil))) (.cons (.tup (.cons (.cS "left") (.cons (.neg (.cI 1)) .nil))) (.cons (.tup (.cons (.cI 0) (.cons (.cI 0) .nil))) (.cons (.tup (.cons (.cS "left") (.cons (.cI 0) (.cons (.cI 0) .nil)))) (.cons (.tup (.cons (.cS "left") (.cons .cN .nil))) .nil)))))))))))))) (.cons (.ifs (.or (.cmp .ne (.call 24 (.cons (.var 3) (.cons (.var 9) .nil))) (.call 22 (.cons (.var 3) (.cons (.var 9) .nil)))) (.cmp .ne (.told 0 (.call 29 (.cons (.var 3) (.cons (.idx (.var 6) (.cI 0)) (.cons (.var 9) .nil))))) (.tup (.cons (.cS "nothing") .nil)))) (.cons (.ret (.cB false))
  .nil) .nil)
  .nil))
  (.cons (.ifs (.cmp .isn (.call 20 (.cons (.var 3) (.cons (.tup (.cons (.var 12) (.cons (.var 13) (.cons (.bin .mul (.tup (.cons (.cS "a") .nil)) (.cI 5000)) (.cons (.var 15) .nil))))) .nil))) (.cB true)) (.cons (.ret (.cB false))
  .nil) .nil)
  .nil))))))))))))
  (.cons (.ret (.cB true))
  .nil))))
def Pr : Nat → Option FD := fun
  | 0 => some ⟨1, 2, true, b0⟩
  | 1 => some ⟨2, 2, false, b1⟩
  | 2 => some ⟨2, 7, false, b2⟩
  | 3 => some ⟨2, 2, false, b3⟩
  | 4 => some ⟨1, 18, false, b4⟩
  | 5 => some ⟨2, 3, false, b5⟩
  | 6 => some ⟨1, 3, false, b6⟩
  | 7 => some ⟨2, 3, false, b7⟩
  | 8 => some ⟨4, 6, false, b8⟩
  | 9 => some ⟨1, 6, false, b9⟩
  | 10 => some ⟨1, 14, false, b10⟩
  | 11 => some ⟨1, 2, false, b11⟩
  | 12 => some ⟨3, 14, false, b12⟩
  | 13 => some ⟨2, 3, false, b13⟩
  | 14 => some ⟨4, 9, false, b14⟩
  | 15 => some ⟨0, 0, false, b15⟩
  | 16 => some ⟨1, 2, false, b16⟩
  | 17 => some ⟨1, 2, false, b17⟩
  | 18 => some ⟨1, 1, false, b18⟩
  | 19 => some ⟨1, 1, false, b19⟩
  | 20 => some ⟨2, 2, false, b20⟩
  | 21 => some ⟨1, 1, false, b21⟩
  | 22 => some ⟨2, 2, false, b22⟩
  | 23 => some ⟨2, 5, false, b23⟩
  | 24 => some ⟨2, 2, false, b24⟩
  | 25 => some ⟨3, 9, false, b25⟩
  | 26 => some ⟨3, 9, false, b26⟩
  | 27 => some ⟨3, 4, false, b27⟩
  | 28 => some ⟨2, 7, false, b28⟩
  | 29 => some ⟨3, 3, false, b29⟩
  | 30 => some ⟨1, 18, false, b30⟩
  | _ => none
def Gc : Nat → Option AV := fun
  | 0 => some (.str "abcdefghijklmnopqrstuvwxyz")
  | 1 => some (.str "0123456789")
  | 2 => some (.int 8)
  | 3 => some (.ktp [.str "and", .str "as", .str "end", .str "from", .str "in", .str "is", .str "left", .str "move", .str "of", .str "pair", .str "right", .str "send", .str "side", .str "state", .str "step", .str "take", .str "to"])
  | 4 => some (.ktp [.str "left", .str "right"])
  | 5 => some (.int 5000)
  | _ => none

end MP

set_option Elab.async false
set_option linter.all false
set_option maxRecDepth 100000
set_option maxHeartbeats 4000000
namespace MP
open PySem PySem.Spec PyProof.Rows L2 He
abbrev prog : Program := PySem.Challenge.pw_turntalk_k25_configurations_and_moves
abbrev top (i : Nat) : Stmt := prog.main.body.getD i (.Pass ⟨0, 0, 0, 0⟩)
def N0 : List PySem.Str := ["script", "cell"]
theorem nd0 : N0.Nodup := by decide +kernel
def N1 : List PySem.Str := ["found", "due"]
theorem nd1 : N1.Nodup := by decide +kernel
def N2 : List PySem.Str := ["bag", "many", "begin_v", "second", "cell", "stirred", "value"]
theorem nd2 : N2.Nodup := by decide +kernel
def N3 : List PySem.Str := ["bag", "things"]
theorem nd3 : N3.Nodup := by decide +kernel
def N4 : List PySem.Str := ["pair", "found", "line", "later", "p", "q", "run", "couple", "n", "m", "s", "kind", "letter", "to", "t", "word", "its", "goal"]
theorem nd4 : N4.Nodup := by decide +kernel
def N5 : List PySem.Str := ["side", "state", "move"]
theorem nd5 : N5.Nodup := by decide +kernel
def N6 : List PySem.Str := ["pair", "p", "q"]
theorem nd6 : N6.Nodup := by decide +kernel
def N7 : List PySem.Str := ["side", "bad", "move"]
theorem nd7 : N7.Nodup := by decide +kernel
def N8 : List PySem.Str := ["bag", "many", "sends", "takes", "kind", "letter"]
theorem nd8 : N8.Nodup := by decide +kernel
def N9 : List PySem.Str := ["side", "words", "p", "kind", "a", "q"]
theorem nd9 : N9.Nodup := by decide +kernel
def N10 : List PySem.Str := ["bag", "k", "ends", "one", "right", "pair", "lap", "many", "left", "kind", "bad", "gone", "its", "move"]
theorem nd10 : N10.Nodup := by decide +kernel
def N11 : List PySem.Str := ["pair", "n"]
theorem nd11 : N11.Nodup := by decide +kernel
def N12 : List PySem.Str := ["pair", "here", "act", "moves", "p", "q", "x", "y", "state", "kind", "letter", "to", "mine", "its"]
theorem nd12 : N12.Nodup := by decide +kernel
def N13 : List PySem.Str := ["pair", "here", "act"]
theorem nd13 : N13.Nodup := by decide +kernel
def N14 : List PySem.Str := ["bag", "pair", "most", "one_way", "lap", "run", "here", "some", "act"]
theorem nd14 : N14.Nodup := by decide +kernel
def N15 : List PySem.Str := []
theorem nd15 : N15.Nodup := by decide +kernel
def N16 : List PySem.Str := ["thing", "sign"]
theorem nd16 : N16.Nodup := by decide +kernel
def N17 : List PySem.Str := ["thing", "letter"]
theorem nd17 : N17.Nodup := by decide +kernel
def N18 : List PySem.Str := ["thing"]
theorem nd18 : N18.Nodup := by decide +kernel
def N19 : List PySem.Str := ["thing"]
theorem nd19 : N19.Nodup := by decide +kernel
def N20 : List PySem.Str := ["pair", "thing"]
theorem nd20 : N20.Nodup := by decide +kernel
def N21 : List PySem.Str := ["thing"]
theorem nd21 : N21.Nodup := by decide +kernel
def N22 : List PySem.Str := ["pair", "thing"]
theorem nd22 : N22.Nodup := by decide +kernel
def N23 : List PySem.Str := ["pair", "run", "found", "act", "there"]
theorem nd23 : N23.Nodup := by decide +kernel
def N24 : List PySem.Str := ["pair", "thing"]
theorem nd24 : N24.Nodup := by decide +kernel
def N25 : List PySem.Str := ["pair", "configuration", "move", "at", "queue", "state", "kind", "letter", "to"]
theorem nd25 : N25.Nodup := by decide +kernel
def N26 : List PySem.Str := ["pair", "configuration", "move", "at", "found", "to", "state", "kind", "letter"]
theorem nd26 : N26.Nodup := by decide +kernel
def N27 : List PySem.Str := ["pair", "configuration", "move", "row"]
theorem nd27 : N27.Nodup := by decide +kernel
def N28 : List PySem.Str := ["pair", "configuration", "moves", "at", "side", "number", "move"]
theorem nd28 : N28.Nodup := by decide +kernel
def N29 : List PySem.Str := ["pair", "configuration", "move"]
theorem nd29 : N29.Nodup := by decide +kernel
def N30 : List PySem.Str := ["script", "bag", "lap", "pair", "run", "rows", "places", "here", "things", "thing", "shown", "act", "p", "q", "x", "y", "heard", "turn"]
theorem nd30 : N30.Nodup := by decide +kernel
def nameT : Nat → PySem.Str := fun
  | 0 => "_law_bag"
  | 1 => "_law_alike"
  | 2 => "_law_take"
  | 3 => "_law_some"
  | 4 => "_law_couples"
  | 5 => "_law_sends"
  | 6 => "_law_first_duel"
  | 7 => "_law_without"
  | 8 => "_law_any_move"
  | 9 => "_law_turned_side"
  | 10 => "_law_talk_pair"
  | 11 => "_law_acts"
  | 12 => "_law_do"
  | 13 => "_law_moves_at"
  | 14 => "_law_drawn_run"
  | 15 => "begin"
  | 16 => "is_name"
  | 17 => "is_row"
  | 18 => "is_number"
  | 19 => "is_index"
  | 20 => "is_configuration"
  | 21 => "_law_is_int"
  | 22 => "_law_is_move"
  | 23 => "_law_played"
  | 24 => "is_move"
  | 25 => "fault_of"
  | 26 => "behind"
  | 27 => "can_be_done"
  | 28 => "moves_at"
  | 29 => "do"
  | 30 => "law"
  | _ => ""
def psT : Nat → List PySem.Str := fun
  | 0 => ["script"]
  | 1 => ["found", "due"]
  | 2 => ["bag", "many"]
  | 3 => ["bag", "things"]
  | 4 => ["pair"]
  | 5 => ["side", "state"]
  | 6 => ["pair"]
  | 7 => ["side", "bad"]
  | 8 => ["bag", "many", "sends", "takes"]
  | 9 => ["side"]
  | 10 => ["bag"]
  | 11 => ["pair"]
  | 12 => ["pair", "here", "act"]
  | 13 => ["pair", "here"]
  | 14 => ["bag", "pair", "most", "one_way"]
  | 15 => []
  | 16 => ["thing"]
  | 17 => ["thing"]
  | 18 => ["thing"]
  | 19 => ["thing"]
  | 20 => ["pair", "thing"]
  | 21 => ["thing"]
  | 22 => ["pair", "thing"]
  | 23 => ["pair", "run"]
  | 24 => ["pair", "thing"]
  | 25 => ["pair", "configuration", "move"]
  | 26 => ["pair", "configuration", "move"]
  | 27 => ["pair", "configuration", "move"]
  | 28 => ["pair", "configuration"]
  | 29 => ["pair", "configuration", "move"]
  | 30 => ["script"]
  | _ => []
def grT : Nat → Prop := fun
  | 0 => False
  | 1 => True
  | 2 => False
  | 3 => False
  | 4 => False
  | 5 => False
  | 6 => False
  | 7 => False
  | 8 => False
  | 9 => False
  | 10 => False
  | 11 => False
  | 12 => False
  | 13 => False
  | 14 => False
  | 15 => False
  | 16 => False
  | 17 => False
  | 18 => False
  | 19 => False
  | 20 => False
  | 21 => False
  | 22 => False
  | 23 => False
  | 24 => False
  | 25 => False
  | 26 => False
  | 27 => False
  | 28 => False
  | 29 => False
  | 30 => True
  | _ => False
def topT : Nat → Nat := fun
  | 0 => 25
  | 1 => 28
  | 2 => 26
  | 3 => 27
  | 4 => 31
  | 5 => 32
  | 6 => 33
  | 7 => 30
  | 8 => 41
  | 9 => 29
  | 10 => 42
  | 11 => 35
  | 12 => 34
  | 13 => 38
  | 14 => 40
  | 15 => 18
  | 16 => 11
  | 17 => 16
  | 18 => 9
  | 19 => 10
  | 20 => 17
  | 21 => 36
  | 22 => 37
  | 23 => 39
  | 24 => 15
  | 25 => 19
  | 26 => 20
  | 27 => 21
  | 28 => 23
  | 29 => 22
  | 30 => 44
  | _ => 0
def excT : Nat → PySem.Str := fun
  | 0 => "Nothing"
  | _ => ""
def free : List PySem.Str := ["abs", "all", "bool", "dict", "enumerate", "int", "isinstance", "len", "list", "max", "range", "repr", "sorted", "str", "tuple"]
def cT : Nat → PySem.Str := fun
  | 0 => "LETTERS"
  | 1 => "DIGITS"
  | 2 => "MOST_LETTERS_forms"
  | 3 => "RESERVED"
  | 4 => "SIDES"
  | 5 => "MOST_LETTERS_configurations"
  | _ => ""
def toldN : PySem.Str := "_law_heard"
def toldT : Nat := 43
def toldP : PySem.Str := "act"
def lawT : Nat := 44
def nF : Nat := 31
def nX : Nat := 1

theorem U {A : Around} {n : Nat} (h : n ≤ 70) (u : A.units + 70 < cLine) : A.units + n < cLine := Nat.lt_of_le_of_lt (Nat.add_le_add_left h _) u
theorem room70 {k : Nat} {A : Around} (r : Room k A) : A.units + 70 < cLine := by
  have := r.un
  omega
/-- an own class of exceptions -/
structure ExcFact (K : PySem.W.Frag) (mg : Str → Option Value) (fa : FA) (i : Nat) : Prop where
  q : PySem.W.excIn K (ga K (excT i)) veBase "ValueError.__new__" = true
  g : mg (excT i) = some (.ref (ga K (excT i)))
  kp : PySem.W.keepIn K (.ref (ga K (excT i))) = true
  s : PySem.W.subIn K (.ref (ga K (excT i))) (.type "BaseException") = some true
  t : PySem.W.typeIn K (.ref (ga K (excT i))) = some (.type "type")
  a : fa.ad i = some (ga K (excT i))
  m : PySem.W.exmOne K (.ref (ga K (excT i))) (.ref (ga K (excT i))) = some true
theorem ExcFact.r {K : PySem.W.Frag} {mg : Str → Option Value} {fa : FA} {i : Nat} (f : ExcFact K mg fa i) {X : Cx} (h : X.K = K) : Raises X (.ref (ga K (excT i))) := raises_own (by rw [h]; exact f.s) (by rw [h]; exact f.t)
/-- what is known around a def's body -/
structure EnvG (P : Program) (w : World) (K : PySem.W.Frag) (mg : Str → Option Value) (base : Heap) (fa : FA) (fd : Nat → FuncData) (d : Nat) : Prop where
  f : ∀ i, FnG P w K mg base (grT i) (3 * d) (ga K (nameT i)) (fd i) (psT i) (spM K fa (psT i).length (callF Pr Gc d i))
  g : ∀ i, Nat.blt i nF = true → mg (nameT i) = some (.ref (ga K (nameT i)))
  k : ∀ i, Nat.blt i nF = true → PySem.W.keepIn K (.ref (ga K (nameT i))) = true
  b : ∀ i, Nat.blt i nF = true → Binds K (fd i) (psT i) []
  fr : ∀ x : Str, free.elem x = true → mg x = none
  x : ∀ i, Nat.blt i nX = true → ExcFact K mg fa i
  hd : ∃ fdh, FunD K toldN toldN (defArgs (top toldT)) (defBody (top toldT)) (defScope (top toldT)) [] [] (ga K toldN) fdh ∧ mg toldN = some (.ref (ga K toldN)) ∧ Binds K fdh [toldP] []
  c : ∀ i a, Gc i = some a → ∃ (v : V) (u : Value), mg (cT i) = some u ∧ RelV v u ∧ ∀ L H, RA K fa L H a v
theorem m_glbC {fa : FA} {T : GT} {W : WX} {X : Cx} {x : Str} {n : Nat} {pos : Pos} {a : AV} (hg : Gl X x) (hc : ∃ (v : V) (u : Value), X.mg x = some u ∧ RelV v u ∧ ∀ L H, RA X.K fa L H a v) (hd : (x == ("__debug__" : Str)) = false) (ha : T.dat n = some a := by rfl) : PE X (.Name x pos) (tE X.K fa T W (.glb n)) := by
  obtain ⟨v, u, h1, h2, h3⟩ := hc
  refine m_glb hg h1 h2 hd fun {L H} b hb => ?_
  rw [ha] at hb
  cases hb
  exact h3 L H

/-! ### what a lambda tells -/
abbrev qLam : Str := (envOfC "law" (defScope (top lawT)) 0 0 .none).qual ++ "<lambda>"
structure TabE (fa : FA) (base : Heap) (mg : Str → Option Value) (K : PySem.W.Frag) (tbl : Addr × Addr) : Prop where
  ts : fa.ts = [(tbl.2, qLam)]
  tb : LamX.TabB base mg tbl.1 tbl.2
  eq : tbl = He.cT K ("law", none)
theorem code_at {K : PySem.W.Frag} {cdv : Value} (h : CodeAt K (ga K "law") "law" cdv) : cdv = .ref (He.cT K ("law", none)).1 := by
  obtain ⟨hc, oc, od, osl, fd', lk, e⟩ := h
  subst e
  obtain ⟨c, ec⟩ := He.codeIn_ref hc
  have e2 : He.codeOf K ("law", none) = c := He.codeOf_eq (p := ("law", none)) lk ec
  rw [ec]
  show Value.ref c = .ref (He.codeOf K ("law", none))
  rw [e2]
theorem scTold : FnScope [toldP] [toldP] (defScope (top toldT)) := ⟨rfl, rfl, rfl, by decide +kernel, rfl, by decide +kernel, by decide +kernel⟩
section
variable {P : Program} {w : World} {K : PySem.W.Frag} {mg : Str → Option Value} {base : Heap} {fa : FA} {fd : Nat → FuncData} {d : Nat}
theorem toldW (e : EnvG P w K mg base fa fd d) {tbl : Addr × Addr} (tb : TabE fa base mg K tbl) {cdv : Value} {A : Around} {outer : List Env} {s : Shared} {H : Hp} {E : XK} {N : List Str} (hcd : CodeAt K (ga K "law") "law" cdv) (hr : Room (3 * d + 2) (A.deeper (envOfC "law" (defScope (top lawT)) s.heap.objs.size (ga K "law") cdv)))
    {T : GT} {W : WX} {params : Arguments} {body : Expr} {scope : Scope} {m : Ex} {p lpos pos : Pos}
    (hbody : ∀ (A' : Around) (outer' : List Env) (s' : Shared) (H' : Hp) (E' : XK) (f c' : Addr), Takes (LamX.lamCx (cxOf (L2.CX P w) P w K mg base N "law" (defScope (top lawT)) (ga K "law") cdv A outer s H E) A' outer' s' H' E' scope f c') (fun c d _ H => E' c d H) →
      Room (3 * d) (A'.deeper (LamX.lamEnv (cxOf (L2.CX P w) P w K mg base N "law" (defScope (top lawT)) (ga K "law") cdv A outer s H E) scope s'.heap.objs.size f c')) → (A'.deeper (LamX.lamEnv (cxOf (L2.CX P w) P w K mg base N "law" (defScope (top lawT)) (ga K "law") cdv A outer s H E) scope s'.heap.objs.size f c')).units + 70 < cLine →
      PE (LamX.lamCx (cxOf (L2.CX P w) P w K mg base N "law" (defScope (top lawT)) (ga K "law") cdv A outer s H E) A' outer' s' H' E' scope f c') body (tE K fa T (fun c d _ H => E' c d H) m))
    (ls : LamX.lamSB (defScope (top lawT)) scope = true) (hdef : defaultsOf params (cxOf (L2.CX P w) P w K mg base N "law" (defScope (top lawT)) (ga K "law") cdv A outer s H E).env = ([], [])) (hbind : ∀ (q : Str) (cl : List (Str × Addr)) (pm cv ctv : Value), bindArgs (PySem.W.kla_fn "<lambda>" q params body scope cl pm cv ctv) ⟨[], []⟩ = pure []) :
    PE (cxOf (L2.CX P w) P w K mg base N "law" (defScope (top lawT)) (ga K "law") cdv A outer s H E) (.Call (.Name toldN p) [.Lambda params body scope lpos] [] pos) (tE K fa T W (.told 0 m)) := by
  obtain ⟨fdh, F, hm, hb⟩ := e.hd
  have hc := code_at hcd
  rw [← tb.eq] at hc
  exact m_told (X := cxOf (L2.CX P w) P w K mg base N "law" (defScope (top lawT)) (ga K "law") cdv A outer s H E) (Ng := [toldP]) (c := tbl.1) (k := 3 * d) F rfl tb.ts rfl hm hb scTold rfl (.inl rfl) rfl (e.x 0 rfl).g (by decide) (fun _ => rfl) tb.tb hc hr (LamX.lamS_by ls) hdef hbind
    (fun A' outer' s' H' E' f c' hr' => hbody A' outer' s' H' E' f c' (takes_of rfl rfl rfl rfl) hr' (room70 hr')) (e.x 0 rfl).a (e.x 0 rfl).m (by decide) (by decide) (by decide)
end
end MP

set_option Elab.async false
set_option linter.all false
set_option maxRecDepth 100000
set_option maxHeartbeats 4000000
namespace MP
open PySem PySem.Spec PyProof.Rows L2 He
section
variable {P : Program} {w : World} {K : PySem.W.Frag} {mg : Str → Option Value} {base : Heap} {fa : FA} {fd : Nat → FuncData} {d : Nat}
theorem body0 (e : EnvG P w K mg base fa fd d) {cdv : Value} {A : Around} {outer : List Env} {s : Shared} {H : Hp} {E : XK} (hcd : CodeAt K (ga K "_law_bag") "_law_bag" cdv) (hr : Room (3 * d + 2) (A.deeper (envOfC "_law_bag" (defScope (top 25)) s.heap.objs.size (ga K "_law_bag") cdv))) (hg : grT 0 → A.guards = some []) :
    PSs (cxOf (L2.CX P w) P w K mg base N0 "_law_bag" (defScope (top 25)) (ga K "_law_bag") cdv A outer s H E) (defBody (top 25)) (tSs K fa ⟨callF Pr Gc d, Gc⟩ (fun c d _ H => E c d H) b0) :=
  have nd := nd0
  have tk : Takes (cxOf (L2.CX P w) P w K mg base N0 "_law_bag" (defScope (top 25)) (ga K "_law_bag") cdv A outer s H E) (fun c d _ H => E c d H) := takes_of rfl rfl rfl rfl
  have po : PassesOwn (model P w) (A.deeper (envOfC "_law_bag" (defScope (top 25)) s.heap.objs.size (ga K "_law_bag") cdv)) (envOfC "_law_bag" (defScope (top 25)) s.heap.objs.size (ga K "_law_bag") cdv) (cxOf (L2.CX P w) P w K mg base N0 "_law_bag" (defScope (top 25)) (ga K "_law_bag") cdv A outer s H E).xe := passes_of rfl
  have u : (A.deeper (envOfC "_law_bag" (defScope (top 25)) s.heap.objs.size (ga K "_law_bag") cdv)).units + 70 < cLine := room70 hr
  have hr2 := hr
  have hr := hr.mono (show 3 * d ≤ 3 * d + 2 by omega)
  (s_cons (s_ret (m_newl (m_cons m_int (m_cons m_int (m_cons m_int (m_cons (m_comp (own := [("cell", 1)]) (by decide)  rfl nd (m_iof (m_slc (m_var rfl (.inl rfl) (by decide) (by decide)) m_po0 (m_po1 m_int))) (blkOk_by (N := N0) (sc := defScope (top 25)) (by decide +kernel)) (fun _ _ _ _ _ => (g_nm nd rfl (.inl rfl) (.inr rfl))) (fun _ _ _ _ _ => m_pts0) (fun _ _ _ _ _ => (m_bif (f := .abs) call_abs bi_abs rfl (e.fr "abs" rfl) rfl (m_cons (m_var rfl (.inl rfl) (by decide) (by decide)) m_nil rfl) (by decide) (by decide) rfl rfl)) (fun _ => rfl)) m_nil rfl) rfl) rfl) rfl) (by decide)))
  s_nil)
theorem body1 (e : EnvG P w K mg base fa fd d) {cdv : Value} {A : Around} {outer : List Env} {s : Shared} {H : Hp} {E : XK} (hcd : CodeAt K (ga K "_law_alike") "_law_alike" cdv) (hr : Room (3 * d + 2) (A.deeper (envOfC "_law_alike" (defScope (top 28)) s.heap.objs.size (ga K "_law_alike") cdv))) (hg : grT 1 → A.guards = some []) :
    PSs (cxOf (L2.CX P w) P w K mg base N1 "_law_alike" (defScope (top 28)) (ga K "_law_alike") cdv A outer s H E) (defBody (top 28)) (tSs K fa ⟨callF Pr Gc d, Gc⟩ (fun c d _ H => E c d H) b1) :=
  have nd := nd1
  have tk : Takes (cxOf (L2.CX P w) P w K mg base N1 "_law_alike" (defScope (top 28)) (ga K "_law_alike") cdv A outer s H E) (fun c d _ H => E c d H) := takes_of rfl rfl rfl rfl
  have po : PassesOwn (model P w) (A.deeper (envOfC "_law_alike" (defScope (top 28)) s.heap.objs.size (ga K "_law_alike") cdv)) (envOfC "_law_alike" (defScope (top 28)) s.heap.objs.size (ga K "_law_alike") cdv) (cxOf (L2.CX P w) P w K mg base N1 "_law_alike" (defScope (top 28)) (ga K "_law_alike") cdv A outer s H E).xe := passes_of rfl
  have u : (A.deeper (envOfC "_law_alike" (defScope (top 28)) s.heap.objs.size (ga K "_law_alike") cdv)).units + 70 < cLine := room70 hr
  have hr2 := hr
  have hr := hr.mono (show 3 * d ≤ 3 * d + 2 by omega)
  have hgr : True → (A.deeper (envOfC "_law_alike" (defScope (top 28)) s.heap.objs.size (ga K "_law_alike") cdv)).guards = some [] := fun z => hg z
  (s_cons (s_ret (m_and (m_cmp (op_eqD (U (by decide) u)) b2_eq (m_bif (f := .repr) (cr_repr (hgr trivial) (U (by decide) u)) bi_repr rfl (e.fr "repr" rfl) rfl (m_cons (m_var rfl (.inl rfl) (by decide) (by decide)) m_nil rfl) (by decide) (by decide) rfl rfl) (m_bif (f := .repr) (cr_repr (hgr trivial) (U (by decide) u)) bi_repr rfl (e.fr "repr" rfl) rfl (m_cons (m_var rfl (.inl rfl) (by decide) (by decide)) m_nil rfl) (by decide) (by decide) rfl rfl) (nomark _)) (m_one (m_cmp (op_eqD (U (by decide) u)) b2_eq (m_var rfl (.inl rfl) (by decide) (by decide)) (m_var rfl (.inl rfl) (by decide) (by decide)) (nomark _)))))
  s_nil)
theorem body2 (e : EnvG P w K mg base fa fd d) {cdv : Value} {A : Around} {outer : List Env} {s : Shared} {H : Hp} {E : XK} (hcd : CodeAt K (ga K "_law_take") "_law_take" cdv) (hr : Room (3 * d + 2) (A.deeper (envOfC "_law_take" (defScope (top 26)) s.heap.objs.size (ga K "_law_take") cdv))) (hg : grT 2 → A.guards = some []) :
    PSs (cxOf (L2.CX P w) P w K mg base N2 "_law_take" (defScope (top 26)) (ga K "_law_take") cdv A outer s H E) (defBody (top 26)) (tSs K fa ⟨callF Pr Gc d, Gc⟩ (fun c d _ H => E c d H) b2) :=
  have nd := nd2
  have tk : Takes (cxOf (L2.CX P w) P w K mg base N2 "_law_take" (defScope (top 26)) (ga K "_law_take") cdv A outer s H E) (fun c d _ H => E c d H) := takes_of rfl rfl rfl rfl
  have po : PassesOwn (model P w) (A.deeper (envOfC "_law_take" (defScope (top 26)) s.heap.objs.size (ga K "_law_take") cdv)) (envOfC "_law_take" (defScope (top 26)) s.heap.objs.size (ga K "_law_take") cdv) (cxOf (L2.CX P w) P w K mg base N2 "_law_take" (defScope (top 26)) (ga K "_law_take") cdv A outer s H E).xe := passes_of rfl
  have u : (A.deeper (envOfC "_law_take" (defScope (top 26)) s.heap.objs.size (ga K "_law_take") cdv)).units + 70 < cLine := room70 hr
  have hr2 := hr
  have hr := hr.mono (show 3 * d ≤ 3 * d + 2 by omega)
  (s_cons (s_ifs (m_tcmp isB_cmp (op_eqD (U (by decide) u)) b2_eq (m_idx (m_var rfl (.inl rfl) (by decide) (by decide)) m_int (fun _ _ => rfl)) m_int (nomark _)) (s_cons (s_set (m_idx (m_bin op_addM b2_add (m_slc (m_idx (m_var rfl (.inl rfl) (by decide) (by decide)) m_int (fun _ _ => rfl)) (m_po1 (m_idx (m_var rfl (.inl rfl) (by decide) (by decide)) m_int (fun _ _ => rfl))) m_po0) (m_lst (m_cons m_int m_nil rfl) (by decide))) m_int (fun _ _ => rfl)) (g_nm nd rfl (.inl rfl) (.inl rfl)) rfl rfl rfl)
  (s_cons (s_augp (m_var rfl (.inl rfl) (by decide) (by decide)) m_int m_int iop_addM aug_add get_list (fun _ _ _ => rfl))
  (s_cons (s_ifs (m_tcmp isB_cmp op_ge b2_ge (m_var rfl (.inl rfl) (by decide) (by decide)) (m_bin op_pow b2_pow m_int m_int) (nomark _)) (s_cons (s_put (m_var rfl (.inl rfl) (by decide) (by decide)) (pg_sub (m_var rfl (.inl rfl) (by decide) (by decide)) m_int set_list) rfl rfl rfl)
  s_nil) s_nil)
  (s_cons (s_set (m_bin op_addM b2_add (m_bin op_addM b2_add (m_bin op_mulM b2_mul (m_idx (m_var rfl (.inl rfl) (by decide) (by decide)) m_int (fun _ _ => rfl)) m_int) (m_bin op_mod b2_mod (m_bit (f := .int) call_int1 bi_int rfl (e.fr "int" rfl) rfl (m_cons (m_var rfl (.inl rfl) (by decide) (by decide)) m_nil rfl) (by decide) (by decide) rfl rfl) m_int)) (m_bin op_mulM b2_mul m_int (m_idx (m_var rfl (.inl rfl) (by decide) (by decide)) m_int (fun _ _ => rfl)))) (g_nm nd rfl (.inl rfl) (.inl rfl)) rfl rfl rfl)
  (s_cons (s_put (m_bin op_mod b2_mod (m_bit (f := .int) call_int1 bi_int rfl (e.fr "int" rfl) rfl (m_cons (m_var rfl (.inl rfl) (by decide) (by decide)) m_nil rfl) (by decide) (by decide) rfl rfl) m_int) (pg_sub (m_var rfl (.inl rfl) (by decide) (by decide)) m_int set_list) rfl rfl rfl)
  s_nil))))) s_nil)
  (s_cons (s_ifs (m_tcmp isB_cmp op_gt b2_gt (m_idx (m_var rfl (.inl rfl) (by decide) (by decide)) m_int (fun _ _ => rfl)) m_int (nomark _)) (s_cons (s_set (m_bin op_mod b2_mod (m_bit (f := .int) call_int1 bi_int rfl (e.fr "int" rfl) rfl (m_cons (m_idx (m_var rfl (.inl rfl) (by decide) (by decide)) m_int (fun _ _ => rfl)) m_nil rfl) (by decide) (by decide) rfl rfl) (m_var rfl (.inl rfl) (by decide) (by decide))) (g_nm nd rfl (.inl rfl) (.inl rfl)) rfl rfl rfl)
  (s_cons (s_put (m_bin op_fdiv b2_fdiv (m_bit (f := .int) call_int1 bi_int rfl (e.fr "int" rfl) rfl (m_cons (m_idx (m_var rfl (.inl rfl) (by decide) (by decide)) m_int (fun _ _ => rfl)) m_nil rfl) (by decide) (by decide) rfl rfl) (m_var rfl (.inl rfl) (by decide) (by decide))) (pg_sub (m_var rfl (.inl rfl) (by decide) (by decide)) m_int set_list) rfl rfl rfl)
  (s_cons (s_ret (m_var rfl (.inl rfl) (by decide) (by decide)))
  s_nil))) s_nil)
  (s_cons (s_set (m_bin op_mod b2_mod (m_bit (f := .int) call_int1 bi_int rfl (e.fr "int" rfl) rfl (m_cons (m_bin op_mulM b2_mul (m_bin op_addM b2_add (m_idx (m_var rfl (.inl rfl) (by decide) (by decide)) m_int (fun _ _ => rfl)) m_int) m_int) m_nil rfl) (by decide) (by decide) rfl rfl) m_int) (g_nm nd rfl (.inl rfl) (.inl rfl)) rfl rfl rfl)
  (s_cons (s_set (m_bin op_mod b2_mod (m_bit (f := .int) call_int1 bi_int rfl (e.fr "int" rfl) rfl (m_cons (m_bin op_mulM b2_mul (m_bin op_mod b2_mod (m_bit (f := .int) call_int1 bi_int rfl (e.fr "int" rfl) rfl (m_cons (m_bin op_mulM b2_mul (m_var rfl (.inl rfl) (by decide) (by decide)) (m_var rfl (.inl rfl) (by decide) (by decide))) m_nil rfl) (by decide) (by decide) rfl rfl) m_int) m_int) m_nil rfl) (by decide) (by decide) rfl rfl) m_int) (g_nm nd rfl (.inl rfl) (.inl rfl)) rfl rfl rfl)
  (s_cons (s_ret (m_bin op_mod b2_mod (m_bit (f := .int) call_int1 bi_int rfl (e.fr "int" rfl) rfl (m_cons (m_bin op_fdiv b2_fdiv (m_var rfl (.inl rfl) (by decide) (by decide)) m_int) m_nil rfl) (by decide) (by decide) rfl rfl) (m_var rfl (.inl rfl) (by decide) (by decide))))
  s_nil)))))
theorem body3 (e : EnvG P w K mg base fa fd d) {cdv : Value} {A : Around} {outer : List Env} {s : Shared} {H : Hp} {E : XK} (hcd : CodeAt K (ga K "_law_some") "_law_some" cdv) (hr : Room (3 * d + 2) (A.deeper (envOfC "_law_some" (defScope (top 27)) s.heap.objs.size (ga K "_law_some") cdv))) (hg : grT 3 → A.guards = some []) :
    PSs (cxOf (L2.CX P w) P w K mg base N3 "_law_some" (defScope (top 27)) (ga K "_law_some") cdv A outer s H E) (defBody (top 27)) (tSs K fa ⟨callF Pr Gc d, Gc⟩ (fun c d _ H => E c d H) b3) :=
  have nd := nd3
  have tk : Takes (cxOf (L2.CX P w) P w K mg base N3 "_law_some" (defScope (top 27)) (ga K "_law_some") cdv A outer s H E) (fun c d _ H => E c d H) := takes_of rfl rfl rfl rfl
  have po : PassesOwn (model P w) (A.deeper (envOfC "_law_some" (defScope (top 27)) s.heap.objs.size (ga K "_law_some") cdv)) (envOfC "_law_some" (defScope (top 27)) s.heap.objs.size (ga K "_law_some") cdv) (cxOf (L2.CX P w) P w K mg base N3 "_law_some" (defScope (top 27)) (ga K "_law_some") cdv A outer s H E).xe := passes_of rfl
  have u : (A.deeper (envOfC "_law_some" (defScope (top 27)) s.heap.objs.size (ga K "_law_some") cdv)).units + 70 < cLine := room70 hr
  have hr2 := hr
  have hr := hr.mono (show 3 * d ≤ 3 * d + 2 by omega)
  (s_cons (s_ret (m_idx (m_var rfl (.inl rfl) (by decide) (by decide)) (m_call (f := 2) (e.f 2) rfl tk hr (fun z => z.elim) rfl (e.g 2 rfl) (e.k 2 rfl) (e.b 2 rfl) (m_cons (m_var rfl (.inl rfl) (by decide) (by decide)) (m_cons (m_bif (f := .len) cr_lenM bi_len rfl (e.fr "len" rfl) rfl (m_cons (m_var rfl (.inl rfl) (by decide) (by decide)) m_nil rfl) (by decide) (by decide) rfl rfl) m_nil rfl) rfl) (by decide) rfl rfl) (fun _ _ => rfl)))
  s_nil)
theorem body4 (e : EnvG P w K mg base fa fd d) {cdv : Value} {A : Around} {outer : List Env} {s : Shared} {H : Hp} {E : XK} (hcd : CodeAt K (ga K "_law_couples") "_law_couples" cdv) (hr : Room (3 * d + 2) (A.deeper (envOfC "_law_couples" (defScope (top 31)) s.heap.objs.size (ga K "_law_couples") cdv))) (hg : grT 4 → A.guards = some []) :
    PSs (cxOf (L2.CX P w) P w K mg base N4 "_law_couples" (defScope (top 31)) (ga K "_law_couples") cdv A outer s H E) (defBody (top 31)) (tSs K fa ⟨callF Pr Gc d, Gc⟩ (fun c d _ H => E c d H) b4) :=
  have nd := nd4
  have tk : Takes (cxOf (L2.CX P w) P w K mg base N4 "_law_couples" (defScope (top 31)) (ga K "_law_couples") cdv A outer s H E) (fun c d _ H => E c d H) := takes_of rfl rfl rfl rfl
  have po : PassesOwn (model P w) (A.deeper (envOfC "_law_couples" (defScope (top 31)) s.heap.objs.size (ga K "_law_couples") cdv)) (envOfC "_law_couples" (defScope (top 31)) s.heap.objs.size (ga K "_law_couples") cdv) (cxOf (L2.CX P w) P w K mg base N4 "_law_couples" (defScope (top 31)) (ga K "_law_couples") cdv A outer s H E).xe := passes_of rfl
  have u : (A.deeper (envOfC "_law_couples" (defScope (top 31)) s.heap.objs.size (ga K "_law_couples") cdv)).units + 70 < cLine := room70 hr
  have hr2 := hr
  have hr := hr.mono (show 3 * d ≤ 3 * d + 2 by omega)
  (s_cons (s_par rfl nd (i := 1) (j := 2) rfl rfl (by decide) rfl rfl (m_cons (m_dst (l := [((.tup (.cons (.cI 0) (.cons (.cI 0) .nil))), (.tup .nil))]) (U (by decide) u) (pps_cons (m_tup (m_cons m_int (m_cons m_int m_nil rfl) rfl) (by decide)) (m_tup m_nil (by decide)) pps_nil) rfl rfl (by simp) (by decide) (by decide)) (m_cons (m_newl (m_cons (m_tup (m_cons m_int (m_cons m_int m_nil rfl) rfl) (by decide)) m_nil rfl) (by decide)) m_nil rfl) rfl) rfl)
  (s_cons (s_whl po (m_tcmp isB_cmp (op_neD (U (by decide) u)) b2_ne (m_var rfl (.inl rfl) (by decide) (by decide)) (m_lst m_nil (by decide)) (nomark _)) (s_cons (s_set (m_newl m_nil (by decide)) (g_nm nd rfl (.inl rfl) (.inl rfl)) rfl rfl rfl)
  (s_cons (s_fr po rfl (m_iof (m_var rfl (.inl rfl) (by decide) (by decide))) (g_tp rfl rfl (gs_cons (g_nm nd rfl (.inl rfl) (.inl rfl)) (gs_cons (g_nm nd rfl (.inl rfl) (.inl rfl)) gs_nil rfl) rfl) rfl rfl) (s_cons (s_set (m_dgt (U (by decide) u) (m_var rfl (.inl rfl) (by decide) (by decide)) (m_tup (m_cons (m_var rfl (.inl rfl) (by decide) (by decide)) (m_cons (m_var rfl (.inl rfl) (by decide) (by decide)) m_nil rfl) rfl) (by decide)) (fun _ _ => rfl)) (g_nm nd rfl (.inl rfl) (.inl rfl)) rfl rfl rfl)
  (s_cons (s_fr po rfl (m_enm rfl (e.fr "enumerate" rfl) (m_cons (m_idx (m_idx (m_var rfl (.inl rfl) (by decide) (by decide)) m_int (fun _ _ => rfl)) m_int (fun _ _ => rfl)) m_nil rfl) rfl) (g_tp rfl rfl (gs_cons (g_nm nd rfl (.inl rfl) (.inl rfl)) (gs_cons (g_tp rfl rfl (gs_cons (g_nm nd rfl (.inl rfl) (.inl rfl)) (gs_cons (g_nm nd rfl (.inl rfl) (.inl rfl)) (gs_cons (g_nm nd rfl (.inl rfl) (.inl rfl)) (gs_cons (g_nm nd rfl (.inl rfl) (.inl rfl)) gs_nil rfl) rfl) rfl) rfl) rfl rfl) gs_nil rfl) rfl) rfl rfl) (s_cons (s_ifs (PW.pt (m_tand (m_tcmp isB_cmp (op_eqD (U (by decide) u)) b2_eq (m_var rfl (.inl rfl) (by decide) (by decide)) (m_var rfl (.inl rfl) (by decide) (by decide)) (nomark _)) (m_tand1 (m_tcmp isB_cmp (op_eqD (U (by decide) u)) b2_eq (m_var rfl (.inl rfl) (by decide) (by decide)) (m_str (small_line (by decide))) (nomark _))))) (s_cons (s_ex (m_meth me_append PySem.F.plainAttrs_list PySem.F.slot_list_append PySem.F.type_list_append mt_append (m_var rfl (.inl rfl) (by decide) (by decide)) (m_cons (m_tup (m_cons (m_tup (m_cons (m_var rfl (.inl rfl) (by decide) (by decide)) (m_cons (m_var rfl (.inl rfl) (by decide) (by decide)) m_nil rfl) rfl) (by decide)) (m_cons (m_bin op_addM b2_add (m_var rfl (.inl rfl) (by decide) (by decide)) (m_tup (m_cons (m_tup (m_cons (m_str (small_line (by decide))) (m_cons (m_var rfl (.inl rfl) (by decide) (by decide)) m_nil rfl) rfl) (by decide)) m_nil rfl) (by decide))) m_nil rfl) rfl) (by decide)) m_nil rfl) rfl rfl rfl rfl rfl) rfl)
  s_nil) s_nil)
  (s_cons (s_fr po rfl (m_enm rfl (e.fr "enumerate" rfl) (m_cons (m_idx (m_idx (m_var rfl (.inl rfl) (by decide) (by decide)) m_int (fun _ _ => rfl)) m_int (fun _ _ => rfl)) m_nil rfl) rfl) (g_tp rfl rfl (gs_cons (g_nm nd rfl (.inl rfl) (.inl rfl)) (gs_cons (g_tp rfl rfl (gs_cons (g_nm nd rfl (.inl rfl) (.inl rfl)) (gs_cons (g_nm nd rfl (.inl rfl) (.inl rfl)) (gs_cons (g_nm nd rfl (.inl rfl) (.inl rfl)) (gs_cons (g_nm nd rfl (.inl rfl) (.inl rfl)) gs_nil rfl) rfl) rfl) rfl) rfl rfl) gs_nil rfl) rfl) rfl rfl) (s_cons (s_ifs (PW.pt (m_tand (m_tcmp isB_cmp (op_eqD (U (by decide) u)) b2_eq (m_tup (m_cons (m_var rfl (.inl rfl) (by decide) (by decide)) (m_cons (m_var rfl (.inl rfl) (by decide) (by decide)) (m_cons (m_var rfl (.inl rfl) (by decide) (by decide)) m_nil rfl) rfl) rfl) (by decide)) (m_tup (m_cons (m_var rfl (.inl rfl) (by decide) (by decide)) (m_cons (m_var rfl (.inl rfl) (by decide) (by decide)) (m_cons (m_var rfl (.inl rfl) (by decide) (by decide)) m_nil rfl) rfl) rfl) (by decide)) (nomark _)) (m_tand1 (m_tcmp isB_cmp (op_eqD (U (by decide) u)) b2_eq (m_tup (m_cons (m_var rfl (.inl rfl) (by decide) (by decide)) (m_cons (m_var rfl (.inl rfl) (by decide) (by decide)) m_nil rfl) rfl) (by decide)) (m_tup (m_cons (m_str (small_line (by decide))) (m_cons (m_str (small_line (by decide))) m_nil rfl) rfl) (by decide)) (nomark _))))) (s_cons (s_ex (m_meth me_append PySem.F.plainAttrs_list PySem.F.slot_list_append PySem.F.type_list_append mt_append (m_var rfl (.inl rfl) (by decide) (by decide)) (m_cons (m_tup (m_cons (m_tup (m_cons (m_var rfl (.inl rfl) (by decide) (by decide)) (m_cons (m_var rfl (.inl rfl) (by decide) (by decide)) m_nil rfl) rfl) (by decide)) (m_cons (m_bin op_addM b2_add (m_var rfl (.inl rfl) (by decide) (by decide)) (m_tup (m_cons (m_tup (m_cons (m_str (small_line (by decide))) (m_cons (m_var rfl (.inl rfl) (by decide) (by decide)) m_nil rfl) rfl) (by decide)) (m_cons (m_tup (m_cons (m_str (small_line (by decide))) (m_cons (m_var rfl (.inl rfl) (by decide) (by decide)) m_nil rfl) rfl) (by decide)) m_nil rfl) rfl) (by decide))) m_nil rfl) rfl) (by decide)) m_nil rfl) rfl rfl rfl rfl rfl) rfl)
  s_nil) s_nil)
  (s_cons (s_ifs (PW.pt (m_tand (m_tcmp isB_cmp (op_eqD (U (by decide) u)) b2_eq (m_tup (m_cons (m_var rfl (.inl rfl) (by decide) (by decide)) (m_cons (m_var rfl (.inl rfl) (by decide) (by decide)) (m_cons (m_var rfl (.inl rfl) (by decide) (by decide)) m_nil rfl) rfl) rfl) (by decide)) (m_tup (m_cons (m_var rfl (.inl rfl) (by decide) (by decide)) (m_cons (m_var rfl (.inl rfl) (by decide) (by decide)) (m_cons (m_var rfl (.inl rfl) (by decide) (by decide)) m_nil rfl) rfl) rfl) (by decide)) (nomark _)) (m_tand1 (m_tcmp isB_cmp (op_eqD (U (by decide) u)) b2_eq (m_tup (m_cons (m_var rfl (.inl rfl) (by decide) (by decide)) (m_cons (m_var rfl (.inl rfl) (by decide) (by decide)) m_nil rfl) rfl) (by decide)) (m_tup (m_cons (m_str (small_line (by decide))) (m_cons (m_str (small_line (by decide))) m_nil rfl) rfl) (by decide)) (nomark _))))) (s_cons (s_ex (m_meth me_append PySem.F.plainAttrs_list PySem.F.slot_list_append PySem.F.type_list_append mt_append (m_var rfl (.inl rfl) (by decide) (by decide)) (m_cons (m_tup (m_cons (m_tup (m_cons (m_var rfl (.inl rfl) (by decide) (by decide)) (m_cons (m_var rfl (.inl rfl) (by decide) (by decide)) m_nil rfl) rfl) (by decide)) (m_cons (m_bin op_addM b2_add (m_var rfl (.inl rfl) (by decide) (by decide)) (m_tup (m_cons (m_tup (m_cons (m_str (small_line (by decide))) (m_cons (m_var rfl (.inl rfl) (by decide) (by decide)) m_nil rfl) rfl) (by decide)) (m_cons (m_tup (m_cons (m_str (small_line (by decide))) (m_cons (m_var rfl (.inl rfl) (by decide) (by decide)) m_nil rfl) rfl) (by decide)) m_nil rfl) rfl) (by decide))) m_nil rfl) rfl) (by decide)) m_nil rfl) rfl rfl rfl rfl rfl) rfl)
  s_nil) s_nil)
  s_nil)) (fun _ => rfl))
  s_nil)) (fun _ => rfl))
  (s_cons (s_fr po rfl (m_enm rfl (e.fr "enumerate" rfl) (m_cons (m_idx (m_idx (m_var rfl (.inl rfl) (by decide) (by decide)) m_int (fun _ _ => rfl)) m_int (fun _ _ => rfl)) m_nil rfl) rfl) (g_tp rfl rfl (gs_cons (g_nm nd rfl (.inl rfl) (.inl rfl)) (gs_cons (g_tp rfl rfl (gs_cons (g_nm nd rfl (.inl rfl) (.inl rfl)) (gs_cons (g_nm nd rfl (.inl rfl) (.inl rfl)) (gs_cons (g_nm nd rfl (.inl rfl) (.inl rfl)) (gs_cons (g_nm nd rfl (.inl rfl) (.inl rfl)) gs_nil rfl) rfl) rfl) rfl) rfl rfl) gs_nil rfl) rfl) rfl rfl) (s_cons (s_ifs (PW.pt (m_tand (m_tcmp isB_cmp (op_eqD (U (by decide) u)) b2_eq (m_var rfl (.inl rfl) (by decide) (by decide)) (m_var rfl (.inl rfl) (by decide) (by decide)) (nomark _)) (m_tand1 (m_tcmp isB_cmp (op_eqD (U (by decide) u)) b2_eq (m_var rfl (.inl rfl) (by decide) (by decide)) (m_str (small_line (by decide))) (nomark _))))) (s_cons (s_ex (m_meth me_append PySem.F.plainAttrs_list PySem.F.slot_list_append PySem.F.type_list_append mt_append (m_var rfl (.inl rfl) (by decide) (by decide)) (m_cons (m_tup (m_cons (m_tup (m_cons (m_var rfl (.inl rfl) (by decide) (by decide)) (m_cons (m_var rfl (.inl rfl) (by decide) (by decide)) m_nil rfl) rfl) (by decide)) (m_cons (m_bin op_addM b2_add (m_var rfl (.inl rfl) (by decide) (by decide)) (m_tup (m_cons (m_tup (m_cons (m_str (small_line (by decide))) (m_cons (m_var rfl (.inl rfl) (by decide) (by decide)) m_nil rfl) rfl) (by decide)) m_nil rfl) (by decide))) m_nil rfl) rfl) (by decide)) m_nil rfl) rfl rfl rfl rfl rfl) rfl)
  s_nil) s_nil)
  s_nil) (fun _ => rfl))
  s_nil))) (fun _ => rfl))
  (s_cons (s_set (m_newl m_nil (by decide)) (g_nm nd rfl (.inl rfl) (.inl rfl)) rfl rfl rfl)
  (s_cons (s_fr po rfl (m_iof (m_var rfl (.inl rfl) (by decide) (by decide))) (g_tp rfl rfl (gs_cons (g_nm nd rfl (.inl rfl) (.inl rfl)) (gs_cons (g_nm nd rfl (.inl rfl) (.inl rfl)) gs_nil rfl) rfl) rfl rfl) (s_cons (s_ifs (m_tdni (U (by decide) u) (m_var rfl (.inl rfl) (by decide) (by decide)) (m_var rfl (.inl rfl) (by decide) (by decide)) rfl) (s_cons (s_dpt (U (by decide) u) (m_var rfl (.inl rfl) (by decide) (by decide)) (m_var rfl (.inl rfl) (by decide) (by decide)) (m_var rfl (.inl rfl) (by decide) (by decide)) rfl)
  (s_cons (s_ex (m_meth me_append PySem.F.plainAttrs_list PySem.F.slot_list_append PySem.F.type_list_append mt_append (m_var rfl (.inl rfl) (by decide) (by decide)) (m_cons (m_var rfl (.inl rfl) (by decide) (by decide)) m_nil rfl) rfl rfl rfl rfl rfl) rfl)
  s_nil)) s_nil)
  s_nil) (fun _ => rfl))
  s_nil)))))
  (s_cons (s_ret (m_var rfl (.inl rfl) (by decide) (by decide)))
  s_nil)))
theorem body5 (e : EnvG P w K mg base fa fd d) {cdv : Value} {A : Around} {outer : List Env} {s : Shared} {H : Hp} {E : XK} (hcd : CodeAt K (ga K "_law_sends") "_law_sends" cdv) (hr : Room (3 * d + 2) (A.deeper (envOfC "_law_sends" (defScope (top 32)) s.heap.objs.size (ga K "_law_sends") cdv))) (hg : grT 5 → A.guards = some []) :
    PSs (cxOf (L2.CX P w) P w K mg base N5 "_law_sends" (defScope (top 32)) (ga K "_law_sends") cdv A outer s H E) (defBody (top 32)) (tSs K fa ⟨callF Pr Gc d, Gc⟩ (fun c d _ H => E c d H) b5) :=
  have nd := nd5
  have tk : Takes (cxOf (L2.CX P w) P w K mg base N5 "_law_sends" (defScope (top 32)) (ga K "_law_sends") cdv A outer s H E) (fun c d _ H => E c d H) := takes_of rfl rfl rfl rfl
  have po : PassesOwn (model P w) (A.deeper (envOfC "_law_sends" (defScope (top 32)) s.heap.objs.size (ga K "_law_sends") cdv)) (envOfC "_law_sends" (defScope (top 32)) s.heap.objs.size (ga K "_law_sends") cdv) (cxOf (L2.CX P w) P w K mg base N5 "_law_sends" (defScope (top 32)) (ga K "_law_sends") cdv A outer s H E).xe := passes_of rfl
  have u : (A.deeper (envOfC "_law_sends" (defScope (top 32)) s.heap.objs.size (ga K "_law_sends") cdv)).units + 70 < cLine := room70 hr
  have hr2 := hr
  have hr := hr.mono (show 3 * d ≤ 3 * d + 2 by omega)
  (s_cons (s_ret (m_comp (own := [("move", 2)]) (by decide)  rfl nd (m_iof (m_idx (m_var rfl (.inl rfl) (by decide) (by decide)) m_int (fun _ _ => rfl))) (blkOk_by (N := N5) (sc := defScope (top 32)) (by decide +kernel)) (fun _ _ _ _ _ => (g_nm nd rfl (.inl rfl) (.inr rfl))) (fun _ _ _ _ _ => (m_pts1 (PW.pt (m_tand (m_tcmp isB_cmp (op_eqD (U (by decide) u)) b2_eq (m_idx (m_var rfl (.inl rfl) (by decide) (by decide)) m_int (fun _ _ => rfl)) (m_var rfl (.inr (.inl rfl)) (by decide) (by decide)) (nomark _)) (m_tand1 (m_tcmp isB_cmp (op_eqD (U (by decide) u)) b2_eq (m_idx (m_var rfl (.inl rfl) (by decide) (by decide)) m_int (fun _ _ => rfl)) (m_str (small_line (by decide))) (nomark _))))))) (fun _ _ _ _ _ => (m_var rfl (.inl rfl) (by decide) (by decide))) (fun _ => rfl)))
  s_nil)
theorem body6 (e : EnvG P w K mg base fa fd d) {cdv : Value} {A : Around} {outer : List Env} {s : Shared} {H : Hp} {E : XK} (hcd : CodeAt K (ga K "_law_first_duel") "_law_first_duel" cdv) (hr : Room (3 * d + 2) (A.deeper (envOfC "_law_first_duel" (defScope (top 33)) s.heap.objs.size (ga K "_law_first_duel") cdv))) (hg : grT 6 → A.guards = some []) :
    PSs (cxOf (L2.CX P w) P w K mg base N6 "_law_first_duel" (defScope (top 33)) (ga K "_law_first_duel") cdv A outer s H E) (defBody (top 33)) (tSs K fa ⟨callF Pr Gc d, Gc⟩ (fun c d _ H => E c d H) b6) :=
  have nd := nd6
  have tk : Takes (cxOf (L2.CX P w) P w K mg base N6 "_law_first_duel" (defScope (top 33)) (ga K "_law_first_duel") cdv A outer s H E) (fun c d _ H => E c d H) := takes_of rfl rfl rfl rfl
  have po : PassesOwn (model P w) (A.deeper (envOfC "_law_first_duel" (defScope (top 33)) s.heap.objs.size (ga K "_law_first_duel") cdv)) (envOfC "_law_first_duel" (defScope (top 33)) s.heap.objs.size (ga K "_law_first_duel") cdv) (cxOf (L2.CX P w) P w K mg base N6 "_law_first_duel" (defScope (top 33)) (ga K "_law_first_duel") cdv A outer s H E).xe := passes_of rfl
  have u : (A.deeper (envOfC "_law_first_duel" (defScope (top 33)) s.heap.objs.size (ga K "_law_first_duel") cdv)).units + 70 < cLine := room70 hr
  have hr2 := hr
  have hr := hr.mono (show 3 * d ≤ 3 * d + 2 by omega)
  (s_cons (s_fr po rfl (m_iof (m_bif (f := .sorted) (cr_sortAll rfl u) bi_sorted rfl (e.fr "sorted" rfl) rfl (m_cons (m_call (f := 4) (e.f 4) rfl tk hr (fun z => z.elim) rfl (e.g 4 rfl) (e.k 4 rfl) (e.b 4 rfl) (m_cons (m_var rfl (.inl rfl) (by decide) (by decide)) m_nil rfl) (by decide) rfl rfl) m_nil rfl) (by decide) (by decide) rfl rfl)) (g_tp rfl rfl (gs_cons (g_nm nd rfl (.inl rfl) (.inl rfl)) (gs_cons (g_nm nd rfl (.inl rfl) (.inl rfl)) gs_nil rfl) rfl) rfl rfl) (s_cons (s_ifs (PW.pt (m_tand (m_tcmp isB_cmp (op_neD (U (by decide) u)) b2_ne (m_call (f := 5) (e.f 5) rfl tk hr (fun z => z.elim) rfl (e.g 5 rfl) (e.k 5 rfl) (e.b 5 rfl) (m_cons (m_idx (m_var rfl (.inl rfl) (by decide) (by decide)) m_int (fun _ _ => rfl)) (m_cons (m_var rfl (.inl rfl) (by decide) (by decide)) m_nil rfl) rfl) (by decide) rfl rfl) (m_lst m_nil (by decide)) (nomark _)) (m_tand1 (m_tcmp isB_cmp (op_neD (U (by decide) u)) b2_ne (m_call (f := 5) (e.f 5) rfl tk hr (fun z => z.elim) rfl (e.g 5 rfl) (e.k 5 rfl) (e.b 5 rfl) (m_cons (m_idx (m_var rfl (.inl rfl) (by decide) (by decide)) m_int (fun _ _ => rfl)) (m_cons (m_var rfl (.inl rfl) (by decide) (by decide)) m_nil rfl) rfl) (by decide) rfl rfl) (m_lst m_nil (by decide)) (nomark _))))) (s_cons (s_ret (m_tup (m_cons (m_var rfl (.inl rfl) (by decide) (by decide)) (m_cons (m_var rfl (.inl rfl) (by decide) (by decide)) m_nil rfl) rfl) (by decide)))
  s_nil) s_nil)
  s_nil) (fun _ => rfl))
  (s_cons (s_ret m_non)
  s_nil))
theorem body7 (e : EnvG P w K mg base fa fd d) {cdv : Value} {A : Around} {outer : List Env} {s : Shared} {H : Hp} {E : XK} (hcd : CodeAt K (ga K "_law_without") "_law_without" cdv) (hr : Room (3 * d + 2) (A.deeper (envOfC "_law_without" (defScope (top 30)) s.heap.objs.size (ga K "_law_without") cdv))) (hg : grT 7 → A.guards = some []) :
    PSs (cxOf (L2.CX P w) P w K mg base N7 "_law_without" (defScope (top 30)) (ga K "_law_without") cdv A outer s H E) (defBody (top 30)) (tSs K fa ⟨callF Pr Gc d, Gc⟩ (fun c d _ H => E c d H) b7) :=
  have nd := nd7
  have tk : Takes (cxOf (L2.CX P w) P w K mg base N7 "_law_without" (defScope (top 30)) (ga K "_law_without") cdv A outer s H E) (fun c d _ H => E c d H) := takes_of rfl rfl rfl rfl
  have po : PassesOwn (model P w) (A.deeper (envOfC "_law_without" (defScope (top 30)) s.heap.objs.size (ga K "_law_without") cdv)) (envOfC "_law_without" (defScope (top 30)) s.heap.objs.size (ga K "_law_without") cdv) (cxOf (L2.CX P w) P w K mg base N7 "_law_without" (defScope (top 30)) (ga K "_law_without") cdv A outer s H E).xe := passes_of rfl
  have u : (A.deeper (envOfC "_law_without" (defScope (top 30)) s.heap.objs.size (ga K "_law_without") cdv)).units + 70 < cLine := room70 hr
  have hr2 := hr
  have hr := hr.mono (show 3 * d ≤ 3 * d + 2 by omega)
  (s_cons (s_ret (m_tup (m_cons (m_idx (m_var rfl (.inl rfl) (by decide) (by decide)) m_int (fun _ _ => rfl)) (m_cons (m_bit (f := .tuple) call_tuple_of bi_tuple rfl (e.fr "tuple" rfl) rfl (m_cons (m_comp (own := [("move", 2)]) (by decide)  rfl nd (m_iof (m_idx (m_var rfl (.inl rfl) (by decide) (by decide)) m_int (fun _ _ => rfl))) (blkOk_by (N := N7) (sc := defScope (top 30)) (by decide +kernel)) (fun _ _ _ _ _ => (g_nm nd rfl (.inl rfl) (.inr rfl))) (fun _ _ _ _ _ => (m_pts1 (m_tcmp isB_cmp (op_ninM (U (by decide) u)) b2_nin (m_var rfl (.inl rfl) (by decide) (by decide)) (m_var rfl (.inr (.inl rfl)) (by decide) (by decide)) rfl))) (fun _ _ _ _ _ => (m_var rfl (.inl rfl) (by decide) (by decide))) (fun _ => rfl)) m_nil rfl) (by decide) (by decide) rfl rfl) (m_cons (m_idx (m_var rfl (.inl rfl) (by decide) (by decide)) m_int (fun _ _ => rfl)) m_nil rfl) rfl) rfl) (by decide)))
  s_nil)
theorem body8 (e : EnvG P w K mg base fa fd d) {cdv : Value} {A : Around} {outer : List Env} {s : Shared} {H : Hp} {E : XK} (hcd : CodeAt K (ga K "_law_any_move") "_law_any_move" cdv) (hr : Room (3 * d + 2) (A.deeper (envOfC "_law_any_move" (defScope (top 41)) s.heap.objs.size (ga K "_law_any_move") cdv))) (hg : grT 8 → A.guards = some []) :
    PSs (cxOf (L2.CX P w) P w K mg base N8 "_law_any_move" (defScope (top 41)) (ga K "_law_any_move") cdv A outer s H E) (defBody (top 41)) (tSs K fa ⟨callF Pr Gc d, Gc⟩ (fun c d _ H => E c d H) b8) :=
  have nd := nd8
  have tk : Takes (cxOf (L2.CX P w) P w K mg base N8 "_law_any_move" (defScope (top 41)) (ga K "_law_any_move") cdv A outer s H E) (fun c d _ H => E c d H) := takes_of rfl rfl rfl rfl
  have po : PassesOwn (model P w) (A.deeper (envOfC "_law_any_move" (defScope (top 41)) s.heap.objs.size (ga K "_law_any_move") cdv)) (envOfC "_law_any_move" (defScope (top 41)) s.heap.objs.size (ga K "_law_any_move") cdv) (cxOf (L2.CX P w) P w K mg base N8 "_law_any_move" (defScope (top 41)) (ga K "_law_any_move") cdv A outer s H E).xe := passes_of rfl
  have u : (A.deeper (envOfC "_law_any_move" (defScope (top 41)) s.heap.objs.size (ga K "_law_any_move") cdv)).units + 70 < cLine := room70 hr
  have hr2 := hr
  have hr := hr.mono (show 3 * d ≤ 3 * d + 2 by omega)
  (s_cons (s_set (m_call (f := 3) (e.f 3) rfl tk hr (fun z => z.elim) rfl (e.g 3 rfl) (e.k 3 rfl) (e.b 3 rfl) (m_cons (m_var rfl (.inl rfl) (by decide) (by decide)) (m_cons (m_lst (m_cons (m_str (small_line (by decide))) (m_cons (m_str (small_line (by decide))) (m_cons (m_str (small_line (by decide))) (m_cons (m_str (small_line (by decide))) (m_cons (m_str (small_line (by decide))) m_nil rfl) rfl) rfl) rfl) rfl) (by decide)) m_nil rfl) rfl) (by decide) rfl rfl) (g_nm nd rfl (.inl rfl) (.inl rfl)) rfl rfl rfl)
  (s_cons (s_set (m_ite (m_tcmp isB_cmp (op_neD (U (by decide) u)) b2_ne (m_var rfl (.inl rfl) (by decide) (by decide)) (m_str (small_line (by decide))) (nomark _)) (m_call (f := 3) (e.f 3) rfl tk hr (fun z => z.elim) rfl (e.g 3 rfl) (e.k 3 rfl) (e.b 3 rfl) (m_cons (m_var rfl (.inl rfl) (by decide) (by decide)) (m_cons (m_ite (m_tcmp isB_cmp (op_eqD (U (by decide) u)) b2_eq (m_var rfl (.inl rfl) (by decide) (by decide)) (m_str (small_line (by decide))) (nomark _)) (m_var rfl (.inl rfl) (by decide) (by decide)) (m_var rfl (.inl rfl) (by decide) (by decide))) m_nil rfl) rfl) (by decide) rfl rfl) (m_str (small_line (by decide)))) (g_nm nd rfl (.inl rfl) (.inl rfl)) rfl rfl rfl)
  (s_cons (s_ret (m_tup (m_cons (m_call (f := 2) (e.f 2) rfl tk hr (fun z => z.elim) rfl (e.g 2 rfl) (e.k 2 rfl) (e.b 2 rfl) (m_cons (m_var rfl (.inl rfl) (by decide) (by decide)) (m_cons (m_var rfl (.inl rfl) (by decide) (by decide)) m_nil rfl) rfl) (by decide) rfl rfl) (m_cons (m_var rfl (.inl rfl) (by decide) (by decide)) (m_cons (m_var rfl (.inl rfl) (by decide) (by decide)) (m_cons (m_call (f := 2) (e.f 2) rfl tk hr (fun z => z.elim) rfl (e.g 2 rfl) (e.k 2 rfl) (e.b 2 rfl) (m_cons (m_var rfl (.inl rfl) (by decide) (by decide)) (m_cons (m_var rfl (.inl rfl) (by decide) (by decide)) m_nil rfl) rfl) (by decide) rfl rfl) m_nil rfl) rfl) rfl) rfl) (by decide)))
  s_nil)))
theorem body9 (e : EnvG P w K mg base fa fd d) {cdv : Value} {A : Around} {outer : List Env} {s : Shared} {H : Hp} {E : XK} (hcd : CodeAt K (ga K "_law_turned_side") "_law_turned_side" cdv) (hr : Room (3 * d + 2) (A.deeper (envOfC "_law_turned_side" (defScope (top 29)) s.heap.objs.size (ga K "_law_turned_side") cdv))) (hg : grT 9 → A.guards = some []) :
    PSs (cxOf (L2.CX P w) P w K mg base N9 "_law_turned_side" (defScope (top 29)) (ga K "_law_turned_side") cdv A outer s H E) (defBody (top 29)) (tSs K fa ⟨callF Pr Gc d, Gc⟩ (fun c d _ H => E c d H) b9) :=
  have nd := nd9
  have tk : Takes (cxOf (L2.CX P w) P w K mg base N9 "_law_turned_side" (defScope (top 29)) (ga K "_law_turned_side") cdv A outer s H E) (fun c d _ H => E c d H) := takes_of rfl rfl rfl rfl
  have po : PassesOwn (model P w) (A.deeper (envOfC "_law_turned_side" (defScope (top 29)) s.heap.objs.size (ga K "_law_turned_side") cdv)) (envOfC "_law_turned_side" (defScope (top 29)) s.heap.objs.size (ga K "_law_turned_side") cdv) (cxOf (L2.CX P w) P w K mg base N9 "_law_turned_side" (defScope (top 29)) (ga K "_law_turned_side") cdv A outer s H E).xe := passes_of rfl
  have u : (A.deeper (envOfC "_law_turned_side" (defScope (top 29)) s.heap.objs.size (ga K "_law_turned_side") cdv)).units + 70 < cLine := room70 hr
  have hr2 := hr
  have hr := hr.mono (show 3 * d ≤ 3 * d + 2 by omega)
  (s_cons (s_set (m_dsp (l := [((.cS "send"), (.cS "take")), ((.cS "take"), (.cS "send")), ((.cS "step"), (.cS "step"))]) (pps_cons (m_str (small_line (by decide))) (m_str (small_line (by decide))) (pps_cons (m_str (small_line (by decide))) (m_str (small_line (by decide))) (pps_cons (m_str (small_line (by decide))) (m_str (small_line (by decide))) pps_nil))) rfl rfl (by simp) (by decide) (by decide)) (g_nm nd rfl (.inr rfl) (.inl rfl)) rfl rfl rfl)
  (s_cons (s_ret (m_tup (m_cons (m_idx (m_var rfl (.inl rfl) (by decide) (by decide)) m_int (fun _ _ => rfl)) (m_cons (m_bit (f := .tuple) call_tuple_of bi_tuple rfl (e.fr "tuple" rfl) rfl (m_cons (m_bif (f := .sorted) (cr_sortAll rfl u) bi_sorted rfl (e.fr "sorted" rfl) rfl (m_cons (m_comp (own := [("p", 2), ("kind", 3), ("a", 4), ("q", 5)]) (by decide)  rfl nd (m_iof (m_idx (m_var rfl (.inl rfl) (by decide) (by decide)) m_int (fun _ _ => rfl))) (blkOk_by (N := N9) (sc := defScope (top 29)) (by decide +kernel)) (fun _ _ _ _ _ => (g_tp rfl rfl (gs_cons (g_nm nd rfl (.inl rfl) (.inr rfl)) (gs_cons (g_nm nd rfl (.inl rfl) (.inr rfl)) (gs_cons (g_nm nd rfl (.inl rfl) (.inr rfl)) (gs_cons (g_nm nd rfl (.inl rfl) (.inr rfl)) gs_nil rfl) rfl) rfl) rfl) rfl rfl)) (fun _ _ _ _ _ => m_pts0) (fun _ _ _ _ _ => (m_tup (m_cons (m_var rfl (.inl rfl) (by decide) (by decide)) (m_cons (m_dgt (U (by decide) u) (m_var rfl (.inr (.inl rfl)) (by decide) (by decide)) (m_var rfl (.inl rfl) (by decide) (by decide)) (fun _ _ => rfl)) (m_cons (m_var rfl (.inl rfl) (by decide) (by decide)) (m_cons (m_var rfl (.inl rfl) (by decide) (by decide)) m_nil rfl) rfl) rfl) rfl) (by decide))) (fun _ => rfl)) m_nil rfl) (by decide) (by decide) rfl rfl) m_nil rfl) (by decide) (by decide) rfl rfl) (m_cons (m_idx (m_var rfl (.inl rfl) (by decide) (by decide)) m_int (fun _ _ => rfl)) m_nil rfl) rfl) rfl) (by decide)))
  s_nil))
theorem body10 (e : EnvG P w K mg base fa fd d) {cdv : Value} {A : Around} {outer : List Env} {s : Shared} {H : Hp} {E : XK} (hcd : CodeAt K (ga K "_law_talk_pair") "_law_talk_pair" cdv) (hr : Room (3 * d + 2) (A.deeper (envOfC "_law_talk_pair" (defScope (top 42)) s.heap.objs.size (ga K "_law_talk_pair") cdv))) (hg : grT 10 → A.guards = some []) :
    PSs (cxOf (L2.CX P w) P w K mg base N10 "_law_talk_pair" (defScope (top 42)) (ga K "_law_talk_pair") cdv A outer s H E) (defBody (top 42)) (tSs K fa ⟨callF Pr Gc d, Gc⟩ (fun c d _ H => E c d H) b10) :=
  have nd := nd10
  have tk : Takes (cxOf (L2.CX P w) P w K mg base N10 "_law_talk_pair" (defScope (top 42)) (ga K "_law_talk_pair") cdv A outer s H E) (fun c d _ H => E c d H) := takes_of rfl rfl rfl rfl
  have po : PassesOwn (model P w) (A.deeper (envOfC "_law_talk_pair" (defScope (top 42)) s.heap.objs.size (ga K "_law_talk_pair") cdv)) (envOfC "_law_talk_pair" (defScope (top 42)) s.heap.objs.size (ga K "_law_talk_pair") cdv) (cxOf (L2.CX P w) P w K mg base N10 "_law_talk_pair" (defScope (top 42)) (ga K "_law_talk_pair") cdv A outer s H E).xe := passes_of rfl
  have u : (A.deeper (envOfC "_law_talk_pair" (defScope (top 42)) s.heap.objs.size (ga K "_law_talk_pair") cdv)).units + 70 < cLine := room70 hr
  have hr2 := hr
  have hr := hr.mono (show 3 * d ≤ 3 * d + 2 by omega)
  (s_cons (s_par rfl nd (i := 7) (j := 8) rfl rfl (by decide) rfl rfl (m_cons (m_bin op_addM b2_add m_int (m_call (f := 2) (e.f 2) rfl tk hr (fun z => z.elim) rfl (e.g 2 rfl) (e.k 2 rfl) (e.b 2 rfl) (m_cons (m_var rfl (.inr (.inl rfl)) (by decide) (by decide)) (m_cons m_int m_nil rfl) rfl) (by decide) rfl rfl)) (m_cons m_newd m_nil rfl) rfl) rfl)
  (s_cons (s_fr po rfl (m_rng1 rfl (e.fr "range" rfl) (m_cons (m_var rfl (.inl rfl) (by decide) (by decide)) m_nil rfl) rfl) (g_nm nd rfl (.inr rfl) (.inl rfl)) (s_cons (s_set (m_call (f := 3) (e.f 3) rfl tk hr (fun z => z.elim) rfl (e.g 3 rfl) (e.k 3 rfl) (e.b 3 rfl) (m_cons (m_var rfl (.inr (.inl rfl)) (by decide) (by decide)) (m_cons (m_lst (m_cons (m_str (small_line (by decide))) (m_cons (m_str (small_line (by decide))) m_nil rfl) rfl) (by decide)) m_nil rfl) rfl) (by decide) rfl rfl) (g_nm nd rfl (.inl rfl) (.inl rfl)) rfl rfl rfl)
  (s_cons (s_dpt (U (by decide) u) (m_var rfl (.inl rfl) (by decide) (by decide)) (m_tup (m_cons (m_var rfl (.inr (.inl rfl)) (by decide) (by decide)) (m_cons (m_var rfl (.inl rfl) (by decide) (by decide)) (m_cons (m_call (f := 3) (e.f 3) rfl tk hr (fun z => z.elim) rfl (e.g 3 rfl) (e.k 3 rfl) (e.b 3 rfl) (m_cons (m_var rfl (.inr (.inl rfl)) (by decide) (by decide)) (m_cons (m_ite (m_tcmp isB_cmp (op_eqD (U (by decide) u)) b2_eq (m_var rfl (.inl rfl) (by decide) (by decide)) (m_str (small_line (by decide))) (nomark _)) (m_lst (m_cons (m_str (small_line (by decide))) (m_cons (m_str (small_line (by decide))) m_nil rfl) rfl) (by decide)) (m_lst (m_cons (m_str (small_line (by decide))) (m_cons (m_str (small_line (by decide))) m_nil rfl) rfl) (by decide))) m_nil rfl) rfl) (by decide) rfl rfl) (m_cons (m_bin op_mod b2_mod (m_bin op_addM b2_add (m_var rfl (.inr (.inl rfl)) (by decide) (by decide)) m_int) (m_var rfl (.inl rfl) (by decide) (by decide))) m_nil rfl) rfl) rfl) rfl) (by decide)) m_bl rfl)
  s_nil)) (fun _ => rfl))
  (s_cons (s_fr po rfl (m_rng1 rfl (e.fr "range" rfl) (m_cons (m_call (f := 2) (e.f 2) rfl tk hr (fun z => z.elim) rfl (e.g 2 rfl) (e.k 2 rfl) (e.b 2 rfl) (m_cons (m_var rfl (.inr (.inl rfl)) (by decide) (by decide)) (m_cons m_int m_nil rfl) rfl) (by decide) rfl rfl) m_nil rfl) rfl) (g_nm nd rfl (.inr rfl) (.inl rfl)) (s_cons (s_dpt (U (by decide) u) (m_var rfl (.inl rfl) (by decide) (by decide)) (m_call (f := 8) (e.f 8) rfl tk hr (fun z => z.elim) rfl (e.g 8 rfl) (e.k 8 rfl) (e.b 8 rfl) (m_cons (m_var rfl (.inr (.inl rfl)) (by decide) (by decide)) (m_cons (m_var rfl (.inl rfl) (by decide) (by decide)) (m_cons (m_lst (m_cons (m_str (small_line (by decide))) (m_cons (m_str (small_line (by decide))) m_nil rfl) rfl) (by decide)) (m_cons (m_lst (m_cons (m_str (small_line (by decide))) (m_cons (m_str (small_line (by decide))) m_nil rfl) rfl) (by decide)) m_nil rfl) rfl) rfl) rfl) (by decide) rfl rfl) m_bl rfl)
  s_nil) (fun _ => rfl))
  (s_cons (s_set (m_bit (f := .tuple) call_tuple_of bi_tuple rfl (e.fr "tuple" rfl) rfl (m_cons (m_comp (own := [("k", 1)]) (by decide)  rfl nd (m_rng1 rfl (e.fr "range" rfl) (m_cons (m_var rfl (.inl rfl) (by decide) (by decide)) m_nil rfl) rfl) (blkOk_by (N := N10) (sc := defScope (top 42)) (by decide +kernel)) (fun _ _ _ _ _ => (g_nm nd rfl (.inl rfl) (.inr rfl))) (fun _ _ _ _ _ => (let tk := LamX.takes0; (m_pts1 (m_tcmp isB_cmp op_gt b2_gt (m_call (f := 2) (e.f 2) rfl tk hr (fun z => z.elim) rfl (e.g 2 rfl) (e.k 2 rfl) (e.b 2 rfl) (m_cons (m_var rfl (.inr (.inl rfl)) (by decide) (by decide)) (m_cons m_int m_nil rfl) rfl) (by decide) rfl rfl) m_int (nomark _))))) (fun _ _ _ _ _ => (m_var rfl (.inl rfl) (by decide) (by decide))) (fun _ => rfl)) m_nil rfl) (by decide) (by decide) rfl rfl) (g_nm nd rfl (.inl rfl) (.inl rfl)) rfl rfl rfl)
  (s_cons (s_set (m_tup (m_cons (m_var rfl (.inl rfl) (by decide) (by decide)) (m_cons (m_bit (f := .tuple) call_tuple_of bi_tuple rfl (e.fr "tuple" rfl) rfl (m_cons (m_bif (f := .sorted) (cr_sortAll rfl u) bi_sorted rfl (e.fr "sorted" rfl) rfl (m_cons (m_var rfl (.inl rfl) (by decide) (by decide)) m_nil rfl) (by decide) (by decide) rfl rfl) m_nil rfl) (by decide) (by decide) rfl rfl) (m_cons (m_var rfl (.inl rfl) (by decide) (by decide)) m_nil rfl) rfl) rfl) (by decide)) (g_nm nd rfl (.inl rfl) (.inl rfl)) rfl rfl rfl)
  (s_cons (s_set (m_newbit (f := .dict) (cr_dictT rfl u) bn_dict rfl (e.fr "dict" rfl) rfl (m_cons (m_comp (own := [("move", 13)]) (by decide)  rfl nd (m_iof (m_idx (m_call (f := 9) (e.f 9) rfl tk hr (fun z => z.elim) rfl (e.g 9 rfl) (e.k 9 rfl) (e.b 9 rfl) (m_cons (m_var rfl (.inl rfl) (by decide) (by decide)) m_nil rfl) (by decide) rfl rfl) m_int (fun _ _ => rfl))) (blkOk_by (N := N10) (sc := defScope (top 42)) (by decide +kernel)) (fun _ _ _ _ _ => (g_nm nd rfl (.inl rfl) (.inr rfl))) (fun _ _ _ _ _ => (let tk := LamX.takes0; (m_pts1 (m_tcmp isB_cmp op_gt b2_gt (m_call (f := 2) (e.f 2) rfl tk hr (fun z => z.elim) rfl (e.g 2 rfl) (e.k 2 rfl) (e.b 2 rfl) (m_cons (m_var rfl (.inr (.inl rfl)) (by decide) (by decide)) (m_cons m_int m_nil rfl) rfl) (by decide) rfl rfl) m_int (nomark _))))) (fun _ _ _ _ _ => (m_tup (m_cons (m_var rfl (.inl rfl) (by decide) (by decide)) (m_cons m_bl m_nil rfl) rfl) (by decide))) (fun _ => rfl)) m_nil rfl) (by decide) (by decide) rfl rfl) (g_nm nd rfl (.inl rfl) (.inl rfl)) rfl rfl rfl)
  (s_cons (s_fr po rfl (m_rng1 rfl (e.fr "range" rfl) (m_cons (m_call (f := 2) (e.f 2) rfl tk hr (fun z => z.elim) rfl (e.g 2 rfl) (e.k 2 rfl) (e.b 2 rfl) (m_cons (m_var rfl (.inr (.inl rfl)) (by decide) (by decide)) (m_cons m_int m_nil rfl) rfl) (by decide) rfl rfl) m_nil rfl) rfl) (g_nm nd rfl (.inr rfl) (.inl rfl)) (s_cons (s_dpt (U (by decide) u) (m_var rfl (.inl rfl) (by decide) (by decide)) (m_call (f := 8) (e.f 8) rfl tk hr (fun z => z.elim) rfl (e.g 8 rfl) (e.k 8 rfl) (e.b 8 rfl) (m_cons (m_var rfl (.inr (.inl rfl)) (by decide) (by decide)) (m_cons (m_var rfl (.inl rfl) (by decide) (by decide)) (m_cons (m_lst (m_cons (m_str (small_line (by decide))) (m_cons (m_str (small_line (by decide))) m_nil rfl) rfl) (by decide)) (m_cons (m_lst (m_cons (m_str (small_line (by decide))) (m_cons (m_str (small_line (by decide))) m_nil rfl) rfl) (by decide)) m_nil rfl) rfl) rfl) rfl) (by decide) rfl rfl) m_bl rfl)
  s_nil) (fun _ => rfl))
  (s_cons (s_set (m_tup (m_cons (m_var rfl (.inl rfl) (by decide) (by decide)) (m_cons (m_tup (m_cons (m_var rfl (.inl rfl) (by decide) (by decide)) (m_cons (m_bit (f := .tuple) call_tuple_of bi_tuple rfl (e.fr "tuple" rfl) rfl (m_cons (m_bif (f := .sorted) (cr_sortAll rfl u) bi_sorted rfl (e.fr "sorted" rfl) rfl (m_cons (m_var rfl (.inl rfl) (by decide) (by decide)) m_nil rfl) (by decide) (by decide) rfl rfl) m_nil rfl) (by decide) (by decide) rfl rfl) (m_cons (m_slc (m_var rfl (.inl rfl) (by decide) (by decide)) m_po0 (m_po1 (m_bin op_sub b2_sub (m_var rfl (.inl rfl) (by decide) (by decide)) m_int))) m_nil rfl) rfl) rfl) (by decide)) m_nil rfl) rfl) (by decide)) (g_nm nd rfl (.inl rfl) (.inl rfl)) rfl rfl rfl)
  (s_cons (s_fr po rfl (m_rng1 rfl (e.fr "range" rfl) (m_cons (m_ite (m_tcmp isB_cmp op_gt b2_gt (m_call (f := 2) (e.f 2) rfl tk hr (fun z => z.elim) rfl (e.g 2 rfl) (e.k 2 rfl) (e.b 2 rfl) (m_cons (m_var rfl (.inr (.inl rfl)) (by decide) (by decide)) (m_cons m_int m_nil rfl) rfl) (by decide) rfl rfl) m_int (nomark _)) m_int m_int) m_nil rfl) rfl) (g_nm nd rfl (.inl rfl) (.inl rfl)) (s_cons (s_set (m_call (f := 6) (e.f 6) rfl tk hr (fun z => z.elim) rfl (e.g 6 rfl) (e.k 6 rfl) (e.b 6 rfl) (m_cons (m_var rfl (.inl rfl) (by decide) (by decide)) m_nil rfl) (by decide) rfl rfl) (g_nm nd rfl (.inr rfl) (.inl rfl)) rfl rfl rfl)
  (s_cons (s_ifs (m_tcmp isB_cmp op_isM b2_is (m_var rfl (.inr (.inl rfl)) (by decide) (by decide)) m_non (nomark _)) (s_cons (s_ret (m_var rfl (.inl rfl) (by decide) (by decide)))
  s_nil) s_nil)
  (s_cons (s_set (m_call (f := 2) (e.f 2) rfl tk hr (fun z => z.elim) rfl (e.g 2 rfl) (e.k 2 rfl) (e.b 2 rfl) (m_cons (m_var rfl (.inr (.inl rfl)) (by decide) (by decide)) (m_cons m_int m_nil rfl) rfl) (by decide) rfl rfl) (g_nm nd rfl (.inr rfl) (.inl rfl)) rfl rfl rfl)
  (s_cons (s_setLc (i := 11) (own := [("move", 13)]) (by decide)  rfl nd rfl rfl (sw_true rfl rfl rfl rfl) (m_iof (m_idx (m_idx (m_var rfl (.inl rfl) (by decide) (by decide)) (m_var rfl (.inr (.inl rfl)) (by decide) (by decide)) (fun _ _ => rfl)) m_int (fun _ _ => rfl))) (blkOk_by (N := N10) (sc := defScope (top 42)) (by decide +kernel)) (fun _ _ _ _ _ => (g_nm nd rfl (.inl rfl) (.inr rfl))) (fun _ _ _ _ _ => (m_pts1 (PW.pt (m_tand (m_tcmp isB_cmp (op_eqD (U (by decide) u)) b2_eq (m_idx (m_var rfl (.inl rfl) (by decide) (by decide)) m_int (fun _ _ => rfl)) (m_idx (m_var rfl (.inr (.inl rfl)) (by decide) (by decide)) (m_var rfl (.inr (.inl rfl)) (by decide) (by decide)) (fun _ _ => rfl)) (nomark _)) (m_tand1 (m_tcmp isB_cmp (op_eqD (U (by decide) u)) b2_eq (m_idx (m_var rfl (.inl rfl) (by decide) (by decide)) m_int (fun _ _ => rfl)) (m_str (small_line (by decide))) (nomark _))))))) (fun _ _ _ _ _ => (m_var rfl (.inl rfl) (by decide) (by decide))) (fun _ => rfl))
  (s_cons (s_set (m_call (f := 7) (e.f 7) rfl tk hr (fun z => z.elim) rfl (e.g 7 rfl) (e.k 7 rfl) (e.b 7 rfl) (m_cons (m_idx (m_var rfl (.inl rfl) (by decide) (by decide)) (m_var rfl (.inr (.inl rfl)) (by decide) (by decide)) (fun _ _ => rfl)) (m_cons (m_slc (m_var rfl (.inl rfl) (by decide) (by decide)) m_po0 (m_po1 m_int)) m_nil rfl) rfl) (by decide) rfl rfl) (g_nm nd rfl (.inl rfl) (.inl rfl)) rfl rfl rfl)
  (s_cons (s_set (m_ite (m_tcmp isB_cmp (op_eqD (U (by decide) u)) b2_eq (m_var rfl (.inr (.inl rfl)) (by decide) (by decide)) m_int (nomark _)) (m_tup (m_cons (m_var rfl (.inl rfl) (by decide) (by decide)) (m_cons (m_idx (m_var rfl (.inl rfl) (by decide) (by decide)) m_int (fun _ _ => rfl)) m_nil rfl) rfl) (by decide)) (m_tup (m_cons (m_idx (m_var rfl (.inl rfl) (by decide) (by decide)) m_int (fun _ _ => rfl)) (m_cons (m_var rfl (.inl rfl) (by decide) (by decide)) m_nil rfl) rfl) (by decide))) (g_nm nd rfl (.inl rfl) (.inl rfl)) rfl rfl rfl)
  s_nil)))))) (fun _ => rfl))
  (s_cons (s_ret (m_var rfl (.inl rfl) (by decide) (by decide)))
  s_nil))))))))))
theorem body11 (e : EnvG P w K mg base fa fd d) {cdv : Value} {A : Around} {outer : List Env} {s : Shared} {H : Hp} {E : XK} (hcd : CodeAt K (ga K "_law_acts") "_law_acts" cdv) (hr : Room (3 * d + 2) (A.deeper (envOfC "_law_acts" (defScope (top 35)) s.heap.objs.size (ga K "_law_acts") cdv))) (hg : grT 11 → A.guards = some []) :
    PSs (cxOf (L2.CX P w) P w K mg base N11 "_law_acts" (defScope (top 35)) (ga K "_law_acts") cdv A outer s H E) (defBody (top 35)) (tSs K fa ⟨callF Pr Gc d, Gc⟩ (fun c d _ H => E c d H) b11) :=
  have nd := nd11
  have tk : Takes (cxOf (L2.CX P w) P w K mg base N11 "_law_acts" (defScope (top 35)) (ga K "_law_acts") cdv A outer s H E) (fun c d _ H => E c d H) := takes_of rfl rfl rfl rfl
  have po : PassesOwn (model P w) (A.deeper (envOfC "_law_acts" (defScope (top 35)) s.heap.objs.size (ga K "_law_acts") cdv)) (envOfC "_law_acts" (defScope (top 35)) s.heap.objs.size (ga K "_law_acts") cdv) (cxOf (L2.CX P w) P w K mg base N11 "_law_acts" (defScope (top 35)) (ga K "_law_acts") cdv A outer s H E).xe := passes_of rfl
  have u : (A.deeper (envOfC "_law_acts" (defScope (top 35)) s.heap.objs.size (ga K "_law_acts") cdv)).units + 70 < cLine := room70 hr
  have hr2 := hr
  have hr := hr.mono (show 3 * d ≤ 3 * d + 2 by omega)
  (s_cons (s_ret (m_bin op_addM b2_add (m_comp (own := [("n", 1)]) (by decide)  rfl nd (m_rng1 rfl (e.fr "range" rfl) (m_cons (m_bif (f := .len) cr_lenM bi_len rfl (e.fr "len" rfl) rfl (m_cons (m_idx (m_idx (m_var rfl (.inl rfl) (by decide) (by decide)) m_int (fun _ _ => rfl)) m_int (fun _ _ => rfl)) m_nil rfl) (by decide) (by decide) rfl rfl) m_nil rfl) rfl) (blkOk_by (N := N11) (sc := defScope (top 35)) (by decide +kernel)) (fun _ _ _ _ _ => (g_nm nd rfl (.inl rfl) (.inr rfl))) (fun _ _ _ _ _ => m_pts0) (fun _ _ _ _ _ => (m_tup (m_cons (m_str (small_line (by decide))) (m_cons (m_var rfl (.inl rfl) (by decide) (by decide)) m_nil rfl) rfl) (by decide))) (fun _ => rfl)) (m_comp (own := [("n", 1)]) (by decide)  rfl nd (m_rng1 rfl (e.fr "range" rfl) (m_cons (m_bif (f := .len) cr_lenM bi_len rfl (e.fr "len" rfl) rfl (m_cons (m_idx (m_idx (m_var rfl (.inl rfl) (by decide) (by decide)) m_int (fun _ _ => rfl)) m_int (fun _ _ => rfl)) m_nil rfl) (by decide) (by decide) rfl rfl) m_nil rfl) rfl) (blkOk_by (N := N11) (sc := defScope (top 35)) (by decide +kernel)) (fun _ _ _ _ _ => (g_nm nd rfl (.inl rfl) (.inr rfl))) (fun _ _ _ _ _ => m_pts0) (fun _ _ _ _ _ => (m_tup (m_cons (m_str (small_line (by decide))) (m_cons (m_var rfl (.inl rfl) (by decide) (by decide)) m_nil rfl) rfl) (by decide))) (fun _ => rfl))))
  s_nil)
theorem body12 (e : EnvG P w K mg base fa fd d) {cdv : Value} {A : Around} {outer : List Env} {s : Shared} {H : Hp} {E : XK} (hcd : CodeAt K (ga K "_law_do") "_law_do" cdv) (hr : Room (3 * d + 2) (A.deeper (envOfC "_law_do" (defScope (top 34)) s.heap.objs.size (ga K "_law_do") cdv))) (hg : grT 12 → A.guards = some []) :
    PSs (cxOf (L2.CX P w) P w K mg base N12 "_law_do" (defScope (top 34)) (ga K "_law_do") cdv A outer s H E) (defBody (top 34)) (tSs K fa ⟨callF Pr Gc d, Gc⟩ (fun c d _ H => E c d H) b12) :=
  have nd := nd12
  have tk : Takes (cxOf (L2.CX P w) P w K mg base N12 "_law_do" (defScope (top 34)) (ga K "_law_do") cdv A outer s H E) (fun c d _ H => E c d H) := takes_of rfl rfl rfl rfl
  have po : PassesOwn (model P w) (A.deeper (envOfC "_law_do" (defScope (top 34)) s.heap.objs.size (ga K "_law_do") cdv)) (envOfC "_law_do" (defScope (top 34)) s.heap.objs.size (ga K "_law_do") cdv) (cxOf (L2.CX P w) P w K mg base N12 "_law_do" (defScope (top 34)) (ga K "_law_do") cdv A outer s H E).xe := passes_of rfl
  have u : (A.deeper (envOfC "_law_do" (defScope (top 34)) s.heap.objs.size (ga K "_law_do") cdv)).units + 70 < cLine := room70 hr
  have hr2 := hr
  have hr := hr.mono (show 3 * d ≤ 3 * d + 2 by omega)
  (s_cons (s_set (m_var rfl (.inl rfl) (by decide) (by decide)) (g_tp rfl rfl (gs_cons (g_nm nd rfl (.inl rfl) (.inl rfl)) (gs_cons (g_nm nd rfl (.inl rfl) (.inl rfl)) (gs_cons (g_nm nd rfl (.inl rfl) (.inl rfl)) (gs_cons (g_nm nd rfl (.inl rfl) (.inl rfl)) gs_nil rfl) rfl) rfl) rfl) rfl rfl) rfl rfl rfl)
  (s_cons (s_set (m_ite (m_tcmp isB_cmp (op_eqD (U (by decide) u)) b2_eq (m_idx (m_var rfl (.inl rfl) (by decide) (by decide)) m_int (fun _ _ => rfl)) (m_str (small_line (by decide))) (nomark _)) (m_idx (m_idx (m_var rfl (.inl rfl) (by decide) (by decide)) m_int (fun _ _ => rfl)) m_int (fun _ _ => rfl)) (m_idx (m_idx (m_var rfl (.inl rfl) (by decide) (by decide)) m_int (fun _ _ => rfl)) m_int (fun _ _ => rfl))) (g_nm nd rfl (.inl rfl) (.inl rfl)) rfl rfl rfl)
  (s_cons (s_set (m_idx (m_var rfl (.inl rfl) (by decide) (by decide)) (m_idx (m_var rfl (.inl rfl) (by decide) (by decide)) m_int (fun _ _ => rfl)) (fun _ _ => rfl)) (g_tp rfl rfl (gs_cons (g_nm nd rfl (.inl rfl) (.inl rfl)) (gs_cons (g_nm nd rfl (.inl rfl) (.inl rfl)) (gs_cons (g_nm nd rfl (.inl rfl) (.inl rfl)) (gs_cons (g_nm nd rfl (.inl rfl) (.inl rfl)) gs_nil rfl) rfl) rfl) rfl) rfl rfl) rfl rfl rfl)
  (s_cons (s_ifs (m_tcmp isB_cmp (op_neD (U (by decide) u)) b2_ne (m_var rfl (.inl rfl) (by decide) (by decide)) (m_ite (m_tcmp isB_cmp (op_eqD (U (by decide) u)) b2_eq (m_idx (m_var rfl (.inl rfl) (by decide) (by decide)) m_int (fun _ _ => rfl)) (m_str (small_line (by decide))) (nomark _)) (m_var rfl (.inl rfl) (by decide) (by decide)) (m_var rfl (.inl rfl) (by decide) (by decide))) (nomark _)) (s_cons (s_ret m_non)
  s_nil) s_nil)
  (s_cons (s_set (m_ite (m_tcmp isB_cmp (op_eqD (U (by decide) u)) b2_eq (m_idx (m_var rfl (.inl rfl) (by decide) (by decide)) m_int (fun _ _ => rfl)) (m_str (small_line (by decide))) (nomark _)) (m_tup (m_cons (m_var rfl (.inl rfl) (by decide) (by decide)) (m_cons (m_var rfl (.inl rfl) (by decide) (by decide)) m_nil rfl) rfl) (by decide)) (m_tup (m_cons (m_var rfl (.inl rfl) (by decide) (by decide)) (m_cons (m_var rfl (.inl rfl) (by decide) (by decide)) m_nil rfl) rfl) (by decide))) (g_tp rfl rfl (gs_cons (g_nm nd rfl (.inl rfl) (.inl rfl)) (gs_cons (g_nm nd rfl (.inl rfl) (.inl rfl)) gs_nil rfl) rfl) rfl rfl) rfl rfl rfl)
  (s_cons (s_ifs (m_tcmp isB_cmp (op_eqD (U (by decide) u)) b2_eq (m_var rfl (.inl rfl) (by decide) (by decide)) (m_str (small_line (by decide))) (nomark _)) (s_cons (s_set (m_bin op_addM b2_add (m_var rfl (.inl rfl) (by decide) (by decide)) (m_tup (m_cons (m_var rfl (.inl rfl) (by decide) (by decide)) m_nil rfl) (by decide))) (g_nm nd rfl (.inl rfl) (.inl rfl)) rfl rfl rfl)
  s_nil) s_nil)
  (s_cons (s_ifs (m_tcmp isB_cmp (op_eqD (U (by decide) u)) b2_eq (m_var rfl (.inl rfl) (by decide) (by decide)) (m_str (small_line (by decide))) (nomark _)) (s_cons (s_ifs (m_tcmp isB_cmp (op_neD (U (by decide) u)) b2_ne (m_slc (m_var rfl (.inl rfl) (by decide) (by decide)) m_po0 (m_po1 m_int)) (m_tup (m_cons (m_var rfl (.inl rfl) (by decide) (by decide)) m_nil rfl) (by decide)) (nomark _)) (s_cons (s_ret m_non)
  s_nil) s_nil)
  (s_cons (s_set (m_slc (m_var rfl (.inl rfl) (by decide) (by decide)) (m_po1 m_int) m_po0) (g_nm nd rfl (.inl rfl) (.inl rfl)) rfl rfl rfl)
  s_nil)) s_nil)
  (s_cons (s_ret (m_ite (m_tcmp isB_cmp (op_eqD (U (by decide) u)) b2_eq (m_idx (m_var rfl (.inl rfl) (by decide) (by decide)) m_int (fun _ _ => rfl)) (m_str (small_line (by decide))) (nomark _)) (m_tup (m_cons (m_var rfl (.inl rfl) (by decide) (by decide)) (m_cons (m_var rfl (.inl rfl) (by decide) (by decide)) (m_cons (m_var rfl (.inl rfl) (by decide) (by decide)) (m_cons (m_var rfl (.inl rfl) (by decide) (by decide)) m_nil rfl) rfl) rfl) rfl) (by decide)) (m_tup (m_cons (m_var rfl (.inl rfl) (by decide) (by decide)) (m_cons (m_var rfl (.inl rfl) (by decide) (by decide)) (m_cons (m_var rfl (.inl rfl) (by decide) (by decide)) (m_cons (m_var rfl (.inl rfl) (by decide) (by decide)) m_nil rfl) rfl) rfl) rfl) (by decide))))
  s_nil))))))))
theorem body13 (e : EnvG P w K mg base fa fd d) {cdv : Value} {A : Around} {outer : List Env} {s : Shared} {H : Hp} {E : XK} (hcd : CodeAt K (ga K "_law_moves_at") "_law_moves_at" cdv) (hr : Room (3 * d + 2) (A.deeper (envOfC "_law_moves_at" (defScope (top 38)) s.heap.objs.size (ga K "_law_moves_at") cdv))) (hg : grT 13 → A.guards = some []) :
    PSs (cxOf (L2.CX P w) P w K mg base N13 "_law_moves_at" (defScope (top 38)) (ga K "_law_moves_at") cdv A outer s H E) (defBody (top 38)) (tSs K fa ⟨callF Pr Gc d, Gc⟩ (fun c d _ H => E c d H) b13) :=
  have nd := nd13
  have tk : Takes (cxOf (L2.CX P w) P w K mg base N13 "_law_moves_at" (defScope (top 38)) (ga K "_law_moves_at") cdv A outer s H E) (fun c d _ H => E c d H) := takes_of rfl rfl rfl rfl
  have po : PassesOwn (model P w) (A.deeper (envOfC "_law_moves_at" (defScope (top 38)) s.heap.objs.size (ga K "_law_moves_at") cdv)) (envOfC "_law_moves_at" (defScope (top 38)) s.heap.objs.size (ga K "_law_moves_at") cdv) (cxOf (L2.CX P w) P w K mg base N13 "_law_moves_at" (defScope (top 38)) (ga K "_law_moves_at") cdv A outer s H E).xe := passes_of rfl
  have u : (A.deeper (envOfC "_law_moves_at" (defScope (top 38)) s.heap.objs.size (ga K "_law_moves_at") cdv)).units + 70 < cLine := room70 hr
  have hr2 := hr
  have hr := hr.mono (show 3 * d ≤ 3 * d + 2 by omega)
  (s_cons (s_ret (m_comp (own := [("act", 2)]) (by decide)  rfl nd (m_iof (m_call (f := 11) (e.f 11) rfl tk hr (fun z => z.elim) rfl (e.g 11 rfl) (e.k 11 rfl) (e.b 11 rfl) (m_cons (m_var rfl (.inr (.inl rfl)) (by decide) (by decide)) m_nil rfl) (by decide) rfl rfl)) (blkOk_by (N := N13) (sc := defScope (top 38)) (by decide +kernel)) (fun _ _ _ _ _ => (g_nm nd rfl (.inl rfl) (.inr rfl))) (fun _ _ _ _ _ => (let tk := LamX.takes0; (m_pts1 (m_tcmp isB_cmp op_isnM b2_isn (m_call (f := 12) (e.f 12) rfl tk hr (fun z => z.elim) rfl (e.g 12 rfl) (e.k 12 rfl) (e.b 12 rfl) (m_cons (m_var rfl (.inr (.inl rfl)) (by decide) (by decide)) (m_cons (m_var rfl (.inr (.inl rfl)) (by decide) (by decide)) (m_cons (m_var rfl (.inl rfl) (by decide) (by decide)) m_nil rfl) rfl) rfl) (by decide) rfl rfl) m_non (nomark _))))) (fun _ _ _ _ _ => (m_var rfl (.inl rfl) (by decide) (by decide))) (fun _ => rfl)))
  s_nil)
theorem body14 (e : EnvG P w K mg base fa fd d) {cdv : Value} {A : Around} {outer : List Env} {s : Shared} {H : Hp} {E : XK} (hcd : CodeAt K (ga K "_law_drawn_run") "_law_drawn_run" cdv) (hr : Room (3 * d + 2) (A.deeper (envOfC "_law_drawn_run" (defScope (top 40)) s.heap.objs.size (ga K "_law_drawn_run") cdv))) (hg : grT 14 → A.guards = some []) :
    PSs (cxOf (L2.CX P w) P w K mg base N14 "_law_drawn_run" (defScope (top 40)) (ga K "_law_drawn_run") cdv A outer s H E) (defBody (top 40)) (tSs K fa ⟨callF Pr Gc d, Gc⟩ (fun c d _ H => E c d H) b14) :=
  have nd := nd14
  have tk : Takes (cxOf (L2.CX P w) P w K mg base N14 "_law_drawn_run" (defScope (top 40)) (ga K "_law_drawn_run") cdv A outer s H E) (fun c d _ H => E c d H) := takes_of rfl rfl rfl rfl
  have po : PassesOwn (model P w) (A.deeper (envOfC "_law_drawn_run" (defScope (top 40)) s.heap.objs.size (ga K "_law_drawn_run") cdv)) (envOfC "_law_drawn_run" (defScope (top 40)) s.heap.objs.size (ga K "_law_drawn_run") cdv) (cxOf (L2.CX P w) P w K mg base N14 "_law_drawn_run" (defScope (top 40)) (ga K "_law_drawn_run") cdv A outer s H E).xe := passes_of rfl
  have u : (A.deeper (envOfC "_law_drawn_run" (defScope (top 40)) s.heap.objs.size (ga K "_law_drawn_run") cdv)).units + 70 < cLine := room70 hr
  have hr2 := hr
  have hr := hr.mono (show 3 * d ≤ 3 * d + 2 by omega)
  (s_cons (s_set (m_tup (m_cons (m_tup m_nil (by decide)) (m_cons (m_tup (m_cons m_int (m_cons m_int (m_cons (m_tup m_nil (by decide)) (m_cons (m_tup m_nil (by decide)) m_nil rfl) rfl) rfl) rfl) (by decide)) m_nil rfl) rfl) (by decide)) (g_tp rfl rfl (gs_cons (g_nm nd rfl (.inl rfl) (.inl rfl)) (gs_cons (g_nm nd rfl (.inr rfl) (.inl rfl)) gs_nil rfl) rfl) rfl rfl) rfl rfl rfl)
  (s_cons (s_fr po rfl (m_rng1 rfl (e.fr "range" rfl) (m_cons (m_var rfl (.inl rfl) (by decide) (by decide)) m_nil rfl) rfl) (g_nm nd rfl (.inl rfl) (.inl rfl)) (s_cons (s_set (m_call (f := 13) (e.f 13) rfl tk hr (fun z => z.elim) rfl (e.g 13 rfl) (e.k 13 rfl) (e.b 13 rfl) (m_cons (m_var rfl (.inr (.inl rfl)) (by decide) (by decide)) (m_cons (m_var rfl (.inr (.inl rfl)) (by decide) (by decide)) m_nil rfl) rfl) (by decide) rfl rfl) (g_nm nd rfl (.inl rfl) (.inl rfl)) rfl rfl rfl)
  (s_cons (s_ifs (m_tcmp isB_cmp (op_eqD (U (by decide) u)) b2_eq (m_var rfl (.inl rfl) (by decide) (by decide)) m_int (nomark _)) (s_cons (s_setLc (i := 7) (own := [("act", 8)]) (by decide)  rfl nd rfl rfl (sw_true rfl rfl rfl rfl) (m_iof (m_var rfl (.inl rfl) (by decide) (by decide))) (blkOk_by (N := N14) (sc := defScope (top 40)) (by decide +kernel)) (fun _ _ _ _ _ => (g_nm nd rfl (.inl rfl) (.inr rfl))) (fun _ _ _ _ _ => (let tk := LamX.takes0; (m_pts1 (m_tcmp isB_cmp (op_inM (U (by decide) u)) b2_in (m_tup m_nil (by decide)) (m_slc (m_call (f := 12) (e.f 12) rfl tk hr (fun z => z.elim) rfl (e.g 12 rfl) (e.k 12 rfl) (e.b 12 rfl) (m_cons (m_var rfl (.inr (.inl rfl)) (by decide) (by decide)) (m_cons (m_var rfl (.inr (.inl rfl)) (by decide) (by decide)) (m_cons (m_var rfl (.inl rfl) (by decide) (by decide)) m_nil rfl) rfl) rfl) (by decide) rfl rfl) (m_po1 m_int) m_po0) rfl)))) (fun _ _ _ _ _ => (m_var rfl (.inl rfl) (by decide) (by decide))) (fun _ => rfl))
  s_nil) s_nil)
  (s_cons (s_ifs (m_tcmp isB_cmp (op_eqD (U (by decide) u)) b2_eq (m_var rfl (.inl rfl) (by decide) (by decide)) (m_lst m_nil (by decide)) (nomark _)) (s_cons (s_ret (m_var rfl (.inl rfl) (by decide) (by decide)))
  s_nil) s_nil)
  (s_cons (s_set (m_call (f := 3) (e.f 3) rfl tk hr (fun z => z.elim) rfl (e.g 3 rfl) (e.k 3 rfl) (e.b 3 rfl) (m_cons (m_var rfl (.inl rfl) (by decide) (by decide)) (m_cons (m_var rfl (.inl rfl) (by decide) (by decide)) m_nil rfl) rfl) (by decide) rfl rfl) (g_nm nd rfl (.inl rfl) (.inl rfl)) rfl rfl rfl)
  (s_cons (s_set (m_tup (m_cons (m_bin op_addM b2_add (m_var rfl (.inl rfl) (by decide) (by decide)) (m_tup (m_cons (m_var rfl (.inl rfl) (by decide) (by decide)) m_nil rfl) (by decide))) (m_cons (m_call (f := 12) (e.f 12) rfl tk hr (fun z => z.elim) rfl (e.g 12 rfl) (e.k 12 rfl) (e.b 12 rfl) (m_cons (m_var rfl (.inr (.inl rfl)) (by decide) (by decide)) (m_cons (m_var rfl (.inr (.inl rfl)) (by decide) (by decide)) (m_cons (m_var rfl (.inl rfl) (by decide) (by decide)) m_nil rfl) rfl) rfl) (by decide) rfl rfl) m_nil rfl) rfl) (by decide)) (g_tp rfl rfl (gs_cons (g_nm nd rfl (.inl rfl) (.inl rfl)) (gs_cons (g_nm nd rfl (.inr rfl) (.inl rfl)) gs_nil rfl) rfl) rfl rfl) rfl rfl rfl)
  s_nil))))) (fun _ => rfl))
  (s_cons (s_ret (m_var rfl (.inl rfl) (by decide) (by decide)))
  s_nil)))
theorem body15 (e : EnvG P w K mg base fa fd d) {cdv : Value} {A : Around} {outer : List Env} {s : Shared} {H : Hp} {E : XK} (hcd : CodeAt K (ga K "begin") "begin" cdv) (hr : Room (3 * d + 2) (A.deeper (envOfC "begin" (defScope (top 18)) s.heap.objs.size (ga K "begin") cdv))) (hg : grT 15 → A.guards = some []) :
    PSs (cxOf (L2.CX P w) P w K mg base N15 "begin" (defScope (top 18)) (ga K "begin") cdv A outer s H E) (defBody (top 18)) (tSs K fa ⟨callF Pr Gc d, Gc⟩ (fun c d _ H => E c d H) b15) :=
  have nd := nd15
  have tk : Takes (cxOf (L2.CX P w) P w K mg base N15 "begin" (defScope (top 18)) (ga K "begin") cdv A outer s H E) (fun c d _ H => E c d H) := takes_of rfl rfl rfl rfl
  have po : PassesOwn (model P w) (A.deeper (envOfC "begin" (defScope (top 18)) s.heap.objs.size (ga K "begin") cdv)) (envOfC "begin" (defScope (top 18)) s.heap.objs.size (ga K "begin") cdv) (cxOf (L2.CX P w) P w K mg base N15 "begin" (defScope (top 18)) (ga K "begin") cdv A outer s H E).xe := passes_of rfl
  have u : (A.deeper (envOfC "begin" (defScope (top 18)) s.heap.objs.size (ga K "begin") cdv)).units + 70 < cLine := room70 hr
  have hr2 := hr
  have hr := hr.mono (show 3 * d ≤ 3 * d + 2 by omega)
  (s_cons (s_ret (m_tup (m_cons m_int (m_cons m_int (m_cons (m_tup m_nil (by decide)) (m_cons (m_tup m_nil (by decide)) m_nil rfl) rfl) rfl) rfl) (by decide)))
  s_nil)
theorem body16 (e : EnvG P w K mg base fa fd d) {cdv : Value} {A : Around} {outer : List Env} {s : Shared} {H : Hp} {E : XK} (hcd : CodeAt K (ga K "is_name") "is_name" cdv) (hr : Room (3 * d + 2) (A.deeper (envOfC "is_name" (defScope (top 11)) s.heap.objs.size (ga K "is_name") cdv))) (hg : grT 16 → A.guards = some []) :
    PSs (cxOf (L2.CX P w) P w K mg base N16 "is_name" (defScope (top 11)) (ga K "is_name") cdv A outer s H E) (defBody (top 11)) (tSs K fa ⟨callF Pr Gc d, Gc⟩ (fun c d _ H => E c d H) b16) :=
  have nd := nd16
  have tk : Takes (cxOf (L2.CX P w) P w K mg base N16 "is_name" (defScope (top 11)) (ga K "is_name") cdv A outer s H E) (fun c d _ H => E c d H) := takes_of rfl rfl rfl rfl
  have po : PassesOwn (model P w) (A.deeper (envOfC "is_name" (defScope (top 11)) s.heap.objs.size (ga K "is_name") cdv)) (envOfC "is_name" (defScope (top 11)) s.heap.objs.size (ga K "is_name") cdv) (cxOf (L2.CX P w) P w K mg base N16 "is_name" (defScope (top 11)) (ga K "is_name") cdv A outer s H E).xe := passes_of rfl
  have u : (A.deeper (envOfC "is_name" (defScope (top 11)) s.heap.objs.size (ga K "is_name") cdv)).units + 70 < cLine := room70 hr
  have hr2 := hr
  have hr := hr.mono (show 3 * d ≤ 3 * d + 2 by omega)
  (s_cons (s_ifs (PW.pt (m_tor (m_tnot (m_tru (m_isi (ty := .str) rfl (e.fr "isinstance" rfl) (m_var rfl (.inl rfl) (by decide) (by decide)) (m_tyn rfl (e.fr "str" rfl) rfl (by decide) (by decide)) rfl rfl rfl) (fun _ => rfl))) (m_tor1 (m_tnot (m_tchn op_le op_le b2_le b2_le m_int (m_bif (f := .len) cr_lenM bi_len rfl (e.fr "len" rfl) rfl (m_cons (m_var rfl (.inl rfl) (by decide) (by decide)) m_nil rfl) (by decide) (by decide) rfl rfl) (m_glbC (n := 2) rfl (e.c 2 _ rfl) (by decide)) rfl))))) (s_cons (s_ret m_bl)
  s_nil) s_nil)
  (s_cons (s_ifs (PW.pt (m_tor (m_tcmp isB_cmp (op_ninM (U (by decide) u)) b2_nin (m_idx (m_var rfl (.inl rfl) (by decide) (by decide)) m_int (fun _ _ => rfl)) (m_glbC (n := 0) rfl (e.c 0 _ rfl) (by decide)) rfl) (m_tor1 (m_tcmp isB_cmp (op_inM (U (by decide) u)) b2_in (m_var rfl (.inl rfl) (by decide) (by decide)) (m_glbC (n := 3) rfl (e.c 3 _ rfl) (by decide)) rfl)))) (s_cons (s_ret m_bl)
  s_nil) s_nil)
  (s_cons (s_ret (m_bif (f := .all) (cr_all rfl) bi_all rfl (e.fr "all" rfl) rfl (m_cons (m_comp (own := [("sign", 1)]) (by decide)  rfl nd (m_iof (m_var rfl (.inl rfl) (by decide) (by decide))) (blkOk_by (N := N16) (sc := defScope (top 11)) (by decide +kernel)) (fun _ _ _ _ _ => (g_nm nd rfl (.inl rfl) (.inr rfl))) (fun _ _ _ _ _ => m_pts0) (fun _ _ _ _ _ => (m_cmp (op_inM (U (by decide) u)) b2_in (m_var rfl (.inl rfl) (by decide) (by decide)) (m_bin op_addM b2_add (m_glbC (n := 0) rfl (e.c 0 _ rfl) (by decide)) (m_glbC (n := 1) rfl (e.c 1 _ rfl) (by decide))) rfl)) (fun _ => rfl)) m_nil rfl) (by decide) (by decide) rfl rfl))
  s_nil)))
theorem body17 (e : EnvG P w K mg base fa fd d) {cdv : Value} {A : Around} {outer : List Env} {s : Shared} {H : Hp} {E : XK} (hcd : CodeAt K (ga K "is_row") "is_row" cdv) (hr : Room (3 * d + 2) (A.deeper (envOfC "is_row" (defScope (top 16)) s.heap.objs.size (ga K "is_row") cdv))) (hg : grT 17 → A.guards = some []) :
    PSs (cxOf (L2.CX P w) P w K mg base N17 "is_row" (defScope (top 16)) (ga K "is_row") cdv A outer s H E) (defBody (top 16)) (tSs K fa ⟨callF Pr Gc d, Gc⟩ (fun c d _ H => E c d H) b17) :=
  have nd := nd17
  have tk : Takes (cxOf (L2.CX P w) P w K mg base N17 "is_row" (defScope (top 16)) (ga K "is_row") cdv A outer s H E) (fun c d _ H => E c d H) := takes_of rfl rfl rfl rfl
  have po : PassesOwn (model P w) (A.deeper (envOfC "is_row" (defScope (top 16)) s.heap.objs.size (ga K "is_row") cdv)) (envOfC "is_row" (defScope (top 16)) s.heap.objs.size (ga K "is_row") cdv) (cxOf (L2.CX P w) P w K mg base N17 "is_row" (defScope (top 16)) (ga K "is_row") cdv A outer s H E).xe := passes_of rfl
  have u : (A.deeper (envOfC "is_row" (defScope (top 16)) s.heap.objs.size (ga K "is_row") cdv)).units + 70 < cLine := room70 hr
  have hr2 := hr
  have hr := hr.mono (show 3 * d ≤ 3 * d + 2 by omega)
  (s_cons (s_ret (m_and (m_isi (ty := .tuple) rfl (e.fr "isinstance" rfl) (m_var rfl (.inl rfl) (by decide) (by decide)) (m_tyn rfl (e.fr "tuple" rfl) rfl (by decide) (by decide)) rfl rfl rfl) (m_and (m_cmp op_le b2_le (m_bif (f := .len) cr_lenM bi_len rfl (e.fr "len" rfl) rfl (m_cons (m_var rfl (.inl rfl) (by decide) (by decide)) m_nil rfl) (by decide) (by decide) rfl rfl) (m_glbC (n := 5) rfl (e.c 5 _ rfl) (by decide)) (nomark _)) (m_one (m_bif (f := .all) (cr_all rfl) bi_all rfl (e.fr "all" rfl) rfl (m_cons (m_comp (own := [("letter", 1)]) (by decide)  rfl nd (m_iof (m_var rfl (.inl rfl) (by decide) (by decide))) (blkOk_by (N := N17) (sc := defScope (top 16)) (by decide +kernel)) (fun _ _ _ _ _ => (g_nm nd rfl (.inl rfl) (.inr rfl))) (fun _ _ _ _ _ => m_pts0) (fun _ _ _ _ _ => (let tk := LamX.takes0; (m_call (f := 16) (e.f 16) rfl tk hr (fun z => z.elim) rfl (e.g 16 rfl) (e.k 16 rfl) (e.b 16 rfl) (m_cons (m_var rfl (.inl rfl) (by decide) (by decide)) m_nil rfl) (by decide) rfl rfl))) (fun _ => rfl)) m_nil rfl) (by decide) (by decide) rfl rfl)))))
  s_nil)
theorem body18 (e : EnvG P w K mg base fa fd d) {cdv : Value} {A : Around} {outer : List Env} {s : Shared} {H : Hp} {E : XK} (hcd : CodeAt K (ga K "is_number") "is_number" cdv) (hr : Room (3 * d + 2) (A.deeper (envOfC "is_number" (defScope (top 9)) s.heap.objs.size (ga K "is_number") cdv))) (hg : grT 18 → A.guards = some []) :
    PSs (cxOf (L2.CX P w) P w K mg base N18 "is_number" (defScope (top 9)) (ga K "is_number") cdv A outer s H E) (defBody (top 9)) (tSs K fa ⟨callF Pr Gc d, Gc⟩ (fun c d _ H => E c d H) b18) :=
  have nd := nd18
  have tk : Takes (cxOf (L2.CX P w) P w K mg base N18 "is_number" (defScope (top 9)) (ga K "is_number") cdv A outer s H E) (fun c d _ H => E c d H) := takes_of rfl rfl rfl rfl
  have po : PassesOwn (model P w) (A.deeper (envOfC "is_number" (defScope (top 9)) s.heap.objs.size (ga K "is_number") cdv)) (envOfC "is_number" (defScope (top 9)) s.heap.objs.size (ga K "is_number") cdv) (cxOf (L2.CX P w) P w K mg base N18 "is_number" (defScope (top 9)) (ga K "is_number") cdv A outer s H E).xe := passes_of rfl
  have u : (A.deeper (envOfC "is_number" (defScope (top 9)) s.heap.objs.size (ga K "is_number") cdv)).units + 70 < cLine := room70 hr
  have hr2 := hr
  have hr := hr.mono (show 3 * d ≤ 3 * d + 2 by omega)
  (s_cons (s_ret (m_and (m_isi (ty := .int) rfl (e.fr "isinstance" rfl) (m_var rfl (.inl rfl) (by decide) (by decide)) (m_tyn rfl (e.fr "int" rfl) rfl (by decide) (by decide)) rfl rfl rfl) (m_one (m_not (m_isi (ty := .bool) rfl (e.fr "isinstance" rfl) (m_var rfl (.inl rfl) (by decide) (by decide)) (m_tyn rfl (e.fr "bool" rfl) rfl (by decide) (by decide)) rfl rfl rfl)))))
  s_nil)
theorem body19 (e : EnvG P w K mg base fa fd d) {cdv : Value} {A : Around} {outer : List Env} {s : Shared} {H : Hp} {E : XK} (hcd : CodeAt K (ga K "is_index") "is_index" cdv) (hr : Room (3 * d + 2) (A.deeper (envOfC "is_index" (defScope (top 10)) s.heap.objs.size (ga K "is_index") cdv))) (hg : grT 19 → A.guards = some []) :
    PSs (cxOf (L2.CX P w) P w K mg base N19 "is_index" (defScope (top 10)) (ga K "is_index") cdv A outer s H E) (defBody (top 10)) (tSs K fa ⟨callF Pr Gc d, Gc⟩ (fun c d _ H => E c d H) b19) :=
  have nd := nd19
  have tk : Takes (cxOf (L2.CX P w) P w K mg base N19 "is_index" (defScope (top 10)) (ga K "is_index") cdv A outer s H E) (fun c d _ H => E c d H) := takes_of rfl rfl rfl rfl
  have po : PassesOwn (model P w) (A.deeper (envOfC "is_index" (defScope (top 10)) s.heap.objs.size (ga K "is_index") cdv)) (envOfC "is_index" (defScope (top 10)) s.heap.objs.size (ga K "is_index") cdv) (cxOf (L2.CX P w) P w K mg base N19 "is_index" (defScope (top 10)) (ga K "is_index") cdv A outer s H E).xe := passes_of rfl
  have u : (A.deeper (envOfC "is_index" (defScope (top 10)) s.heap.objs.size (ga K "is_index") cdv)).units + 70 < cLine := room70 hr
  have hr2 := hr
  have hr := hr.mono (show 3 * d ≤ 3 * d + 2 by omega)
  (s_cons (s_ret (m_and (m_call (f := 18) (e.f 18) rfl tk hr (fun z => z.elim) rfl (e.g 18 rfl) (e.k 18 rfl) (e.b 18 rfl) (m_cons (m_var rfl (.inl rfl) (by decide) (by decide)) m_nil rfl) (by decide) rfl rfl) (m_one (m_cmp op_ge b2_ge (m_var rfl (.inl rfl) (by decide) (by decide)) m_int (nomark _)))))
  s_nil)
theorem body20 (e : EnvG P w K mg base fa fd d) {cdv : Value} {A : Around} {outer : List Env} {s : Shared} {H : Hp} {E : XK} (hcd : CodeAt K (ga K "is_configuration") "is_configuration" cdv) (hr : Room (3 * d + 2) (A.deeper (envOfC "is_configuration" (defScope (top 17)) s.heap.objs.size (ga K "is_configuration") cdv))) (hg : grT 20 → A.guards = some []) :
    PSs (cxOf (L2.CX P w) P w K mg base N20 "is_configuration" (defScope (top 17)) (ga K "is_configuration") cdv A outer s H E) (defBody (top 17)) (tSs K fa ⟨callF Pr Gc d, Gc⟩ (fun c d _ H => E c d H) b20) :=
  have nd := nd20
  have tk : Takes (cxOf (L2.CX P w) P w K mg base N20 "is_configuration" (defScope (top 17)) (ga K "is_configuration") cdv A outer s H E) (fun c d _ H => E c d H) := takes_of rfl rfl rfl rfl
  have po : PassesOwn (model P w) (A.deeper (envOfC "is_configuration" (defScope (top 17)) s.heap.objs.size (ga K "is_configuration") cdv)) (envOfC "is_configuration" (defScope (top 17)) s.heap.objs.size (ga K "is_configuration") cdv) (cxOf (L2.CX P w) P w K mg base N20 "is_configuration" (defScope (top 17)) (ga K "is_configuration") cdv A outer s H E).xe := passes_of rfl
  have u : (A.deeper (envOfC "is_configuration" (defScope (top 17)) s.heap.objs.size (ga K "is_configuration") cdv)).units + 70 < cLine := room70 hr
  have hr2 := hr
  have hr := hr.mono (show 3 * d ≤ 3 * d + 2 by omega)
  (s_cons (s_ifs (PW.pt (m_tor (m_tnot (m_tru (m_isi (ty := .tuple) rfl (e.fr "isinstance" rfl) (m_var rfl (.inl rfl) (by decide) (by decide)) (m_tyn rfl (e.fr "tuple" rfl) rfl (by decide) (by decide)) rfl rfl rfl) (fun _ => rfl))) (m_tor (m_tcmp isB_cmp (op_neD (U (by decide) u)) b2_ne (m_bif (f := .len) cr_lenM bi_len rfl (e.fr "len" rfl) rfl (m_cons (m_var rfl (.inl rfl) (by decide) (by decide)) m_nil rfl) (by decide) (by decide) rfl rfl) m_int (nomark _)) (m_tor (m_tnot (m_tru (m_call (f := 19) (e.f 19) rfl tk hr (fun z => z.elim) rfl (e.g 19 rfl) (e.k 19 rfl) (e.b 19 rfl) (m_cons (m_idx (m_var rfl (.inl rfl) (by decide) (by decide)) m_int (fun _ _ => rfl)) m_nil rfl) (by decide) rfl rfl) (fun _ => rfl))) (m_tor1 (m_tnot (m_tru (m_call (f := 19) (e.f 19) rfl tk hr (fun z => z.elim) rfl (e.g 19 rfl) (e.k 19 rfl) (e.b 19 rfl) (m_cons (m_idx (m_var rfl (.inl rfl) (by decide) (by decide)) m_int (fun _ _ => rfl)) m_nil rfl) (by decide) rfl rfl) (fun _ => rfl)))))))) (s_cons (s_ret m_bl)
  s_nil) s_nil)
  (s_cons (s_ret (m_and (m_cmp op_lt b2_lt (m_idx (m_var rfl (.inl rfl) (by decide) (by decide)) m_int (fun _ _ => rfl)) (m_idx (m_idx (m_var rfl (.inl rfl) (by decide) (by decide)) m_int (fun _ _ => rfl)) m_int (fun _ _ => rfl)) (nomark _)) (m_and (m_cmp op_lt b2_lt (m_idx (m_var rfl (.inl rfl) (by decide) (by decide)) m_int (fun _ _ => rfl)) (m_idx (m_idx (m_var rfl (.inl rfl) (by decide) (by decide)) m_int (fun _ _ => rfl)) m_int (fun _ _ => rfl)) (nomark _)) (m_and (m_call (f := 17) (e.f 17) rfl tk hr (fun z => z.elim) rfl (e.g 17 rfl) (e.k 17 rfl) (e.b 17 rfl) (m_cons (m_idx (m_var rfl (.inl rfl) (by decide) (by decide)) m_int (fun _ _ => rfl)) m_nil rfl) (by decide) rfl rfl) (m_one (m_call (f := 17) (e.f 17) rfl tk hr (fun z => z.elim) rfl (e.g 17 rfl) (e.k 17 rfl) (e.b 17 rfl) (m_cons (m_idx (m_var rfl (.inl rfl) (by decide) (by decide)) m_int (fun _ _ => rfl)) m_nil rfl) (by decide) rfl rfl))))))
  s_nil))
theorem body21 (e : EnvG P w K mg base fa fd d) {cdv : Value} {A : Around} {outer : List Env} {s : Shared} {H : Hp} {E : XK} (hcd : CodeAt K (ga K "_law_is_int") "_law_is_int" cdv) (hr : Room (3 * d + 2) (A.deeper (envOfC "_law_is_int" (defScope (top 36)) s.heap.objs.size (ga K "_law_is_int") cdv))) (hg : grT 21 → A.guards = some []) :
    PSs (cxOf (L2.CX P w) P w K mg base N21 "_law_is_int" (defScope (top 36)) (ga K "_law_is_int") cdv A outer s H E) (defBody (top 36)) (tSs K fa ⟨callF Pr Gc d, Gc⟩ (fun c d _ H => E c d H) b21) :=
  have nd := nd21
  have tk : Takes (cxOf (L2.CX P w) P w K mg base N21 "_law_is_int" (defScope (top 36)) (ga K "_law_is_int") cdv A outer s H E) (fun c d _ H => E c d H) := takes_of rfl rfl rfl rfl
  have po : PassesOwn (model P w) (A.deeper (envOfC "_law_is_int" (defScope (top 36)) s.heap.objs.size (ga K "_law_is_int") cdv)) (envOfC "_law_is_int" (defScope (top 36)) s.heap.objs.size (ga K "_law_is_int") cdv) (cxOf (L2.CX P w) P w K mg base N21 "_law_is_int" (defScope (top 36)) (ga K "_law_is_int") cdv A outer s H E).xe := passes_of rfl
  have u : (A.deeper (envOfC "_law_is_int" (defScope (top 36)) s.heap.objs.size (ga K "_law_is_int") cdv)).units + 70 < cLine := room70 hr
  have hr2 := hr
  have hr := hr.mono (show 3 * d ≤ 3 * d + 2 by omega)
  (s_cons (s_ret (m_and (m_isi (ty := .int) rfl (e.fr "isinstance" rfl) (m_var rfl (.inl rfl) (by decide) (by decide)) (m_tyn rfl (e.fr "int" rfl) rfl (by decide) (by decide)) rfl rfl rfl) (m_one (m_not (m_isi (ty := .bool) rfl (e.fr "isinstance" rfl) (m_var rfl (.inl rfl) (by decide) (by decide)) (m_tyn rfl (e.fr "bool" rfl) rfl (by decide) (by decide)) rfl rfl rfl)))))
  s_nil)
theorem body22 (e : EnvG P w K mg base fa fd d) {cdv : Value} {A : Around} {outer : List Env} {s : Shared} {H : Hp} {E : XK} (hcd : CodeAt K (ga K "_law_is_move") "_law_is_move" cdv) (hr : Room (3 * d + 2) (A.deeper (envOfC "_law_is_move" (defScope (top 37)) s.heap.objs.size (ga K "_law_is_move") cdv))) (hg : grT 22 → A.guards = some []) :
    PSs (cxOf (L2.CX P w) P w K mg base N22 "_law_is_move" (defScope (top 37)) (ga K "_law_is_move") cdv A outer s H E) (defBody (top 37)) (tSs K fa ⟨callF Pr Gc d, Gc⟩ (fun c d _ H => E c d H) b22) :=
  have nd := nd22
  have tk : Takes (cxOf (L2.CX P w) P w K mg base N22 "_law_is_move" (defScope (top 37)) (ga K "_law_is_move") cdv A outer s H E) (fun c d _ H => E c d H) := takes_of rfl rfl rfl rfl
  have po : PassesOwn (model P w) (A.deeper (envOfC "_law_is_move" (defScope (top 37)) s.heap.objs.size (ga K "_law_is_move") cdv)) (envOfC "_law_is_move" (defScope (top 37)) s.heap.objs.size (ga K "_law_is_move") cdv) (cxOf (L2.CX P w) P w K mg base N22 "_law_is_move" (defScope (top 37)) (ga K "_law_is_move") cdv A outer s H E).xe := passes_of rfl
  have u : (A.deeper (envOfC "_law_is_move" (defScope (top 37)) s.heap.objs.size (ga K "_law_is_move") cdv)).units + 70 < cLine := room70 hr
  have hr2 := hr
  have hr := hr.mono (show 3 * d ≤ 3 * d + 2 by omega)
  (s_cons (s_ifs (PW.pt (m_tor (m_tnot (m_tru (m_isi (ty := .tuple) rfl (e.fr "isinstance" rfl) (m_var rfl (.inl rfl) (by decide) (by decide)) (m_tyn rfl (e.fr "tuple" rfl) rfl (by decide) (by decide)) rfl rfl rfl) (fun _ => rfl))) (m_tor (m_tcmp isB_cmp (op_neD (U (by decide) u)) b2_ne (m_bif (f := .len) cr_lenM bi_len rfl (e.fr "len" rfl) rfl (m_cons (m_var rfl (.inl rfl) (by decide) (by decide)) m_nil rfl) (by decide) (by decide) rfl rfl) m_int (nomark _)) (m_tor (m_tnot (m_tru (m_isi (ty := .str) rfl (e.fr "isinstance" rfl) (m_idx (m_var rfl (.inl rfl) (by decide) (by decide)) m_int (fun _ _ => rfl)) (m_tyn rfl (e.fr "str" rfl) rfl (by decide) (by decide)) rfl rfl rfl) (fun _ => rfl))) (m_tor (m_tcmp isB_cmp (op_ninM (U (by decide) u)) b2_nin (m_idx (m_var rfl (.inl rfl) (by decide) (by decide)) m_int (fun _ _ => rfl)) (m_tup (m_cons (m_str (small_line (by decide))) (m_cons (m_str (small_line (by decide))) m_nil rfl) rfl) (by decide)) rfl) (m_tor1 (m_tnot (m_tru (m_call (f := 21) (e.f 21) rfl tk hr (fun z => z.elim) rfl (e.g 21 rfl) (e.k 21 rfl) (e.b 21 rfl) (m_cons (m_idx (m_var rfl (.inl rfl) (by decide) (by decide)) m_int (fun _ _ => rfl)) m_nil rfl) (by decide) rfl rfl) (fun _ => rfl))))))))) (s_cons (s_ret m_bl)
  s_nil) s_nil)
  (s_cons (s_ret (m_chn op_le op_lt b2_le b2_lt m_int (m_idx (m_var rfl (.inl rfl) (by decide) (by decide)) m_int (fun _ _ => rfl)) (m_bif (f := .len) cr_lenM bi_len rfl (e.fr "len" rfl) rfl (m_cons (m_idx (m_idx (m_var rfl (.inl rfl) (by decide) (by decide)) (m_ite (m_tcmp isB_cmp (op_eqD (U (by decide) u)) b2_eq (m_idx (m_var rfl (.inl rfl) (by decide) (by decide)) m_int (fun _ _ => rfl)) (m_str (small_line (by decide))) (nomark _)) m_int m_int) (fun _ _ => rfl)) m_int (fun _ _ => rfl)) m_nil rfl) (by decide) (by decide) rfl rfl) rfl))
  s_nil))
theorem body23 (e : EnvG P w K mg base fa fd d) {cdv : Value} {A : Around} {outer : List Env} {s : Shared} {H : Hp} {E : XK} (hcd : CodeAt K (ga K "_law_played") "_law_played" cdv) (hr : Room (3 * d + 2) (A.deeper (envOfC "_law_played" (defScope (top 39)) s.heap.objs.size (ga K "_law_played") cdv))) (hg : grT 23 → A.guards = some []) :
    PSs (cxOf (L2.CX P w) P w K mg base N23 "_law_played" (defScope (top 39)) (ga K "_law_played") cdv A outer s H E) (defBody (top 39)) (tSs K fa ⟨callF Pr Gc d, Gc⟩ (fun c d _ H => E c d H) b23) :=
  have nd := nd23
  have tk : Takes (cxOf (L2.CX P w) P w K mg base N23 "_law_played" (defScope (top 39)) (ga K "_law_played") cdv A outer s H E) (fun c d _ H => E c d H) := takes_of rfl rfl rfl rfl
  have po : PassesOwn (model P w) (A.deeper (envOfC "_law_played" (defScope (top 39)) s.heap.objs.size (ga K "_law_played") cdv)) (envOfC "_law_played" (defScope (top 39)) s.heap.objs.size (ga K "_law_played") cdv) (cxOf (L2.CX P w) P w K mg base N23 "_law_played" (defScope (top 39)) (ga K "_law_played") cdv A outer s H E).xe := passes_of rfl
  have u : (A.deeper (envOfC "_law_played" (defScope (top 39)) s.heap.objs.size (ga K "_law_played") cdv)).units + 70 < cLine := room70 hr
  have hr2 := hr
  have hr := hr.mono (show 3 * d ≤ 3 * d + 2 by omega)
  (s_cons (s_set (m_newl (m_cons (m_tup (m_cons m_int (m_cons m_int (m_cons (m_tup m_nil (by decide)) (m_cons (m_tup m_nil (by decide)) m_nil rfl) rfl) rfl) rfl) (by decide)) m_nil rfl) (by decide)) (g_nm nd rfl (.inl rfl) (.inl rfl)) rfl rfl rfl)
  (s_cons (s_fr po rfl (m_iof (m_var rfl (.inl rfl) (by decide) (by decide))) (g_nm nd rfl (.inl rfl) (.inl rfl)) (s_cons (s_set (m_ite (m_tru (m_call (f := 22) (e.f 22) rfl tk hr (fun z => z.elim) rfl (e.g 22 rfl) (e.k 22 rfl) (e.b 22 rfl) (m_cons (m_var rfl (.inl rfl) (by decide) (by decide)) (m_cons (m_var rfl (.inl rfl) (by decide) (by decide)) m_nil rfl) rfl) (by decide) rfl rfl) (fun _ => rfl)) (m_call (f := 12) (e.f 12) rfl tk hr (fun z => z.elim) rfl (e.g 12 rfl) (e.k 12 rfl) (e.b 12 rfl) (m_cons (m_var rfl (.inl rfl) (by decide) (by decide)) (m_cons (m_idx (m_var rfl (.inl rfl) (by decide) (by decide)) (m_neg m_int) (fun _ _ => rfl)) (m_cons (m_var rfl (.inl rfl) (by decide) (by decide)) m_nil rfl) rfl) rfl) (by decide) rfl rfl) m_non) (g_nm nd rfl (.inl rfl) (.inl rfl)) rfl rfl rfl)
  (s_cons (s_ifs (m_tcmp isB_cmp op_isM b2_is (m_var rfl (.inl rfl) (by decide) (by decide)) m_non (nomark _)) (s_cons (s_ret m_non)
  s_nil) s_nil)
  (s_cons (s_ex (m_meth me_append PySem.F.plainAttrs_list PySem.F.slot_list_append PySem.F.type_list_append mt_append (m_var rfl (.inl rfl) (by decide) (by decide)) (m_cons (m_var rfl (.inl rfl) (by decide) (by decide)) m_nil rfl) rfl rfl rfl rfl rfl) rfl)
  s_nil))) (fun _ => rfl))
  (s_cons (s_ret (m_var rfl (.inl rfl) (by decide) (by decide)))
  s_nil)))
theorem body24 (e : EnvG P w K mg base fa fd d) {cdv : Value} {A : Around} {outer : List Env} {s : Shared} {H : Hp} {E : XK} (hcd : CodeAt K (ga K "is_move") "is_move" cdv) (hr : Room (3 * d + 2) (A.deeper (envOfC "is_move" (defScope (top 15)) s.heap.objs.size (ga K "is_move") cdv))) (hg : grT 24 → A.guards = some []) :
    PSs (cxOf (L2.CX P w) P w K mg base N24 "is_move" (defScope (top 15)) (ga K "is_move") cdv A outer s H E) (defBody (top 15)) (tSs K fa ⟨callF Pr Gc d, Gc⟩ (fun c d _ H => E c d H) b24) :=
  have nd := nd24
  have tk : Takes (cxOf (L2.CX P w) P w K mg base N24 "is_move" (defScope (top 15)) (ga K "is_move") cdv A outer s H E) (fun c d _ H => E c d H) := takes_of rfl rfl rfl rfl
  have po : PassesOwn (model P w) (A.deeper (envOfC "is_move" (defScope (top 15)) s.heap.objs.size (ga K "is_move") cdv)) (envOfC "is_move" (defScope (top 15)) s.heap.objs.size (ga K "is_move") cdv) (cxOf (L2.CX P w) P w K mg base N24 "is_move" (defScope (top 15)) (ga K "is_move") cdv A outer s H E).xe := passes_of rfl
  have u : (A.deeper (envOfC "is_move" (defScope (top 15)) s.heap.objs.size (ga K "is_move") cdv)).units + 70 < cLine := room70 hr
  have hr2 := hr
  have hr := hr.mono (show 3 * d ≤ 3 * d + 2 by omega)
  (s_cons (s_ifs (PW.pt (m_tor (m_tnot (m_tru (m_isi (ty := .tuple) rfl (e.fr "isinstance" rfl) (m_var rfl (.inl rfl) (by decide) (by decide)) (m_tyn rfl (e.fr "tuple" rfl) rfl (by decide) (by decide)) rfl rfl rfl) (fun _ => rfl))) (m_tor (m_tcmp isB_cmp (op_neD (U (by decide) u)) b2_ne (m_bif (f := .len) cr_lenM bi_len rfl (e.fr "len" rfl) rfl (m_cons (m_var rfl (.inl rfl) (by decide) (by decide)) m_nil rfl) (by decide) (by decide) rfl rfl) m_int (nomark _)) (m_tor (m_tnot (m_tru (m_isi (ty := .str) rfl (e.fr "isinstance" rfl) (m_idx (m_var rfl (.inl rfl) (by decide) (by decide)) m_int (fun _ _ => rfl)) (m_tyn rfl (e.fr "str" rfl) rfl (by decide) (by decide)) rfl rfl rfl) (fun _ => rfl))) (m_tor1 (m_tcmp isB_cmp (op_ninM (U (by decide) u)) b2_nin (m_idx (m_var rfl (.inl rfl) (by decide) (by decide)) m_int (fun _ _ => rfl)) (m_glbC (n := 4) rfl (e.c 4 _ rfl) (by decide)) rfl)))))) (s_cons (s_ret m_bl)
  s_nil) s_nil)
  (s_cons (s_ret (m_and (m_call (f := 19) (e.f 19) rfl tk hr (fun z => z.elim) rfl (e.g 19 rfl) (e.k 19 rfl) (e.b 19 rfl) (m_cons (m_idx (m_var rfl (.inl rfl) (by decide) (by decide)) m_int (fun _ _ => rfl)) m_nil rfl) (by decide) rfl rfl) (m_one (m_cmp op_lt b2_lt (m_idx (m_var rfl (.inl rfl) (by decide) (by decide)) m_int (fun _ _ => rfl)) (m_bif (f := .len) cr_lenM bi_len rfl (e.fr "len" rfl) rfl (m_cons (m_idx (m_idx (m_var rfl (.inl rfl) (by decide) (by decide)) (m_index (m_glbC (n := 4) rfl (e.c 4 _ rfl) (by decide)) (m_cons (m_idx (m_var rfl (.inl rfl) (by decide) (by decide)) m_int (fun _ _ => rfl)) m_nil rfl) rfl rfl rfl rfl rfl) (fun _ _ => rfl)) m_int (fun _ _ => rfl)) m_nil rfl) (by decide) (by decide) rfl rfl) (nomark _)))))
  s_nil))
theorem body25 (e : EnvG P w K mg base fa fd d) {cdv : Value} {A : Around} {outer : List Env} {s : Shared} {H : Hp} {E : XK} (hcd : CodeAt K (ga K "fault_of") "fault_of" cdv) (hr : Room (3 * d + 2) (A.deeper (envOfC "fault_of" (defScope (top 19)) s.heap.objs.size (ga K "fault_of") cdv))) (hg : grT 25 → A.guards = some []) :
    PSs (cxOf (L2.CX P w) P w K mg base N25 "fault_of" (defScope (top 19)) (ga K "fault_of") cdv A outer s H E) (defBody (top 19)) (tSs K fa ⟨callF Pr Gc d, Gc⟩ (fun c d _ H => E c d H) b25) :=
  have nd := nd25
  have tk : Takes (cxOf (L2.CX P w) P w K mg base N25 "fault_of" (defScope (top 19)) (ga K "fault_of") cdv A outer s H E) (fun c d _ H => E c d H) := takes_of rfl rfl rfl rfl
  have po : PassesOwn (model P w) (A.deeper (envOfC "fault_of" (defScope (top 19)) s.heap.objs.size (ga K "fault_of") cdv)) (envOfC "fault_of" (defScope (top 19)) s.heap.objs.size (ga K "fault_of") cdv) (cxOf (L2.CX P w) P w K mg base N25 "fault_of" (defScope (top 19)) (ga K "fault_of") cdv A outer s H E).xe := passes_of rfl
  have u : (A.deeper (envOfC "fault_of" (defScope (top 19)) s.heap.objs.size (ga K "fault_of") cdv)).units + 70 < cLine := room70 hr
  have hr2 := hr
  have hr := hr.mono (show 3 * d ≤ 3 * d + 2 by omega)
  (s_cons (s_set (m_index (m_glbC (n := 4) rfl (e.c 4 _ rfl) (by decide)) (m_cons (m_idx (m_var rfl (.inl rfl) (by decide) (by decide)) m_int (fun _ _ => rfl)) m_nil rfl) rfl rfl rfl rfl rfl) (g_nm nd rfl (.inl rfl) (.inl rfl)) rfl rfl rfl)
  (s_cons (s_set (m_idx (m_idx (m_idx (m_var rfl (.inl rfl) (by decide) (by decide)) (m_var rfl (.inl rfl) (by decide) (by decide)) (fun _ _ => rfl)) m_int (fun _ _ => rfl)) (m_idx (m_var rfl (.inl rfl) (by decide) (by decide)) m_int (fun _ _ => rfl)) (fun _ _ => rfl)) (g_tp rfl rfl (gs_cons (g_nm nd rfl (.inl rfl) (.inl rfl)) (gs_cons (g_nm nd rfl (.inl rfl) (.inl rfl)) (gs_cons (g_nm nd rfl (.inl rfl) (.inl rfl)) (gs_cons (g_nm nd rfl (.inl rfl) (.inl rfl)) gs_nil rfl) rfl) rfl) rfl) rfl rfl) rfl rfl rfl)
  (s_cons (s_ifs (m_tcmp isB_cmp (op_neD (U (by decide) u)) b2_ne (m_idx (m_var rfl (.inl rfl) (by decide) (by decide)) (m_var rfl (.inl rfl) (by decide) (by decide)) (fun _ _ => rfl)) (m_var rfl (.inl rfl) (by decide) (by decide)) (nomark _)) (s_cons (s_ret (m_str (small_line (by decide))))
  s_nil) s_nil)
  (s_cons (s_set (m_idx (m_var rfl (.inl rfl) (by decide) (by decide)) (m_bin op_sub b2_sub m_int (m_var rfl (.inl rfl) (by decide) (by decide))) (fun _ _ => rfl)) (g_nm nd rfl (.inl rfl) (.inl rfl)) rfl rfl rfl)
  (s_cons (s_ret (m_ite (PW.pt (m_tand (m_tcmp isB_cmp (op_eqD (U (by decide) u)) b2_eq (m_var rfl (.inl rfl) (by decide) (by decide)) (m_str (small_line (by decide))) (nomark _)) (m_tand1 (m_tcmp isB_cmp (op_neD (U (by decide) u)) b2_ne (m_slc (m_var rfl (.inl rfl) (by decide) (by decide)) m_po0 (m_po1 m_int)) (m_tup (m_cons (m_var rfl (.inl rfl) (by decide) (by decide)) m_nil rfl) (by decide)) (nomark _))))) (m_str (small_line (by decide))) m_non))
  s_nil)))))
theorem body26 (e : EnvG P w K mg base fa fd d) {cdv : Value} {A : Around} {outer : List Env} {s : Shared} {H : Hp} {E : XK} (hcd : CodeAt K (ga K "behind") "behind" cdv) (hr : Room (3 * d + 2) (A.deeper (envOfC "behind" (defScope (top 20)) s.heap.objs.size (ga K "behind") cdv))) (hg : grT 26 → A.guards = some []) :
    PSs (cxOf (L2.CX P w) P w K mg base N26 "behind" (defScope (top 20)) (ga K "behind") cdv A outer s H E) (defBody (top 20)) (tSs K fa ⟨callF Pr Gc d, Gc⟩ (fun c d _ H => E c d H) b26) :=
  have nd := nd26
  have tk : Takes (cxOf (L2.CX P w) P w K mg base N26 "behind" (defScope (top 20)) (ga K "behind") cdv A outer s H E) (fun c d _ H => E c d H) := takes_of rfl rfl rfl rfl
  have po : PassesOwn (model P w) (A.deeper (envOfC "behind" (defScope (top 20)) s.heap.objs.size (ga K "behind") cdv)) (envOfC "behind" (defScope (top 20)) s.heap.objs.size (ga K "behind") cdv) (cxOf (L2.CX P w) P w K mg base N26 "behind" (defScope (top 20)) (ga K "behind") cdv A outer s H E).xe := passes_of rfl
  have u : (A.deeper (envOfC "behind" (defScope (top 20)) s.heap.objs.size (ga K "behind") cdv)).units + 70 < cLine := room70 hr
  have hr2 := hr
  have hr := hr.mono (show 3 * d ≤ 3 * d + 2 by omega)
  (s_cons (s_set (m_index (m_glbC (n := 4) rfl (e.c 4 _ rfl) (by decide)) (m_cons (m_idx (m_var rfl (.inl rfl) (by decide) (by decide)) m_int (fun _ _ => rfl)) m_nil rfl) rfl rfl rfl rfl rfl) (g_nm nd rfl (.inl rfl) (.inl rfl)) rfl rfl rfl)
  (s_cons (s_set (m_idx (m_idx (m_idx (m_var rfl (.inl rfl) (by decide) (by decide)) (m_var rfl (.inl rfl) (by decide) (by decide)) (fun _ _ => rfl)) m_int (fun _ _ => rfl)) (m_idx (m_var rfl (.inl rfl) (by decide) (by decide)) m_int (fun _ _ => rfl)) (fun _ _ => rfl)) (g_tp rfl rfl (gs_cons (g_nm nd rfl (.inl rfl) (.inl rfl)) (gs_cons (g_nm nd rfl (.inl rfl) (.inl rfl)) (gs_cons (g_nm nd rfl (.inl rfl) (.inl rfl)) (gs_cons (g_nm nd rfl (.inl rfl) (.inl rfl)) gs_nil rfl) rfl) rfl) rfl) rfl rfl) rfl rfl rfl)
  (s_cons (s_set (m_newbit (f := .list) call_list_of bn_list rfl (e.fr "list" rfl) rfl (m_cons (m_var rfl (.inl rfl) (by decide) (by decide)) m_nil rfl) (by decide) (by decide) rfl rfl) (g_nm nd rfl (.inl rfl) (.inl rfl)) rfl rfl rfl)
  (s_cons (s_put (m_var rfl (.inl rfl) (by decide) (by decide)) (pg_sub (m_var rfl (.inl rfl) (by decide) (by decide)) (m_var rfl (.inl rfl) (by decide) (by decide)) set_list) rfl rfl rfl)
  (s_cons (s_ifs (m_tcmp isB_cmp (op_eqD (U (by decide) u)) b2_eq (m_var rfl (.inl rfl) (by decide) (by decide)) (m_str (small_line (by decide))) (nomark _)) (s_cons (s_put (m_bin op_addM b2_add (m_idx (m_var rfl (.inl rfl) (by decide) (by decide)) (m_bin op_addM b2_add m_int (m_var rfl (.inl rfl) (by decide) (by decide))) (fun _ _ => rfl)) (m_tup (m_cons (m_var rfl (.inl rfl) (by decide) (by decide)) m_nil rfl) (by decide))) (pg_sub (m_var rfl (.inl rfl) (by decide) (by decide)) (m_bin op_addM b2_add m_int (m_var rfl (.inl rfl) (by decide) (by decide))) set_list) rfl rfl rfl)
  s_nil) (s_cons (s_ifs (m_tcmp isB_cmp (op_eqD (U (by decide) u)) b2_eq (m_var rfl (.inl rfl) (by decide) (by decide)) (m_str (small_line (by decide))) (nomark _)) (s_cons (s_put (m_slc (m_idx (m_var rfl (.inl rfl) (by decide) (by decide)) (m_bin op_sub b2_sub m_int (m_var rfl (.inl rfl) (by decide) (by decide))) (fun _ _ => rfl)) (m_po1 m_int) m_po0) (pg_sub (m_var rfl (.inl rfl) (by decide) (by decide)) (m_bin op_sub b2_sub m_int (m_var rfl (.inl rfl) (by decide) (by decide))) set_list) rfl rfl rfl)
  s_nil) s_nil)
  s_nil))
  (s_cons (s_ret (m_bit (f := .tuple) call_tuple_of bi_tuple rfl (e.fr "tuple" rfl) rfl (m_cons (m_var rfl (.inl rfl) (by decide) (by decide)) m_nil rfl) (by decide) (by decide) rfl rfl))
  s_nil))))))
theorem body27 (e : EnvG P w K mg base fa fd d) {cdv : Value} {A : Around} {outer : List Env} {s : Shared} {H : Hp} {E : XK} (hcd : CodeAt K (ga K "can_be_done") "can_be_done" cdv) (hr : Room (3 * d + 2) (A.deeper (envOfC "can_be_done" (defScope (top 21)) s.heap.objs.size (ga K "can_be_done") cdv))) (hg : grT 27 → A.guards = some []) :
    PSs (cxOf (L2.CX P w) P w K mg base N27 "can_be_done" (defScope (top 21)) (ga K "can_be_done") cdv A outer s H E) (defBody (top 21)) (tSs K fa ⟨callF Pr Gc d, Gc⟩ (fun c d _ H => E c d H) b27) :=
  have nd := nd27
  have tk : Takes (cxOf (L2.CX P w) P w K mg base N27 "can_be_done" (defScope (top 21)) (ga K "can_be_done") cdv A outer s H E) (fun c d _ H => E c d H) := takes_of rfl rfl rfl rfl
  have po : PassesOwn (model P w) (A.deeper (envOfC "can_be_done" (defScope (top 21)) s.heap.objs.size (ga K "can_be_done") cdv)) (envOfC "can_be_done" (defScope (top 21)) s.heap.objs.size (ga K "can_be_done") cdv) (cxOf (L2.CX P w) P w K mg base N27 "can_be_done" (defScope (top 21)) (ga K "can_be_done") cdv A outer s H E).xe := passes_of rfl
  have u : (A.deeper (envOfC "can_be_done" (defScope (top 21)) s.heap.objs.size (ga K "can_be_done") cdv)).units + 70 < cLine := room70 hr
  have hr2 := hr
  have hr := hr.mono (show 3 * d ≤ 3 * d + 2 by omega)
  (s_cons (s_ifs (m_tcmp isB_cmp op_isnM b2_isn (m_call (f := 25) (e.f 25) rfl tk hr (fun z => z.elim) rfl (e.g 25 rfl) (e.k 25 rfl) (e.b 25 rfl) (m_cons (m_var rfl (.inl rfl) (by decide) (by decide)) (m_cons (m_var rfl (.inl rfl) (by decide) (by decide)) (m_cons (m_var rfl (.inl rfl) (by decide) (by decide)) m_nil rfl) rfl) rfl) (by decide) rfl rfl) m_non (nomark _)) (s_cons (s_ret m_bl)
  s_nil) s_nil)
  (s_cons (s_ret (m_cmp op_le b2_le (m_bif (f := .max) (cr_max rfl) bi_max rfl (e.fr "max" rfl) rfl (m_cons (m_comp (own := [("row", 3)]) (by decide)  rfl nd (m_iof (m_slc (m_call (f := 26) (e.f 26) rfl tk hr (fun z => z.elim) rfl (e.g 26 rfl) (e.k 26 rfl) (e.b 26 rfl) (m_cons (m_var rfl (.inl rfl) (by decide) (by decide)) (m_cons (m_var rfl (.inl rfl) (by decide) (by decide)) (m_cons (m_var rfl (.inl rfl) (by decide) (by decide)) m_nil rfl) rfl) rfl) (by decide) rfl rfl) (m_po1 m_int) m_po0)) (blkOk_by (N := N27) (sc := defScope (top 21)) (by decide +kernel)) (fun _ _ _ _ _ => (g_nm nd rfl (.inl rfl) (.inr rfl))) (fun _ _ _ _ _ => m_pts0) (fun _ _ _ _ _ => (m_bif (f := .len) cr_lenM bi_len rfl (e.fr "len" rfl) rfl (m_cons (m_var rfl (.inl rfl) (by decide) (by decide)) m_nil rfl) (by decide) (by decide) rfl rfl)) (fun _ => rfl)) m_nil rfl) (by decide) (by decide) rfl rfl) (m_glbC (n := 5) rfl (e.c 5 _ rfl) (by decide)) (nomark _)))
  s_nil))
theorem body28 (e : EnvG P w K mg base fa fd d) {cdv : Value} {A : Around} {outer : List Env} {s : Shared} {H : Hp} {E : XK} (hcd : CodeAt K (ga K "moves_at") "moves_at" cdv) (hr : Room (3 * d + 2) (A.deeper (envOfC "moves_at" (defScope (top 23)) s.heap.objs.size (ga K "moves_at") cdv))) (hg : grT 28 → A.guards = some []) :
    PSs (cxOf (L2.CX P w) P w K mg base N28 "moves_at" (defScope (top 23)) (ga K "moves_at") cdv A outer s H E) (defBody (top 23)) (tSs K fa ⟨callF Pr Gc d, Gc⟩ (fun c d _ H => E c d H) b28) :=
  have nd := nd28
  have tk : Takes (cxOf (L2.CX P w) P w K mg base N28 "moves_at" (defScope (top 23)) (ga K "moves_at") cdv A outer s H E) (fun c d _ H => E c d H) := takes_of rfl rfl rfl rfl
  have po : PassesOwn (model P w) (A.deeper (envOfC "moves_at" (defScope (top 23)) s.heap.objs.size (ga K "moves_at") cdv)) (envOfC "moves_at" (defScope (top 23)) s.heap.objs.size (ga K "moves_at") cdv) (cxOf (L2.CX P w) P w K mg base N28 "moves_at" (defScope (top 23)) (ga K "moves_at") cdv A outer s H E).xe := passes_of rfl
  have u : (A.deeper (envOfC "moves_at" (defScope (top 23)) s.heap.objs.size (ga K "moves_at") cdv)).units + 70 < cLine := room70 hr
  have hr2 := hr
  have hr := hr.mono (show 3 * d ≤ 3 * d + 2 by omega)
  (s_cons (s_ifs (m_tnot (m_tru (m_call (f := 20) (e.f 20) rfl tk hr (fun z => z.elim) rfl (e.g 20 rfl) (e.k 20 rfl) (e.b 20 rfl) (m_cons (m_var rfl (.inr (.inl rfl)) (by decide) (by decide)) (m_cons (m_var rfl (.inr (.inl rfl)) (by decide) (by decide)) m_nil rfl) rfl) (by decide) rfl rfl) (fun _ => rfl))) (s_cons (s_rai rfl tk PySem.F.excBase_ValueError (e.x 0 rfl).q (e.x 0 rfl).g (e.x 0 rfl).kp ((e.x 0 rfl).r rfl) rfl (by decide) (e.x 0 rfl).a)
  s_nil) s_nil)
  (s_cons (s_setLc2 (i := 2) (own := [("at", 3), ("side", 4), ("number", 5)]) (vs1 := [5]) (by decide) (by decide)  rfl nd rfl rfl (sw_true rfl rfl rfl rfl) (m_enm rfl (e.fr "enumerate" rfl) (m_cons (m_glbC (n := 4) rfl (e.c 4 _ rfl) (by decide)) m_nil rfl) rfl) (blkOk_by (N := N28) (sc := defScope (top 23)) (by decide +kernel)) (by decide) (fun _ _ _ _ _ => (g_tp rfl rfl (gs_cons (g_nm nd rfl (.inl rfl) (.inr rfl)) (gs_cons (g_nm nd rfl (.inl rfl) (.inr rfl)) gs_nil rfl) rfl) rfl rfl)) (fun _ _ _ _ _ => m_pts0) (fun _ _ _ _ _ => (m_rng1 rfl (e.fr "range" rfl) (m_cons (m_bif (f := .len) cr_lenM bi_len rfl (e.fr "len" rfl) rfl (m_cons (m_idx (m_idx (m_var rfl (.inr (.inl rfl)) (by decide) (by decide)) (m_var rfl (.inl rfl) (by decide) (by decide)) (fun _ _ => rfl)) m_int (fun _ _ => rfl)) m_nil rfl) (by decide) (by decide) rfl rfl) m_nil rfl) rfl)) (fun _ _ _ _ _ => (g_nm nd rfl (.inl rfl) (.inr rfl))) (fun _ _ _ _ _ => m_pts0) (fun _ _ _ _ _ => (m_tup (m_cons (m_var rfl (.inl rfl) (by decide) (by decide)) (m_cons (m_var rfl (.inl rfl) (by decide) (by decide)) m_nil rfl) rfl) (by decide))) (fun _ => rfl) (fun _ _ => rfl))
  (s_cons (s_ret (m_bit (f := .tuple) call_tuple_of bi_tuple rfl (e.fr "tuple" rfl) rfl (m_cons (m_comp (own := [("move", 6)]) (by decide)  rfl nd (m_iof (m_var rfl (.inl rfl) (by decide) (by decide))) (blkOk_by (N := N28) (sc := defScope (top 23)) (by decide +kernel)) (fun _ _ _ _ _ => (g_nm nd rfl (.inl rfl) (.inr rfl))) (fun _ _ _ _ _ => (let tk := LamX.takes0; (m_pts1 (m_tru (m_call (f := 27) (e.f 27) rfl tk hr (fun z => z.elim) rfl (e.g 27 rfl) (e.k 27 rfl) (e.b 27 rfl) (m_cons (m_var rfl (.inr (.inl rfl)) (by decide) (by decide)) (m_cons (m_var rfl (.inr (.inl rfl)) (by decide) (by decide)) (m_cons (m_var rfl (.inl rfl) (by decide) (by decide)) m_nil rfl) rfl) rfl) (by decide) rfl rfl) (fun _ => rfl))))) (fun _ _ _ _ _ => (m_var rfl (.inl rfl) (by decide) (by decide))) (fun _ => rfl)) m_nil rfl) (by decide) (by decide) rfl rfl))
  s_nil)))
theorem body29 (e : EnvG P w K mg base fa fd d) {cdv : Value} {A : Around} {outer : List Env} {s : Shared} {H : Hp} {E : XK} (hcd : CodeAt K (ga K "do") "do" cdv) (hr : Room (3 * d + 2) (A.deeper (envOfC "do" (defScope (top 22)) s.heap.objs.size (ga K "do") cdv))) (hg : grT 29 → A.guards = some []) :
    PSs (cxOf (L2.CX P w) P w K mg base N29 "do" (defScope (top 22)) (ga K "do") cdv A outer s H E) (defBody (top 22)) (tSs K fa ⟨callF Pr Gc d, Gc⟩ (fun c d _ H => E c d H) b29) :=
  have nd := nd29
  have tk : Takes (cxOf (L2.CX P w) P w K mg base N29 "do" (defScope (top 22)) (ga K "do") cdv A outer s H E) (fun c d _ H => E c d H) := takes_of rfl rfl rfl rfl
  have po : PassesOwn (model P w) (A.deeper (envOfC "do" (defScope (top 22)) s.heap.objs.size (ga K "do") cdv)) (envOfC "do" (defScope (top 22)) s.heap.objs.size (ga K "do") cdv) (cxOf (L2.CX P w) P w K mg base N29 "do" (defScope (top 22)) (ga K "do") cdv A outer s H E).xe := passes_of rfl
  have u : (A.deeper (envOfC "do" (defScope (top 22)) s.heap.objs.size (ga K "do") cdv)).units + 70 < cLine := room70 hr
  have hr2 := hr
  have hr := hr.mono (show 3 * d ≤ 3 * d + 2 by omega)
  (s_cons (s_ifs (PW.pt (m_tor (m_tnot (m_tru (m_call (f := 20) (e.f 20) rfl tk hr (fun z => z.elim) rfl (e.g 20 rfl) (e.k 20 rfl) (e.b 20 rfl) (m_cons (m_var rfl (.inl rfl) (by decide) (by decide)) (m_cons (m_var rfl (.inl rfl) (by decide) (by decide)) m_nil rfl) rfl) (by decide) rfl rfl) (fun _ => rfl))) (m_tor1 (m_tnot (m_tru (m_call (f := 24) (e.f 24) rfl tk hr (fun z => z.elim) rfl (e.g 24 rfl) (e.k 24 rfl) (e.b 24 rfl) (m_cons (m_var rfl (.inl rfl) (by decide) (by decide)) (m_cons (m_var rfl (.inl rfl) (by decide) (by decide)) m_nil rfl) rfl) (by decide) rfl rfl) (fun _ => rfl)))))) (s_cons (s_rai rfl tk PySem.F.excBase_ValueError (e.x 0 rfl).q (e.x 0 rfl).g (e.x 0 rfl).kp ((e.x 0 rfl).r rfl) rfl (by decide) (e.x 0 rfl).a)
  s_nil) s_nil)
  (s_cons (s_ret (m_ite (m_tru (m_call (f := 27) (e.f 27) rfl tk hr (fun z => z.elim) rfl (e.g 27 rfl) (e.k 27 rfl) (e.b 27 rfl) (m_cons (m_var rfl (.inl rfl) (by decide) (by decide)) (m_cons (m_var rfl (.inl rfl) (by decide) (by decide)) (m_cons (m_var rfl (.inl rfl) (by decide) (by decide)) m_nil rfl) rfl) rfl) (by decide) rfl rfl) (fun _ => rfl)) (m_call (f := 26) (e.f 26) rfl tk hr (fun z => z.elim) rfl (e.g 26 rfl) (e.k 26 rfl) (e.b 26 rfl) (m_cons (m_var rfl (.inl rfl) (by decide) (by decide)) (m_cons (m_var rfl (.inl rfl) (by decide) (by decide)) (m_cons (m_var rfl (.inl rfl) (by decide) (by decide)) m_nil rfl) rfl) rfl) (by decide) rfl rfl) m_non))
  s_nil))
theorem body30 (e : EnvG P w K mg base fa fd d) {tbl : Addr × Addr} (tb : TabE fa base mg K tbl) {cdv : Value} {A : Around} {outer : List Env} {s : Shared} {H : Hp} {E : XK} (hcd : CodeAt K (ga K "law") "law" cdv) (hr : Room (3 * d + 2) (A.deeper (envOfC "law" (defScope (top 44)) s.heap.objs.size (ga K "law") cdv))) (hg : grT 30 → A.guards = some []) :
    PSs (cxOf (L2.CX P w) P w K mg base N30 "law" (defScope (top 44)) (ga K "law") cdv A outer s H E) (defBody (top 44)) (tSs K fa ⟨callF Pr Gc d, Gc⟩ (fun c d _ H => E c d H) b30) :=
  have nd := nd30
  have tk : Takes (cxOf (L2.CX P w) P w K mg base N30 "law" (defScope (top 44)) (ga K "law") cdv A outer s H E) (fun c d _ H => E c d H) := takes_of rfl rfl rfl rfl
  have po : PassesOwn (model P w) (A.deeper (envOfC "law" (defScope (top 44)) s.heap.objs.size (ga K "law") cdv)) (envOfC "law" (defScope (top 44)) s.heap.objs.size (ga K "law") cdv) (cxOf (L2.CX P w) P w K mg base N30 "law" (defScope (top 44)) (ga K "law") cdv A outer s H E).xe := passes_of rfl
  have u : (A.deeper (envOfC "law" (defScope (top 44)) s.heap.objs.size (ga K "law") cdv)).units + 70 < cLine := room70 hr
  have hr2 := hr
  have hr := hr.mono (show 3 * d ≤ 3 * d + 2 by omega)
  have hgr : True → (A.deeper (envOfC "law" (defScope (top 44)) s.heap.objs.size (ga K "law") cdv)).guards = some [] := fun z => hg z
  (s_cons (s_set (m_call (f := 0) (e.f 0) rfl tk hr (fun z => z.elim) rfl (e.g 0 rfl) (e.k 0 rfl) (e.b 0 rfl) (m_cons (m_var rfl (.inl rfl) (by decide) (by decide)) m_nil rfl) (by decide) rfl rfl) (g_nm nd rfl (.inr rfl) (.inl rfl)) rfl rfl rfl)
  (s_cons (s_ifs (m_tnot (m_tru (m_call (f := 1) (e.f 1) rfl tk hr (fun _ => hg trivial) rfl (e.g 1 rfl) (e.k 1 rfl) (e.b 1 rfl) (m_cons (m_call0 (f := 15) (e.f 15) rfl tk hr (fun z => z.elim) rfl (e.g 15 rfl) (e.k 15 rfl) (e.b 15 rfl) (by decide)) (m_cons (m_tup (m_cons m_int (m_cons m_int (m_cons (m_tup m_nil (by decide)) (m_cons (m_tup m_nil (by decide)) m_nil rfl) rfl) rfl) rfl) (by decide)) m_nil rfl) rfl) (by decide) rfl rfl) (fun _ => rfl))) (s_cons (s_ret m_bl)
  s_nil) s_nil)
  (s_cons (s_fr po rfl (m_rng1 rfl (e.fr "range" rfl) (m_cons m_int m_nil rfl) rfl) (g_nm nd rfl (.inl rfl) (.inl rfl)) (s_cons (s_set (m_call (f := 10) (e.f 10) rfl tk hr (fun z => z.elim) rfl (e.g 10 rfl) (e.k 10 rfl) (e.b 10 rfl) (m_cons (m_var rfl (.inr (.inl rfl)) (by decide) (by decide)) m_nil rfl) (by decide) rfl rfl) (g_nm nd rfl (.inr rfl) (.inl rfl)) rfl rfl rfl)
  (s_cons (s_set (m_call (f := 14) (e.f 14) rfl tk hr (fun z => z.elim) rfl (e.g 14 rfl) (e.k 14 rfl) (e.b 14 rfl) (m_cons (m_var rfl (.inr (.inl rfl)) (by decide) (by decide)) (m_cons (m_var rfl (.inr (.inl rfl)) (by decide) (by decide)) (m_cons m_int (m_cons m_int m_nil rfl) rfl) rfl) rfl) (by decide) rfl rfl) (g_nm nd rfl (.inl rfl) (.inl rfl)) rfl rfl rfl)
  (s_cons (s_set (m_lst (m_cons (m_tup m_nil (by decide)) (m_cons (m_tup (m_cons (m_str (small_line (by decide))) m_nil rfl) (by decide)) (m_cons (m_tup (m_cons (m_str (small_line (by decide))) (m_cons (m_str (small_line (by decide))) m_nil rfl) rfl) (by decide)) (m_cons (m_tup (m_cons (m_str (small_line (by decide))) (m_cons (m_str (small_line (by decide))) (m_cons (m_str (small_line (by decide))) m_nil rfl) rfl) rfl) (by decide)) m_nil rfl) rfl) rfl) rfl) (by decide)) (g_nm nd rfl (.inr rfl) (.inl rfl)) rfl rfl rfl)
  (s_cons (s_set (m_bin op_addM b2_add (m_slc (m_call (f := 23) (e.f 23) rfl tk hr (fun z => z.elim) rfl (e.g 23 rfl) (e.k 23 rfl) (e.b 23 rfl) (m_cons (m_var rfl (.inr (.inl rfl)) (by decide) (by decide)) (m_cons (m_var rfl (.inl rfl) (by decide) (by decide)) m_nil rfl) rfl) (by decide) rfl rfl) (m_po1 (m_neg m_int)) m_po0) (m_comp (own := [("turn", 17)]) (by decide)  rfl nd (m_rng1 rfl (e.fr "range" rfl) (m_cons m_int m_nil rfl) rfl) (blkOk_by (N := N30) (sc := defScope (top 44)) (by decide +kernel)) (fun _ _ _ _ _ => (g_nm nd rfl (.inl rfl) (.inr rfl))) (fun _ _ _ _ _ => m_pts0) (fun _ _ _ _ _ => (let tk := LamX.takes0; (m_tup (m_cons (m_call (f := 2) (e.f 2) rfl tk hr (fun z => z.elim) rfl (e.g 2 rfl) (e.k 2 rfl) (e.b 2 rfl) (m_cons (m_var rfl (.inr (.inl rfl)) (by decide) (by decide)) (m_cons (m_idx (m_idx (m_var rfl (.inr (.inl rfl)) (by decide) (by decide)) m_int (fun _ _ => rfl)) m_int (fun _ _ => rfl)) m_nil rfl) rfl) (by decide) rfl rfl) (m_cons (m_call (f := 2) (e.f 2) rfl tk hr (fun z => z.elim) rfl (e.g 2 rfl) (e.k 2 rfl) (e.b 2 rfl) (m_cons (m_var rfl (.inr (.inl rfl)) (by decide) (by decide)) (m_cons (m_idx (m_idx (m_var rfl (.inr (.inl rfl)) (by decide) (by decide)) m_int (fun _ _ => rfl)) m_int (fun _ _ => rfl)) m_nil rfl) rfl) (by decide) rfl rfl) (m_cons (m_call (f := 3) (e.f 3) rfl tk hr (fun z => z.elim) rfl (e.g 3 rfl) (e.k 3 rfl) (e.b 3 rfl) (m_cons (m_var rfl (.inr (.inl rfl)) (by decide) (by decide)) (m_cons (m_var rfl (.inr (.inl rfl)) (by decide) (by decide)) m_nil rfl) rfl) (by decide) rfl rfl) (m_cons (m_call (f := 3) (e.f 3) rfl tk hr (fun z => z.elim) rfl (e.g 3 rfl) (e.k 3 rfl) (e.b 3 rfl) (m_cons (m_var rfl (.inr (.inl rfl)) (by decide) (by decide)) (m_cons (m_var rfl (.inr (.inl rfl)) (by decide) (by decide)) m_nil rfl) rfl) (by decide) rfl rfl) m_nil rfl) rfl) rfl) rfl) (by decide)))) (fun _ => rfl))) (g_nm nd rfl (.inr rfl) (.inl rfl)) rfl rfl rfl)
  (s_cons (s_fr po rfl (m_iof (m_var rfl (.inr (.inl rfl)) (by decide) (by decide))) (g_nm nd rfl (.inl rfl) (.inl rfl)) (s_cons (s_set (m_bif (f := .repr) (cr_repr (hgr trivial) (U (by decide) u)) bi_repr rfl (e.fr "repr" rfl) rfl (m_cons (m_var rfl (.inl rfl) (by decide) (by decide)) m_nil rfl) (by decide) (by decide) rfl rfl) (g_nm nd rfl (.inl rfl) (.inl rfl)) rfl rfl rfl)
  (s_cons (s_ifs (m_tnot (m_tru (m_call (f := 1) (e.f 1) rfl tk hr (fun _ => hg trivial) rfl (e.g 1 rfl) (e.k 1 rfl) (e.b 1 rfl) (m_cons (m_lst (m_cons (m_call (f := 20) (e.f 20) rfl tk hr (fun z => z.elim) rfl (e.g 20 rfl) (e.k 20 rfl) (e.b 20 rfl) (m_cons (m_var rfl (.inr (.inl rfl)) (by decide) (by decide)) (m_cons (m_var rfl (.inl rfl) (by decide) (by decide)) m_nil rfl) rfl) (by decide) rfl rfl) (m_cons (m_call (f := 28) (e.f 28) rfl tk hr (fun z => z.elim) rfl (e.g 28 rfl) (e.k 28 rfl) (e.b 28 rfl) (m_cons (m_var rfl (.inr (.inl rfl)) (by decide) (by decide)) (m_cons (m_var rfl (.inl rfl) (by decide) (by decide)) m_nil rfl) rfl) (by decide) rfl rfl) m_nil rfl) rfl) (by decide)) (m_cons (m_lst (m_cons m_bl (m_cons (m_bit (f := .tuple) call_tuple_of bi_tuple rfl (e.fr "tuple" rfl) rfl (m_cons (m_call (f := 13) (e.f 13) rfl tk hr (fun z => z.elim) rfl (e.g 13 rfl) (e.k 13 rfl) (e.b 13 rfl) (m_cons (m_var rfl (.inr (.inl rfl)) (by decide) (by decide)) (m_cons (m_var rfl (.inl rfl) (by decide) (by decide)) m_nil rfl) rfl) (by decide) rfl rfl) m_nil rfl) (by decide) (by decide) rfl rfl) m_nil rfl) rfl) (by decide)) m_nil rfl) rfl) (by decide) rfl rfl) (fun _ => rfl))) (s_cons (s_ret m_bl)
  s_nil) s_nil)
  (s_cons (s_fr po rfl (m_iof (m_call (f := 11) (e.f 11) rfl tk hr (fun z => z.elim) rfl (e.g 11 rfl) (e.k 11 rfl) (e.b 11 rfl) (m_cons (m_var rfl (.inr (.inl rfl)) (by decide) (by decide)) m_nil rfl) (by decide) rfl rfl)) (g_nm nd rfl (.inl rfl) (.inl rfl)) (s_cons (s_ifs (PW.pt (m_tor (m_tnot (m_tru (m_call (f := 1) (e.f 1) rfl tk hr (fun _ => hg trivial) rfl (e.g 1 rfl) (e.k 1 rfl) (e.b 1 rfl) (m_cons (m_lst (m_cons (m_call (f := 24) (e.f 24) rfl tk hr (fun z => z.elim) rfl (e.g 24 rfl) (e.k 24 rfl) (e.b 24 rfl) (m_cons (m_var rfl (.inr (.inl rfl)) (by decide) (by decide)) (m_cons (m_var rfl (.inl rfl) (by decide) (by decide)) m_nil rfl) rfl) (by decide) rfl rfl) (m_cons (m_call (f := 29) (e.f 29) rfl tk hr (fun z => z.elim) rfl (e.g 29 rfl) (e.k 29 rfl) (e.b 29 rfl) (m_cons (m_var rfl (.inr (.inl rfl)) (by decide) (by decide)) (m_cons (m_var rfl (.inl rfl) (by decide) (by decide)) (m_cons (m_var rfl (.inl rfl) (by decide) (by decide)) m_nil rfl) rfl) rfl) (by decide) rfl rfl) m_nil rfl) rfl) (by decide)) (m_cons (m_lst (m_cons m_bl (m_cons (m_call (f := 12) (e.f 12) rfl tk hr (fun z => z.elim) rfl (e.g 12 rfl) (e.k 12 rfl) (e.b 12 rfl) (m_cons (m_var rfl (.inr (.inl rfl)) (by decide) (by decide)) (m_cons (m_var rfl (.inl rfl) (by decide) (by decide)) (m_cons (m_var rfl (.inl rfl) (by decide) (by decide)) m_nil rfl) rfl) rfl) (by decide) rfl rfl) m_nil rfl) rfl) (by decide)) m_nil rfl) rfl) (by decide) rfl rfl) (fun _ => rfl))) (m_tor1 (m_tcmp isB_cmp (op_neD (U (by decide) u)) b2_ne (m_bif (f := .repr) (cr_repr (hgr trivial) (U (by decide) u)) bi_repr rfl (e.fr "repr" rfl) rfl (m_cons (m_var rfl (.inl rfl) (by decide) (by decide)) m_nil rfl) (by decide) (by decide) rfl rfl) (m_var rfl (.inl rfl) (by decide) (by decide)) (nomark _))))) (s_cons (s_ret m_bl)
  s_nil) s_nil)
  s_nil) (fun _ => rfl))
  s_nil))) (fun _ => rfl))
  (s_cons (s_set (m_idx (m_var rfl (.inr (.inl rfl)) (by decide) (by decide)) m_int (fun _ _ => rfl)) (g_tp rfl rfl (gs_cons (g_nm nd rfl (.inl rfl) (.inl rfl)) (gs_cons (g_nm nd rfl (.inl rfl) (.inl rfl)) (gs_cons (g_nm nd rfl (.inl rfl) (.inl rfl)) (gs_cons (g_nm nd rfl (.inl rfl) (.inl rfl)) gs_nil rfl) rfl) rfl) rfl) rfl rfl) rfl rfl rfl)
  (s_cons (s_set (m_lst (m_cons m_non (m_cons (m_tup m_nil (by decide)) (m_cons (m_bit (f := .list) call_list_of bi_list rfl (e.fr "list" rfl) rfl (m_cons (m_idx (m_var rfl (.inr (.inl rfl)) (by decide) (by decide)) m_int (fun _ _ => rfl)) m_nil rfl) (by decide) (by decide) rfl rfl) (m_cons (m_tup (m_cons (m_var rfl (.inl rfl) (by decide) (by decide)) (m_cons (m_var rfl (.inl rfl) (by decide) (by decide)) (m_cons (m_var rfl (.inl rfl) (by decide) (by decide)) m_nil rfl) rfl) rfl) (by decide)) (m_cons (m_tup (m_cons (m_var rfl (.inl rfl) (by decide) (by decide)) (m_cons (m_var rfl (.inl rfl) (by decide) (by decide)) (m_cons (m_var rfl (.inl rfl) (by decide) (by decide)) (m_cons (m_var rfl (.inl rfl) (by decide) (by decide)) (m_cons (m_tup m_nil (by decide)) m_nil rfl) rfl) rfl) rfl) rfl) (by decide)) (m_cons (m_tup (m_cons (m_idx (m_idx (m_var rfl (.inr (.inl rfl)) (by decide) (by decide)) m_int (fun _ _ => rfl)) m_int (fun _ _ => rfl)) (m_cons (m_var rfl (.inl rfl) (by decide) (by decide)) (m_cons (m_var rfl (.inl rfl) (by decide) (by decide)) (m_cons (m_var rfl (.inl rfl) (by decide) (by decide)) m_nil rfl) rfl) rfl) rfl) (by decide)) (m_cons (m_tup (m_cons (m_var rfl (.inl rfl) (by decide) (by decide)) (m_cons (m_idx (m_idx (m_var rfl (.inr (.inl rfl)) (by decide) (by decide)) m_int (fun _ _ => rfl)) m_int (fun _ _ => rfl)) (m_cons (m_var rfl (.inl rfl) (by decide) (by decide)) (m_cons (m_var rfl (.inl rfl) (by decide) (by decide)) m_nil rfl) rfl) rfl) rfl) (by decide)) (m_cons (m_tup (m_cons m_bl (m_cons (m_var rfl (.inl rfl) (by decide) (by decide)) (m_cons (m_var rfl (.inl rfl) (by decide) (by decide)) (m_cons (m_var rfl (.inl rfl) (by decide) (by decide)) m_nil rfl) rfl) rfl) rfl) (by decide)) (m_cons (m_tup (m_cons (m_neg m_int) (m_cons (m_var rfl (.inl rfl) (by decide) (by decide)) (m_cons (m_var rfl (.inl rfl) (by decide) (by decide)) (m_cons (m_var rfl (.inl rfl) (by decide) (by decide)) m_nil rfl) rfl) rfl) rfl) (by decide)) (m_cons (m_tup (m_cons (m_var rfl (.inl rfl) (by decide) (by decide)) (m_cons (m_var rfl (.inl rfl) (by decide) (by decide)) (m_cons (m_bit (f := .list) call_list_of bi_list rfl (e.fr "list" rfl) rfl (m_cons (m_var rfl (.inl rfl) (by decide) (by decide)) m_nil rfl) (by decide) (by decide) rfl rfl) (m_cons (m_var rfl (.inl rfl) (by decide) (by decide)) m_nil rfl) rfl) rfl) rfl) (by decide)) m_nil rfl) rfl) rfl) rfl) rfl) rfl) rfl) rfl) rfl) rfl) (by decide)) (g_nm nd rfl (.inl rfl) (.inl rfl)) rfl rfl rfl)
  (s_cons (s_set (m_bin op_addM b2_add (m_var rfl (.inl rfl) (by decide) (by decide)) (m_lst (m_cons (m_tup (m_cons (m_var rfl (.inl rfl) (by decide) (by decide)) (m_cons (m_var rfl (.inl rfl) (by decide) (by decide)) (m_cons (m_tup (m_cons (m_str (small_line (by decide))) m_nil rfl) (by decide)) (m_cons (m_var rfl (.inl rfl) (by decide) (by decide)) m_nil rfl) rfl) rfl) rfl) (by decide)) (m_cons (m_tup (m_cons (m_var rfl (.inl rfl) (by decide) (by decide)) (m_cons (m_var rfl (.inl rfl) (by decide) (by decide)) (m_cons (m_tup (m_cons m_int m_nil rfl) (by decide)) (m_cons (m_var rfl (.inl rfl) (by decide) (by decide)) m_nil rfl) rfl) rfl) rfl) (by decide)) (m_cons (m_tup (m_cons (m_var rfl (.inl rfl) (by decide) (by decide)) (m_cons (m_var rfl (.inl rfl) (by decide) (by decide)) (m_cons (m_var rfl (.inl rfl) (by decide) (by decide)) (m_cons m_non m_nil rfl) rfl) rfl) rfl) (by decide)) (m_cons (m_tup (m_cons (m_var rfl (.inl rfl) (by decide) (by decide)) (m_cons (m_var rfl (.inl rfl) (by decide) (by decide)) (m_cons (m_tup (m_cons (m_str (small_line (by decide))) m_nil rfl) (by decide)) (m_cons (m_var rfl (.inl rfl) (by decide) (by decide)) m_nil rfl) rfl) rfl) rfl) (by decide)) (m_cons (m_tup (m_cons (m_var rfl (.inl rfl) (by decide) (by decide)) (m_cons (m_var rfl (.inl rfl) (by decide) (by decide)) (m_cons (m_bin op_mulM b2_mul (m_tup (m_cons (m_str (small_line (by decide))) m_nil rfl) (by decide)) m_int) (m_cons (m_var rfl (.inl rfl) (by decide) (by decide)) m_nil rfl) rfl) rfl) rfl) (by decide)) m_nil rfl) rfl) rfl) rfl) rfl) (by decide))) (g_nm nd rfl (.inl rfl) (.inl rfl)) rfl rfl rfl)
  (s_cons (s_fr po rfl (m_iof (m_var rfl (.inl rfl) (by decide) (by decide))) (g_nm nd rfl (.inr rfl) (.inl rfl)) (s_cons (s_set (m_newl (m_cons (toldW e tb hcd hr2 (fun _ _ _ _ _ _ _ tk hr u => (m_call (f := 28) (e.f 28) rfl tk hr (fun z => z.elim) rfl (e.g 28 rfl) (e.k 28 rfl) (e.b 28 rfl) (m_cons (m_var rfl (.inr (.inr rfl)) (by decide) (by decide)) (m_cons (m_var rfl (.inr (.inr rfl)) (by decide) (by decide)) m_nil rfl) rfl) (by decide) rfl rfl)) (by decide +kernel) rfl (fun _ _ _ _ _ => rfl)) m_nil rfl) (by decide)) (g_nm nd rfl (.inl rfl) (.inl rfl)) rfl rfl rfl)
  (s_cons (s_ex (m_meth me_append PySem.F.plainAttrs_list PySem.F.slot_list_append PySem.F.type_list_append mt_append (m_var rfl (.inl rfl) (by decide) (by decide)) (m_cons (toldW e tb hcd hr2 (fun _ _ _ _ _ _ _ tk hr u => (m_call (f := 29) (e.f 29) rfl tk hr (fun z => z.elim) rfl (e.g 29 rfl) (e.k 29 rfl) (e.b 29 rfl) (m_cons (m_var rfl (.inr (.inr rfl)) (by decide) (by decide)) (m_cons (m_var rfl (.inr (.inr rfl)) (by decide) (by decide)) (m_cons (m_tup (m_cons (m_str (small_line (by decide))) (m_cons m_int m_nil rfl) rfl) (by decide)) m_nil rfl) rfl) rfl) (by decide) rfl rfl)) (by decide +kernel) rfl (fun _ _ _ _ _ => rfl)) m_nil rfl) rfl rfl rfl rfl rfl) rfl)
  (s_cons (s_ifs (PW.pt (m_tor (m_tcmp isB_cmp op_isnM b2_isn (m_call (f := 20) (e.f 20) rfl tk hr (fun z => z.elim) rfl (e.g 20 rfl) (e.k 20 rfl) (e.b 20 rfl) (m_cons (m_var rfl (.inr (.inl rfl)) (by decide) (by decide)) (m_cons (m_var rfl (.inr (.inl rfl)) (by decide) (by decide)) m_nil rfl) rfl) (by decide) rfl rfl) m_bl (nomark _)) (m_tor1 (m_tcmp isB_cmp (op_neD (U (by decide) u)) b2_ne (m_var rfl (.inl rfl) (by decide) (by decide)) (m_bin op_mulM b2_mul (m_lst (m_cons (m_tup (m_cons (m_str (small_line (by decide))) m_nil rfl) (by decide)) m_nil rfl) (by decide)) m_int) (nomark _))))) (s_cons (s_ret m_bl)
  s_nil) s_nil)
  s_nil))) (fun _ => rfl))
  (s_cons (s_fr po rfl (m_iof (m_lst (m_cons m_non (m_cons (m_tup m_nil (by decide)) (m_cons (m_tup (m_cons (m_str (small_line (by decide))) m_nil rfl) (by decide)) (m_cons (m_lst (m_cons (m_str (small_line (by decide))) (m_cons m_int m_nil rfl) rfl) (by decide)) (m_cons (m_tup (m_cons (m_str (small_line (by decide))) (m_cons m_int m_nil rfl) rfl) (by decide)) (m_cons (m_tup (m_cons (m_str (small_line (by decide))) (m_cons (m_bif (f := .len) cr_lenM bi_len rfl (e.fr "len" rfl) rfl (m_cons (m_idx (m_idx (m_var rfl (.inr (.inl rfl)) (by decide) (by decide)) m_int (fun _ _ => rfl)) m_int (fun _ _ => rfl)) m_nil rfl) (by decide) (by decide) rfl rfl) m_nil rfl) rfl) (by decide)) (m_cons (m_tup (m_cons (m_str (small_line (by decide))) (m_cons (m_bif (f := .len) cr_lenM bi_len rfl (e.fr "len" rfl) rfl (m_cons (m_idx (m_idx (m_var rfl (.inr (.inl rfl)) (by decide) (by decide)) m_int (fun _ _ => rfl)) m_int (fun _ _ => rfl)) m_nil rfl) (by decide) (by decide) rfl rfl) m_nil rfl) rfl) (by decide)) (m_cons (m_tup (m_cons (m_str (small_line (by decide))) (m_cons m_bl m_nil rfl) rfl) (by decide)) (m_cons (m_tup (m_cons (m_str (small_line (by decide))) (m_cons (m_neg m_int) m_nil rfl) rfl) (by decide)) (m_cons (m_tup (m_cons m_int (m_cons m_int m_nil rfl) rfl) (by decide)) (m_cons (m_tup (m_cons (m_str (small_line (by decide))) (m_cons m_int (m_cons m_int m_nil rfl) rfl) rfl) (by decide)) (m_cons (m_tup (m_cons (m_str (small_line (by decide))) (m_cons m_non m_nil rfl) rfl) (by decide)) m_nil rfl) rfl) rfl) rfl) rfl) rfl) rfl) rfl) rfl) rfl) rfl) rfl) (by decide))) (g_nm nd rfl (.inr rfl) (.inl rfl)) (s_cons (s_ifs (PW.pt (m_tor (m_tcmp isB_cmp (op_neD (U (by decide) u)) b2_ne (m_call (f := 24) (e.f 24) rfl tk hr (fun z => z.elim) rfl (e.g 24 rfl) (e.k 24 rfl) (e.b 24 rfl) (m_cons (m_var rfl (.inr (.inl rfl)) (by decide) (by decide)) (m_cons (m_var rfl (.inr (.inl rfl)) (by decide) (by decide)) m_nil rfl) rfl) (by decide) rfl rfl) (m_call (f := 22) (e.f 22) rfl tk hr (fun z => z.elim) rfl (e.g 22 rfl) (e.k 22 rfl) (e.b 22 rfl) (m_cons (m_var rfl (.inr (.inl rfl)) (by decide) (by decide)) (m_cons (m_var rfl (.inr (.inl rfl)) (by decide) (by decide)) m_nil rfl) rfl) (by decide) rfl rfl) (nomark _)) (m_tor1 (m_tcmp isB_cmp (op_neD (U (by decide) u)) b2_ne (toldW e tb hcd hr2 (fun _ _ _ _ _ _ _ tk hr u => (m_call (f := 29) (e.f 29) rfl tk hr (fun z => z.elim) rfl (e.g 29 rfl) (e.k 29 rfl) (e.b 29 rfl) (m_cons (m_var rfl (.inr (.inr rfl)) (by decide) (by decide)) (m_cons (m_idx (m_var rfl (.inr (.inr rfl)) (by decide) (by decide)) m_int (fun _ _ => rfl)) (m_cons (m_var rfl (.inr (.inr rfl)) (by decide) (by decide)) m_nil rfl) rfl) rfl) (by decide) rfl rfl)) (by decide +kernel) rfl (fun _ _ _ _ _ => rfl)) (m_tup (m_cons (m_str (small_line (by decide))) m_nil rfl) (by decide)) (nomark _))))) (s_cons (s_ret m_bl)
  s_nil) s_nil)
  s_nil) (fun _ => rfl))
  (s_cons (s_ifs (m_tcmp isB_cmp op_isnM b2_isn (m_call (f := 20) (e.f 20) rfl tk hr (fun z => z.elim) rfl (e.g 20 rfl) (e.k 20 rfl) (e.b 20 rfl) (m_cons (m_var rfl (.inr (.inl rfl)) (by decide) (by decide)) (m_cons (m_tup (m_cons (m_var rfl (.inl rfl) (by decide) (by decide)) (m_cons (m_var rfl (.inl rfl) (by decide) (by decide)) (m_cons (m_bin op_mulM b2_mul (m_tup (m_cons (m_str (small_line (by decide))) m_nil rfl) (by decide)) m_int) (m_cons (m_var rfl (.inl rfl) (by decide) (by decide)) m_nil rfl) rfl) rfl) rfl) (by decide)) m_nil rfl) rfl) (by decide) rfl rfl) m_bl (nomark _)) (s_cons (s_ret m_bl)
  s_nil) s_nil)
  s_nil))))))))))) (fun _ => rfl))
  (s_cons (s_ret m_bl)
  s_nil))))
end
end MP

set_option Elab.async false
set_option linter.all false
set_option maxRecDepth 100000
set_option maxHeartbeats 4000000
namespace MP
open PySem PySem.Spec PyProof.Rows L2 He
theorem fnG_stuck {P : Program} {w : World} {K : PySem.W.Frag} {mg : Str → Option Value} {base : Heap} {fa : FA} {gr : Prop} {k : Nat} {f : Addr} {fd : FuncData} {ps : List Str} {F : List MV → AH → R MV} (h : ∀ args h, F args h = .stuck) : FnG P w K mg base gr k f fd ps (spM K fa ps.length F) :=
  ⟨fun vs H Q E q => q.1, fun A outer s H args us vs Q E _ _ _ _ _ ⟨_, L, h', ar, _, _, o⟩ => by
    rw [h] at o
    exact o.elim⟩
theorem sc0 : FnScope N0 (psT 0) (defScope (top 25)) := ⟨rfl, rfl, rfl, nd0, rfl, by decide +kernel, by decide +kernel⟩
theorem sc1 : FnScope N1 (psT 1) (defScope (top 28)) := ⟨rfl, rfl, rfl, nd1, rfl, by decide +kernel, by decide +kernel⟩
theorem sc2 : FnScope N2 (psT 2) (defScope (top 26)) := ⟨rfl, rfl, rfl, nd2, rfl, by decide +kernel, by decide +kernel⟩
theorem sc3 : FnScope N3 (psT 3) (defScope (top 27)) := ⟨rfl, rfl, rfl, nd3, rfl, by decide +kernel, by decide +kernel⟩
theorem sc4 : FnScope N4 (psT 4) (defScope (top 31)) := ⟨rfl, rfl, rfl, nd4, rfl, by decide +kernel, by decide +kernel⟩
theorem sc5 : FnScope N5 (psT 5) (defScope (top 32)) := ⟨rfl, rfl, rfl, nd5, rfl, by decide +kernel, by decide +kernel⟩
theorem sc6 : FnScope N6 (psT 6) (defScope (top 33)) := ⟨rfl, rfl, rfl, nd6, rfl, by decide +kernel, by decide +kernel⟩
theorem sc7 : FnScope N7 (psT 7) (defScope (top 30)) := ⟨rfl, rfl, rfl, nd7, rfl, by decide +kernel, by decide +kernel⟩
theorem sc8 : FnScope N8 (psT 8) (defScope (top 41)) := ⟨rfl, rfl, rfl, nd8, rfl, by decide +kernel, by decide +kernel⟩
theorem sc9 : FnScope N9 (psT 9) (defScope (top 29)) := ⟨rfl, rfl, rfl, nd9, rfl, by decide +kernel, by decide +kernel⟩
theorem sc10 : FnScope N10 (psT 10) (defScope (top 42)) := ⟨rfl, rfl, rfl, nd10, rfl, by decide +kernel, by decide +kernel⟩
theorem sc11 : FnScope N11 (psT 11) (defScope (top 35)) := ⟨rfl, rfl, rfl, nd11, rfl, by decide +kernel, by decide +kernel⟩
theorem sc12 : FnScope N12 (psT 12) (defScope (top 34)) := ⟨rfl, rfl, rfl, nd12, rfl, by decide +kernel, by decide +kernel⟩
theorem sc13 : FnScope N13 (psT 13) (defScope (top 38)) := ⟨rfl, rfl, rfl, nd13, rfl, by decide +kernel, by decide +kernel⟩
theorem sc14 : FnScope N14 (psT 14) (defScope (top 40)) := ⟨rfl, rfl, rfl, nd14, rfl, by decide +kernel, by decide +kernel⟩
theorem sc15 : FnScope N15 (psT 15) (defScope (top 18)) := ⟨rfl, rfl, rfl, nd15, rfl, by decide +kernel, by decide +kernel⟩
theorem sc16 : FnScope N16 (psT 16) (defScope (top 11)) := ⟨rfl, rfl, rfl, nd16, rfl, by decide +kernel, by decide +kernel⟩
theorem sc17 : FnScope N17 (psT 17) (defScope (top 16)) := ⟨rfl, rfl, rfl, nd17, rfl, by decide +kernel, by decide +kernel⟩
theorem sc18 : FnScope N18 (psT 18) (defScope (top 9)) := ⟨rfl, rfl, rfl, nd18, rfl, by decide +kernel, by decide +kernel⟩
theorem sc19 : FnScope N19 (psT 19) (defScope (top 10)) := ⟨rfl, rfl, rfl, nd19, rfl, by decide +kernel, by decide +kernel⟩
theorem sc20 : FnScope N20 (psT 20) (defScope (top 17)) := ⟨rfl, rfl, rfl, nd20, rfl, by decide +kernel, by decide +kernel⟩
theorem sc21 : FnScope N21 (psT 21) (defScope (top 36)) := ⟨rfl, rfl, rfl, nd21, rfl, by decide +kernel, by decide +kernel⟩
theorem sc22 : FnScope N22 (psT 22) (defScope (top 37)) := ⟨rfl, rfl, rfl, nd22, rfl, by decide +kernel, by decide +kernel⟩
theorem sc23 : FnScope N23 (psT 23) (defScope (top 39)) := ⟨rfl, rfl, rfl, nd23, rfl, by decide +kernel, by decide +kernel⟩
theorem sc24 : FnScope N24 (psT 24) (defScope (top 15)) := ⟨rfl, rfl, rfl, nd24, rfl, by decide +kernel, by decide +kernel⟩
theorem sc25 : FnScope N25 (psT 25) (defScope (top 19)) := ⟨rfl, rfl, rfl, nd25, rfl, by decide +kernel, by decide +kernel⟩
theorem sc26 : FnScope N26 (psT 26) (defScope (top 20)) := ⟨rfl, rfl, rfl, nd26, rfl, by decide +kernel, by decide +kernel⟩
theorem sc27 : FnScope N27 (psT 27) (defScope (top 21)) := ⟨rfl, rfl, rfl, nd27, rfl, by decide +kernel, by decide +kernel⟩
theorem sc28 : FnScope N28 (psT 28) (defScope (top 23)) := ⟨rfl, rfl, rfl, nd28, rfl, by decide +kernel, by decide +kernel⟩
theorem sc29 : FnScope N29 (psT 29) (defScope (top 22)) := ⟨rfl, rfl, rfl, nd29, rfl, by decide +kernel, by decide +kernel⟩
theorem sc30 : FnScope N30 (psT 30) (defScope (top 44)) := ⟨rfl, rfl, rfl, nd30, rfl, by decide +kernel, by decide +kernel⟩
def mkD (i : Nat) (x : PySem.Str) : He.DefD := ⟨(x, none), x, x, defArgs (top i), defBody (top i), defScope (top i), [], []⟩
def fnL : List He.DefD := [mkD 25 "_law_bag", mkD 28 "_law_alike", mkD 26 "_law_take", mkD 27 "_law_some", mkD 31 "_law_couples", mkD 32 "_law_sends", mkD 33 "_law_first_duel", mkD 30 "_law_without", mkD 41 "_law_any_move", mkD 29 "_law_turned_side", mkD 42 "_law_talk_pair", mkD 35 "_law_acts", mkD 34 "_law_do", mkD 38 "_law_moves_at", mkD 40 "_law_drawn_run", mkD 18 "begin", mkD 11 "is_name", mkD 16 "is_row", mkD 9 "is_number", mkD 10 "is_index", mkD 17 "is_configuration", mkD 36 "_law_is_int", mkD 37 "_law_is_move", mkD 39 "_law_played", mkD 15 "is_move", mkD 19 "fault_of", mkD 20 "behind", mkD 21 "can_be_done", mkD 23 "moves_at", mkD 22 "do", mkD 44 "law", mkD 43 "_law_heard"]
def faL0 : List He.Fa := [.glo "_law_bag", .glo "_law_alike", .glo "_law_take", .glo "_law_some", .glo "_law_couples", .glo "_law_sends", .glo "_law_first_duel", .glo "_law_without", .glo "_law_any_move", .glo "_law_turned_side", .glo "_law_talk_pair", .glo "_law_acts", .glo "_law_do", .glo "_law_moves_at", .glo "_law_drawn_run", .glo "begin", .glo "is_name", .glo "is_row", .glo "is_number", .glo "is_index", .glo "is_configuration", .glo "_law_is_int", .glo "_law_is_move", .glo "_law_played", .glo "is_move", .glo "fault_of", .glo "behind", .glo "can_be_done", .glo "moves_at", .glo "do"]
def faL1 : List He.Fa := [.glo "law", .glo "_law_heard", .free "abs", .free "all", .free "bool", .free "dict", .free "enumerate", .free "int", .free "isinstance", .free "len", .free "list", .free "max", .free "range", .free "repr", .free "sorted", .free "str", .free "tuple", .glo "Nothing", .exc "Nothing", .exm "Nothing" "Nothing" true, .str "LETTERS" "abcdefghijklmnopqrstuvwxyz", .str "DIGITS" "0123456789", .int "MOST_LETTERS_forms" 8, .int "MOST_LETTERS_configurations" 5000]
def faL : List He.Fa := faL0 ++ faL1
def tupL : List (PySem.Str × List PySem.Str) := [("RESERVED", ["and", "as", "end", "from", "in", "is", "left", "move", "of", "pair", "right", "send", "side", "state", "step", "take", "to"]), ("SIDES", ["left", "right"])]
def loose0 : List PySem.Str := ["_wall", "__name__", "TalkError", "Nothing", "LETTERS", "DIGITS", "MOST_LETTERS_forms", "RESERVED", "is_number", "is_index", "is_name", "SIDES", "MOST_LETTERS_configurations", "is_move", "is_row", "is_configuration", "begin", "fault_of", "behind", "can_be_done", "do", "moves_at", "_law_bag", "_law_take", "_law_some", "_law_alike", "_law_turned_side", "_law_without", "_law_couples", "_law_sends"]
def loose1 : List PySem.Str := ["_law_first_duel", "_law_do", "_law_acts", "_law_is_int", "_law_is_move", "_law_moves_at", "_law_played", "_law_drawn_run", "_law_any_move", "_law_talk_pair", "_law_heard"]
def looseL : List PySem.Str := loose0 ++ loose1
def tfL : List (PySem.Str × Option PySem.Str) := [("law", none)]
/-! steps -/
section
variable {P : Program} {w : World} {K : PySem.W.Frag} {mg : Str → Option Value} {base : Heap} {fa : FA} {fd : Nat → FuncData} {d : Nat}
theorem step_all (FD : ∀ i, Nat.blt i nF = true → FunD K (nameT i) (nameT i) (defArgs (top (topT i))) (defBody (top (topT i))) (defScope (top (topT i))) [] [] (ga K (nameT i)) (fd i)) (e : EnvG P w K mg base fa fd d) {tbl : Addr × Addr} (tb : TabE fa base mg K tbl) :
    ∀ i, FnG P w K mg base (grT i) (3 * (d + 1)) (ga K (nameT i)) (fd i) (psT i) (spM K fa (psT i).length (callF Pr Gc (d + 1) i))
  | 0 => fnM (k := 3 * d + 2) (FD 0 rfl) sc0 rfl rfl rfl fun cdv A outer s H E hcd hr hg => body0 e hcd hr hg
  | 1 => fnM (k := 3 * d + 2) (FD 1 rfl) sc1 rfl rfl rfl fun cdv A outer s H E hcd hr hg => body1 e hcd hr hg
  | 2 => fnM (k := 3 * d + 2) (FD 2 rfl) sc2 rfl rfl rfl fun cdv A outer s H E hcd hr hg => body2 e hcd hr hg
  | 3 => fnM (k := 3 * d + 2) (FD 3 rfl) sc3 rfl rfl rfl fun cdv A outer s H E hcd hr hg => body3 e hcd hr hg
  | 4 => fnM (k := 3 * d + 2) (FD 4 rfl) sc4 rfl rfl rfl fun cdv A outer s H E hcd hr hg => body4 e hcd hr hg
  | 5 => fnM (k := 3 * d + 2) (FD 5 rfl) sc5 rfl rfl rfl fun cdv A outer s H E hcd hr hg => body5 e hcd hr hg
  | 6 => fnM (k := 3 * d + 2) (FD 6 rfl) sc6 rfl rfl rfl fun cdv A outer s H E hcd hr hg => body6 e hcd hr hg
  | 7 => fnM (k := 3 * d + 2) (FD 7 rfl) sc7 rfl rfl rfl fun cdv A outer s H E hcd hr hg => body7 e hcd hr hg
  | 8 => fnM (k := 3 * d + 2) (FD 8 rfl) sc8 rfl rfl rfl fun cdv A outer s H E hcd hr hg => body8 e hcd hr hg
  | 9 => fnM (k := 3 * d + 2) (FD 9 rfl) sc9 rfl rfl rfl fun cdv A outer s H E hcd hr hg => body9 e hcd hr hg
  | 10 => fnM (k := 3 * d + 2) (FD 10 rfl) sc10 rfl rfl rfl fun cdv A outer s H E hcd hr hg => body10 e hcd hr hg
  | 11 => fnM (k := 3 * d + 2) (FD 11 rfl) sc11 rfl rfl rfl fun cdv A outer s H E hcd hr hg => body11 e hcd hr hg
  | 12 => fnM (k := 3 * d + 2) (FD 12 rfl) sc12 rfl rfl rfl fun cdv A outer s H E hcd hr hg => body12 e hcd hr hg
  | 13 => fnM (k := 3 * d + 2) (FD 13 rfl) sc13 rfl rfl rfl fun cdv A outer s H E hcd hr hg => body13 e hcd hr hg
  | 14 => fnM (k := 3 * d + 2) (FD 14 rfl) sc14 rfl rfl rfl fun cdv A outer s H E hcd hr hg => body14 e hcd hr hg
  | 15 => fnM (k := 3 * d + 2) (FD 15 rfl) sc15 rfl rfl rfl fun cdv A outer s H E hcd hr hg => body15 e hcd hr hg
  | 16 => fnM (k := 3 * d + 2) (FD 16 rfl) sc16 rfl rfl rfl fun cdv A outer s H E hcd hr hg => body16 e hcd hr hg
  | 17 => fnM (k := 3 * d + 2) (FD 17 rfl) sc17 rfl rfl rfl fun cdv A outer s H E hcd hr hg => body17 e hcd hr hg
  | 18 => fnM (k := 3 * d + 2) (FD 18 rfl) sc18 rfl rfl rfl fun cdv A outer s H E hcd hr hg => body18 e hcd hr hg
  | 19 => fnM (k := 3 * d + 2) (FD 19 rfl) sc19 rfl rfl rfl fun cdv A outer s H E hcd hr hg => body19 e hcd hr hg
  | 20 => fnM (k := 3 * d + 2) (FD 20 rfl) sc20 rfl rfl rfl fun cdv A outer s H E hcd hr hg => body20 e hcd hr hg
  | 21 => fnM (k := 3 * d + 2) (FD 21 rfl) sc21 rfl rfl rfl fun cdv A outer s H E hcd hr hg => body21 e hcd hr hg
  | 22 => fnM (k := 3 * d + 2) (FD 22 rfl) sc22 rfl rfl rfl fun cdv A outer s H E hcd hr hg => body22 e hcd hr hg
  | 23 => fnM (k := 3 * d + 2) (FD 23 rfl) sc23 rfl rfl rfl fun cdv A outer s H E hcd hr hg => body23 e hcd hr hg
  | 24 => fnM (k := 3 * d + 2) (FD 24 rfl) sc24 rfl rfl rfl fun cdv A outer s H E hcd hr hg => body24 e hcd hr hg
  | 25 => fnM (k := 3 * d + 2) (FD 25 rfl) sc25 rfl rfl rfl fun cdv A outer s H E hcd hr hg => body25 e hcd hr hg
  | 26 => fnM (k := 3 * d + 2) (FD 26 rfl) sc26 rfl rfl rfl fun cdv A outer s H E hcd hr hg => body26 e hcd hr hg
  | 27 => fnM (k := 3 * d + 2) (FD 27 rfl) sc27 rfl rfl rfl fun cdv A outer s H E hcd hr hg => body27 e hcd hr hg
  | 28 => fnM (k := 3 * d + 2) (FD 28 rfl) sc28 rfl rfl rfl fun cdv A outer s H E hcd hr hg => body28 e hcd hr hg
  | 29 => fnM (k := 3 * d + 2) (FD 29 rfl) sc29 rfl rfl rfl fun cdv A outer s H E hcd hr hg => body29 e hcd hr hg
  | 30 => fnM (k := 3 * d + 2) (FD 30 rfl) sc30 rfl rfl rfl fun cdv A outer s H E hcd hr hg => body30 e tb hcd hr hg
  | i + 31 => fnG_stuck fun args h => rfl
end

end MP

set_option Elab.async false
set_option linter.all false
set_option maxRecDepth 100000
set_option maxHeartbeats 4000000
namespace MP
open PySem PySem.Spec PyProof.Rows L2 He
/-! the module's own values -/
def strsB : List Value → List Str → Bool
  | [], [] => true
  | .str s _ :: vs, y :: ys => decide (s = y) && strsB vs ys
  | _, _ => false
theorem strsB_ok : ∀ {vs : List Value} {ys : List Str}, strsB vs ys = true → Vals (ys.map V.str) vs
  | [], [], _ => .nil
  | [], _ :: _, e => by cases e
  | v :: vs, [], e => by cases v <;> cases e
  | v :: vs, y :: ys, e => by
    cases v with
    | str s t =>
      replace e : (decide (s = y) && strsB vs ys) = true := e
      rw [Bool.and_eq_true] at e
      have e1 := of_decide_eq_true e.1
      subst e1
      exact .cons ⟨t, rfl⟩ (strsB_ok e.2)
    | _ => cases e
def tupB (K : PySem.W.Frag) (x : Str) (ys : List Str) : Bool := match PySem.W.nsIn K mainGlobals x with
  | some (some (.ref a)) => (match K.lookup a with
    | some ⟨.type c, none, .seq its _, _⟩ => decide (c = "tuple") && (strsB its.toList ys && decide (its.size ≤ 1000))
    | _ => false)
  | _ => false
theorem tupB_ok {K : PySem.W.Frag} {h : Heap} {mg : Str → Option Value} (X : K.In h) (G : h.Ns mainGlobals mg) {x : Str} {ys : List Str} (e : tupB K x ys = true) : ∃ a, mg x = some (.ref a) ∧ KT K a (ys.map V.str) := by
  unfold tupB at e
  cases q : PySem.W.nsIn K mainGlobals x with
  | none => rw [q] at e; cases e
  | some o =>
    rw [q] at e
    cases o with
    | none => cases e
    | some v =>
      cases v with
      | ref a =>
        refine ⟨a, PySem.W.mg_of X G q, ?_⟩
        dsimp only at e
        cases q2 : K.lookup a with
        | none => rw [q2] at e; cases e
        | some ob =>
          rw [q2] at e
          obtain ⟨oc, od, dt, sl⟩ := ob
          cases oc with
          | type c =>
            cases od with
            | none =>
              cases dt with
              | seq its n =>
                replace e : (decide (c = "tuple") && (strsB its.toList ys && decide (its.size ≤ 1000))) = true := e
                rw [Bool.and_eq_true, Bool.and_eq_true] at e
                have e1 := of_decide_eq_true e.1
                subst e1
                exact ⟨_, its, n, ⟨q2, rfl, rfl, small_line (of_decide_eq_true e.2.2), strsB_ok e.2.1⟩, rfl⟩
              | _ => cases e
            | some d => cases dt <;> cases e
          | _ => cases od <;> cases dt <;> cases e
      | _ => cases e
theorem ra_strs {K : PySem.W.Frag} {fa : FA} {L : LV} {H : Hp} : ∀ {ys : List Str}, (∀ y ∈ ys, y.length ≤ 1000) → RAs K fa L H (ys.map AV.str) (ys.map V.str)
  | [], _ => rfl
  | y :: ys, h => ⟨_, _, rfl, ⟨rfl, small_line (h y List.mem_cons_self)⟩, ra_strs fun z hz => h z (List.mem_cons_of_mem _ hz)⟩
theorem ra_ktp {K : PySem.W.Frag} {fa : FA} {L : LV} {H : Hp} {a : Addr} {ys : List Str} (k : KT K a (ys.map V.str)) (h : ys.all (fun y => decide (y.length ≤ 1000)) = true) (h2 : ys.length ≤ 1000) : RA K fa L H (.ktp (ys.map AV.str)) (.ref a) :=
  ⟨a, _, rfl, k, by rw [List.length_map]; exact small_line h2, ra_strs fun y hy => of_decide_eq_true (List.all_eq_true.mp h y hy)⟩
def exB (K : PySem.W.Frag) : Bool := tupL.all fun p => tupB K p.1 p.2
/-! the head -/
abbrev Rr : PySem.W.OpenRow := PySem.W.OpenLaw.row PySem.Challenge.rw_turntalk_k25_configurations_and_moves
abbrev hk : PySem.W.Hook := He.hookX 4 faL fnL [] tfL exB
def ob (s : PySem.W.SharedT) : He.AlX := He.obsX 4 faL fnL [] tfL exB (HandSHeadRun.getT s)
theorem ob_eq (s : PySem.W.SharedT) : ob s = hk.obs s.abs := He.obsX_eq (HandSHeadRun.getT_eq s)
theorem headRun (w : World) : HandSHeadRun.RunEq Rr (PySem.W.view Rr.prog [lawT]) hk ob 1800 looseL w := by
  intro os
  kernel_rfl
def faOf (K : PySem.W.Frag) : FA := ⟨fun i => if Nat.blt i nX = true then some (ga K (excT i)) else none, [((He.cT K ("law", none)).2, qLam)]⟩
theorem fnL_at : ∀ i, Nat.blt i nF = true → fnL[i]? = some (mkD (topT i) (nameT i))
  | 0, _ => rfl
  | 1, _ => rfl
  | 2, _ => rfl
  | 3, _ => rfl
  | 4, _ => rfl
  | 5, _ => rfl
  | 6, _ => rfl
  | 7, _ => rfl
  | 8, _ => rfl
  | 9, _ => rfl
  | 10, _ => rfl
  | 11, _ => rfl
  | 12, _ => rfl
  | 13, _ => rfl
  | 14, _ => rfl
  | 15, _ => rfl
  | 16, _ => rfl
  | 17, _ => rfl
  | 18, _ => rfl
  | 19, _ => rfl
  | 20, _ => rfl
  | 21, _ => rfl
  | 22, _ => rfl
  | 23, _ => rfl
  | 24, _ => rfl
  | 25, _ => rfl
  | 26, _ => rfl
  | 27, _ => rfl
  | 28, _ => rfl
  | 29, _ => rfl
  | 30, _ => rfl
  | i + 31, h => absurd (Nat.blt_eq.mp h) (Nat.not_lt.mpr (Nat.le_add_left _ _))
theorem glo_at : ∀ i, Nat.blt i nF = true → faL[i]? = some (.glo (nameT i))
  | 0, _ => rfl
  | 1, _ => rfl
  | 2, _ => rfl
  | 3, _ => rfl
  | 4, _ => rfl
  | 5, _ => rfl
  | 6, _ => rfl
  | 7, _ => rfl
  | 8, _ => rfl
  | 9, _ => rfl
  | 10, _ => rfl
  | 11, _ => rfl
  | 12, _ => rfl
  | 13, _ => rfl
  | 14, _ => rfl
  | 15, _ => rfl
  | 16, _ => rfl
  | 17, _ => rfl
  | 18, _ => rfl
  | 19, _ => rfl
  | 20, _ => rfl
  | 21, _ => rfl
  | 22, _ => rfl
  | 23, _ => rfl
  | 24, _ => rfl
  | 25, _ => rfl
  | 26, _ => rfl
  | 27, _ => rfl
  | 28, _ => rfl
  | 29, _ => rfl
  | 30, _ => rfl
  | i + 31, h => absurd (Nat.blt_eq.mp h) (Nat.not_lt.mpr (Nat.le_add_left _ _))
theorem free_at : ∀ (j : Nat) (x : PySem.Str), free[j]? = some x → faL[32 + j]? = some (.free x)
  | 0, _, h => by cases h; rfl
  | 1, _, h => by cases h; rfl
  | 2, _, h => by cases h; rfl
  | 3, _, h => by cases h; rfl
  | 4, _, h => by cases h; rfl
  | 5, _, h => by cases h; rfl
  | 6, _, h => by cases h; rfl
  | 7, _, h => by cases h; rfl
  | 8, _, h => by cases h; rfl
  | 9, _, h => by cases h; rfl
  | 10, _, h => by cases h; rfl
  | 11, _, h => by cases h; rfl
  | 12, _, h => by cases h; rfl
  | 13, _, h => by cases h; rfl
  | 14, _, h => by cases h; rfl
  | j + 15, _, h => by cases h
theorem exc_at : ∀ i, Nat.blt i nX = true → faL[47 + 3 * i]? = some (.glo (excT i)) ∧ faL[48 + 3 * i]? = some (.exc (excT i)) ∧ faL[49 + 3 * i]? = some (.exm (excT i) (excT i) true)
  | 0, _ => ⟨rfl, rfl, rfl⟩
  | i + 1, h => absurd (Nat.blt_eq.mp h) (Nat.not_lt.mpr (Nat.le_add_left _ _))
theorem consts {K : PySem.W.Frag} {mg : Str → Option Value} {h : Heap} {fa : FA} (X : K.In h) (G : h.Ns mainGlobals mg) (c : He.SaysD faL fnL K) (ex : exB K = true) : ∀ i a, Gc i = some a → ∃ (v : V) (u : Value), mg (cT i) = some u ∧ RelV v u ∧ ∀ L H, RA K fa L H a v
  | 0, _, e => by
    cases e
    obtain ⟨t, q⟩ := He.str_ok X G (c.fact 50 rfl)
    exact ⟨.str "abcdefghijklmnopqrstuvwxyz", _, q, ⟨t, rfl⟩, fun L H => ⟨rfl, small_line (by decide)⟩⟩
  | 1, _, e => by
    cases e
    obtain ⟨t, q⟩ := He.str_ok X G (c.fact 51 rfl)
    exact ⟨.str "0123456789", _, q, ⟨t, rfl⟩, fun L H => ⟨rfl, small_line (by decide)⟩⟩
  | 2, _, e => by
    cases e
    obtain ⟨t, q⟩ := He.int_ok X G (c.fact 52 rfl)
    exact ⟨.int 8, _, q, ⟨t, rfl⟩, fun L H => rfl⟩
  | 3, _, e => by
    cases e
    obtain ⟨a, q, kt⟩ := tupB_ok X G (List.all_eq_true.mp ex ("RESERVED", ["and", "as", "end", "from", "in", "is", "left", "move", "of", "pair", "right", "send", "side", "state", "step", "take", "to"]) (List.mem_of_getElem? (i := 0) rfl))
    exact ⟨.ref a, _, q, rfl, fun L H => ra_ktp (ys := ["and", "as", "end", "from", "in", "is", "left", "move", "of", "pair", "right", "send", "side", "state", "step", "take", "to"]) kt (by decide) (by decide)⟩
  | 4, _, e => by
    cases e
    obtain ⟨a, q, kt⟩ := tupB_ok X G (List.all_eq_true.mp ex ("SIDES", ["left", "right"]) (List.mem_of_getElem? (i := 1) rfl))
    exact ⟨.ref a, _, q, rfl, fun L H => ra_ktp (ys := ["left", "right"]) kt (by decide) (by decide)⟩
  | 5, _, e => by
    cases e
    obtain ⟨t, q⟩ := He.int_ok X G (c.fact 53 rfl)
    exact ⟨.int 5000, _, q, ⟨t, rfl⟩, fun L H => rfl⟩
  | i + 6, _, e => by cases e
theorem binds {K : PySem.W.Frag} {fd : Nat → FuncData} (FD : ∀ i, Nat.blt i nF = true → FunD K (nameT i) (nameT i) (defArgs (top (topT i))) (defBody (top (topT i))) (defScope (top (topT i))) [] [] (ga K (nameT i)) (fd i)) : ∀ i, Nat.blt i nF = true → Binds K (fd i) (psT i) []
  | 0, h => (FD 0 h).bindsN fun _ _ _ _ _ _ us hl => match us, hl with | [_], _ => rfl
  | 1, h => (FD 1 h).bindsN fun _ _ _ _ _ _ us hl => match us, hl with | [_, _], _ => rfl
  | 2, h => (FD 2 h).bindsN fun _ _ _ _ _ _ us hl => match us, hl with | [_, _], _ => rfl
  | 3, h => (FD 3 h).bindsN fun _ _ _ _ _ _ us hl => match us, hl with | [_, _], _ => rfl
  | 4, h => (FD 4 h).bindsN fun _ _ _ _ _ _ us hl => match us, hl with | [_], _ => rfl
  | 5, h => (FD 5 h).bindsN fun _ _ _ _ _ _ us hl => match us, hl with | [_, _], _ => rfl
  | 6, h => (FD 6 h).bindsN fun _ _ _ _ _ _ us hl => match us, hl with | [_], _ => rfl
  | 7, h => (FD 7 h).bindsN fun _ _ _ _ _ _ us hl => match us, hl with | [_, _], _ => rfl
  | 8, h => (FD 8 h).bindsN fun _ _ _ _ _ _ us hl => match us, hl with | [_, _, _, _], _ => rfl
  | 9, h => (FD 9 h).bindsN fun _ _ _ _ _ _ us hl => match us, hl with | [_], _ => rfl
  | 10, h => (FD 10 h).bindsN fun _ _ _ _ _ _ us hl => match us, hl with | [_], _ => rfl
  | 11, h => (FD 11 h).bindsN fun _ _ _ _ _ _ us hl => match us, hl with | [_], _ => rfl
  | 12, h => (FD 12 h).bindsN fun _ _ _ _ _ _ us hl => match us, hl with | [_, _, _], _ => rfl
  | 13, h => (FD 13 h).bindsN fun _ _ _ _ _ _ us hl => match us, hl with | [_, _], _ => rfl
  | 14, h => (FD 14 h).bindsN fun _ _ _ _ _ _ us hl => match us, hl with | [_, _, _, _], _ => rfl
  | 15, h => (FD 15 h).bindsN fun _ _ _ _ _ _ us hl => match us, hl with | [], _ => rfl
  | 16, h => (FD 16 h).bindsN fun _ _ _ _ _ _ us hl => match us, hl with | [_], _ => rfl
  | 17, h => (FD 17 h).bindsN fun _ _ _ _ _ _ us hl => match us, hl with | [_], _ => rfl
  | 18, h => (FD 18 h).bindsN fun _ _ _ _ _ _ us hl => match us, hl with | [_], _ => rfl
  | 19, h => (FD 19 h).bindsN fun _ _ _ _ _ _ us hl => match us, hl with | [_], _ => rfl
  | 20, h => (FD 20 h).bindsN fun _ _ _ _ _ _ us hl => match us, hl with | [_, _], _ => rfl
  | 21, h => (FD 21 h).bindsN fun _ _ _ _ _ _ us hl => match us, hl with | [_], _ => rfl
  | 22, h => (FD 22 h).bindsN fun _ _ _ _ _ _ us hl => match us, hl with | [_, _], _ => rfl
  | 23, h => (FD 23 h).bindsN fun _ _ _ _ _ _ us hl => match us, hl with | [_, _], _ => rfl
  | 24, h => (FD 24 h).bindsN fun _ _ _ _ _ _ us hl => match us, hl with | [_, _], _ => rfl
  | 25, h => (FD 25 h).bindsN fun _ _ _ _ _ _ us hl => match us, hl with | [_, _, _], _ => rfl
  | 26, h => (FD 26 h).bindsN fun _ _ _ _ _ _ us hl => match us, hl with | [_, _, _], _ => rfl
  | 27, h => (FD 27 h).bindsN fun _ _ _ _ _ _ us hl => match us, hl with | [_, _, _], _ => rfl
  | 28, h => (FD 28 h).bindsN fun _ _ _ _ _ _ us hl => match us, hl with | [_, _], _ => rfl
  | 29, h => (FD 29 h).bindsN fun _ _ _ _ _ _ us hl => match us, hl with | [_, _, _], _ => rfl
  | 30, h => (FD 30 h).bindsN fun _ _ _ _ _ _ us hl => match us, hl with | [_], _ => rfl
  | i + 31, h => absurd (Nat.blt_eq.mp h) (Nat.not_lt.mpr (Nat.le_add_left _ _))
def lawI : Nat := 30
def toldI : Nat := 31
theorem exOff : 47 = 47 := rfl
theorem exc_facts {K : PySem.W.Frag} {mg : Str → Option Value} {h : Heap} (X : K.In h) (G : h.Ns mainGlobals mg) (c : He.SaysD faL fnL K) (i : Nat) (hi : Nat.blt i nX = true) : ExcFact K mg (faOf K) i := by
  obtain ⟨h1, h2, h3⟩ := exc_at i hi
  obtain ⟨e1, e2, e3, e4⟩ := He.exc_ok (c.fact _ h2)
  exact ⟨e1, He.glo_ok X G (c.fact _ h1), e2, e3, e4, if_pos hi, He.exm_ok (c.fact _ h3)⟩
theorem frees {K : PySem.W.Frag} {mg : Str → Option Value} {h : Heap} (X : K.In h) (G : h.Ns mainGlobals mg) (c : He.SaysD faL fnL K) (x : Str) (hx : free.elem x = true) : mg x = none := by
  obtain ⟨j, hj⟩ := List.mem_iff_getElem?.mp (List.elem_iff.mp hx)
  exact He.free_ok X G (c.fact _ (free_at j x hj))

theorem says_env {P : Program} {w : World} {K : PySem.W.Frag} {mg : Str → Option Value} {h : Heap} (X : K.In h) (G : h.Ns mainGlobals mg) (c : He.SaysD faL fnL K) (ex : exB K = true) :
    ∃ fd : Nat → FuncData, (∀ (s : Shared) (u : Value), BindsTo s (fd lawI) ⟨[u], []⟩ [("script", u)]) ∧ ∀ base : Heap, K.In base → base.Ns mainGlobals mg → LamX.TabB base mg (He.cT K ("law", none)).1 (He.cT K ("law", none)).2 → ∀ d, EnvG P w K mg base (faOf K) fd d := by
  have hf : ∀ i, ∃ fd, Nat.blt i nF = true → FunD K (nameT i) (nameT i) (defArgs (top (topT i))) (defBody (top (topT i))) (defScope (top (topT i))) [] [] (ga K (nameT i)) fd := fun i => by
    by_cases hi : Nat.blt i nF = true
    · obtain ⟨fd, F⟩ := c.def_ i (fnL_at i hi)
      exact ⟨fd, fun _ => F⟩
    · obtain ⟨fd, F⟩ := c.def_ 0 (fnL_at 0 rfl)
      exact ⟨fd, fun z => absurd z hi⟩
  refine ⟨fun i => (hf i).choose, ?_, ?_⟩
  · have F := (hf lawI).choose_spec rfl
    exact fun s u => FunD.bindsA (ps := ["script"]) F (fun _ _ _ _ _ _ us hl => match us, hl with | [_], _ => rfl) s [u] rfl
  · intro base X' G' tb
    have FD := fun i hi => (hf i).choose_spec hi
    obtain ⟨fdh, Fh⟩ := c.def_ toldI (d := mkD toldT toldN) rfl
    have gh := He.glo_ok X' G' (c.fact toldI (f := .glo toldN) rfl)
    have bh : Binds K fdh [toldP] [] := FunD.bindsN Fh fun _ _ _ _ _ _ us hl => match us, hl with | [_], _ => rfl
    have te : TabE (faOf K) base mg K (He.cT K ("law", none)) := ⟨rfl, tb, rfl⟩
    have mk : ∀ d, (∀ i, FnG P w K mg base (grT i) (3 * d) (ga K (nameT i)) ((hf i).choose) (psT i) (spM K (faOf K) (psT i).length (callF Pr Gc d i))) → EnvG P w K mg base (faOf K) (fun i => (hf i).choose) d := fun d f =>
      ⟨f, fun i hi => He.glo_ok X' G' (c.fact i (glo_at i hi)), fun i hi => (FD i hi).kp, binds FD, frees X' G' c, fun i hi => exc_facts X' G' c i hi, ⟨fdh, Fh, gh, bh⟩, consts X' G' c ex⟩
    intro d
    induction d with
    | zero => exact mk 0 fun i => fnG_stuck fun args h => rfl
    | succ d ih => exact mk (d + 1) (step_all FD ih te)
def D0 : Nat := 20
/-- the law, by the interpreter alone -/
theorem holds_of (pu : ∀ ns : List Int, ns.length ≤ 63 → (∀ z ∈ ns, Builtin.Int.intBits z ≤ 1048576) → ∃ h', callF Pr Gc D0 lawI [.d (.scr ns)] [] = .ok (.d (.bl true)) h') : (PySem.Challenge.rw_turntalk_k25_configurations_and_moves).Holds := by
  w_on; o_law
  refine HandSHeadRun.head_any (r := Rr) (q := PySem.W.view Rr.prog [lawT]) (H := hk) (ob := ob) (M := 1800) (loose := looseL) (d := HandSHeadRun.topDef Rr.prog lawT) (kwd := []) ob_eq
    (by kernel_rfl) (fun s => by kernel_rfl) headRun (by kernel_rfl) (by kernel_rfl) (by kernel_rfl) (by rfl) (by first | assumption | decide +kernel) (by decide +kernel) ⟨rfl, rfl, rfl, rfl, rfl, by decide +kernel⟩ ?hw ?hc
  case hw => w_witness2
  case hc =>
    refine walk_ofG (l := PySem.Challenge.rw_turntalk_k25_configurations_and_moves) (n := 63) (k := 3 * D0) (x := "script") rfl (by decide) (by kernel_rfl) ⟨rfl, by decide, by decide⟩ ?F
    intro w mg fn h Y G hmg0
    obtain ⟨K, KX, c⟩ := Y
    have hmg : mg ("law" : PySem.Str) = some (.ref fn) := by
      have e : (HandSHeadRun.topDef Rr.prog lawT).name = ("law" : PySem.Str) := by kernel_rfl
      rw [← e]
      exact hmg0
    have cd : He.SaysD faL fnL K := congrArg (fun z : He.AlT => z.1) c.t
    obtain ⟨fd, hb, hE⟩ := says_env (P := prog) (w := w) KX G cd c.more
    have el : fn = ga K "law" := by
      have e2 := He.glo_ok KX G (cd.fact lawI (glo_at lawI rfl))
      have e3 : some (Value.ref fn) = some (.ref (ga K "law")) := hmg.symm.trans e2
      cases e3
      rfl
    subst el
    refine ⟨K, KX, fd lawI, [He.cT K ("law", none)], faOf K, qLam, callF Pr Gc D0 lawI, fun p hp => ?_, fun p hp => ?_, fun p hp => ?_, rfl, hb, pu, fun base X' G' tb => ?_⟩
    · rw [List.mem_singleton.mp hp]
      exact c.empty _ (List.mem_singleton.mpr rfl)
    · rw [List.mem_singleton.mp hp]
      exact c.out _ (List.mem_singleton.mpr rfl)
    · rw [List.mem_singleton.mp hp]
      exact PySem.W.codeHd_of_K KX (c.hd _ (List.mem_singleton.mpr rfl))
    · exact (hE base X' G' (tb _ (List.mem_singleton.mpr rfl)) D0).f lawI

end MP

set_option Elab.async false
set_option linter.all false
set_option maxRecDepth 100000
namespace MP
open PySem
theorem callF_succ (P : Nat → Option FD) (G : Nat → Option AV) (d f : Nat) (vs : List MV) (h : AH) : callF P G (d + 1) f vs h = match P f with
    | some fd => if vs.length = fd.ps then finS fd.mt h.length (evSs ⟨callF P G d, G⟩ fd.body (startA fd.ns vs) h) else .stuck
    | none => .stuck := rfl
/-- no cell holds a cell -/
def Flat (h : AH) : Prop := ∀ c ∈ h, ∀ n, cellOk n c = true
theorem Flat.take {h : AH} (f : Flat h) (n m : Nat) : (h.take n).all (cellOk m) = true := List.all_eq_true.mpr fun c hc => f c (List.mem_of_mem_take hc) m
theorem Flat.set {h : AH} (f : Flat h) {i : Nat} {xs : List AV} : Flat (h.set i (.lst xs)) := fun c hc n => by
  rcases List.mem_or_eq_of_mem_set hc with z | z
  · exact f c z n
  · rw [z]; rfl
def bagC (a b k : Int) (cells : List Int) : Cell := .lst [.int a, .int b, .int k, .lst (cells.map .int)]
structure BagOk (a b k : Int) (cells : List Int) : Prop where
  a : 0 ≤ a
  b : 0 ≤ b
  k : 0 ≤ k
  l : cells.length ≤ 63
  c : ∀ x ∈ cells, 0 ≤ x
def Bag (h : AH) (i : Nat) : Prop := ∃ a b k cells, h[i]? = some (bagC a b k cells) ∧ BagOk a b k cells
/-- the bag at i was drawn from -/
def Drawn (i : Nat) (h h' : AH) : Prop := Bag h' i ∧ h'.length = h.length ∧ ∀ j, j ≠ i → h'[j]? = h[j]?
theorem sizeL : (63 : Nat) ≤ sizeLine := by rw [sizeLine_eq]; decide
theorem take_cell (cells : List Int) (k : Int) (hk : 0 ≤ k) (hl : cells.length ≤ 63) (hc : ∀ x ∈ cells, 0 ≤ x) : ∃ c : Int, 0 ≤ c ∧ (binop .add (.lst (cutL (cells.map AV.int) (some k) none)) (.lst [.int 0])) = some (.lst (cutL (cells.map AV.int) (some k) none ++ [.int 0])) ∧ L2.atI (cutL (cells.map AV.int) (some k) none ++ [AV.int 0]) 0 = some (.int c) := by
  have e : cutL (cells.map AV.int) (some k) none = (cutL cells (some k) none).map AV.int := by
    unfold cutL
    rw [List.length_map, List.map_take, List.map_drop]
  have hlen : (cutL cells (some k) none).length ≤ 63 := by
    unfold cutL
    rw [List.length_take, List.length_drop]
    omega
  have hmem : ∀ x ∈ cutL cells (some k) none, 0 ≤ x := fun x hx => hc x (List.mem_of_mem_drop (List.mem_of_mem_take hx))
  have hs := sizeLine_eq
  rw [e]
  cases q : cutL cells (some k) none with
  | nil => exact ⟨0, by decide, by simp [binop, addA, hs], by simp [L2.atI, L2.ixN]⟩
  | cons x xs =>
    refine ⟨x, hmem x (by rw [q]; exact List.mem_cons_self), ?_, by
      have h0 : (0 : Int) < (((AV.int x :: (List.map AV.int xs ++ [AV.int 0])).length : Nat) : Int) := by simp only [List.length_cons]; omega
      show (L2.ixN (AV.int x :: (List.map AV.int xs ++ [AV.int 0])).length 0).bind _ = _
      unfold L2.ixN
      rw [if_pos (Int.le_refl 0), if_pos h0]
      rfl⟩
    rw [q] at hlen
    simp only [List.length_cons] at hlen
    simp only [binop, addA, List.map_cons, List.length_cons, List.length_map]
    rw [if_pos (by simp only [List.length_cons, List.length_nil]; omega)]
theorem eqv_int (i j : Int) : eqv? (.int i) (.int j) = some (i == j) := rfl
theorem set_get {h : AH} {i : Nat} {c : Cell} (hl : i < h.length) : (h.set i c)[i]? = some c := List.getElem?_set_self hl
theorem pow18 : binop .pow (.int 10) (.int 18) = some (.int 1000000000000000000) := by
  unfold binop
  simp [intA]
theorem mul_l (i j : Int) (h : 0 ≤ j) (h2 : j < 18446744073709551616) : binop .mul (.int i) (.int j) = some (.int (i * j)) := by
  unfold binop mulA
  exact if_pos (by omega)
theorem mul_r (i j : Int) (h : 0 ≤ i) (h2 : i < 18446744073709551616) : binop .mul (.int i) (.int j) = some (.int (i * j)) := by
  unfold binop mulA
  exact if_pos (by omega)
theorem mod_p (i j : Int) (h : 0 < j) : binop .mod (.int i) (.int j) = some (.int (i % j)) := if_pos h
theorem div_p (i j : Int) (h : 0 < j) (h2 : j < 1073741824) : binop .fdiv (.int i) (.int j) = some (.int (i / j)) := if_pos ⟨h, h2⟩
theorem add_i (i j : Int) : binop .add (.int i) (.int j) = some (.int (i + j)) := rfl
theorem take_set {h : AH} {i : Nat} {c : Cell} : (h.set i c).take h.length = h.set i c := List.take_of_length_le (by rw [List.length_set]; exact Nat.le_refl _)
theorem drawn_set {h : AH} {i : Nat} {a b k : Int} {cells : List Int} (hl : i < h.length) (ok : BagOk a b k cells) : Drawn i h (h.set i (bagC a b k cells)) :=
  ⟨⟨a, b, k, cells, List.getElem?_set_self hl, ok⟩, List.length_set, fun j hj => List.getElem?_set_ne (Ne.symm hj)⟩
theorem finD {mt : Bool} {n : Nat} {v : AV} {h : AH} (f : Flat h) (e : h.length = n) : fin mt n (.d v) h = .ok (.d v) h := by
  unfold fin
  rw [if_pos (f.take _ _), List.take_of_length_le (by omega)]
theorem at0 (a b c d : AV) : L2.atI [a, b, c, d] 0 = some a := rfl
theorem at1 (a b c d : AV) : L2.atI [a, b, c, d] 1 = some b := rfl
theorem at2 (a b c d : AV) : L2.atI [a, b, c, d] 2 = some c := rfl
theorem at3 (a b c d : AV) : L2.atI [a, b, c, d] 3 = some d := rfl
theorem law_take (d : Nat) (i : Nat) (many : Int) (h : AH) (f : Flat h) (hb : Bag h i) (hm : 0 < many) (hm2 : many < 1073741824) :
    ∃ r h', callF Pr Gc (d + 1) 2 [.ref i, .d (.int many)] h = .ok (.d (.int r)) h' ∧ 0 ≤ r ∧ r < many ∧ Drawn i h h' ∧ Flat h' := by
  obtain ⟨a, b, k, cells, hi, ok⟩ := hb
  obtain ⟨c, c0, c1, c2⟩ := take_cell cells k ok.k ok.l ok.c
  have hlt : i < h.length := (List.getElem?_eq_some_iff.mp hi).1
  have hs : ∀ c : Cell, (h.set i c)[i]? = some c := fun c => List.getElem?_set_self hlt
  rw [callF_succ]
  by_cases ha : a = 0
  · subst ha
    let b' : Int := (b * 48271 + c % 2147483647 + 7919 * (k + 1)) % 2147483647
    have hb' : 0 ≤ b' := Int.emod_nonneg _ (by decide)
    have hk' : 0 ≤ k + 1 := by have := ok.k; omega
    have m1 : ∀ j : Int, binop .mod (.int j) (.int 2147483647) = some (.int (j % 2147483647)) := fun j => mod_p j _ (by decide)
    have m2 : ∀ j : Int, binop .mod (.int j) (.int 1000000007) = some (.int (j % 1000000007)) := fun j => mod_p j _ (by decide)
    have m3 : ∀ j : Int, binop .mod (.int j) (.int 998244353) = some (.int (j % 998244353)) := fun j => mod_p j _ (by decide)
    have p1 : ∀ j : Int, binop .mul (.int j) (.int 48271) = some (.int (j * 48271)) := fun j => mul_l j _ (by decide) (by decide)
    have p2 : ∀ j : Int, binop .mul (.int 7919) (.int j) = some (.int (7919 * j)) := fun j => mul_r _ j (by decide) (by decide)
    have p3 : ∀ j : Int, binop .mul (.int j) (.int 39373) = some (.int (j * 39373)) := fun j => mul_l j _ (by decide) (by decide)
    have p4 : ∀ j : Int, binop .mul (.int j) (.int 30011) = some (.int (j * 30011)) := fun j => mul_l j _ (by decide) (by decide)
    have d7 : ∀ j : Int, binop .fdiv (.int j) (.int 7) = some (.int (j / 7)) := fun j => div_p j _ (by decide) (by decide)
    by_cases hc : (1000000000000000000 : Int) ≤ c
    · have hpos : 0 < c := by omega
      refine ⟨c % many, h.set i (bagC (c / many) b' (k + 1) cells), ?_, Int.emod_nonneg _ (by omega), Int.emod_lt_of_pos _ hm, drawn_set hlt ⟨Int.ediv_nonneg c0 (by omega), hb', hk', ok.l, ok.c⟩, f.set⟩
      have e1 : decide (0 < c) = true := decide_eq_true hpos
      have e2 : decide ((1000000000000000000 : Int) ≤ c) = true := decide_eq_true hc
      simp only [bagC] at hi ⊢
      simp [Pr, b2, evSs, evS, evE, evEs, evT, startA, R.bind, R.s, bin2, view, views, Cell.view, idxM, idxA, L2.ixN, hi, hs, cmpB, cmpop, eqv_int, optV, truthM, truthy?, opt, ordA, biF, one, intA1, mod_p _ _ hm, div_p _ _ hm hm2, optS, asg, putM, finS, lstCell, partOf, un1, slcA, allD, pow18, hc, hpos, c1, c2, at0, at1, at2, at3, m1, p1, p2, add_i, augA]
      exact finD f.set List.length_set
    · let g : Int := (b' + 1) * 39373 % 1000000007
      have g0 : 0 ≤ g := Int.emod_nonneg _ (by decide)
      have g1 : g < 1000000007 := Int.emod_lt_of_pos _ (by decide)
      have pg : binop .mul (.int g) (.int g) = some (.int (g * g)) := mul_l g g g0 (by omega)
      refine ⟨g * g % 998244353 * 30011 % 998244353 / 7 % many, h.set i (bagC 0 b' (k + 1) cells), ?_, Int.emod_nonneg _ (by omega), Int.emod_lt_of_pos _ hm, drawn_set hlt ⟨by decide, hb', hk', ok.l, ok.c⟩, f.set⟩
      have pg' := pg
      simp only [g, b'] at pg'
      simp only [bagC] at hi ⊢
      simp [Pr, b2, evSs, evS, evE, evEs, evT, startA, R.bind, R.s, bin2, view, views, Cell.view, idxM, idxA, L2.ixN, hi, hs, cmpB, cmpop, eqv_int, optV, truthM, truthy?, opt, ordA, biF, one, intA1, mod_p _ _ hm, div_p _ _ hm hm2, optS, asg, putM, finS, lstCell, partOf, un1, slcA, allD, pow18, hc, c1, c2, at0, at1, at2, at3, m1, m2, m3, p1, p2, p3, p4, d7, pg', add_i, augA]
      exact finD f.set List.length_set
  · have hpos : 0 < a := by have := ok.a; omega
    refine ⟨a % many, h.set i (bagC (a / many) b k cells), ?_, Int.emod_nonneg _ (by omega), Int.emod_lt_of_pos _ hm, drawn_set hlt ⟨Int.ediv_nonneg ok.a (by omega), ok.b, ok.k, ok.l, ok.c⟩, f.set⟩
    have e0 : (a == 0) = false := by simpa using ha
    have e1 : decide (0 < a) = true := decide_eq_true hpos
    simp only [bagC] at hi ⊢
    simp [Pr, b2, evSs, evS, evE, evEs, evT, startA, R.bind, R.s, bin2, view, views, Cell.view, idxM, idxA, L2.ixN, hi, hs, cmpB, cmpop, eqv_int, e0, optV, truthM, truthy?, opt, ordA, e1, hpos, biF, one, intA1, mod_p _ _ hm, div_p _ _ hm hm2, optS, asg, putM, finS, at0]
    exact finD f.set List.length_set
end MP

set_option Elab.async false
set_option linter.all false
set_option maxRecDepth 100000
namespace MP
open PySem
theorem Drawn.trans {i : Nat} {h h1 h2 : AH} (a : Drawn i h h1) (b : Drawn i h1 h2) : Drawn i h h2 := ⟨b.1, b.2.1.trans a.2.1, fun j hj => (b.2.2 j hj).trans (a.2.2 j hj)⟩
theorem atI_mem {α : Type} {xs : List α} {r : Int} (h0 : 0 ≤ r) (h1 : r < xs.length) : ∃ x, x ∈ xs ∧ L2.atI xs r = some x := by
  have hl : r.toNat < xs.length := by omega
  refine ⟨xs[r.toNat], List.getElem_mem hl, ?_⟩
  unfold L2.atI L2.ixN
  rw [if_pos h0, if_pos h1]
  exact List.getElem?_eq_getElem hl
theorem law_some (d : Nat) (i : Nat) (xs : List AV) (h : AH) (f : Flat h) (hb : Bag h i) (hx : xs ≠ []) (hl : xs.length ≤ 1000) :
    ∃ x h', callF Pr Gc (d + 2) 3 [.ref i, .d (.lst xs)] h = .ok (.d x) h' ∧ x ∈ xs ∧ Drawn i h h' ∧ Flat h' := by
  have hp : 0 < xs.length := by
    cases xs with
    | nil => exact absurd rfl hx
    | cons a b => exact Nat.zero_lt_succ _
  obtain ⟨r, h', e, r0, r1, dr, f'⟩ := law_take d i xs.length h f hb (by omega) (by omega)
  obtain ⟨x, hm, ex⟩ := atI_mem (xs := xs) r0 r1
  refine ⟨x, h', ?_, hm, dr, f'⟩
  rw [callF_succ]
  simp [Pr, b3, evSs, evS, evE, evEs, startA, R.bind, R.s, bin2, view, views, idxM, idxA, optV, biF, one, lenA, e, ex, finS]
  exact finD f' dr.2.1
/-- a call that looks only -/
theorem pureD {mt : Bool} {v : AV} {h : AH} (f : Flat h) : fin mt h.length (.d v) h = .ok (.d v) h := finD f rfl
theorem begin_spec (d : Nat) (h : AH) (f : Flat h) : callF Pr Gc (d + 1) 15 [] h = .ok (.d (.tup [.int 0, .int 0, .tup [], .tup []])) h := by
  rw [callF_succ]
  simp [Pr, b15, evSs, evS, evE, evEs, startA, R.bind, R.s, allD, finS]
  exact pureD f
theorem is_number_spec (d : Nat) (v : AV) (h : AH) (f : Flat h) (hv : ∀ T, ∃ b, isiA v T = some b) : ∃ b, callF Pr Gc (d + 1) 18 [.d v] h = .ok (.d (.bl b)) h ∧ (b = true ↔ ∃ i, v = .int i) := by
  rw [callF_succ]
  cases v with
  | int i =>
    refine ⟨true, ?_, by simp⟩
    simp [Pr, b18, evSs, evS, evE, evEs, startA, R.bind, R.s, un1, view, isiA, optV, truthM, truthy?, opt, finS]
    exact pureD f
  | fn x => obtain ⟨b, e⟩ := hv .int; cases e
  | ty x => obtain ⟨b, e⟩ := hv .int; cases e
  | scr x => obtain ⟨b, e⟩ := hv .int; cases e
  | _ =>
    refine ⟨false, ?_, by simp⟩
    simp [Pr, b18, evSs, evS, evE, evEs, startA, R.bind, R.s, un1, view, isiA, optV, truthM, truthy?, opt, finS]
    exact pureD f
theorem is_index_spec (d : Nat) (v : AV) (h : AH) (f : Flat h) (hv : ∀ T, ∃ b, isiA v T = some b) : ∃ b, callF Pr Gc (d + 2) 19 [.d v] h = .ok (.d (.bl b)) h ∧ (b = true ↔ ∃ i, v = .int i ∧ 0 ≤ i) := by
  obtain ⟨b, e, hb⟩ := is_number_spec d v h f hv
  rw [callF_succ]
  cases b with
  | false =>
    refine ⟨false, ?_, ⟨fun z => (by cases z), fun ⟨i, z, _⟩ => (hb.mpr ⟨i, z⟩)⟩⟩
    simp [Pr, b19, evSs, evS, evE, evEs, startA, R.bind, R.s, e, view, truthM, truthy?, opt, finS]
    exact pureD f
  | true =>
    obtain ⟨i, rfl⟩ := hb.mp rfl
    refine ⟨decide (0 ≤ i), ?_, by simp⟩
    simp [Pr, b19, evSs, evS, evE, evEs, startA, R.bind, R.s, e, view, truthM, truthy?, opt, finS, bin2, cmpB, cmpop, ordA, optV]
    exact pureD f
theorem law_is_int_spec (d : Nat) (v : AV) (h : AH) (f : Flat h) (hv : ∀ T, ∃ b, isiA v T = some b) : ∃ b, callF Pr Gc (d + 1) 21 [.d v] h = .ok (.d (.bl b)) h ∧ (b = true ↔ ∃ i, v = .int i) := by
  rw [callF_succ]
  cases v with
  | int i =>
    refine ⟨true, ?_, by simp⟩
    simp [Pr, b21, evSs, evS, evE, evEs, startA, R.bind, R.s, un1, view, isiA, optV, truthM, truthy?, opt, finS]
    exact pureD f
  | fn x => obtain ⟨b, e⟩ := hv .int; cases e
  | ty x => obtain ⟨b, e⟩ := hv .int; cases e
  | scr x => obtain ⟨b, e⟩ := hv .int; cases e
  | _ =>
    refine ⟨false, ?_, by simp⟩
    simp [Pr, b21, evSs, evS, evE, evEs, startA, R.bind, R.s, un1, view, isiA, optV, truthM, truthy?, opt, finS]
    exact pureD f
end MP

set_option Elab.async false
set_option linter.all false
set_option maxRecDepth 100000
namespace MP
open PySem
def sLET : Str := "abcdefghijklmnopqrstuvwxyz"
def sLD : Str := "abcdefghijklmnopqrstuvwxyz0123456789"
def sRES : List AV := [.str "and", .str "as", .str "end", .str "from", .str "in", .str "is", .str "left", .str "move", .str "of", .str "pair", .str "right", .str "send", .str "side", .str "state", .str "step", .str "take", .str "to"]
/-- a letter -/
structure Letter (s : Str) : Prop where
  l1 : s.length = 1
  it : (s.cps.toList.map fun c => AV.str ⟨#[c]⟩) = [.str s]
  ix : idxA (.str s) (.int 0) = some (.str s)
  i1 : inA (.str s) (.str sLET) = some true
  i2 : inA (.str s) (.ktp sRES) = some false
  i3 : inA (.str s) (.str sLD) = some true
theorem letter_a : Letter "a" := ⟨rfl, rfl, rfl, by decide +kernel, by decide +kernel, by decide +kernel⟩
theorem letter_b : Letter "b" := ⟨rfl, rfl, rfl, by decide +kernel, by decide +kernel, by decide +kernel⟩
theorem letter_x : Letter "x" := ⟨rfl, rfl, rfl, by decide +kernel, by decide +kernel, by decide +kernel⟩
theorem letter_y : Letter "y" := ⟨rfl, rfl, rfl, by decide +kernel, by decide +kernel, by decide +kernel⟩
theorem add_str {a b c : Str} (hl : a.length + b.length ≤ 1000) (e : a ++ b = c) : binop .add (.str a) (.str b) = some (.str c) := by
  subst e
  exact if_pos (Nat.le_trans hl (by rw [sizeLine_eq]; decide))
theorem add_LD : binop .add (.str "abcdefghijklmnopqrstuvwxyz") (.str "0123456789") = some (.str sLD) := add_str (by decide +kernel) (by decide +kernel)
theorem is_name_letter (d : Nat) (s : Str) (l : Letter s) (h : AH) (f : Flat h) : callF Pr Gc (d + 1) 16 [.d (.str s)] h = .ok (.d (.bl true)) h := by
  obtain ⟨l1, it, ix, i1, i2, i3⟩ := l
  unfold sLET at i1
  unfold sRES at i2
  have h63 : (1 : Nat) ≤ sizeLine := by rw [sizeLine_eq]; decide
  rw [callF_succ]
  simp [Pr, b16, evSs, evS, evE, evEs, evT, evIt, evC, startA, R.bind, R.s, un1, bin2, view, views, isiA, optV, truthM, truthy?, opt, finS, Gc, srcOf, compL, stillAt, wipeA, asg, asData, endL, biF, blsA, blsOf, cmpB, cmpop, lenA, one, ordA, idxM, l1, it, ix, i1, i2, i3, add_LD, h63]
  exact pureD f
end MP

set_option Elab.async false
set_option linter.all false
set_option maxRecDepth 100000
namespace MP
open PySem
/-! the interpreter's equations, one a construct; a step's rest is looked at when the step is done -/
def varK (o : Option (Option MV)) (h : AH) : R MV := match o with
  | some (some v) => .ok v h
  | _ => .stuck
def tupK (o : Option (List AV)) (h : AH) : R MV := match o with
  | some xs => .ok (.d (.tup xs)) h
  | none => .stuck
def lstK (o : Option (List AV)) (h : AH) : R MV := match o with
  | some xs => .ok (.d (.lst xs)) h
  | none => .stuck
def newlK (o : Option (List AV)) (h : AH) : R MV := match o with
  | some xs => .ok (.ref h.length) (h ++ [.lst xs])
  | none => .stuck
def dspK (o : Option (List AV × List AV)) (h : AH) : R MV := match o with
    | some (ks, ws) => match keysK ks with
      | some kk => if kk.Nodup then .ok (.d (.dct false ks ws)) h else .stuck
      | none => .stuck
    | none => .stuck
def dstK (o : Option (List AV × List AV)) (h : AH) : R MV := match o with
    | some (ks, ws) => match keysT ks with
      | some kk => if kk.Nodup then .ok (.ref h.length) (h ++ [.dct true ks ws]) else .stuck
      | none => .stuck
    | none => .stuck
def biK (f : Bi) (o : Option (List AV)) (h : AH) : R MV := match o with
  | some xs => optV (biF f xs) h
  | none => .stuck
def slcK2 (v : MV) (lo : Option Int) (o : Option (Option Int)) (h : AH) : R MV := match o with
  | some hi => un1 (fun x => slcA x lo hi) v h
  | none => .stuck
def vmeK2 (m : Me) (xs : List AV) (o : Option (List AV)) (h : AH) : R MV := match o with
  | some ws => optV (meF m (.ktp xs) ws) h
  | none => .stuck
def isiB (t : Ty) (x : AV) : Option AV := (isiA x t).map .bl
noncomputable def seqK (T : GT) (ss : Sms) (r : RS) : RS := match r with
  | .nx σ h => evSs T ss σ h
  | .rt v h => .rt v h
  | .bk σ h => .bk σ h
  | .ct σ h => .ct σ h
  | .exc e σ h => .exc e σ h
  | .stuck => .stuck
def putK (σ : AEnv) (o : Option AH) : RS := match o with
  | some h => .nx σ h
  | none => .stuck
noncomputable def kTup  (vs : List MV) (h : AH) : R MV := tupK (allD vs) h
@[simp] theorem d_kTup  {vs : List MV} {h : AH} : kTup  vs h = (tupK (allD vs) h : R MV) := (rfl)
noncomputable def kLst  (vs : List MV) (h : AH) : R MV := lstK (allD vs) h
@[simp] theorem d_kLst  {vs : List MV} {h : AH} : kLst  vs h = (lstK (allD vs) h : R MV) := (rfl)
noncomputable def kNewl  (vs : List MV) (h : AH) : R MV := newlK (allD vs) h
@[simp] theorem d_kNewl  {vs : List MV} {h : AH} : kNewl  vs h = (newlK (allD vs) h : R MV) := (rfl)
noncomputable def kDsp  (vs : List MV) (h : AH) : R MV := dspK (pairUp vs) h
@[simp] theorem d_kDsp  {vs : List MV} {h : AH} : kDsp  vs h = (dspK (pairUp vs) h : R MV) := (rfl)
noncomputable def kDst  (vs : List MV) (h : AH) : R MV := dstK (pairUp vs) h
@[simp] theorem d_kDst  {vs : List MV} {h : AH} : kDst  vs h = (dstK (pairUp vs) h : R MV) := (rfl)
noncomputable def kBin2 (v : MV) (op : Bop) (w : MV) (h : AH) : R MV := bin2 (binop op) v w h
@[simp] theorem d_kBin2 {v : MV} {op : Bop} {w : MV} {h : AH} : kBin2 v op w h = (bin2 (binop op) v w h : R MV) := (rfl)
noncomputable def kBin (T : GT) (σ : AEnv) (op : Bop) (b : Ex) (v : MV) (h : AH) : R MV := (evE T b σ h).bind (kBin2 v op)
@[simp] theorem d_kBin {T : GT} {σ : AEnv} {op : Bop} {b : Ex} {v : MV} {h : AH} : kBin T σ op b v h = ((evE T b σ h).bind (kBin2 v op) : R MV) := (rfl)
noncomputable def kNeg  (v : MV) (h : AH) : R MV := un1 negA v h
@[simp] theorem d_kNeg  {v : MV} {h : AH} : kNeg  v h = (un1 negA v h : R MV) := (rfl)
noncomputable def kNot2  (k : Bool) (h : AH) : R MV := R.ok (.d (.bl (!k))) h
@[simp] theorem d_kNot2  {k : Bool} {h : AH} : kNot2  k h = (R.ok (.d (.bl (!k))) h : R MV) := (rfl)
noncomputable def kNot  (v : MV) (h : AH) : R MV := (truthM v h).bind kNot2
@[simp] theorem d_kNot  {v : MV} {h : AH} : kNot  v h = ((truthM v h).bind kNot2 : R MV) := (rfl)
noncomputable def kAnd2 (T : GT) (σ : AEnv) (b : Ex) (v : MV) (k : Bool) (h : AH) : R MV := if k = true then evE T b σ h else R.ok v h
@[simp] theorem d_kAnd2 {T : GT} {σ : AEnv} {b : Ex} {v : MV} {k : Bool} {h : AH} : kAnd2 T σ b v k h = (if k = true then evE T b σ h else R.ok v h : R MV) := (rfl)
noncomputable def kAnd (T : GT) (σ : AEnv) (b : Ex) (v : MV) (h : AH) : R MV := (truthM v h).bind (kAnd2 T σ b v)
@[simp] theorem d_kAnd {T : GT} {σ : AEnv} {b : Ex} {v : MV} {h : AH} : kAnd T σ b v h = ((truthM v h).bind (kAnd2 T σ b v) : R MV) := (rfl)
noncomputable def kOr2 (T : GT) (σ : AEnv) (b : Ex) (v : MV) (k : Bool) (h : AH) : R MV := if k = true then R.ok v h else evE T b σ h
@[simp] theorem d_kOr2 {T : GT} {σ : AEnv} {b : Ex} {v : MV} {k : Bool} {h : AH} : kOr2 T σ b v k h = (if k = true then R.ok v h else evE T b σ h : R MV) := (rfl)
noncomputable def kOr (T : GT) (σ : AEnv) (b : Ex) (v : MV) (h : AH) : R MV := (truthM v h).bind (kOr2 T σ b v)
@[simp] theorem d_kOr {T : GT} {σ : AEnv} {b : Ex} {v : MV} {h : AH} : kOr T σ b v h = ((truthM v h).bind (kOr2 T σ b v) : R MV) := (rfl)
noncomputable def kIte2 (T : GT) (σ : AEnv) (a : Ex) (b : Ex) (k : Bool) (h : AH) : R MV := if k = true then evE T a σ h else evE T b σ h
@[simp] theorem d_kIte2 {T : GT} {σ : AEnv} {a : Ex} {b : Ex} {k : Bool} {h : AH} : kIte2 T σ a b k h = (if k = true then evE T a σ h else evE T b σ h : R MV) := (rfl)
noncomputable def kIte (T : GT) (σ : AEnv) (a : Ex) (b : Ex) (v : MV) (h : AH) : R MV := (truthM v h).bind (kIte2 T σ a b)
@[simp] theorem d_kIte {T : GT} {σ : AEnv} {a : Ex} {b : Ex} {v : MV} {h : AH} : kIte T σ a b v h = ((truthM v h).bind (kIte2 T σ a b) : R MV) := (rfl)
noncomputable def kCmp2 (v : MV) (q : Cop) (w : MV) (h : AH) : R MV := bin2 (cmpB q) v w h
@[simp] theorem d_kCmp2 {v : MV} {q : Cop} {w : MV} {h : AH} : kCmp2 v q w h = (bin2 (cmpB q) v w h : R MV) := (rfl)
noncomputable def kCmp (T : GT) (σ : AEnv) (q : Cop) (b : Ex) (v : MV) (h : AH) : R MV := (evE T b σ h).bind (kCmp2 v q)
@[simp] theorem d_kCmp {T : GT} {σ : AEnv} {q : Cop} {b : Ex} {v : MV} {h : AH} : kCmp T σ q b v h = ((evE T b σ h).bind (kCmp2 v q) : R MV) := (rfl)
noncomputable def chnK (T : GT) (σ : AEnv) (o : Cop) (c : Ex) (w r : MV) (h : AH) : R MV := match r with
  | .d (.bl true) => (evE T c σ h).bind (kCmp2 w o)
  | .d (.bl false) => .ok (.d (.bl false)) h
  | _ => .stuck
@[simp] theorem k_chnT {T σ h o c w} : chnK T σ o c w (.d (.bl true)) h = (evE T c σ h).bind (kCmp2 w o) := (rfl)
@[simp] theorem k_chnF {T σ h o c w} : chnK T σ o c w (.d (.bl false)) h = .ok (.d (.bl false)) h := (rfl)
noncomputable def kChn2 (T : GT) (σ : AEnv) (q : Cop) (r : Cop) (c : Ex) (v : MV) (w : MV) (h : AH) : R MV := (bin2 (cmpB q) v w h).bind (chnK T σ r c w)
@[simp] theorem d_kChn2 {T : GT} {σ : AEnv} {q : Cop} {r : Cop} {c : Ex} {v : MV} {w : MV} {h : AH} : kChn2 T σ q r c v w h = ((bin2 (cmpB q) v w h).bind (chnK T σ r c w) : R MV) := (rfl)
noncomputable def kChn (T : GT) (σ : AEnv) (q : Cop) (r : Cop) (b : Ex) (c : Ex) (v : MV) (h : AH) : R MV := (evE T b σ h).bind (kChn2 T σ q r c v)
@[simp] theorem d_kChn {T : GT} {σ : AEnv} {q : Cop} {r : Cop} {b : Ex} {c : Ex} {v : MV} {h : AH} : kChn T σ q r b c v h = ((evE T b σ h).bind (kChn2 T σ q r c v) : R MV) := (rfl)
noncomputable def kIdx2 (v : MV) (w : MV) (h : AH) : R MV := idxM v w h
@[simp] theorem d_kIdx2 {v : MV} {w : MV} {h : AH} : kIdx2 v w h = (idxM v w h : R MV) := (rfl)
noncomputable def kIdx (T : GT) (σ : AEnv) (i : Ex) (v : MV) (h : AH) : R MV := (evE T i σ h).bind (kIdx2 v)
@[simp] theorem d_kIdx {T : GT} {σ : AEnv} {i : Ex} {v : MV} {h : AH} : kIdx T σ i v h = ((evE T i σ h).bind (kIdx2 v) : R MV) := (rfl)
noncomputable def kDgt2 (v : MV) (w : MV) (h : AH) : R MV := bin2 dgtA v w h
@[simp] theorem d_kDgt2 {v : MV} {w : MV} {h : AH} : kDgt2 v w h = (bin2 dgtA v w h : R MV) := (rfl)
noncomputable def kDgt (T : GT) (σ : AEnv) (i : Ex) (v : MV) (h : AH) : R MV := (evE T i σ h).bind (kDgt2 v)
@[simp] theorem d_kDgt {T : GT} {σ : AEnv} {i : Ex} {v : MV} {h : AH} : kDgt T σ i v h = ((evE T i σ h).bind (kDgt2 v) : R MV) := (rfl)
noncomputable def kDin2 (n : Bool) (v : MV) (w : MV) (h : AH) : R MV := bin2 (dinA n) v w h
@[simp] theorem d_kDin2 {n : Bool} {v : MV} {w : MV} {h : AH} : kDin2 n v w h = (bin2 (dinA n) v w h : R MV) := (rfl)
noncomputable def kDin (T : GT) (σ : AEnv) (n : Bool) (a : Ex) (v : MV) (h : AH) : R MV := (evE T a σ h).bind (kDin2 n v)
@[simp] theorem d_kDin {T : GT} {σ : AEnv} {n : Bool} {a : Ex} {v : MV} {h : AH} : kDin T σ n a v h = ((evE T a σ h).bind (kDin2 n v) : R MV) := (rfl)
noncomputable def kSlc3 (v : MV) (z : Option Int) (u : List MV) (h : AH) : R MV := slcK2 v z (partOf u) h
@[simp] theorem d_kSlc3 {v : MV} {z : Option Int} {u : List MV} {h : AH} : kSlc3 v z u h = (slcK2 v z (partOf u) h : R MV) := (rfl)
noncomputable def slcK (T : GT) (σ : AEnv) (v : MV) (hi : Exs) (o : Option (Option Int)) (h : AH) : R MV := match o with
  | some lo => (evEs T hi σ h).bind (kSlc3 v lo)
  | none => .stuck
@[simp] theorem k_slc {T σ h v hi lo} : slcK T σ v hi (some lo) h = (evEs T hi σ h).bind (kSlc3 v lo) := (rfl)
noncomputable def kSlc2 (T : GT) (σ : AEnv) (v : MV) (hi : Exs) (l : List MV) (h : AH) : R MV := slcK T σ v hi (partOf l) h
@[simp] theorem d_kSlc2 {T : GT} {σ : AEnv} {v : MV} {hi : Exs} {l : List MV} {h : AH} : kSlc2 T σ v hi l h = (slcK T σ v hi (partOf l) h : R MV) := (rfl)
noncomputable def kSlc (T : GT) (σ : AEnv) (lo : Exs) (hi : Exs) (v : MV) (h : AH) : R MV := (evEs T lo σ h).bind (kSlc2 T σ v hi)
@[simp] theorem d_kSlc {T : GT} {σ : AEnv} {lo : Exs} {hi : Exs} {v : MV} {h : AH} : kSlc T σ lo hi v h = ((evEs T lo σ h).bind (kSlc2 T σ v hi) : R MV) := (rfl)
noncomputable def kRvs  (v : MV) (h : AH) : R MV := un1 rvsA v h
@[simp] theorem d_kRvs  {v : MV} {h : AH} : kRvs  v h = (un1 rvsA v h : R MV) := (rfl)
noncomputable def kCall (T : GT) (f : Nat) (vs : List MV) (h : AH) : R MV := T.fn f vs h
@[simp] theorem d_kCall {T : GT} {f : Nat} {vs : List MV} {h : AH} : kCall T f vs h = (T.fn f vs h : R MV) := (rfl)
noncomputable def kBi (g : Bi) (vs : List MV) (h : AH) : R MV := biK g (views vs h) h
@[simp] theorem d_kBi {g : Bi} {vs : List MV} {h : AH} : kBi g vs h = (biK g (views vs h) h : R MV) := (rfl)
noncomputable def kIsi (ty : Ty) (v : MV) (h : AH) : R MV := un1 (isiB ty) v h
@[simp] theorem d_kIsi {ty : Ty} {v : MV} {h : AH} : kIsi ty v h = (un1 (isiB ty) v h : R MV) := (rfl)
noncomputable def kMeth2 (m : Me) (v : MV) (vs : List MV) (h : AH) : R MV := methM m v vs h
@[simp] theorem d_kMeth2 {m : Me} {v : MV} {vs : List MV} {h : AH} : kMeth2 m v vs h = (methM m v vs h : R MV) := (rfl)
noncomputable def kMeth (T : GT) (σ : AEnv) (m : Me) (es : Exs) (v : MV) (h : AH) : R MV := if lstCell v h = true then (evEs T es σ h).bind (kMeth2 m v) else R.stuck
@[simp] theorem d_kMeth {T : GT} {σ : AEnv} {m : Me} {es : Exs} {v : MV} {h : AH} : kMeth T σ m es v h = (if lstCell v h = true then (evEs T es σ h).bind (kMeth2 m v) else R.stuck : R MV) := (rfl)
noncomputable def kVme2 (m : Me) (xs : List AV) (vs : List MV) (h : AH) : R MV := vmeK2 m xs (views vs h) h
@[simp] theorem d_kVme2 {m : Me} {xs : List AV} {vs : List MV} {h : AH} : kVme2 m xs vs h = (vmeK2 m xs (views vs h) h : R MV) := (rfl)
noncomputable def kVme (T : GT) (σ : AEnv) (m : Me) (es : Exs) (v : MV) (h : AH) : R MV := match v with
  | .d (.ktp xs) => (evEs T es σ h).bind (kVme2 m xs)
  | _ => .stuck
@[simp] theorem d_kVme {T σ h m es xs} : kVme T σ m es (.d (.ktp xs)) h = (evEs T es σ h).bind (kVme2 m xs) := (rfl)
noncomputable def kNew  (v : MV) (h : AH) : R MV := newM v h
@[simp] theorem d_kNew  {v : MV} {h : AH} : kNew  v h = (newM v h : R MV) := (rfl)
noncomputable def kCons2 (v : MV) (vs : List MV) (h : AH) : R (List MV) := R.ok (v :: vs) h
@[simp] theorem d_kCons2 {v : MV} {vs : List MV} {h : AH} : kCons2 v vs h = (R.ok (v :: vs) h : R (List MV)) := (rfl)
noncomputable def kCons (T : GT) (σ : AEnv) (es : Exs) (v : MV) (h : AH) : R (List MV) := (evEs T es σ h).bind (kCons2 v)
@[simp] theorem d_kCons {T : GT} {σ : AEnv} {es : Exs} {v : MV} {h : AH} : kCons T σ es v h = ((evEs T es σ h).bind (kCons2 v) : R (List MV)) := (rfl)
noncomputable def kC2 (T : GT) (σ : AEnv) (es : Exs) (k : Bool) (h : AH) : R Bool := if k = true then evC T es σ h else R.ok false h
@[simp] theorem d_kC2 {T : GT} {σ : AEnv} {es : Exs} {k : Bool} {h : AH} : kC2 T σ es k h = (if k = true then evC T es σ h else R.ok false h : R Bool) := (rfl)
noncomputable def kC (T : GT) (σ : AEnv) (es : Exs) (v : MV) (h : AH) : R Bool := (truthM v h).bind (kC2 T σ es)
@[simp] theorem d_kC {T : GT} {σ : AEnv} {es : Exs} {v : MV} {h : AH} : kC T σ es v h = ((truthM v h).bind (kC2 T σ es) : R Bool) := (rfl)
noncomputable def kT  (v : MV) (h : AH) : R Bool := truthM v h
@[simp] theorem d_kT  {v : MV} {h : AH} : kT  v h = (truthM v h : R Bool) := (rfl)
noncomputable def kOf  (v : MV) (h : AH) : R Src := srcOf v h
@[simp] theorem d_kOf  {v : MV} {h : AH} : kOf  v h = (srcOf v h : R Src) := (rfl)
noncomputable def kRng  (vs : List MV) (h : AH) : R Src := rngOf vs h
@[simp] theorem d_kRng  {vs : List MV} {h : AH} : kRng  vs h = (rngOf vs h : R Src) := (rfl)
noncomputable def kEnm2 (s : Src) (h : AH) : R Src := .ok ⟨enumItems 0 s.items, s.cell⟩ h
@[simp] theorem d_kEnm2 {s h} : kEnm2 s h = .ok ⟨enumItems 0 s.items, s.cell⟩ h := (rfl)
noncomputable def kEnm  (v : MV) (h : AH) : R Src := (srcE v h).bind kEnm2
@[simp] theorem d_kEnm  {v : MV} {h : AH} : kEnm  v h = ((srcE v h).bind kEnm2 : R Src) := (rfl)
@[simp] theorem x_evE_cN {T : GT} {σ : AEnv} {h : AH}  : evE T (.cN ) σ h = .ok (.d .non) h := (rfl)
@[simp] theorem x_cB {T : GT} {σ : AEnv} {h : AH} {b} : evE T (.cB b) σ h = .ok (.d (.bl b)) h := (rfl)
@[simp] theorem x_cI {T : GT} {σ : AEnv} {h : AH} {b} : evE T (.cI b) σ h = .ok (.d (.int b)) h := (rfl)
@[simp] theorem x_cS {T : GT} {σ : AEnv} {h : AH} {b} : evE T (.cS b) σ h = .ok (.d (.str b)) h := (rfl)
@[simp] theorem x_var {T : GT} {σ : AEnv} {h : AH} {i} : evE T (.var i) σ h = varK σ[i]? h := (rfl)
@[simp] theorem x_glb {T : GT} {σ : AEnv} {h : AH} {i} : evE T (.glb i) σ h = optV (T.dat i) h := (rfl)
@[simp] theorem x_newd {T : GT} {σ : AEnv} {h : AH} {t} : evE T (.newd t) σ h = .ok (.ref h.length) (h ++ [.dct t [] []]) := (rfl)
@[simp] theorem x_evE_tup {T : GT} {σ : AEnv} {h : AH} {es : Exs} : evE T (.tup es) σ h = (evEs T es σ h).bind kTup := (rfl)
@[simp] theorem x_evE_lst {T : GT} {σ : AEnv} {h : AH} {es : Exs} : evE T (.lst es) σ h = (evEs T es σ h).bind kLst := (rfl)
@[simp] theorem x_evE_newl {T : GT} {σ : AEnv} {h : AH} {es : Exs} : evE T (.newl es) σ h = (evEs T es σ h).bind kNewl := (rfl)
@[simp] theorem x_evE_dsp {T : GT} {σ : AEnv} {h : AH} {es : Exs} : evE T (.dsp es) σ h = (evEs T es σ h).bind kDsp := (rfl)
@[simp] theorem x_evE_dst {T : GT} {σ : AEnv} {h : AH} {es : Exs} : evE T (.dst es) σ h = (evEs T es σ h).bind kDst := (rfl)
@[simp] theorem x_evE_bin {T : GT} {σ : AEnv} {h : AH} {op : Bop} {a : Ex} {b : Ex} : evE T (.bin op a b) σ h = (evE T a σ h).bind (kBin T σ op b) := (rfl)
@[simp] theorem x_evE_neg {T : GT} {σ : AEnv} {h : AH} {a : Ex} : evE T (.neg a) σ h = (evE T a σ h).bind kNeg := (rfl)
@[simp] theorem x_evE_not {T : GT} {σ : AEnv} {h : AH} {a : Ex} : evE T (.not a) σ h = (evE T a σ h).bind kNot := (rfl)
@[simp] theorem x_evE_and {T : GT} {σ : AEnv} {h : AH} {a : Ex} {b : Ex} : evE T (.and a b) σ h = (evE T a σ h).bind (kAnd T σ b) := (rfl)
@[simp] theorem x_evE_or {T : GT} {σ : AEnv} {h : AH} {a : Ex} {b : Ex} : evE T (.or a b) σ h = (evE T a σ h).bind (kOr T σ b) := (rfl)
@[simp] theorem x_evE_ite {T : GT} {σ : AEnv} {h : AH} {c : Ex} {a : Ex} {b : Ex} : evE T (.ite c a b) σ h = (evE T c σ h).bind (kIte T σ a b) := (rfl)
@[simp] theorem x_evE_cmp {T : GT} {σ : AEnv} {h : AH} {q : Cop} {a : Ex} {b : Ex} : evE T (.cmp q a b) σ h = (evE T a σ h).bind (kCmp T σ q b) := (rfl)
@[simp] theorem x_evE_chn {T : GT} {σ : AEnv} {h : AH} {q : Cop} {r : Cop} {a : Ex} {b : Ex} {c : Ex} : evE T (.chn q r a b c) σ h = (evE T a σ h).bind (kChn T σ q r b c) := (rfl)
@[simp] theorem x_evE_idx {T : GT} {σ : AEnv} {h : AH} {a : Ex} {i : Ex} : evE T (.idx a i) σ h = (evE T a σ h).bind (kIdx T σ i) := (rfl)
@[simp] theorem x_evE_dgt {T : GT} {σ : AEnv} {h : AH} {a : Ex} {i : Ex} : evE T (.dgt a i) σ h = (evE T a σ h).bind (kDgt T σ i) := (rfl)
@[simp] theorem x_evE_din {T : GT} {σ : AEnv} {h : AH} {n : Bool} {e : Ex} {a : Ex} : evE T (.din n e a) σ h = (evE T e σ h).bind (kDin T σ n a) := (rfl)
@[simp] theorem x_evE_slc {T : GT} {σ : AEnv} {h : AH} {a : Ex} {lo : Exs} {hi : Exs} : evE T (.slc a lo hi) σ h = (evE T a σ h).bind (kSlc T σ lo hi) := (rfl)
@[simp] theorem x_evE_rvs {T : GT} {σ : AEnv} {h : AH} {a : Ex} : evE T (.rvs a) σ h = (evE T a σ h).bind kRvs := (rfl)
@[simp] theorem x_evE_call {T : GT} {σ : AEnv} {h : AH} {f : Nat} {es : Exs} : evE T (.call f es) σ h = (evEs T es σ h).bind (kCall T f) := (rfl)
@[simp] theorem x_evE_bi {T : GT} {σ : AEnv} {h : AH} {g : Bi} {es : Exs} : evE T (.bi g es) σ h = (evEs T es σ h).bind (kBi g) := (rfl)
@[simp] theorem x_evE_isi {T : GT} {σ : AEnv} {h : AH} {a : Ex} {ty : Ty} : evE T (.isi a ty) σ h = (evE T a σ h).bind (kIsi ty) := (rfl)
@[simp] theorem x_evE_meth {T : GT} {σ : AEnv} {h : AH} {m : Me} {o : Ex} {es : Exs} : evE T (.meth m o es) σ h = (evE T o σ h).bind (kMeth T σ m es) := (rfl)
@[simp] theorem x_evE_vme {T : GT} {σ : AEnv} {h : AH} {m : Me} {o : Ex} {es : Exs} : evE T (.vme m o es) σ h = (evE T o σ h).bind (kVme T σ m es) := (rfl)
@[simp] theorem x_evE_new {T : GT} {σ : AEnv} {h : AH} {e : Ex} : evE T (.new e) σ h = (evE T e σ h).bind kNew := (rfl)
@[simp] theorem x_nil {T : GT} {σ : AEnv} {h : AH} : evEs T .nil σ h = .ok [] h := (rfl)
@[simp] theorem x_c0 {T : GT} {σ : AEnv} {h : AH} : evC T .nil σ h = .ok true h := (rfl)
@[simp] theorem x_t {T : GT} {σ : AEnv} {h : AH} {e} : evT T e σ h = (evE T e σ h).bind kT := (rfl)
@[simp] theorem x_snil {T : GT} {σ : AEnv} {h : AH} : evSs T .nil σ h = .nx σ h := (rfl)
@[simp] theorem x_scons {T : GT} {σ : AEnv} {h : AH} {s ss} : evSs T (.cons s ss) σ h = seqK T ss (evS T s σ h) := (rfl)
@[simp] theorem x_evEs_cons {T : GT} {σ : AEnv} {h : AH} {e : Ex} {es : Exs} : evEs T (.cons e es) σ h = (evE T e σ h).bind (kCons T σ es) := (rfl)
@[simp] theorem x_evC_cons {T : GT} {σ : AEnv} {h : AH} {e : Ex} {es : Exs} : evC T (.cons e es) σ h = (evE T e σ h).bind (kC T σ es) := (rfl)
@[simp] theorem x_evIt_of {T : GT} {σ : AEnv} {h : AH} {e : Ex} : evIt T (.of e) σ h = (evE T e σ h).bind kOf := (rfl)
@[simp] theorem x_evIt_rng {T : GT} {σ : AEnv} {h : AH} {es : Exs} : evIt T (.rng es) σ h = (evEs T es σ h).bind kRng := (rfl)
@[simp] theorem x_evIt_enm {T : GT} {σ : AEnv} {h : AH} {e : Ex} : evIt T (.enm e) σ h = (evE T e σ h).bind kEnm := (rfl)
noncomputable def sSet (σ : AEnv) (t : Tg) (v : MV) (h : AH) : RS := optS (asg t v σ) h
@[simp] theorem d_sSet {σ : AEnv} {t : Tg} {v : MV} {h : AH} : sSet σ t v h = (optS (asg t v σ) h : RS) := (rfl)
noncomputable def sPar (σ : AEnv) (ts : List Nat) (vs : List MV) (h : AH) : RS := optS (setAll ts vs σ) h
@[simp] theorem d_sPar {σ : AEnv} {ts : List Nat} {vs : List MV} {h : AH} : sPar σ ts vs h = (optS (setAll ts vs σ) h : RS) := (rfl)
noncomputable def sPut3 (σ : AEnv) (v : MV) (w : MV) (k : MV) (h : AH) : RS := putK σ (putM w k v h)
@[simp] theorem d_sPut3 {σ : AEnv} {v : MV} {w : MV} {k : MV} {h : AH} : sPut3 σ v w k h = (putK σ (putM w k v h) : RS) := (rfl)
noncomputable def sPut2 (T : GT) (σ : AEnv) (i : Ex) (v : MV) (w : MV) (h : AH) : RS := (evE T i σ h).s σ (sPut3 σ v w)
@[simp] theorem d_sPut2 {T : GT} {σ : AEnv} {i : Ex} {v : MV} {w : MV} {h : AH} : sPut2 T σ i v w h = ((evE T i σ h).s σ (sPut3 σ v w) : RS) := (rfl)
noncomputable def sPut (T : GT) (σ : AEnv) (o : Ex) (i : Ex) (v : MV) (h : AH) : RS := (evE T o σ h).s σ (sPut2 T σ i v)
@[simp] theorem d_sPut {T : GT} {σ : AEnv} {o : Ex} {i : Ex} {v : MV} {h : AH} : sPut T σ o i v h = ((evE T o σ h).s σ (sPut2 T σ i v) : RS) := (rfl)
noncomputable def sDpt3 (σ : AEnv) (v : MV) (w : MV) (k : MV) (h : AH) : RS := putK σ (dptM w k v h)
@[simp] theorem d_sDpt3 {σ : AEnv} {v : MV} {w : MV} {k : MV} {h : AH} : sDpt3 σ v w k h = (putK σ (dptM w k v h) : RS) := (rfl)
noncomputable def sDpt2 (T : GT) (σ : AEnv) (i : Ex) (v : MV) (w : MV) (h : AH) : RS := (evE T i σ h).s σ (sDpt3 σ v w)
@[simp] theorem d_sDpt2 {T : GT} {σ : AEnv} {i : Ex} {v : MV} {w : MV} {h : AH} : sDpt2 T σ i v w h = ((evE T i σ h).s σ (sDpt3 σ v w) : RS) := (rfl)
noncomputable def sDpt (T : GT) (σ : AEnv) (o : Ex) (i : Ex) (v : MV) (h : AH) : RS := (evE T o σ h).s σ (sDpt2 T σ i v)
@[simp] theorem d_sDpt {T : GT} {σ : AEnv} {o : Ex} {i : Ex} {v : MV} {h : AH} : sDpt T σ o i v h = ((evE T o σ h).s σ (sDpt2 T σ i v) : RS) := (rfl)
noncomputable def sAug3 (σ : AEnv) (j : Nat) (r : MV) (h : AH) : RS := RS.nx (σ.set j (some r)) h
@[simp] theorem d_sAug3 {σ : AEnv} {j : Nat} {r : MV} {h : AH} : sAug3 σ j r h = (RS.nx (σ.set j (some r)) h : RS) := (rfl)
noncomputable def sAug2 (σ : AEnv) (j : Nat) (op : Bop) (v : MV) (w : MV) (h : AH) : RS := (bin2 (augA op) v w h).s σ (sAug3 σ j)
@[simp] theorem d_sAug2 {σ : AEnv} {j : Nat} {op : Bop} {v : MV} {w : MV} {h : AH} : sAug2 σ j op v w h = ((bin2 (augA op) v w h).s σ (sAug3 σ j) : RS) := (rfl)
noncomputable def augK (T : GT) (i : Nat) (op : Bop) (e : Ex) (σ : AEnv) (h : AH) (o : Option (Option MV)) : RS := match o with
  | some (some v) => (evE T e σ h).s σ (sAug2 σ i op v)
  | _ => .stuck
@[simp] theorem k_aug {T σ h i op e v} : augK T i op e σ h (some (some v)) = (evE T e σ h).s σ (sAug2 σ i op v) := (rfl)
noncomputable def sEx (σ : AEnv) (_v : MV) (h : AH) : RS := RS.nx σ h
@[simp] theorem d_sEx {σ : AEnv} {_v : MV} {h : AH} : sEx σ _v h = (RS.nx σ h : RS) := (rfl)
noncomputable def sRet  (v : MV) (h : AH) : RS := RS.rt v h
@[simp] theorem d_sRet  {v : MV} {h : AH} : sRet  v h = (RS.rt v h : RS) := (rfl)
noncomputable def sIfs (T : GT) (σ : AEnv) (A : Sms) (B : Sms) (k : Bool) (h : AH) : RS := if k = true then evSs T A σ h else evSs T B σ h
@[simp] theorem d_sIfs {T : GT} {σ : AEnv} {A : Sms} {B : Sms} {k : Bool} {h : AH} : sIfs T σ A B k h = (if k = true then evSs T A σ h else evSs T B σ h : RS) := (rfl)
@[simp] theorem x_evS_set {T : GT} {σ : AEnv} {h : AH} {t : Tg} {e : Ex} : evS T (.set t e) σ h = (evE T e σ h).s σ (sSet σ t) := (rfl)
@[simp] theorem x_evS_par {T : GT} {σ : AEnv} {h : AH} {ts : List Nat} {es : Exs} : evS T (.par ts es) σ h = (evEs T es σ h).s σ (sPar σ ts) := (rfl)
@[simp] theorem x_evS_put {T : GT} {σ : AEnv} {h : AH} {o : Ex} {i : Ex} {e : Ex} : evS T (.put o i e) σ h = (evE T e σ h).s σ (sPut T σ o i) := (rfl)
@[simp] theorem x_evS_dpt {T : GT} {σ : AEnv} {h : AH} {o : Ex} {i : Ex} {e : Ex} : evS T (.dpt o i e) σ h = (evE T e σ h).s σ (sDpt T σ o i) := (rfl)
@[simp] theorem x_evS_aug {T : GT} {σ : AEnv} {h : AH} {j : Nat} {op : Bop} {e : Ex} : evS T (.aug j op e) σ h = augK T j op e σ h σ[j]? := (rfl)
@[simp] theorem x_evS_ex {T : GT} {σ : AEnv} {h : AH} {e : Ex} : evS T (.ex e) σ h = (evE T e σ h).s σ (sEx σ) := (rfl)
@[simp] theorem x_evS_ret {T : GT} {σ : AEnv} {h : AH} {e : Ex} : evS T (.ret e) σ h = (evE T e σ h).s σ sRet := (rfl)
@[simp] theorem x_evS_ifs {T : GT} {σ : AEnv} {h : AH} {c : Ex} {A : Sms} {B : Sms} : evS T (.ifs c A B) σ h = (evT T c σ h).s σ (sIfs T σ A B) := (rfl)
@[simp] theorem x_rai {T : GT} {σ : AEnv} {h : AH} {c} : evS T (.rai c) σ h = .exc ⟨c, []⟩ σ h := (rfl)
section
variable {T : GT} {σ : AEnv} {h : AH}
@[simp] theorem bind_ok {α β : Type} {a : α} {f : α → AH → R β} : R.bind (.ok a h) f = f a h := (rfl)
@[simp] theorem bind_exc {α β : Type} {e : Exc} {f : α → AH → R β} : R.bind (.exc e h) f = .exc e h := (rfl)
@[simp] theorem s_ok {α : Type} {a : α} {f : α → AH → RS} : R.s (.ok a h) σ f = f a h := (rfl)
@[simp] theorem s_exc {α : Type} {e : Exc} {f : α → AH → RS} : R.s (.exc e h) σ f = .exc e σ h := (rfl)
@[simp] theorem k_var {v} : varK (some (some v)) h = .ok v h := (rfl)
@[simp] theorem k_tup {v} : tupK (some v) h = .ok (.d (.tup v)) h := (rfl)
@[simp] theorem k_lst {v} : lstK (some v) h = .ok (.d (.lst v)) h := (rfl)
@[simp] theorem k_newl {v} : newlK (some v) h = .ok (.ref h.length) (h ++ [.lst v]) := (rfl)
@[simp] theorem k_bi {f v} : biK f (some v) h = optV (biF f v) h := (rfl)
@[simp] theorem k_slc2 {v lo hi} : slcK2 v lo (some hi) h = un1 (fun x => slcA x lo hi) v h := (rfl)
@[simp] theorem k_vme2 {m xs ws} : vmeK2 m xs (some ws) h = optV (meF m (.ktp xs) ws) h := (rfl)
@[simp] theorem k_seqN {ss} : seqK T ss (.nx σ h) = evSs T ss σ h := (rfl)
@[simp] theorem k_seqR {ss v} : seqK T ss (.rt v h) = .rt v h := (rfl)
@[simp] theorem k_seqB {ss} : seqK T ss (.bk σ h) = .bk σ h := (rfl)
@[simp] theorem k_seqC {ss} : seqK T ss (.ct σ h) = .ct σ h := (rfl)
@[simp] theorem k_seqX {ss e} : seqK T ss (.exc e σ h) = .exc e σ h := (rfl)
@[simp] theorem k_put : putK σ (some h) = .nx σ h := (rfl)
@[simp] theorem k_optV {a} : optV (some a) h = .ok (.d a) h := (rfl)
@[simp] theorem k_opt {α : Type} {a : α} : opt (some a) h = .ok a h := (rfl)
@[simp] theorem k_optS : optS (some σ) h = .nx σ h := (rfl)
@[simp] theorem k_un1 {f a} : un1 f (.d a) h = optV (f a) h := (rfl)
@[simp] theorem k_bin2 {f a b} : bin2 f (.d a) (.d b) h = optV (f a b) h := (rfl)
@[simp] theorem k_cmpB {o a b} : cmpB o a b = (cmpop o a b).map .bl := (rfl)
@[simp] theorem k_idxM {a w} : idxM (.d a) w h = bin2 idxA (.d a) w h := (rfl)
@[simp] theorem k_truthM {a} : truthM (.d a) h = opt (truthy? a) h := (rfl)
@[simp] theorem k_view {a} : view (.d a) h = some a := (rfl)
@[simp] theorem k_views0 : views [] h = some [] := (rfl)
@[simp] theorem k_views {a r} : views (.d a :: r) h = (views r h).map (a :: ·) := by
  show (match view (.d a) h, views r h with | some x, some xs => some (x :: xs) | _, _ => none) = _
  cases views r h <;> rfl
@[simp] theorem k_allD0 : allD [] = some [] := (rfl)
@[simp] theorem k_allD {a r} : allD (.d a :: r) = (allD r).map (a :: ·) := by
  show (match allD r with | some vs => some (a :: vs) | none => none) = _
  cases allD r <;> rfl
@[simp] theorem k_asData {a} : asData (.d a) h = .ok a h := (rfl)
@[simp] theorem k_part0 : partOf [] = some none := (rfl)
@[simp] theorem k_part1 {i} : partOf [.d (.int i)] = some (some i) := (rfl)
@[simp] theorem k_asgN {i v} : asg (.nm i) v σ = some (σ.set i (some v)) := (rfl)
@[simp] theorem k_asgT {ts xs} : asg (.tp ts) (.d (.tup xs)) σ = if tgLen ts = xs.length then asgs ts xs σ else none := (rfl)
@[simp] theorem k_asgs0 : asgs .nil [] σ = some σ := (rfl)
@[simp] theorem k_asgs {t ts x xs} : asgs (.cons t ts) (x :: xs) σ = (asg t (.d x) σ).bind fun σ' => asgs ts xs σ' := by
  show (match asg t (.d x) σ with | some σ' => asgs ts xs σ' | none => none) = _
  cases asg t (.d x) σ <;> rfl
@[simp] theorem k_tgLen0 : tgLen .nil = 0 := (rfl)
@[simp] theorem k_tgLen {t ts} : tgLen (.cons t ts) = tgLen ts + 1 := (rfl)
@[simp] theorem k_setAll0 : setAll [] [] σ = some σ := (rfl)
@[simp] theorem k_setAll {i is v vs} : setAll (i :: is) (v :: vs) σ = setAll is vs (σ.set i (some v)) := (rfl)
@[simp] theorem k_wipe0 : wipeA σ [] = σ := (rfl)
@[simp] theorem k_wipe {v vs} : wipeA σ (v :: vs) = (wipeA σ vs).set v none := (rfl)
@[simp] theorem k_trN : truthy? .non = some false := (rfl)
@[simp] theorem k_trB {b} : truthy? (.bl b) = some b := (rfl)
@[simp] theorem k_trI {b} : truthy? (.int b) = some (b != 0) := (rfl)
@[simp] theorem k_eqI {i j : Int} : cmpop .eq (.int i) (.int j) = some (i == j) := (rfl)
@[simp] theorem k_neI {i j : Int} : cmpop .ne (.int i) (.int j) = some (i != j) := (rfl)
@[simp] theorem k_ltI {i j : Int} : cmpop .lt (.int i) (.int j) = some (decide (i < j)) := (rfl)
@[simp] theorem k_leI {i j : Int} : cmpop .le (.int i) (.int j) = some (decide (i ≤ j)) := (rfl)
@[simp] theorem k_gtI {i j : Int} : cmpop .gt (.int i) (.int j) = some (decide (j < i)) := (rfl)
@[simp] theorem k_geI {i j : Int} : cmpop .ge (.int i) (.int j) = some (decide (j ≤ i)) := (rfl)
@[simp] theorem k_isN {a} : cmpop .is_ a .non = some (isNon a) := (rfl)
@[simp] theorem k_isnN {a} : cmpop .isn a .non = some (!isNon a) := (rfl)
@[simp] theorem k_isB {a b} : cmpop .is_ (.bl a) (.bl b) = some (decide (a = b)) := (rfl)
@[simp] theorem k_isnB {a b} : cmpop .isn (.bl a) (.bl b) = some (!decide (a = b)) := (rfl)
@[simp] theorem k_isNon0 : isNon .non = true := (rfl)
@[simp] theorem k_isNonT {xs} : isNon (.tup xs) = false := (rfl)
@[simp] theorem k_isNonS {xs} : isNon (.str xs) = false := (rfl)
theorem k_eq {a b} : cmpop .eq a b = eqv? a b := (rfl)
theorem k_ne {a b} : cmpop .ne a b = (eqv? a b).map (!·) := (rfl)
@[simp] theorem k_in {a b} : cmpop .in_ a b = inA a b := (rfl)
@[simp] theorem k_nin {a b} : cmpop .nin a b = (inA a b).map (!·) := (rfl)
@[simp] theorem k_addI {i j : Int} : binop .add (.int i) (.int j) = some (.int (i + j)) := (rfl)
@[simp] theorem k_subI {i j : Int} : binop .sub (.int i) (.int j) = some (.int (i - j)) := (rfl)
@[simp] theorem k_lenT {xs} : biF .len [.tup xs] = some (.int xs.length) := (rfl)
@[simp] theorem k_lenK {xs} : biF .len [.ktp xs] = some (.int xs.length) := (rfl)
@[simp] theorem k_lenL {xs} : biF .len [.lst xs] = some (.int xs.length) := (rfl)
@[simp] theorem k_lenS {xs} : biF .len [.str xs] = some (.int xs.length) := (rfl)
@[simp] theorem k_tupL {xs} : biF .tuple [.lst xs] = some (.tup xs) := (rfl)
@[simp] theorem k_tupT {xs} : biF .tuple [.tup xs] = some (.tup xs) := (rfl)
@[simp] theorem k_lstL {xs} : biF .list [.lst xs] = some (.lst xs) := (rfl)
@[simp] theorem k_lstT {xs} : biF .list [.tup xs] = some (.lst xs) := (rfl)
@[simp] theorem k_intI {i} : biF .int [.int i] = some (.int i) := (rfl)
@[simp] theorem k_slcT {xs lo hi} : slcA (.tup xs) lo hi = some (.tup (cutL xs lo hi)) := (rfl)
@[simp] theorem k_slcL {xs lo hi} : slcA (.lst xs) lo hi = some (.lst (cutL xs lo hi)) := (rfl)
@[simp] theorem k_all {xs} : biF .all [.lst xs] = (blsOf xs).map fun bs => .bl (bs.all id) := by
  show (match blsOf xs with | some is => some (AV.bl (is.all id)) | none => none) = _
  cases blsOf xs <;> rfl
@[simp] theorem k_neg {i} : negA (.int i) = some (.int (-i)) := (rfl)
@[simp] theorem t0_4 (a b c d : AV) : idxA (.tup [a, b, c, d]) (.int 0) = some a := (rfl)
@[simp] theorem t1_4 (a b c d : AV) : idxA (.tup [a, b, c, d]) (.int 1) = some b := (rfl)
@[simp] theorem t2_4 (a b c d : AV) : idxA (.tup [a, b, c, d]) (.int 2) = some c := (rfl)
@[simp] theorem t3_4 (a b c d : AV) : idxA (.tup [a, b, c, d]) (.int 3) = some d := (rfl)
@[simp] theorem t0_2 (a b : AV) : idxA (.tup [a, b]) (.int 0) = some a := (rfl)
@[simp] theorem t1_2 (a b : AV) : idxA (.tup [a, b]) (.int 1) = some b := (rfl)
@[simp] theorem t0_3 (a b c : AV) : idxA (.tup [a, b, c]) (.int 0) = some a := (rfl)
@[simp] theorem t1_3 (a b c : AV) : idxA (.tup [a, b, c]) (.int 1) = some b := (rfl)
@[simp] theorem t2_3 (a b c : AV) : idxA (.tup [a, b, c]) (.int 2) = some c := (rfl)
@[simp] theorem i_non {t} : isiB t .non = some (.bl false) := (rfl)
@[simp] theorem i_bl {t b} : isiB t (.bl b) = some (.bl (t == .bool || t == .int)) := (rfl)
@[simp] theorem i_int {t b} : isiB t (.int b) = some (.bl (t == .int)) := (rfl)
@[simp] theorem i_str {t b} : isiB t (.str b) = some (.bl (t == .str)) := (rfl)
@[simp] theorem i_tup {t b} : isiB t (.tup b) = some (.bl (t == .tuple)) := (rfl)
@[simp] theorem i_lst {t b} : isiB t (.lst b) = some (.bl (t == .list)) := (rfl)
@[simp] theorem i_dct {t a b c} : isiB t (.dct a b c) = some (.bl (t == .dict)) := (rfl)
@[simp] theorem i_ktp {t b} : isiB t (.ktp b) = some (.bl (t == .tuple)) := (rfl)
@[simp] theorem k_finR {mt n v} : finS mt n (.rt v h) = fin mt n v h := (rfl)
@[simp] theorem k_finN {mt n} : finS mt n (.nx σ h) = fin mt n (.d .non) h := (rfl)
@[simp] theorem k_finX {mt n e} : finS mt n (.exc e σ h) = finX n e h := (rfl)
/-- a comprehension, its parts known -/
theorem x_comp {t it c e own} {s : Src} {h1 h2 : AH} {xs : List AV} (e1 : evIt T it σ h = .ok s h1) (e2 : compL (turn T t c e (wipeA σ own)) s.cell s.items h1 = .ok xs h2) (hl : xs.length ≤ sizeLine) : evE T (.comp t it c e own) σ h = .ok (.d (.lst xs)) h2 := by
  show (evIt T it σ h).bind (fun s h => (compL (turn T t c e (wipeA σ own)) s.cell s.items h).bind endL) = _
  rw [e1, bind_ok, e2, bind_ok]
  exact if_pos hl
end
end MP

set_option Elab.async false
set_option linter.all false
set_option maxRecDepth 100000
namespace MP
open PySem
theorem compL_pure {f : AV → AH → R (Option AV)} {g : AV → Option AV} {h : AH} : ∀ {xs : List AV}, (∀ x ∈ xs, f x h = .ok (g x) h) → compL f none xs h = .ok (xs.filterMap g) h
  | [], _ => rfl
  | x :: xs, e => by
    unfold compL
    rw [e x List.mem_cons_self]
    dsimp only
    rw [if_pos (show stillAt none h from trivial), compL_pure fun y hy => e y (List.mem_cons_of_mem _ hy)]
    dsimp only
    rw [List.filterMap_cons]
    cases g x <;> rfl
theorem compL_map {f : AV → AH → R (Option AV)} {g : AV → AV} {h : AH} {xs : List AV} (e : ∀ x ∈ xs, f x h = .ok (some (g x)) h) : compL f none xs h = .ok (xs.map g) h := by
  rw [compL_pure (g := fun x => some (g x)) e]
  congr 1
  exact congrFun List.filterMap_eq_map xs
theorem compL_filter {f : AV → AH → R (Option AV)} {p : AV → Bool} {h : AH} {xs : List AV} (e : ∀ x ∈ xs, f x h = .ok (if p x = true then some x else none) h) : compL f none xs h = .ok (xs.filter p) h := by
  rw [compL_pure (g := fun x => if p x = true then some x else none) e]
  congr 1
  induction xs with
  | nil => rfl
  | cons x xs ih =>
    rw [List.filterMap_cons, List.filter_cons, ih fun y hy => e y (List.mem_cons_of_mem _ hy)]
    cases p x <;> rfl
theorem blsOf_map {α : Type} (g : α → Bool) : ∀ xs : List α, blsOf (xs.map fun x => AV.bl (g x)) = some (xs.map g)
  | [] => rfl
  | x :: xs => by
    rw [List.map_cons]
    unfold blsOf
    rw [blsOf_map g xs]
    rfl
/-- a value of which is_name says b -/
def NameV (v : AV) (b : Bool) : Prop := ∀ (d : Nat) (h : AH), Flat h → callF Pr Gc (d + 1) 16 [.d v] h = .ok (.d (.bl b)) h
theorem is_row_tup (d : Nat) (xs : List AV) (g : AV → Bool) (h : AH) (f : Flat h) (hg : ∀ x ∈ xs, NameV x (g x)) (hl : xs.length ≤ 6000) :
    callF Pr Gc (d + 2) 17 [.d (.tup xs)] h = .ok (.d (.bl (decide ((xs.length : Int) ≤ 5000) && xs.all g))) h := by
  have hz : xs.length ≤ sizeLine := by rw [sizeLine_eq]; omega
  rw [callF_succ]
  have hcomp : evE ⟨callF Pr Gc (d + 1), Gc⟩ (.comp (.nm 1) (.of (.var 0)) .nil (.call 16 (.cons (.var 1) .nil)) [1]) [some (.d (.tup xs)), none] h = .ok (.d (.lst (xs.map fun x => .bl (g x)))) h := by
    refine x_comp (s := ⟨xs, none⟩) rfl (compL_map fun x hx => ?_) (by rw [List.length_map]; exact hz)
    have e := hg x hx d h f
    simp [turn, e]
  by_cases hc : (xs.length : Int) ≤ 5000
  · rw [decide_eq_true hc, Bool.true_and]
    simp [Pr, b17, startA, Gc, hc, hcomp, blsOf_map]
    exact pureD f
  · rw [decide_eq_false hc, Bool.false_and]
    simp [Pr, b17, startA, Gc, hc]
    exact pureD f
end MP

set_option Elab.async false
set_option linter.all false
set_option maxRecDepth 100000
set_option maxHeartbeats 4000000
namespace MP
open PySem
/-- two sides -/
def pairA (m0 : Int) (v0 : List AV) (e0 : AV) (m1 : Int) (v1 : List AV) (e1 : AV) : AV := .tup [.tup [.int m0, .tup v0, e0], .tup [.int m1, .tup v1, e1]]
/-- a value of which is_row says b -/
def RowV (v : AV) (b : Bool) : Prop := ∀ (d : Nat) (h : AH), Flat h → callF Pr Gc (d + 2) 17 [.d v] h = .ok (.d (.bl b)) h
def Typed (v : AV) : Prop := ∀ T, ∃ b, isiA v T = some b
theorem is_conf (d : Nat) (m0 : Int) (v0 : List AV) (e0 : AV) (m1 : Int) (v1 : List AV) (e1 : AV) (p q : Int) (x y : AV) (bx bY : Bool) (h : AH) (f : Flat h) (hx : RowV x bx) (hy : RowV y bY) :
    callF Pr Gc (d + 3) 20 [.d (pairA m0 v0 e0 m1 v1 e1), .d (.tup [.int p, .int q, x, y])] h = .ok (.d (.bl (decide (0 ≤ p) && decide (0 ≤ q) && decide (p < m0) && decide (q < m1) && bx && bY))) h := by
  have tp : ∀ i : Int, ∀ T, ∃ b, isiA (.int i) T = some b := fun i T => ⟨_, rfl⟩
  obtain ⟨b1, e1', h1⟩ := is_index_spec d (.int p) h f (tp p)
  obtain ⟨b2, e2', h2⟩ := is_index_spec d (.int q) h f (tp q)
  have hb1 : b1 = decide (0 ≤ p) := by
    cases b1 <;> simp_all
  have hb2 : b2 = decide (0 ≤ q) := by
    cases b2 <;> simp_all
  subst hb1 hb2
  have ex := hx d h f
  have ey := hy d h f
  rw [callF_succ]
  by_cases c1 : 0 ≤ p <;> by_cases c2 : 0 ≤ q <;> by_cases c3 : p < m0 <;> by_cases c4 : q < m1 <;> cases bx <;> 
    (simp [pairA, Pr, b20, startA, e1', e2', ex, ey, c1, c2, c3, c4]; exact pureD f)
end MP

set_option Elab.async false
set_option linter.all false
set_option maxRecDepth 100000
set_option maxHeartbeats 4000000
namespace MP
open PySem
theorem meL : meF .index (.ktp [.str "left", .str "right"]) [.str "left"] = some (.int 0) := rfl
theorem meR : meF .index (.ktp [.str "left", .str "right"]) [.str "right"] = some (.int 1) := rfl
/-- a move of a side -/
structure Mv where
  s : Int
  k : Str
  l : Str
  t : Int
def encM (m : Mv) : AV := .tup [.int m.s, .str m.k, .str m.l, .int m.t]
def sideS (w : Bool) : Str := if w then "right" else "left"
def rowA (x : List Str) : AV := .tup (x.map .str)
def confA (p q : Int) (x y : List Str) : AV := .tup [.int p, .int q, rowA x, rowA y]
def actA (w : Bool) (n : Int) : AV := .tup [.str (sideS w), .int n]
theorem shp_str1 {l : Str} (h : PyData.strOk l = true) : AV.shp (.tup [.str l]) = true := by
  unfold AV.shp
  simp [AV.pl, AV.pls, AV.toD, AV.toDs, SeqAt.shaped, PyData.canLay0, PyData.canLayAll0, h, PyData.depth, PyData.depthAll]
theorem shp_str {l : Str} (h : PyData.strOk l = true) : AV.shp (.str l) = true := by
  unfold AV.shp
  simp [AV.pl, AV.toD, SeqAt.shaped, PyData.canLay0, h, PyData.depth]
theorem eqv_head {l : Str} (hl : PyData.strOk l = true) : ∀ {y : List Str}, (∀ a ∈ y, PyData.strOk a = true) → eqv? (.tup ((y.map AV.str).take 1)) (.tup [.str l]) = some (decide (y.take 1 = [l]))
  | [], _ => by
    unfold eqv?
    rw [shp_str1 hl]
    rfl
  | a :: y, h => by
    unfold eqv?
    show (if (AV.shp (.tup [.str a]) && AV.shp (.tup [.str l])) = true then some (PyData.eqv (.tuple [.str a]) (.tuple [.str l])) else none) = some (decide ([a] = [l]))
    rw [shp_str1 (h a List.mem_cons_self), shp_str1 hl]
    simp [PyData.eqv, PyData.eqvAll]
    by_cases e : a = l <;> simp [e]
end MP

set_option Elab.async false
set_option linter.all false
set_option maxRecDepth 100000
set_option maxHeartbeats 4000000
namespace MP
open PySem
theorem eqv_str {a b : Str} (ha : PyData.strOk a = true) (hb : PyData.strOk b = true) : eqv? (.str a) (.str b) = some (a == b) := by
  unfold eqv?
  rw [shp_str ha, shp_str hb]
  rfl
theorem ok_take : PyData.strOk "take" = true := by decide +kernel
theorem ok_send : PyData.strOk "send" = true := by decide +kernel
theorem ok_step : PyData.strOk "step" = true := by decide +kernel
theorem cut1 (xs : List AV) : cutL xs none (some 1) = xs.take 1 := by
  unfold cutL HT.sIx
  cases xs with
  | nil => rfl
  | cons a xs => simp
def movesOf (w : Bool) (v0 v1 : List Mv) : List Mv := if w then v1 else v0
def pairM (m0 : Int) (v0 : List Mv) (e0 : AV) (m1 : Int) (v1 : List Mv) (e1 : AV) : AV := pairA m0 (v0.map encM) e0 m1 (v1.map encM) e1
def fault (w : Bool) (m : Mv) (p q : Int) (x y : List Str) : AV :=
  if (if w then q else p) = m.s then (if m.k = "take" ∧ ¬ (if w then x else y).take 1 = [m.l] then .str "queue" else .non) else .str "state"
section
variable {T : GT} {σ σ1 : AEnv} {h h1 : AH} {v : MV} {s : Sm} {ss : Sms}
theorem y_nx (e : evS T s σ h = .nx σ1 h1) : evSs T (.cons s ss) σ h = evSs T ss σ1 h1 := by
  show (match evS T s σ h with
    | .nx σ' h' => evSs T ss σ' h'
    | .rt v h' => .rt v h'
    | .bk σ' h' => .bk σ' h'
    | .ct σ' h' => .ct σ' h'
    | .exc e σ' h' => .exc e σ' h'
    | .stuck => .stuck) = _
  rw [e]
theorem y_rt (e : evS T s σ h = .rt v h1) : evSs T (.cons s ss) σ h = .rt v h1 := by
  show (match evS T s σ h with
    | .nx σ' h' => evSs T ss σ' h'
    | .rt v h' => .rt v h'
    | .bk σ' h' => .bk σ' h'
    | .ct σ' h' => .ct σ' h'
    | .exc e σ' h' => .exc e σ' h'
    | .stuck => .stuck) = _
  rw [e]
theorem y_set {t e} {w : MV} (e1 : evE T e σ h = .ok w h1) (e2 : asg t w σ = some σ1) : evS T (.set t e) σ h = .nx σ1 h1 := by
  show (evE T e σ h).s σ (fun v h => optS (asg t v σ) h) = _
  rw [e1, s_ok, e2]
  rfl
theorem y_ret {e} (e1 : evE T e σ h = .ok v h1) : evS T (.ret e) σ h = .rt v h1 := by
  show (evE T e σ h).s σ (fun v h => .rt v h) = _
  rw [e1, s_ok]
theorem y_ifs {c a b} {k : Bool} {r : RS} (e1 : evT T c σ h = .ok k h1) (e2 : (if k = true then evSs T a σ h1 else evSs T b σ h1) = r) : evS T (.ifs c a b) σ h = r := by
  show (evT T c σ h).s σ (fun k h => if k = true then evSs T a σ h else evSs T b σ h) = _
  rw [e1, s_ok]
  exact e2
end
end MP

set_option Elab.async false
set_option linter.all false
set_option maxRecDepth 100000
set_option maxHeartbeats 4000000
namespace MP
open PySem
theorem atI_get {α : Type} {xs : List α} {n : Nat} {x : α} (h : xs[n]? = some x) : L2.atI xs (n : Int) = some x := by
  have hl : n < xs.length := (List.getElem?_eq_some_iff.mp h).1
  unfold L2.atI L2.ixN
  rw [if_pos (Int.natCast_nonneg n), if_pos (by omega)]
  exact h
theorem idx_mv {v : List Mv} {n : Nat} {m : Mv} (h : v[n]? = some m) : idxA (.tup (v.map encM)) (.int n) = some (encM m) :=
  atI_get (by rw [List.getElem?_map, h]; rfl)
theorem ok_left : PyData.strOk "left" = true := by decide +kernel
theorem ok_right : PyData.strOk "right" = true := by decide +kernel
theorem ok_a : PyData.strOk "a" = true := by decide +kernel
theorem ok_b : PyData.strOk "b" = true := by decide +kernel
theorem ok_x : PyData.strOk "x" = true := by decide +kernel
theorem ok_y : PyData.strOk "y" = true := by decide +kernel
theorem ok_e : PyData.strOk "" = true := by decide +kernel
/-- letters of queues -/
def Lets (x : List Str) : Prop := ∀ a ∈ x, a = "a" ∨ a = "b" ∨ a = "x" ∨ a = "y"
def KOk (k : Str) : Prop := k = "send" ∨ k = "take" ∨ k = "step"
theorem KOk.ok {k : Str} (h : KOk k) : PyData.strOk k = true := by
  rcases h with rfl | rfl | rfl
  · exact ok_send
  · exact ok_take
  · exact ok_step
structure MvOk (n : Int) (m : Mv) : Prop where
  s0 : 0 ≤ m.s
  s1 : m.s < n
  t0 : 0 ≤ m.t
  t1 : m.t < n
  k : KOk m.k
  l : if m.k = "step" then m.l = "" else (m.l = "a" ∨ m.l = "b" ∨ m.l = "x" ∨ m.l = "y")
theorem MvOk.lok {n : Int} {m : Mv} (h : MvOk n m) : PyData.strOk m.l = true := by
  have := h.l
  split at this
  · rw [this]; exact ok_e
  · rcases this with e | e | e | e <;> rw [e]
    all_goals first | exact ok_a | exact ok_b | exact ok_x | exact ok_y
theorem Lets.ok {x : List Str} (h : Lets x) : ∀ a ∈ x, PyData.strOk a = true := fun a ha => by
  rcases h a ha with e | e | e | e <;> rw [e]
  all_goals first | exact ok_a | exact ok_b | exact ok_x | exact ok_y
theorem isi3 : idxA (.ktp [.str "left", .str "right"]) (.int 0) = none := rfl
theorem neqv_int (i j : Int) : cmpop .ne (.int i) (.int j) = some (i != j) := rfl
theorem eq_str {a b : Str} (ha : PyData.strOk a = true) (hb : PyData.strOk b = true) : cmpop .eq (.str a) (.str b) = some (a == b) := eqv_str ha hb
theorem ne_str {a b : Str} (ha : PyData.strOk a = true) (hb : PyData.strOk b = true) : cmpop .ne (.str a) (.str b) = some (!(a == b)) := by
  show (eqv? (.str a) (.str b)).map _ = _
  rw [eqv_str ha hb]
  rfl
theorem ne_head {l : Str} {y : List Str} (hl : PyData.strOk l = true) (h : ∀ a ∈ y, PyData.strOk a = true) : cmpop .ne (.tup ((y.map AV.str).take 1)) (.tup [.str l]) = some (!decide (y.take 1 = [l])) := by
  show (eqv? _ _).map _ = _
  rw [eqv_head hl h]
  rfl
/-- a pair, by its parts -/
structure PD where
  m0 : Int
  v0 : List Mv
  e0 : AV
  m1 : Int
  v1 : List Mv
  e1 : AV
namespace PD
def mv (P : PD) (w : Bool) : List Mv := if w then P.v1 else P.v0
def n (P : PD) (w : Bool) : Int := if w then P.m1 else P.m0
def es (P : PD) (w : Bool) : AV := if w then P.e1 else P.e0
def ms (P : PD) (w : Bool) : AV := .tup ((P.mv w).map encM)
def side (P : PD) (w : Bool) : AV := .tup [.int (P.n w), P.ms w, P.es w]
def a (P : PD) : AV := .tup [P.side false, P.side true]
end PD
def wI (w : Bool) : Int := if w then 1 else 0
@[simp] theorem pd_0 {P : PD} : idxA P.a (.int 0) = some (P.side false) := rfl
@[simp] theorem pd_1 {P : PD} : idxA P.a (.int 1) = some (P.side true) := rfl
@[simp] theorem pd_w {P : PD} {w : Bool} : idxA P.a (.int (wI w)) = some (P.side w) := by cases w <;> rfl
@[simp] theorem sd_0 {P : PD} {w : Bool} : idxA (P.side w) (.int 0) = some (.int (P.n w)) := rfl
@[simp] theorem sd_1 {P : PD} {w : Bool} : idxA (P.side w) (.int 1) = some (P.ms w) := rfl
@[simp] theorem sd_2 {P : PD} {w : Bool} : idxA (P.side w) (.int 2) = some (P.es w) := rfl
theorem ms_idx {P : PD} {w : Bool} {n : Nat} {m : Mv} (h : (P.mv w)[n]? = some m) : idxA (P.ms w) (.int n) = some (encM m) := idx_mv h
@[simp] theorem ms_len {P : PD} {w : Bool} : biF .len [P.ms w] = some (.int (P.mv w).length) := by
  show some (AV.int (((P.mv w).map encM).length : Nat)) = _
  rw [List.length_map]
@[simp] theorem act_0 {w : Bool} {n : Int} : idxA (actA w n) (.int 0) = some (.str (sideS w)) := rfl
@[simp] theorem act_1 {w : Bool} {n : Int} : idxA (actA w n) (.int 1) = some (.int n) := rfl
@[simp] theorem me_w {w : Bool} : meF .index (.ktp [.str "left", .str "right"]) [.str (sideS w)] = some (.int (wI w)) := by cases w <;> rfl
@[simp] theorem cf_0 {p q : Int} {x y : List Str} : idxA (confA p q x y) (.int 0) = some (.int p) := rfl
@[simp] theorem cf_1 {p q : Int} {x y : List Str} : idxA (confA p q x y) (.int 1) = some (.int q) := rfl
@[simp] theorem cf_2 {p q : Int} {x y : List Str} : idxA (confA p q x y) (.int 2) = some (rowA x) := rfl
@[simp] theorem cf_3 {p q : Int} {x y : List Str} : idxA (confA p q x y) (.int 3) = some (rowA y) := rfl
@[simp] theorem cf_w {p q : Int} {x y : List Str} {w : Bool} : idxA (confA p q x y) (.int (wI w)) = some (.int (if w then q else p)) := by cases w <;> rfl
@[simp] theorem cf_3w {p q : Int} {x y : List Str} {w : Bool} : idxA (confA p q x y) (.int (3 - wI w)) = some (rowA (if w then x else y)) := by cases w <;> rfl
@[simp] theorem cut_row1 {x : List Str} : slcA (rowA x) none (some 1) = some (rowA (x.take 1)) := by
  show some (AV.tup (cutL _ _ _)) = _
  rw [cut1, ← List.map_take]
  rfl
theorem ne_row {l : Str} {y : List Str} (hl : PyData.strOk l = true) (h : ∀ a ∈ y, PyData.strOk a = true) : cmpop .ne (rowA (y.take 1)) (.tup [.str l]) = some (!decide (y.take 1 = [l])) := by
  unfold rowA
  rw [List.map_take]
  exact ne_head hl h
theorem asg_mv {m : Mv} {i j k l : Nat} {σ : AEnv} : asg (.tp (.cons (.nm i) (.cons (.nm j) (.cons (.nm k) (.cons (.nm l) .nil))))) (.d (encM m)) σ = some ((((σ.set i (some (.d (.int m.s)))).set j (some (.d (.str m.k)))).set k (some (.d (.str m.l)))).set l (some (.d (.int m.t)))) := rfl
theorem asg_cf {p q : Int} {x y : List Str} {i j k l : Nat} {σ : AEnv} : asg (.tp (.cons (.nm i) (.cons (.nm j) (.cons (.nm k) (.cons (.nm l) .nil))))) (.d (confA p q x y)) σ = some ((((σ.set i (some (.d (.int p)))).set j (some (.d (.int q)))).set k (some (.d (rowA x)))).set l (some (.d (rowA y)))) := rfl
def faultB (w : Bool) (m : Mv) (p q : Int) (x y : List Str) : AV :=
  if (if w then q else p) = m.s then (if (m.k == "take") && !decide ((if w then x else y).take 1 = [m.l]) then .str "queue" else .non) else .str "state"
theorem fault_spec (d : Nat) {P : PD} {p q : Int} {x y : List Str} {w : Bool} {n : Nat} {m : Mv} {N : Int} (h : AH) (f : Flat h)
    (hx : Lets x) (hy : Lets y) (hm : (P.mv w)[n]? = some m) (ok : MvOk N m) :
    callF Pr Gc (d + 1) 25 [.d P.a, .d (confA p q x y), .d (actA w n)] h = .ok (.d (faultB w m p q x y)) h := by
  have ek := eq_str ok.k.ok ok_take
  have ty := ne_row (y := if w then x else y) ok.lok (by cases w; exact hy.ok; exact hx.ok)
  have hi := ms_idx hm
  rw [callF_succ]
  by_cases c1 : (if w = true then q else p) = m.s <;> cases c2 : (m.k == "take") <;> by_cases c3 : (if w = true then x else y).take 1 = [m.l] <;>
    (rw [show faultB w m p q x y = _ by simp [faultB, c1, c2, c3]; rfl]
     first | rw [decide_eq_true c3] at ty | rw [decide_eq_false c3] at ty
     simp [Pr, b25, startA, Gc, hi, asg_mv, c1, c2, ek, ty]; exact pureD f)
end MP

set_option Elab.async false
set_option linter.all false
set_option maxRecDepth 100000
set_option maxHeartbeats 4000000
namespace MP
open PySem
theorem get_last {h : AH} {c : Cell} : (h ++ [c])[h.length]? = some c := by simp
theorem set_last {h : AH} {c c' : Cell} : (h ++ [c]).set h.length c' = h ++ [c'] := by simp
theorem fin_app {mt : Bool} {v : AV} {h : AH} {c : Cell} (f : Flat h) : fin mt h.length (.d v) (h ++ [c]) = .ok (.d v) h := by
  unfold fin
  rw [List.take_append_of_le_length (Nat.le_refl _), List.take_length, if_pos]
  exact List.all_eq_true.mpr fun c hc => f c hc _
theorem size6000 : 6000 ≤ sizeLine := by rw [sizeLine_eq]; decide
theorem addT {xs ys : List AV} (hl : xs.length + ys.length ≤ 6000) : binop .add (.tup xs) (.tup ys) = some (.tup (xs ++ ys)) := if_pos (Nat.le_trans hl size6000)
theorem addL {xs ys : List AV} (hl : xs.length + ys.length ≤ 6000) : binop .add (.lst xs) (.lst ys) = some (.lst (xs ++ ys)) := if_pos (Nat.le_trans hl size6000)
theorem cut1n {α : Type} (xs : List α) : cutL xs (some 1) none = xs.drop 1 := by
  unfold cutL HT.sIx
  cases xs with
  | nil => rfl
  | cons a xs => simp
def nextP (w : Bool) (m : Mv) (p q : Int) : Int := if w then p else m.t
def nextQ (w : Bool) (m : Mv) (p q : Int) : Int := if w then m.t else q
def nextX (w : Bool) (m : Mv) (x : List Str) : List Str := if w then (if m.k == "take" then x.drop 1 else x) else (if m.k == "send" then x ++ [m.l] else x)
def nextY (w : Bool) (m : Mv) (y : List Str) : List Str := if w then (if m.k == "send" then y ++ [m.l] else y) else (if m.k == "take" then y.drop 1 else y)
def nextA (w : Bool) (m : Mv) (p q : Int) (x y : List Str) : AV := confA (nextP w m p q) (nextQ w m p q) (nextX w m x) (nextY w m y)
theorem idx_last {h : AH} {xs : List AV} {w : MV} : idxM (.ref h.length) w (h ++ [.lst xs]) = bin2 idxA (.d (.lst xs)) w (h ++ [.lst xs]) := by
  unfold idxM bin2 view
  simp [Cell.view]
theorem put_last {h : AH} {xs : List AV} {k : Int} {x : AV} : putM (.ref h.length) (.d (.int k)) (.d x) (h ++ [.lst xs]) = (L2.ixN xs.length k).map fun n => h ++ [.lst (xs.set n x)] := by
  unfold putM
  simp
  cases L2.ixN xs.length k <;> rfl
theorem view_last {h : AH} {xs : List AV} : view (.ref h.length) (h ++ [.lst xs]) = some (.lst xs) := by
  unfold view
  simp [Cell.view]
theorem views_last {h : AH} {xs : List AV} {r : List MV} : views (.ref h.length :: r) (h ++ [.lst xs]) = (views r (h ++ [.lst xs])).map (AV.lst xs :: ·) := by
  rw [views, view_last]
  cases views r (h ++ [.lst xs]) <;> rfl
theorem k_newL {h : AH} {xs : List AV} : newM (.d (.lst xs)) h = .ok (.ref h.length) (h ++ [.lst xs]) := rfl
@[simp] theorem l0_4 (a b c d : AV) : idxA (.lst [a, b, c, d]) (.int 0) = some a := rfl
@[simp] theorem l1_4 (a b c d : AV) : idxA (.lst [a, b, c, d]) (.int 1) = some b := rfl
@[simp] theorem l2_4 (a b c d : AV) : idxA (.lst [a, b, c, d]) (.int 2) = some c := rfl
@[simp] theorem l3_4 (a b c d : AV) : idxA (.lst [a, b, c, d]) (.int 3) = some d := rfl
theorem lst_conf {p q : Int} {x y : List Str} : biF .list [confA p q x y] = some (.lst [.int p, .int q, rowA x, rowA y]) := rfl
@[simp] theorem cut_row2 {x : List Str} : slcA (rowA x) (some 1) none = some (rowA (x.drop 1)) := by
  show some (AV.tup (cutL _ _ _)) = _
  rw [cut1n, ← List.map_drop]
  rfl
theorem add_row {x : List Str} {l : Str} (hx : x.length ≤ 5000) : binop .add (rowA x) (.tup [.str l]) = some (rowA (x ++ [l])) := by
  unfold rowA
  rw [List.map_append]
  exact addT (by simp; omega)
theorem tup_conf {p q : Int} {x y : List Str} : biF .tuple [.lst [.int p, .int q, rowA x, rowA y]] = some (confA p q x y) := rfl
theorem behind_spec (d : Nat) {P : PD} {p q : Int} {x y : List Str} {w : Bool} {n : Nat} {m : Mv} {N : Int} (h : AH) (f : Flat h)
    (hx : x.length ≤ 5000) (hy : y.length ≤ 5000) (hm : (P.mv w)[n]? = some m) (ok : MvOk N m) :
    callF Pr Gc (d + 1) 26 [.d P.a, .d (confA p q x y), .d (actA w n)] h = .ok (.d (nextA w m p q x y)) h := by
  have ek := eq_str ok.k.ok ok_take
  have es := eq_str ok.k.ok ok_send
  have ax := add_row (l := m.l) hx
  have ay := add_row (l := m.l) hy
  have hi := ms_idx hm
  have nst : (m.k == "send") = true → (m.k == "take") = false := fun e => by
    rw [eq_of_beq e]; rfl
  rw [callF_succ]
  cases w <;>
    (cases c1 : (m.k == "send") <;> cases c2 : (m.k == "take") <;> first | (exfalso; rw [nst c1] at c2; exact absurd c2 (by decide)) |
    (simp [Pr, b26, startA, Gc, hi, asg_mv, lst_conf, tup_conf, nextA, nextP, nextQ, nextX, nextY, c1, c2, ek, es, k_newL, put_last, L2.ixN, idx_last, views_last, ax, ay, wI, sideS, meL, meR]; exact fin_app f))
end MP

set_option Elab.async false
set_option linter.all false
set_option maxRecDepth 100000
set_option maxHeartbeats 4000000
namespace MP
open PySem
theorem comp_map {T : GT} {σ : AEnv} {h : AH} {t : Tg} {it : It} {c : Exs} {e : Ex} {own : List Nat} {xs : List AV} (g : AV → AV) (e1 : evIt T it σ h = .ok ⟨xs, none⟩ h) (e2 : ∀ x ∈ xs, turn T t c e (wipeA σ own) x h = .ok (some (g x)) h) (hl : xs.length ≤ 6000) :
    evE T (.comp t it c e own) σ h = .ok (.d (.lst (xs.map g))) h :=
  x_comp (s := ⟨xs, none⟩) e1 (compL_map e2) (by rw [List.length_map]; exact Nat.le_trans hl size6000)
theorem comp_filter {T : GT} {σ : AEnv} {h : AH} {t : Tg} {it : It} {c : Exs} {e : Ex} {own : List Nat} {xs : List AV} (p : AV → Bool) (e1 : evIt T it σ h = .ok ⟨xs, none⟩ h) (e2 : ∀ x ∈ xs, turn T t c e (wipeA σ own) x h = .ok (if p x = true then some x else none) h) (hl : xs.length ≤ 6000) :
    evE T (.comp t it c e own) σ h = .ok (.d (.lst (xs.filter p))) h :=
  x_comp (s := ⟨xs, none⟩) e1 (compL_filter e2) (Nat.le_trans (List.length_filter_le _ _) (Nat.le_trans hl size6000))
theorem cut24 (a b c d : AV) : cutL [a, b, c, d] (some 2) none = [c, d] := rfl
theorem max2 (a b : Int) : biF .max [.lst [.int a, .int b]] = some (.int (max a b)) := rfl
theorem len_row (x : List Str) : biF .len [rowA x] = some (.int x.length) := by
  show some (AV.int ((x.map AV.str).length : Nat)) = _
  rw [List.length_map]
def enabled (w : Bool) (m : Mv) (p q : Int) (x y : List Str) : Bool :=
  decide ((if w then q else p) = m.s) && !((m.k == "take") && !decide ((if w then x else y).take 1 = [m.l]))
theorem fault_non (w : Bool) (m : Mv) (p q : Int) (x y : List Str) : isNon (faultB w m p q x y) = enabled w m p q x y := by
  unfold faultB enabled
  by_cases c1 : (if w then q else p) = m.s
  · rw [if_pos c1, decide_eq_true c1, Bool.true_and]
    cases ((m.k == "take") && !decide ((if w then x else y).take 1 = [m.l])) <;> rfl
  · rw [if_neg c1, decide_eq_false c1]; rfl
@[simp] theorem cut_cf {p q : Int} {x y : List Str} : slcA (confA p q x y) (some 2) none = some (.tup [rowA x, rowA y]) := rfl
theorem can_spec (d : Nat) {P : PD} {p q : Int} {x y : List Str} {w : Bool} {n : Nat} {m : Mv} {N : Int} (h : AH) (f : Flat h)
    (hx : Lets x) (hy : Lets y) (lx : x.length ≤ 1000) (ly : y.length ≤ 1000) (hm : (P.mv w)[n]? = some m) (ok : MvOk N m) :
    callF Pr Gc (d + 2) 27 [.d P.a, .d (confA p q x y), .d (actA w n)] h = .ok (.d (.bl (enabled w m p q x y))) h := by
  have e1 := fault_spec d (P := P) (p := p) (q := q) h f hx hy hm ok
  have e2 := behind_spec d (P := P) (p := p) (q := q) h f (x := x) (y := y) (by omega) (by omega) hm ok
  have en := fault_non w m p q x y
  have X : (nextX w m x).length ≤ 5000 := by
    unfold nextX
    cases w <;> cases (m.k == "take") <;> cases (m.k == "send") <;> simp <;> omega
  have Y : (nextY w m y).length ≤ 5000 := by
    unfold nextY
    cases w <;> cases (m.k == "take") <;> cases (m.k == "send") <;> simp <;> omega
  rw [callF_succ]
  have hc : evE ⟨callF Pr Gc (d + 1), Gc⟩ (.comp (.nm 3) (.of (.slc (.call 26 (.cons (.var 0) (.cons (.var 1) (.cons (.var 2) .nil)))) (.cons (.cI 2) .nil) .nil)) .nil (.bi .len (.cons (.var 3) .nil)) [3])
      [some (.d P.a), some (.d (confA p q x y)), some (.d (actA w n)), none] h = .ok (.d (.lst [.int (nextX w m x).length, .int (nextY w m y).length])) h := by
    refine x_comp (h1 := h) (s := ⟨[rowA (nextX w m x), rowA (nextY w m y)], none⟩) (by simp [e2, nextA, srcOf]) ?_ (by simp; exact Nat.le_trans (by decide) size6000)
    simp [compL, stillAt, turn, len_row]
  have gg : ((max ((nextX w m x).length : Int) ((nextY w m y).length : Int)) ≤ 5000) := by omega
  cases ce : enabled w m p q x y
  · rw [ce] at en
    simp [Pr, b27, startA, Gc, e1, en]
    exact pureD f
  · rw [ce] at en
    simp [Pr, b27, startA, Gc, e1, en, hc, max2, gg]
    exact pureD f
/-! the law's own -/
/-- what is told of a move: None, or the configuration behind -/
def stepA (w : Bool) (m : Mv) (p q : Int) (x y : List Str) : AV := if enabled w m p q x y then nextA w m p q x y else .non
theorem side_eq {w : Bool} : cmpop .eq (.str (sideS w)) (.str "left") = some (!w) := by
  cases w
  · exact eq_str ok_left ok_left
  · exact eq_str ok_right ok_left
theorem law_do_spec (d : Nat) {P : PD} {p q : Int} {x y : List Str} {w : Bool} {n : Nat} {m : Mv} {N : Int} (h : AH) (f : Flat h)
    (hx : Lets x) (hy : Lets y) (lx : x.length ≤ 5000) (ly : y.length ≤ 5000) (hm : (P.mv w)[n]? = some m) (ok : MvOk N m) :
    callF Pr Gc (d + 1) 12 [.d P.a, .d (confA p q x y), .d (actA w n)] h = .ok (.d (stepA w m p q x y)) h := by
  have ek := eq_str ok.k.ok ok_take
  have es := eq_str ok.k.ok ok_send
  have ax := add_row (l := m.l) lx
  have ay := add_row (l := m.l) ly
  have ty := ne_row (y := if w then x else y) ok.lok (by cases w; exact hy.ok; exact hx.ok)
  have hi := ms_idx hm
  have nst : (m.k == "send") = true → (m.k == "take") = false := fun e => by
    rw [eq_of_beq e]; rfl
  have es' := side_eq (w := w)
  rw [callF_succ]
  by_cases c1 : (if w = true then q else p) = m.s
  · by_cases c3 : (if w = true then x else y).take 1 = [m.l]
    · rw [decide_eq_true c3] at ty
      cases c2 : (m.k == "take") <;> cases c4 : (m.k == "send") <;> first | (exfalso; rw [nst c4] at c2; exact absurd c2 (by decide)) |
      (rw [show stepA w m p q x y = nextA w m p q x y by simp [stepA, enabled, c1, c2, c3]]
       cases w <;> simp at c1 ty es' <;>
       (simp [Pr, b12, startA, Gc, hi, asg_mv, asg_cf, c1, c2, c4, es', ek, es, ty, ax, ay, nextA, nextP, nextQ, nextX, nextY]; exact pureD f))
    · rw [decide_eq_false c3] at ty
      cases c2 : (m.k == "take") <;> cases c4 : (m.k == "send") <;> first | (exfalso; rw [nst c4] at c2; exact absurd c2 (by decide)) |
      (rw [show stepA w m p q x y = (if m.k == "take" then .non else nextA w m p q x y) by simp [stepA, enabled, c1, c2, c3]]
       cases w <;> simp at c1 ty es' <;>
       (simp [Pr, b12, startA, Gc, hi, asg_mv, asg_cf, c1, c2, c4, es', ek, es, ty, ax, ay, nextA, nextP, nextQ, nextX, nextY]; exact pureD f))
  · rw [show stepA w m p q x y = .non by simp [stepA, enabled, c1]]
    have c1' : ¬ (m.s = if w = true then q else p) := fun z => c1 z.symm
    cases w <;> simp at c1' es' <;>
       (simp [Pr, b12, startA, Gc, hi, asg_mv, asg_cf, c1', es', ek, es]; exact pureD f)
end MP

set_option Elab.async false
set_option linter.all false
set_option maxRecDepth 100000
set_option maxHeartbeats 4000000
namespace MP
open PySem
theorem compL_enc {α : Type} {f : AV → AH → R (Option AV)} {enc : α → AV} {g : α → Option AV} {h : AH} : ∀ {xs : List α}, (∀ x ∈ xs, f (enc x) h = .ok (g x) h) → compL f none (xs.map enc) h = .ok (xs.filterMap g) h
  | [], _ => rfl
  | x :: xs, e => by
    rw [List.map_cons]
    unfold compL
    rw [e x List.mem_cons_self]
    dsimp only
    rw [if_pos (show stillAt none h from trivial), compL_enc fun y hy => e y (List.mem_cons_of_mem _ hy)]
    dsimp only
    rw [List.filterMap_cons]
    cases g x <;> rfl
theorem comp_enc {α : Type} {T : GT} {σ : AEnv} {h : AH} {t : Tg} {it : It} {c : Exs} {e : Ex} {own : List Nat} {xs : List α} (enc : α → AV) (g : α → Option AV) (e1 : evIt T it σ h = .ok ⟨xs.map enc, none⟩ h) (e2 : ∀ x ∈ xs, turn T t c e (wipeA σ own) (enc x) h = .ok (g x) h) (hl : xs.length ≤ 6000) :
    evE T (.comp t it c e own) σ h = .ok (.d (.lst (xs.filterMap g))) h :=
  x_comp (h1 := h) (s := ⟨xs.map enc, none⟩) e1 (compL_enc e2) (Nat.le_trans (List.length_filterMap_le _ _) (Nat.le_trans hl size6000))
theorem fm_some {α β : Type} (f : α → β) (xs : List α) : xs.filterMap (fun x => some (f x)) = xs.map f := congrFun List.filterMap_eq_map xs
theorem fm_if {α β : Type} (f : α → β) (p : α → Bool) (xs : List α) : xs.filterMap (fun x => if p x then some (f x) else none) = (xs.filter p).map f := by
  induction xs with
  | nil => rfl
  | cons x xs ih =>
    rw [List.filterMap_cons, List.filter_cons]
    cases p x <;> simp [ih]
theorem comp_mp {α : Type} {T : GT} {σ : AEnv} {h : AH} {t : Tg} {it : It} {c : Exs} {e : Ex} {own : List Nat} {xs : List α} (enc : α → AV) (g : α → AV) (e1 : evIt T it σ h = .ok ⟨xs.map enc, none⟩ h) (e2 : ∀ x ∈ xs, turn T t c e (wipeA σ own) (enc x) h = .ok (some (g x)) h) (hl : xs.length ≤ 6000) :
    evE T (.comp t it c e own) σ h = .ok (.d (.lst (xs.map g))) h := by
  rw [← fm_some]
  exact comp_enc enc _ e1 e2 hl
theorem comp_fl {α : Type} {T : GT} {σ : AEnv} {h : AH} {t : Tg} {it : It} {c : Exs} {e : Ex} {own : List Nat} {xs : List α} (enc : α → AV) (p : α → Bool) (e1 : evIt T it σ h = .ok ⟨xs.map enc, none⟩ h) (e2 : ∀ x ∈ xs, turn T t c e (wipeA σ own) (enc x) h = .ok (if p x = true then some (enc x) else none) h) (hl : xs.length ≤ 6000) :
    evE T (.comp t it c e own) σ h = .ok (.d (.lst ((xs.filter p).map enc))) h := by
  rw [← fm_if]
  exact comp_enc enc _ e1 e2 hl
theorem rng1 {n : Nat} {h : AH} (hn : n ≤ 6000) : rngOf [.d (.int n)] h = .ok ⟨(List.range n).map fun k => AV.int (k : Nat), none⟩ h := by
  have e : rngItems 0 n = (List.range n).map fun k => AV.int (k : Nat) := by
    unfold rngItems
    exact List.map_congr_left fun k _ => by rw [Int.zero_add]
  simp only [rngOf]
  rw [if_pos ⟨by omega, by omega⟩, Int.toNat_natCast, e]
theorem it_rng {T : GT} {es : Exs} {σ : AEnv} {h h1 : AH} {n : Nat} (e : evEs T es σ h = .ok [.d (.int n)] h1) (hn : n ≤ 6000) : evIt T (.rng es) σ h = .ok ⟨(List.range n).map fun k => AV.int (k : Nat), none⟩ h1 := by
  show (evEs T es σ h).bind (fun vs h => rngOf vs h) = _
  rw [e, bind_ok, rng1 hn]
/-- the moves, told -/
def actL (P : PD) : List (Bool × Nat) := (List.range (P.mv false).length).map (fun n => (false, n)) ++ (List.range (P.mv true).length).map fun n => (true, n)
def encAct (a : Bool × Nat) : AV := actA a.1 a.2
theorem actL_mem {P : PD} {a : Bool × Nat} : a ∈ actL P ↔ a.2 < (P.mv a.1).length := by
  obtain ⟨w, n⟩ := a
  unfold actL
  cases w <;> simp
theorem actL_get {P : PD} {a : Bool × Nat} (h : a ∈ actL P) : ∃ m, (P.mv a.1)[a.2]? = some m ∧ m ∈ P.mv a.1 := by
  have hl := actL_mem.mp h
  exact ⟨_, List.getElem?_eq_getElem hl, List.getElem_mem hl⟩
structure PDOk (P : PD) : Prop where
  l0 : (P.mv false).length ≤ 20
  l1 : (P.mv true).length ≤ 20
  n0 : 1 ≤ P.n false ∧ P.n false ≤ 4
  n1 : 1 ≤ P.n true ∧ P.n true ≤ 4
  ok : ∀ w, ∀ m ∈ P.mv w, MvOk (P.n w) m
theorem PDOk.ll {P : PD} (o : PDOk P) (w : Bool) : (P.mv w).length ≤ 20 := by
  cases w
  · exact o.l0
  · exact o.l1
theorem actL_len {P : PD} (o : PDOk P) : (actL P).length ≤ 40 := by
  unfold actL
  have := o.l0
  have := o.l1
  simp only [List.length_append, List.length_map, List.length_range]
  omega
theorem acts_spec (d : Nat) {P : PD} (o : PDOk P) (h : AH) (f : Flat h) : callF Pr Gc (d + 1) 11 [.d P.a] h = .ok (.d (.lst ((actL P).map encAct))) h := by
  have l0 := o.l0
  have l1 := o.l1
  have c0 : evE ⟨callF Pr Gc d, Gc⟩ (.comp (.nm 1) (.rng (.cons (.bi .len (.cons (.idx (.idx (.var 0) (.cI 0)) (.cI 1)) .nil)) .nil)) .nil (.tup (.cons (.cS "left") (.cons (.var 1) .nil))) [1]) [some (.d P.a), none] h = .ok (.d (.lst ((List.range (P.mv false).length).map fun (n : Nat) => encAct (false, n)))) h :=
    comp_mp (fun k : Nat => AV.int k) _ (it_rng (n := (P.mv false).length) (by simp) (by omega)) (fun x _ => by simp [turn, encAct, actA, sideS]) (by simp; omega)
  have c1 : evE ⟨callF Pr Gc d, Gc⟩ (.comp (.nm 1) (.rng (.cons (.bi .len (.cons (.idx (.idx (.var 0) (.cI 1)) (.cI 1)) .nil)) .nil)) .nil (.tup (.cons (.cS "right") (.cons (.var 1) .nil))) [1]) [some (.d P.a), none] h = .ok (.d (.lst ((List.range (P.mv true).length).map fun (n : Nat) => encAct (true, n)))) h :=
    comp_mp (fun k : Nat => AV.int k) _ (it_rng (n := (P.mv true).length) (by simp) (by omega)) (fun x _ => by simp [turn, encAct, actA, sideS]) (by simp; omega)
  have ad : binop .add (.lst ((List.range (P.mv false).length).map fun (n : Nat) => encAct (false, n))) (.lst ((List.range (P.mv true).length).map fun (n : Nat) => encAct (true, n))) = some (.lst ((actL P).map encAct)) := by
    rw [addL (by simp; omega)]
    simp [actL, Function.comp_def]
  rw [callF_succ]
  simp [Pr, b11, startA, Gc, c0, c1, ad]
  exact pureD f
def enB (P : PD) (p q : Int) (x y : List Str) (a : Bool × Nat) : Bool := match (P.mv a.1)[a.2]? with
  | some m => enabled a.1 m p q x y
  | none => false
theorem law_moves_spec (d : Nat) {P : PD} (o : PDOk P) {p q : Int} {x y : List Str} (h : AH) (f : Flat h) (hx : Lets x) (hy : Lets y) (lx : x.length ≤ 1000) (ly : y.length ≤ 1000) :
    callF Pr Gc (d + 2) 13 [.d P.a, .d (confA p q x y)] h = .ok (.d (.lst (((actL P).filter (enB P p q x y)).map encAct))) h := by
  have ea := acts_spec d o h f
  have c0 : evE ⟨callF Pr Gc (d + 1), Gc⟩ (.comp (.nm 2) (.of (.call 11 (.cons (.var 0) .nil))) (.cons (.cmp .isn (.call 12 (.cons (.var 0) (.cons (.var 1) (.cons (.var 2) .nil)))) .cN) .nil) (.var 2) [2]) [some (.d P.a), some (.d (confA p q x y)), none] h = .ok (.d (.lst (((actL P).filter (enB P p q x y)).map encAct))) h := by
    refine comp_fl encAct (enB P p q x y) (by simp [ea, srcOf, cellOf]) (fun a ha => ?_) (Nat.le_trans (actL_len o) (by decide))
    obtain ⟨m, hm, mm⟩ := actL_get ha
    have e1 := law_do_spec d (P := P) (p := p) (q := q) h f hx hy (by omega) (by omega) hm (o.ok _ m mm)
    have e2 : enB P p q x y a = enabled a.1 m p q x y := by unfold enB; rw [hm]
    have e3 : isNon (stepA a.1 m p q x y) = !enabled a.1 m p q x y := by
      unfold stepA
      cases enabled a.1 m p q x y <;> rfl
    rw [e2]
    simp [turn, encAct, e1, e3]
    cases enabled a.1 m p q x y <;> rfl
  rw [callF_succ]
  simp [Pr, b13, startA, Gc, c0]
  exact pureD f
end MP

set_option Elab.async false
set_option linter.all false
set_option maxRecDepth 100000
set_option maxHeartbeats 4000000
namespace MP
open PySem
@[simp] theorem isi_act {t : Ty} {w : Bool} {n : Int} : isiB t (actA w n) = some (.bl (t == .tuple)) := (rfl)
@[simp] theorem len_act {w : Bool} {n : Int} : biF .len [actA w n] = some (.int 2) := (rfl)
theorem in_ktp {w : Bool} : inA (.str (sideS w)) (.ktp [.str "left", .str "right"]) = some true := by cases w <;> decide +kernel
theorem in_tup {w : Bool} : inA (.str (sideS w)) (.tup [.str "left", .str "right"]) = some true := by cases w <;> decide +kernel
theorem is_index_int (d : Nat) (i : Int) (h : AH) (f : Flat h) : callF Pr Gc (d + 2) 19 [.d (.int i)] h = .ok (.d (.bl (decide (0 ≤ i)))) h := by
  obtain ⟨b, e, hb⟩ := is_index_spec d (.int i) h f (fun T => ⟨_, rfl⟩)
  rw [e]
  have : b = decide (0 ≤ i) := by
    cases b <;> simp_all
  rw [this]
theorem law_is_int_int (d : Nat) (i : Int) (h : AH) (f : Flat h) : callF Pr Gc (d + 1) 21 [.d (.int i)] h = .ok (.d (.bl true)) h := by
  obtain ⟨b, e, hb⟩ := law_is_int_spec d (.int i) h f (fun T => ⟨_, rfl⟩)
  rw [e]
  have : b = true := hb.mpr ⟨_, rfl⟩
  rw [this]
theorem is_move_act (d : Nat) {P : PD} {w : Bool} {n : Int} (h : AH) (f : Flat h) : callF Pr Gc (d + 3) 24 [.d P.a, .d (actA w n)] h = .ok (.d (.bl (decide (0 ≤ n) && decide (n < (P.mv w).length)))) h := by
  have e := is_index_int d n h f
  have i := in_ktp (w := w)
  rw [callF_succ]
  by_cases c1 : 0 ≤ n <;>
  (simp [Pr, b24, startA, Gc, e, i, c1]; exact pureD f)
theorem law_is_move_act (d : Nat) {P : PD} {w : Bool} {n : Int} (h : AH) (f : Flat h) : callF Pr Gc (d + 2) 22 [.d P.a, .d (actA w n)] h = .ok (.d (.bl (decide (0 ≤ n) && decide (n < (P.mv w).length)))) h := by
  have e := law_is_int_int d n h f
  have i := in_tup (w := w)
  have es' := side_eq (w := w)
  rw [callF_succ]
  by_cases c1 : 0 ≤ n <;> cases w <;> simp at es' <;>
  (simp [Pr, b22, startA, Gc, e, i, c1, es']; exact pureD f)
/-- what is no move of a pair -/
structure NoMove (P : PD) (v : AV) : Prop where
  a : ∀ (d : Nat) (h : AH), Flat h → callF Pr Gc (d + 3) 24 [.d P.a, .d v] h = .ok (.d (.bl false)) h
  b : ∀ (d : Nat) (h : AH), Flat h → callF Pr Gc (d + 2) 22 [.d P.a, .d v] h = .ok (.d (.bl false)) h
theorem nm_act {P : PD} {w : Bool} {n : Int} (c : ¬ (0 ≤ n ∧ n < (P.mv w).length)) : NoMove P (actA w n) := by
  have e : (decide (0 ≤ n) && decide (n < (P.mv w).length)) = false := by
    by_cases c1 : 0 ≤ n <;> by_cases c2 : n < (P.mv w).length <;> simp_all
  exact ⟨fun d h f => by rw [is_move_act d h f, e], fun d h f => by rw [law_is_move_act d h f, e]⟩
@[simp] theorem idx1_0 {a : AV} : idxA (.tup [a]) (.int 0) = some a := (rfl)
theorem nm_non {P : PD} : NoMove P .non := ⟨fun d h f => by
  rw [callF_succ]; simp [Pr, b24, startA, Gc]; exact pureD f, fun d h f => by
  rw [callF_succ]; simp [Pr, b22, startA, Gc]; exact pureD f⟩
theorem nm_lst {P : PD} {xs : List AV} : NoMove P (.lst xs) := ⟨fun d h f => by
  rw [callF_succ]; simp [Pr, b24, startA, Gc]; exact pureD f, fun d h f => by
  rw [callF_succ]; simp [Pr, b22, startA, Gc]; exact pureD f⟩
theorem nm_len {P : PD} {xs : List AV} (hl : (xs.length : Int) ≠ 2) : NoMove P (.tup xs) := ⟨fun d h f => by
  rw [callF_succ]; simp [Pr, b24, startA, Gc, hl]; exact pureD f, fun d h f => by
  rw [callF_succ]; simp [Pr, b22, startA, Gc, hl]; exact pureD f⟩
theorem nm_zoo {P : PD} {v : AV} : NoMove P (.tup [.str "zoo", v]) := by
  have i1 : inA (.str "zoo") (.ktp [.str "left", .str "right"]) = some false := by decide +kernel
  have i2 : inA (.str "zoo") (.tup [.str "left", .str "right"]) = some false := by decide +kernel
  exact ⟨fun d h f => by
    rw [callF_succ]; simp [Pr, b24, startA, Gc, i1]; exact pureD f, fun d h f => by
    rw [callF_succ]; simp [Pr, b22, startA, Gc, i2]; exact pureD f⟩
theorem nm_int {P : PD} {i : Int} {v : AV} : NoMove P (.tup [.int i, v]) := ⟨fun d h f => by
    rw [callF_succ]; simp [Pr, b24, startA, Gc]; exact pureD f, fun d h f => by
    rw [callF_succ]; simp [Pr, b22, startA, Gc]; exact pureD f⟩
theorem nm_snd {P : PD} {v : AV} (hv : ∀ T, ∃ b, isiA v T = some b) (hn : ∀ i, v ≠ .int i) : NoMove P (.tup [.str "left", v]) := by
  have i1 : inA (.str "left") (.ktp [.str "left", .str "right"]) = some true := by decide +kernel
  have i2 : inA (.str "left") (.tup [.str "left", .str "right"]) = some true := by decide +kernel
  refine ⟨fun d h f => ?_, fun d h f => ?_⟩
  · obtain ⟨b, e, hb⟩ := is_index_spec d v h f hv
    have : b = false := by
      cases b with
      | false => rfl
      | true => obtain ⟨i, z, _⟩ := hb.mp rfl; exact absurd z (hn i)
    subst this
    rw [callF_succ]; simp [Pr, b24, startA, Gc, i1, e]; exact pureD f
  · obtain ⟨b, e, hb⟩ := law_is_int_spec d v h f hv
    have : b = false := by
      cases b with
      | false => rfl
      | true => obtain ⟨i, z⟩ := hb.mp rfl; exact absurd z (hn i)
    subst this
    rw [callF_succ]; simp [Pr, b22, startA, Gc, i2, e]; exact pureD f
/-! configurations -/
def Conf (P : PD) (v : AV) (b : Bool) : Prop := ∀ (d : Nat) (h : AH), Flat h → callF Pr Gc (d + 3) 20 [.d P.a, .d v] h = .ok (.d (.bl b)) h
theorem conf_4 {P : PD} {p q : Int} {x y : AV} {bx bY : Bool} (hx : RowV x bx) (hy : RowV y bY) : Conf P (.tup [.int p, .int q, x, y]) (decide (0 ≤ p) && decide (0 ≤ q) && decide (p < P.n false) && decide (q < P.n true) && bx && bY) :=
  fun d h f => is_conf d P.m0 (P.v0.map encM) P.e0 P.m1 (P.v1.map encM) P.e1 p q x y bx bY h f hx hy
theorem conf_non {P : PD} : Conf P .non false := fun d h f => by
  rw [callF_succ]; simp [Pr, b20, startA, Gc]; exact pureD f
theorem conf_lst {P : PD} {xs : List AV} : Conf P (.lst xs) false := fun d h f => by
  rw [callF_succ]; simp [Pr, b20, startA, Gc]; exact pureD f
theorem conf_len {P : PD} {xs : List AV} (hl : (xs.length : Int) ≠ 4) : Conf P (.tup xs) false := fun d h f => by
  rw [callF_succ]; simp [Pr, b20, startA, Gc, hl]; exact pureD f
theorem conf_fst {P : PD} {v b c e : AV} (hv : ∀ T, ∃ b, isiA v T = some b) (hn : ∀ i, v ≠ .int i) : Conf P (.tup [v, b, c, e]) false := fun d h f => by
  obtain ⟨b, e, hb⟩ := is_index_spec d v h f hv
  have : b = false := by
    cases b with
    | false => rfl
    | true => obtain ⟨i, z, _⟩ := hb.mp rfl; exact absurd z (hn i)
  subst this
  rw [callF_succ]; simp [Pr, b20, startA, Gc, e]; exact pureD f
theorem row_lets {x : List Str} (hx : Lets x) (hl : x.length ≤ 5000) : RowV (rowA x) true := fun d h f => by
  have e := is_row_tup d (x.map AV.str) (fun _ => true) h f (fun v hv d h f => by
    obtain ⟨a, ha, rfl⟩ := List.mem_map.mp hv
    rcases hx a ha with z | z | z | z <;> subst z
    · exact is_name_letter d _ letter_a h f
    · exact is_name_letter d _ letter_b h f
    · exact is_name_letter d _ letter_x h f
    · exact is_name_letter d _ letter_y h f) (by rw [List.length_map]; omega)
  have e2 : (decide (((x.map AV.str).length : Int) ≤ 5000) && (x.map AV.str).all fun _ => true) = true := by
    rw [List.length_map, Bool.and_eq_true]
    exact ⟨decide_eq_true (by omega), List.all_eq_true.mpr fun _ _ => rfl⟩
  rw [rowA, e, e2]
theorem row_non : RowV .non false := fun d h f => by
  rw [callF_succ]; simp [Pr, b17, startA, Gc]; exact pureD f
theorem row_lst {xs : List AV} : RowV (.lst xs) false := fun d h f => by
  rw [callF_succ]; simp [Pr, b17, startA, Gc]; exact pureD f
theorem row_one {v : AV} (hv : NameV v false) : RowV (.tup [v]) false := fun d h f => is_row_tup d [v] (fun _ => false) h f (fun x hx => by
  rw [List.mem_singleton.mp hx]; exact hv) (by simp)
theorem row_long {x : List Str} (hx : Lets x) (hl : 5000 < x.length) (h6 : x.length ≤ 6000) : RowV (rowA x) false := fun d h f => by
  have e := is_row_tup d (x.map AV.str) (fun _ => true) h f (fun v hv d h f => by
    obtain ⟨a, ha, rfl⟩ := List.mem_map.mp hv
    rcases hx a ha with z | z | z | z <;> subst z
    · exact is_name_letter d _ letter_a h f
    · exact is_name_letter d _ letter_b h f
    · exact is_name_letter d _ letter_x h f
    · exact is_name_letter d _ letter_y h f) (by rw [List.length_map]; omega)
  have e2 : (decide (((x.map AV.str).length : Int) ≤ 5000) && (x.map AV.str).all fun _ => true) = false := by
    rw [List.length_map, decide_eq_false (by omega), Bool.false_and]
  rw [rowA, e, e2]
theorem name_int {i : Int} : NameV (.int i) false := fun d h f => by
  rw [callF_succ]; simp [Pr, b16, startA, Gc]; exact pureD f
theorem name_take : NameV (.str "take") false := fun d h f => by
  have l : (("take" : Str).length : Int) = 4 := by decide +kernel
  have i0 : idxA (.str "take") (.int 0) = some (.str "t") := rfl
  have i1 : inA (.str "t") (.str "abcdefghijklmnopqrstuvwxyz") = some true := by decide +kernel
  have i2 : inA (.str "take") (.ktp sRES) = some true := by decide +kernel
  unfold sRES at i2
  rw [callF_succ]; simp [Pr, b16, startA, Gc, l, i0, i1, i2]; exact pureD f
theorem name_if : NameV (.str "if then") false := fun d h f => by
  have l : (("if then" : Str).length : Int) = 7 := by decide +kernel
  have i0 : idxA (.str "if then") (.int 0) = some (.str "i") := rfl
  have i1 : inA (.str "i") (.str "abcdefghijklmnopqrstuvwxyz") = some true := by decide +kernel
  have i2 : inA (.str "if then") (.ktp sRES) = some false := by decide +kernel
  have it : (("if then" : Str).cps.toList.map fun c => AV.str ⟨#[c]⟩) = [.str "i", .str "f", .str " ", .str "t", .str "h", .str "e", .str "n"] := by rfl
  have j0 : inA (.str "i") (.str sLD) = some true := by decide +kernel
  have j1 : inA (.str "f") (.str sLD) = some true := by decide +kernel
  have j2 : inA (.str " ") (.str sLD) = some false := by decide +kernel
  have j3 : inA (.str "t") (.str sLD) = some true := by decide +kernel
  have j4 : inA (.str "h") (.str sLD) = some true := by decide +kernel
  have j5 : inA (.str "e") (.str sLD) = some true := by decide +kernel
  have j6 : inA (.str "n") (.str sLD) = some true := by decide +kernel
  unfold sRES at i2
  have c : evE ⟨callF Pr Gc d, Gc⟩ (.comp (.nm 1) (.of (.var 0)) .nil (.cmp .in_ (.var 1) (.bin .add (.glb 0) (.glb 1))) [1]) [some (.d (.str "if then")), none] h = .ok (.d (.lst [.bl true, .bl true, .bl false, .bl true, .bl true, .bl true, .bl true])) h := by
    refine x_comp (h1 := h) (s := ⟨[.str "i", .str "f", .str " ", .str "t", .str "h", .str "e", .str "n"], none⟩) (by simp [srcOf, it]) ?_ (Nat.le_trans (by decide) size6000)
    simp [compL, stillAt, turn, Gc, add_LD, j0, j1, j2, j3, j4, j5, j6]
  rw [callF_succ]; simp [Pr, b16, startA, Gc, l, i0, i1, i2, c, blsOf]; exact pureD f
end MP

set_option Elab.async false
set_option linter.all false
set_option maxRecDepth 100000
set_option maxHeartbeats 4000000
namespace MP
open PySem
theorem finX_flat {h : AH} {e : Exc} (f : Flat h) : finX h.length e h = .exc e h := by
  unfold finX
  rw [if_pos (f.take _ _), List.take_length]
theorem moves_raise (d : Nat) {P : PD} {v : AV} (h : AH) (f : Flat h) (hc : Conf P v false) : callF Pr Gc (d + 4) 28 [.d P.a, .d v] h = .exc ⟨0, []⟩ h := by
  have e := hc d h f
  rw [callF_succ]; simp [Pr, b28, startA, Gc, e]; exact finX_flat f
theorem do_raise (d : Nat) {P : PD} {v u : AV} (h : AH) (f : Flat h) (hc : Conf P v false) : callF Pr Gc (d + 4) 29 [.d P.a, .d v, .d u] h = .exc ⟨0, []⟩ h := by
  have e := hc d h f
  rw [callF_succ]; simp [Pr, b29, startA, Gc, e]; exact finX_flat f
theorem do_raise2 (d : Nat) {P : PD} {v u : AV} (h : AH) (f : Flat h) (hc : Conf P v true) (hu : NoMove P u) : callF Pr Gc (d + 4) 29 [.d P.a, .d v, .d u] h = .exc ⟨0, []⟩ h := by
  have e := hc d h f
  have e2 := hu.a d h f
  rw [callF_succ]; simp [Pr, b29, startA, Gc, e, e2]; exact finX_flat f
/-- a configuration of a pair -/
structure InP (P : PD) (p q : Int) (x y : List Str) : Prop where
  p0 : 0 ≤ p
  p1 : p < P.n false
  q0 : 0 ≤ q
  q1 : q < P.n true
  hx : Lets x
  hy : Lets y
  lx : x.length ≤ 900
  ly : y.length ≤ 900
theorem InP.conf {P : PD} {p q : Int} {x y : List Str} (i : InP P p q x y) : Conf P (confA p q x y) true := by
  have c := conf_4 (P := P) (p := p) (q := q) (row_lets i.hx (Nat.le_trans i.lx (by decide))) (row_lets i.hy (Nat.le_trans i.ly (by decide)))
  rw [decide_eq_true i.p0, decide_eq_true i.p1, decide_eq_true i.q0, decide_eq_true i.q1] at c
  exact c
theorem do_spec (d : Nat) {P : PD} (o : PDOk P) {p q : Int} {x y : List Str} {w : Bool} {n : Nat} {m : Mv} (h : AH) (f : Flat h) (i : InP P p q x y) (hm : (P.mv w)[n]? = some m) :
    callF Pr Gc (d + 4) 29 [.d P.a, .d (confA p q x y), .d (actA w n)] h = .ok (.d (stepA w m p q x y)) h := by
  have hl : n < (P.mv w).length := (List.getElem?_eq_some_iff.mp hm).1
  have mok := o.ok w m (List.mem_of_getElem? hm)
  have e1 := i.conf d h f
  have e2 := is_move_act d (P := P) (w := w) (n := n) h f
  have e3 := can_spec (d + 1) (P := P) (p := p) (q := q) h f i.hx i.hy (Nat.le_trans i.lx (by decide)) (Nat.le_trans i.ly (by decide)) hm mok
  have e4 := behind_spec (d + 2) (P := P) (p := p) (q := q) h f (x := x) (y := y) (Nat.le_trans i.lx (by decide)) (Nat.le_trans i.ly (by decide)) hm mok
  rw [decide_eq_true (show (0 : Int) ≤ n by omega), decide_eq_true (show (n : Int) < (P.mv w).length by omega)] at e2
  rw [callF_succ]
  unfold stepA
  cases en : enabled w m p q x y <;> rw [en] at e3 <;> (simp [Pr, b29, startA, Gc, e1, e2, e3, e4]; exact pureD f)
theorem compLL_two {f : AV → AH → R (List AV)} {a b : AV} {u v : List AV} {h : AH} (e1 : f a h = .ok u h) (e2 : f b h = .ok v h) : compLL f none [a, b] h = .ok (u ++ v) h := by
  unfold compLL
  rw [e1]
  dsimp only
  rw [if_pos (show stillAt none h from trivial)]
  unfold compLL
  rw [e2]
  dsimp only
  rw [if_pos (show stillAt none h from trivial)]
  simp [compLL]
theorem compL_mp {α : Type} {f : AV → AH → R (Option AV)} (enc : α → AV) (g : α → AV) {h : AH} {xs : List α} (e : ∀ x ∈ xs, f (enc x) h = .ok (some (g x)) h) : compL f none (xs.map enc) h = .ok (xs.map g) h := by
  have r := compL_enc (g := fun x => some (g x)) e
  rw [r, fm_some]
theorem x_comp2 {T : GT} {σ : AEnv} {h h1 h2 : AH} {t it c t2 it2 c2 e own own2} {s : Src} {xs : List AV} (e1 : evIt T it σ h = .ok s h1) (e2 : compLL (turn2 T t c t2 it2 c2 e own2 (wipeA σ own)) s.cell s.items h1 = .ok xs h2) (hl : xs.length ≤ sizeLine) : evE T (.comp2 t it c t2 it2 c2 e own own2) σ h = .ok (.d (.lst xs)) h2 := by
  show (evIt T it σ h).bind (fun s h => (compLL (turn2 T t c t2 it2 c2 e own2 (wipeA σ own)) s.cell s.items h).bind endL) = _
  rw [e1, bind_ok, e2, bind_ok]
  exact if_pos hl
theorem moves_spec (d : Nat) {P : PD} (o : PDOk P) {p q : Int} {x y : List Str} (h : AH) (f : Flat h) (i : InP P p q x y) :
    callF Pr Gc (d + 4) 28 [.d P.a, .d (confA p q x y)] h = .ok (.d (.tup (((actL P).filter (enB P p q x y)).map encAct))) h := by
  have e1 := i.conf d h f
  have l0 := o.l0
  have l1 := o.l1
  have inner : ∀ (w : Bool), compL (turn ⟨callF Pr Gc (d + 3), Gc⟩ (.nm 5) .nil (.tup (.cons (.var 4) (.cons (.var 5) .nil))) [some (.d P.a), some (.d (confA p q x y)), none, some (.d (.int (wI w))), some (.d (.str (sideS w))), none, none]) none ((List.range (P.mv w).length).map fun (k : Nat) => AV.int k) h = .ok ((List.range (P.mv w).length).map fun (n : Nat) => encAct (w, n)) h := fun w => by
    exact compL_mp (fun k : Nat => AV.int k) _ fun k _ => by simp [turn, encAct, actA]
  have it2 : ∀ w : Bool, evIt ⟨callF Pr Gc (d + 3), Gc⟩ (.rng (.cons (.bi .len (.cons (.idx (.idx (.var 0) (.var 3)) (.cI 1)) .nil)) .nil)) [some (.d P.a), some (.d (confA p q x y)), none, some (.d (.int (wI w))), some (.d (.str (sideS w))), none, none] h = .ok ⟨(List.range (P.mv w).length).map fun (k : Nat) => AV.int k, none⟩ h := fun w =>
    it_rng (n := (P.mv w).length) (by simp) (Nat.le_trans (o.ll w) (by decide))
  have t2 : ∀ w : Bool, turn2 ⟨callF Pr Gc (d + 3), Gc⟩ (.tp (.cons (.nm 3) (.cons (.nm 4) .nil))) .nil (.nm 5) (.rng (.cons (.bi .len (.cons (.idx (.idx (.var 0) (.var 3)) (.cI 1)) .nil)) .nil)) .nil (.tup (.cons (.var 4) (.cons (.var 5) .nil))) [5] (wipeA [some (.d P.a), some (.d (confA p q x y)), none, none, none, none, none] [3, 4, 5]) (.tup [.int (wI w), .str (sideS w)]) h = .ok ((List.range (P.mv w).length).map fun (n : Nat) => encAct (w, n)) h := fun w => by
    have a := it2 w
    have b := inner w
    simp [turn2, -x_evIt_rng, a, b]
  have c0 : evE ⟨callF Pr Gc (d + 3), Gc⟩ (.comp2 (.tp (.cons (.nm 3) (.cons (.nm 4) .nil))) (.enm (.glb 4)) .nil (.nm 5) (.rng (.cons (.bi .len (.cons (.idx (.idx (.var 0) (.var 3)) (.cI 1)) .nil)) .nil)) .nil (.tup (.cons (.var 4) (.cons (.var 5) .nil))) [3, 4, 5] [5]) [some (.d P.a), some (.d (confA p q x y)), none, none, none, none, none] h = .ok (.d (.lst ((actL P).map encAct))) h := by
    refine x_comp2 (h1 := h) (s := ⟨[.tup [.int 0, .str "left"], .tup [.int 1, .str "right"]], none⟩) (by simp [Gc, srcE, enumItems]) ?_ (by rw [List.length_map]; exact Nat.le_trans (actL_len o) (Nat.le_trans (by decide) size6000))
    have r := compLL_two (t2 false) (t2 true)
    rw [show (actL P).map encAct = _ ++ _ from by unfold actL; rw [List.map_append]]
    rw [List.map_map, List.map_map]
    exact r
  have c1 : evE ⟨callF Pr Gc (d + 3), Gc⟩ (.comp (.nm 6) (.of (.var 2)) (.cons (.call 27 (.cons (.var 0) (.cons (.var 1) (.cons (.var 6) .nil)))) .nil) (.var 6) [6]) [some (.d P.a), some (.d (confA p q x y)), some (.d (.lst ((actL P).map encAct))), none, none, none, none] h = .ok (.d (.lst (((actL P).filter (enB P p q x y)).map encAct))) h := by
    refine comp_fl encAct (enB P p q x y) (by simp [srcOf, cellOf]) (fun a ha => ?_) (Nat.le_trans (actL_len o) (by decide))
    obtain ⟨m, hm, mm⟩ := actL_get ha
    have e1 := can_spec (d + 1) (P := P) (p := p) (q := q) h f i.hx i.hy (Nat.le_trans i.lx (by decide)) (Nat.le_trans i.ly (by decide)) hm (o.ok _ m mm)
    have e2 : enB P p q x y a = enabled a.1 m p q x y := by unfold enB; rw [hm]
    rw [e2]
    simp [turn, encAct, e1]
    cases enabled a.1 m p q x y <;> rfl
  rw [callF_succ]
  simp [Pr, b28, startA, e1, c0, c1]
  exact pureD f
end MP

set_option Elab.async false
set_option linter.all false
set_option maxRecDepth 100000
set_option maxHeartbeats 4000000
namespace MP
open PySem
/-- data of some depth and size -/
structure Gd (k n : Nat) (v : AV) : Prop where
  pl : v.pl = true
  lay : v.toD.canLay0 = true
  dep : v.toD.depth ≤ k
  wt : v.toD.weight ≤ n
  lf : v.toD.leavesShort 40 = true
  sh : v.toD.showable = true
  ok : PyData.strOk v.toD.shown = true
theorem Gd.mono {k n k' n' : Nat} {v : AV} (g : Gd k n v) (hk : k ≤ k') (hn : n ≤ n') : Gd k' n' v := ⟨g.pl, g.lay, Nat.le_trans g.dep hk, Nat.le_trans g.wt hn, g.lf, g.sh, g.ok⟩
theorem gds {k n : Nat} : ∀ {xs : List AV}, (∀ x ∈ xs, Gd k n x) → AV.pls xs = true ∧ PyData.canLayAll0 (AV.toDs xs) = true ∧ PyData.depthAll (AV.toDs xs) ≤ k ∧ PyData.weightAll (AV.toDs xs) ≤ xs.length * (n + 1) ∧ PyData.leavesShortAll 40 (AV.toDs xs) = true ∧ PyData.showableAll (AV.toDs xs) = true ∧ ∀ t ∈ PyData.shownAll (AV.toDs xs), PyData.strOk t = true
  | [], _ => ⟨rfl, rfl, Nat.zero_le _, Nat.zero_le _, rfl, rfl, fun _ h => nomatch h⟩
  | x :: xs, h => by
    have g := h x List.mem_cons_self
    obtain ⟨a, b, c, d, e, f, o⟩ := gds fun y hy => h y (List.mem_cons_of_mem _ hy)
    refine ⟨?_, ?_, ?_, ?_, ?_, ?_, ?_⟩
    · show (x.pl && AV.pls xs) = true; rw [g.pl, a]; rfl
    · show (x.toD.canLay0 && PyData.canLayAll0 (AV.toDs xs)) = true; rw [g.lay, b]; rfl
    · show max x.toD.depth (PyData.depthAll (AV.toDs xs)) ≤ k
      have := g.dep
      omega
    · show x.toD.weight + 1 + PyData.weightAll (AV.toDs xs) ≤ (xs.length + 1) * (n + 1)
      have := g.wt
      have e : (xs.length + 1) * (n + 1) = xs.length * (n + 1) + (n + 1) := by rw [Nat.succ_mul]
      omega
    · show (x.toD.leavesShort 40 && PyData.leavesShortAll 40 (AV.toDs xs)) = true; rw [g.lf, e]; rfl
    · show (x.toD.showable && PyData.showableAll (AV.toDs xs)) = true; rw [g.sh, f]; rfl
    · intro t ht
      rcases List.mem_cons.mp ht with z | z
      · rw [z]; exact g.ok
      · exact o t z
theorem ok_app {a b : Str} (ha : PyData.strOk a = true) (hb : PyData.strOk b = true) : PyData.strOk (a ++ b) = true := by
  unfold PyData.strOk at *
  rw [show (a ++ b).cps = a.cps ++ b.cps from rfl, Array.all_append, ha, hb]
  rfl
theorem ok_from : ∀ {ts : List Str} {k : Nat} {acc : Str}, PyData.strOk acc = true → (∀ t ∈ ts, PyData.strOk t = true) → PyData.strOk (textFrom k acc ts) = true
  | [], _, _, h, _ => h
  | t :: r, k, acc, h, hs => by
    refine ok_from (ts := r) (ok_app (ok_app h ?_) (hs t List.mem_cons_self)) fun z hz => hs z (List.mem_cons_of_mem _ hz)
    split <;> decide +kernel
theorem ok_listText {ts : List Str} (hs : ∀ t ∈ ts, PyData.strOk t = true) : PyData.strOk (listText ts) = true := ok_app (ok_from (by decide +kernel) hs) (by decide +kernel)
theorem ok_join : ∀ {ts : List Str}, (∀ t ∈ ts, PyData.strOk t = true) → PyData.strOk (Str.join ", " ts) = true
  | [], _ => by decide +kernel
  | [t], h => h t List.mem_cons_self
  | t :: u :: r, h => by
    show PyData.strOk (t ++ ", " ++ Str.join ", " (u :: r)) = true
    exact ok_app (ok_app (h t List.mem_cons_self) (by decide +kernel)) (ok_join fun z hz => h z (List.mem_cons_of_mem _ hz))
theorem ok_tupleText {ts : List Str} (hs : ∀ t ∈ ts, PyData.strOk t = true) : PyData.strOk (tupleText ts) = true := by
  unfold tupleText
  refine ok_app (ok_app (by decide +kernel) (ok_join hs)) ?_
  split <;> decide +kernel
theorem Gd.tup {k n : Nat} {xs : List AV} (h : ∀ x ∈ xs, Gd k n x) : Gd (k + 1) (xs.length * (n + 1)) (.tup xs) := by
  obtain ⟨a, b, c, d, e, f, o⟩ := gds h
  refine ⟨a, b, ?_, ?_, e, f, ok_tupleText o⟩
  · show PyData.depthAll (AV.toDs xs) + 1 ≤ k + 1
    omega
  · show PyData.weightAll (AV.toDs xs) ≤ _
    exact d
theorem Gd.lst {k n : Nat} {xs : List AV} (h : ∀ x ∈ xs, Gd k n x) : Gd (k + 1) (xs.length * (n + 1)) (.lst xs) := by
  obtain ⟨a, b, c, d, e, f, o⟩ := gds h
  refine ⟨a, b, ?_, ?_, e, f, ok_listText o⟩
  · show PyData.depthAll (AV.toDs xs) + 1 ≤ k + 1
    omega
  · show PyData.weightAll (AV.toDs xs) ≤ _
    exact d
theorem gd_non : Gd 0 8 .non := ⟨rfl, rfl, Nat.le_refl _, by decide, rfl, rfl, by decide +kernel⟩
theorem gd_bl (b : Bool) : Gd 0 8 (.bl b) := ⟨rfl, rfl, Nat.le_refl _, by show (0 : Nat) ≤ 8; decide, rfl, rfl, by cases b <;> decide +kernel⟩
theorem gd_int {i : Int} (h0 : 0 ≤ i) (h1 : i ≤ 60) : Gd 0 8 (.int i) := by
  have e : ∀ n : Nat, n ≤ 60 → PyData.leavesShort 40 (.int (n : Nat)) = true ∧ PyData.showable (.int (n : Nat)) = true ∧ PyData.strOk (PyData.shown (.int (n : Nat))) = true ∧ PyData.weight (.int (n : Nat)) ≤ 8 := by decide +kernel
  obtain ⟨n, rfl⟩ : ∃ n : Nat, i = n := ⟨i.toNat, by omega⟩
  have z := e n (by omega)
  exact ⟨rfl, rfl, Nat.le_refl _, z.2.2.2, z.1, z.2.1, z.2.2.1⟩
theorem gd_str {s : Str} (h : PyData.strOk s = true) (hl : s.length ≤ 8) (hk : PyData.strOk (reprText s) = true) : Gd 0 8 (.str s) := by
  refine ⟨rfl, h, Nat.le_refl _, hl, ?_, rfl, hk⟩
  show (s.cps.toList.all fun c => decide (c < 16 ^ 8)) = true
  rw [List.all_eq_true]
  intro c hc
  have h2 : (s.cps.all (· < 0x110000)) = true := h
  rw [Array.all_eq_true'] at h2
  have h3 := h2 c (by simpa using hc)
  simp at h3
  exact decide_eq_true (by omega)
theorem Gd.shp {k n : Nat} {v : AV} (g : Gd k n v) (hk : k ≤ 64) : v.shp = true := by
  unfold AV.shp SeqAt.shaped
  rw [g.pl, g.lay, decide_eq_true (Nat.le_trans g.dep hk)]
  rfl
theorem Gd.eq {k n : Nat} {v : AV} (g : Gd k n v) (hk : k ≤ 64) : eqv? v v = some true := by
  unfold eqv?
  rw [g.shp hk]
  simp [SeqAt.eqv_refl _ g.lay]
theorem Gd.rep {k n : Nat} {v : AV} (g : Gd k n v) (hk : k ≤ 64) (hn : n ≤ 100000) : decide (v.toD.shown.length ≤ sizeLine) = true := by
  have h := PyData.shown_le 40 (by decide) v.toD g.lf
  have w := g.wt
  have : (40 + 2) * v.toD.weight ≤ (40 + 2) * n := Nat.mul_le_mul_left _ w
  exact decide_eq_true (by rw [sizeLine_eq]; omega)
theorem Gd.repT {k n : Nat} {xs : List AV} (g : Gd k n (.tup xs)) (hk : k ≤ 64) (hn : n ≤ 100000) : biF .repr [.tup xs] = some (.str (AV.tup xs).toD.shown) := by
  show (if _ then _ else _) = _
  rw [g.shp hk, g.sh, g.rep hk hn]
  rfl
theorem Gd.repL {k n : Nat} {xs : List AV} (g : Gd k n (.lst xs)) (hk : k ≤ 64) (hn : n ≤ 100000) : biF .repr [.lst xs] = some (.str (AV.lst xs).toD.shown) := by
  show (if _ then _ else _) = _
  rw [g.shp hk, g.sh, g.rep hk hn]
  rfl
theorem Gd.shpS {k n : Nat} {v : AV} (g : Gd k n v) : eqv? (.str v.toD.shown) (.str v.toD.shown) = some true := by
  rw [eqv_str g.ok g.ok]
  simp
theorem eqv_strS {s : Str} (h : AV.shp (.str s) = true) : eqv? (.str s) (.str s) = some true := by
  unfold eqv?
  rw [h]
  simp [AV.toD, PyData.eqv]
end MP

set_option Elab.async false
set_option linter.all false
set_option maxRecDepth 100000
set_option maxHeartbeats 4000000
namespace MP
open PySem
theorem alike_lst (d : Nat) {k n : Nat} {xs : List AV} (g : Gd k n (.lst xs)) (hk : k ≤ 64) (hn : n ≤ 100000) (h : AH) (f : Flat h) : callF Pr Gc (d + 1) 1 [.d (.lst xs), .d (.lst xs)] h = .ok (.d (.bl true)) h := by
  have e1 := g.repL hk hn
  have e2 := g.shpS
  have e3 := g.eq hk
  rw [callF_succ]
  simp [Pr, b1, startA, Gc, e1, k_eq, e2, e3]
  exact pureD f
theorem alike_tup (d : Nat) {k n : Nat} {xs : List AV} (g : Gd k n (.tup xs)) (hk : k ≤ 64) (hn : n ≤ 100000) (h : AH) (f : Flat h) : callF Pr Gc (d + 1) 1 [.d (.tup xs), .d (.tup xs)] h = .ok (.d (.bl true)) h := by
  have e1 := g.repT hk hn
  have e2 := g.shpS
  have e3 := g.eq hk
  rw [callF_succ]
  simp [Pr, b1, startA, Gc, e1, k_eq, e2, e3]
  exact pureD f
/-! loops -/
noncomputable def frB (T : GT) (t : Tg) (b : Sms) (x : AV) (σ : AEnv) (h : AH) : RS := match asg t (.d x) σ with
  | some σ' => evSs T b σ' h
  | none => .stuck
theorem y_fr {T : GT} {t : Tg} {it : It} {b : Sms} {σ : AEnv} {h h1 : AH} {s : Src} {r : RS} (e1 : evIt T it σ h = .ok s h1) (e2 : forL (frB T t b) s.cell s.items σ h1 = r) : evS T (.fr t it b) σ h = r := by
  show (evIt T it σ h).s σ (fun s h => forL (frB T t b) s.cell s.items σ h) = _
  rw [e1, s_ok, e2]
/-- what a loop does: it goes on to its end, or hands something back -/
theorem forL_run {b : AV → AEnv → AH → RS} {o : Option (Nat × Cell)} (I : List AV → AEnv → AH → Prop) (Q : MV → AH → Prop) (hst : ∀ xs σ h, I xs σ h → stillAt o h) :
    ∀ (xs : List AV), (∀ x ys, x :: ys <:+ xs → ∀ σ h, I (x :: ys) σ h → (∃ σ' h', (b x σ h = .nx σ' h' ∨ b x σ h = .ct σ' h') ∧ I ys σ' h') ∨ ∃ v h', b x σ h = .rt v h' ∧ Q v h') →
    ∀ σ h, I xs σ h → (∃ σ' h', forL b o xs σ h = .nx σ' h' ∧ I [] σ' h') ∨ ∃ v h', forL b o xs σ h = .rt v h' ∧ Q v h'
  | [], _, σ, h, i => .inl ⟨σ, h, rfl, i⟩
  | x :: xs, st, σ, h, i => by
    rcases st x xs (List.suffix_refl _) σ h i with ⟨σ', h', e, i'⟩ | ⟨v, h', e, q⟩
    · have r := forL_run I Q hst xs (fun y ys hs => st y ys (List.IsSuffix.trans hs (List.suffix_cons x xs))) σ' h' i'
      have e2 : forL b o (x :: xs) σ h = forL b o xs σ' h' := by
        rcases e with e | e
        · rw [forL, e]; exact if_pos (hst _ _ _ i')
        · rw [forL, e]; exact if_pos (hst _ _ _ i')
      rw [e2]
      exact r
    · exact .inr ⟨v, h', by rw [forL, e], q⟩
/-! runs -/
structure Cf where
  p : Int
  q : Int
  x : List Str
  y : List Str
def Cf.a (c : Cf) : AV := confA c.p c.q c.x c.y
def Cf.begin : Cf := ⟨0, 0, [], []⟩
def Cf.In (P : PD) (k : Nat) (c : Cf) : Prop := InP P c.p c.q c.x c.y ∧ c.x.length ≤ k ∧ c.y.length ≤ k
def nextC (w : Bool) (m : Mv) (c : Cf) : Cf := ⟨nextP w m c.p c.q, nextQ w m c.p c.q, nextX w m c.x, nextY w m c.y⟩
def stp (P : PD) (a : Bool × Nat) (c : Cf) : Option Cf := match (P.mv a.1)[a.2]? with
  | some m => if enabled a.1 m c.p c.q c.x c.y then some (nextC a.1 m c) else none
  | none => none
theorem lets_app {x : List Str} {l : Str} (h : Lets x) (hl : l = "a" ∨ l = "b" ∨ l = "x" ∨ l = "y") : Lets (x ++ [l]) := fun a ha => by
  rcases List.mem_append.mp ha with z | z
  · exact h a z
  · rw [List.mem_singleton.mp z]; exact hl
theorem lets_drop {x : List Str} (h : Lets x) : Lets (x.drop 1) := fun a ha => h a (List.mem_of_mem_drop ha)
theorem next_in {P : PD} {k : Nat} {c : Cf} {w : Bool} {m : Mv} (hk : k < 900) (i : c.In P k) (ok : MvOk (P.n w) m) : (nextC w m c).In P (k + 1) := by
  obtain ⟨⟨p0, p1, q0, q1, hx, hy, lx, ly⟩, kx, ky⟩ := i
  have snd : (m.k == "send") = true → (m.l = "a" ∨ m.l = "b" ∨ m.l = "x" ∨ m.l = "y") := fun e => by
    have l := ok.l
    rw [if_neg (by rw [eq_of_beq e]; decide +kernel)] at l
    exact l
  have X : Lets (nextX w m c.x) ∧ (nextX w m c.x).length ≤ k + 1 := by
    unfold nextX
    cases w
    · cases e : (m.k == "send")
      · exact ⟨hx, by simp; omega⟩
      · exact ⟨lets_app hx (snd e), by simp; omega⟩
    · cases e : (m.k == "take")
      · exact ⟨hx, by simp; omega⟩
      · exact ⟨lets_drop hx, by simp; omega⟩
  have Y : Lets (nextY w m c.y) ∧ (nextY w m c.y).length ≤ k + 1 := by
    unfold nextY
    cases w
    · cases e : (m.k == "take")
      · exact ⟨hy, by simp; omega⟩
      · exact ⟨lets_drop hy, by simp; omega⟩
    · cases e : (m.k == "send")
      · exact ⟨hy, by simp; omega⟩
      · exact ⟨lets_app hy (snd e), by simp; omega⟩
  refine ⟨⟨?_, ?_, ?_, ?_, X.1, Y.1, by have := X.2; simp only [nextC]; omega, by have := Y.2; simp only [nextC]; omega⟩, X.2, Y.2⟩
  all_goals (cases w <;> simp only [nextC, nextP, nextQ, if_true, Bool.false_eq_true, if_false])
  all_goals first | exact p0 | exact p1 | exact q0 | exact q1 | exact ok.t0 | exact ok.t1
theorem begin_in {P : PD} (o : PDOk P) : Cf.begin.In P 0 := by
  have := o.n0
  have := o.n1
  refine ⟨⟨by decide, ?_, by decide, ?_, (fun _ z => nomatch z), (fun _ z => nomatch z), by decide, by decide⟩, by decide, by decide⟩
  · show (0 : Int) < P.n false
    omega
  · show (0 : Int) < P.n true
    omega
theorem stp_in {P : PD} (o : PDOk P) {k : Nat} (hk : k < 900) {a : Bool × Nat} {c c' : Cf} (i : c.In P k) (e : stp P a c = some c') : c'.In P (k + 1) ∧ a ∈ actL P := by
  unfold stp at e
  cases q : (P.mv a.1)[a.2]? with
  | none => rw [q] at e; cases e
  | some m =>
    rw [q] at e
    dsimp only at e
    cases en : enabled a.1 m c.p c.q c.x c.y with
    | false => rw [en] at e; cases e
    | true =>
      rw [en] at e
      cases e
      exact ⟨next_in hk i (o.ok _ m (List.mem_of_getElem? q)), actL_mem.mpr (List.getElem?_eq_some_iff.mp q).1⟩
theorem law_do_stp (d : Nat) {P : PD} (o : PDOk P) {k : Nat} {a : Bool × Nat} {c c' : Cf} (h : AH) (f : Flat h) (i : c.In P k) (e : stp P a c = some c') : callF Pr Gc (d + 1) 12 [.d P.a, .d c.a, .d (encAct a)] h = .ok (.d c'.a) h := by
  unfold stp at e
  cases q : (P.mv a.1)[a.2]? with
  | none => rw [q] at e; cases e
  | some m =>
    rw [q] at e
    dsimp only at e
    cases en : enabled a.1 m c.p c.q c.x c.y with
    | false => rw [en] at e; cases e
    | true =>
      rw [en] at e
      cases e
      have r := law_do_spec d (P := P) (p := c.p) (q := c.q) h f i.1.hx i.1.hy (Nat.le_trans i.1.lx (by decide)) (Nat.le_trans i.1.ly (by decide)) q (o.ok _ m (List.mem_of_getElem? q))
      rw [Cf.a, encAct, r, stepA, en]
      rfl
theorem en_stp {P : PD} {a : Bool × Nat} {c : Cf} : enB P c.p c.q c.x c.y a = (stp P a c).isSome := by
  unfold enB stp
  cases (P.mv a.1)[a.2]? with
  | none => rfl
  | some m =>
    dsimp only
    cases enabled a.1 m c.p c.q c.x c.y <;> rfl
/-- the configurations along a run -/
inductive Along (P : PD) : Cf → List (Bool × Nat) → Cf → Prop where
  | nil (c : Cf) : Along P c [] c
  | cons {c c' c'' : Cf} {a : Bool × Nat} {r : List (Bool × Nat)} (e : stp P a c = some c') (t : Along P c' r c'') : Along P c (a :: r) c''
theorem Along.snoc {P : PD} {c c' c'' : Cf} {r : List (Bool × Nat)} {a : Bool × Nat} (h : Along P c r c') (e : stp P a c' = some c'') : Along P c (r ++ [a]) c'' := by
  induction h with
  | nil c => exact .cons e (.nil _)
  | cons e1 t ih => exact .cons e1 (ih e)
end MP

set_option Elab.async false
set_option linter.all false
set_option maxRecDepth 100000
set_option maxHeartbeats 4000000
namespace MP
open PySem
theorem Flat.app {h : AH} (f : Flat h) {xs : List AV} : Flat (h ++ [.lst xs]) := fun c hc n => by
  rcases List.mem_append.mp hc with z | z
  · exact f c z n
  · rw [List.mem_singleton.mp z]; rfl
theorem append_last {h : AH} {xs : List AV} {x : AV} (hl : xs.length < 6000) : methM .append (.ref h.length) [.d x] (h ++ [.lst xs]) = .ok (.d .non) (h ++ [.lst (xs ++ [x])]) := by
  have : xs.length < sizeLine := Nat.lt_of_lt_of_le hl size6000
  simp [methM, this]
theorem lstCell_last {h : AH} {xs : List AV} : lstCell (.ref h.length) (h ++ [.lst xs]) = true := by
  simp [lstCell]
theorem idx_neg1 {xs : List AV} {x : AV} : idxA (.lst (xs ++ [x])) (.int (-1)) = some x := by
  show L2.atI (xs ++ [x]) (-1) = some x
  have e : ((-1 : Int) + ((xs ++ [x]).length : Nat)).toNat = xs.length := by
    rw [List.length_append, List.length_singleton]; omega
  unfold L2.atI L2.ixN
  rw [if_neg (by decide), if_pos (by rw [List.length_append, List.length_singleton]; omega), e]
  simp
theorem fin_lst {h : AH} {xs : List AV} (f : Flat h) : fin false h.length (.ref h.length) (h ++ [.lst xs]) = .ok (.d (.lst xs)) h := by
  have e : (h ++ [Cell.lst xs]).take h.length = h := by rw [List.take_append_of_le_length (Nat.le_refl _), List.take_length]
  unfold fin
  rw [e, if_pos (List.all_eq_true.mpr fun c hc => f c hc _)]
  simp
theorem gd_act {P : PD} (o : PDOk P) {a : Bool × Nat} (ha : a ∈ actL P) : Gd 1 18 (encAct a) := by
  obtain ⟨w, n⟩ := a
  have hl := actL_mem.mp ha
  have h2 := o.ll w
  have l : Gd 0 8 (.str (sideS w)) := by
    cases w
    · exact gd_str ok_left (by decide +kernel) (by decide +kernel)
    · exact gd_str ok_right (by decide +kernel) (by decide +kernel)
  have r := Gd.tup (k := 0) (n := 8) (xs := [.str (sideS w), .int n]) fun x hx => by
    rcases List.mem_cons.mp hx with z | z
    · rw [z]; exact l
    · rw [List.mem_singleton.mp z]; exact gd_int (by omega) (by simp only at hl; omega)
  exact r
theorem gd_acts {P : PD} (o : PDOk P) {L : List (Bool × Nat)} (hL : ∀ a ∈ L, a ∈ actL P) : Gd 2 (L.length * 19) (.lst (L.map encAct)) := by
  have r := Gd.lst (k := 1) (n := 18) (xs := L.map encAct) fun x hx => by
    obtain ⟨a, ha, rfl⟩ := List.mem_map.mp hx
    exact gd_act o (hL a ha)
  rw [List.length_map] at r
  exact r
theorem eq_nil {k n : Nat} {xs : List AV} (g : Gd k n (.lst xs)) (hk : k ≤ 64) : eqv? (.lst xs) (.lst []) = some xs.isEmpty := by
  unfold eqv?
  rw [g.shp hk]
  cases xs with
  | nil => rfl
  | cons x xs => rfl
theorem played_spec (d : Nat) {P : PD} (o : PDOk P) {r : List (Bool × Nat)} {c : Cf} (h : AH) (f : Flat h) (al : Along P Cf.begin r c) (hr : r.length ≤ 800) :
    ∃ cs : List Cf, cs ≠ [] ∧ cs.length = r.length + 1 ∧ (∀ c ∈ cs, c.In P (r.length)) ∧ callF Pr Gc (d + 3) 23 [.d P.a, .d (.tup (r.map encAct))] h = .ok (.d (.lst (cs.map Cf.a))) h := by
  let I : List AV → AEnv → AH → Prop := fun ys σ h' => ∃ (rest : List (Bool × Nat)) (cs : List Cf) (c' : Cf) (k : Nat) (a3 a4 : Option MV), ys = rest.map encAct ∧ σ = [some (.d P.a), some (.d (.tup (r.map encAct))), some (.ref h.length), a3, a4] ∧ h' = h ++ [.lst (cs.map Cf.a ++ [c'.a])] ∧ (∀ c ∈ cs, c.In P r.length) ∧ c'.In P k ∧ k + rest.length = r.length ∧ cs.length = k ∧ Along P c' rest c
  have run := forL_run (b := frB ⟨callF Pr Gc (d + 2), Gc⟩ (.nm 3) (.cons (.set (.nm 4) (.ite (.call 22 (.cons (.var 0) (.cons (.var 3) .nil))) (.call 12 (.cons (.var 0) (.cons (.idx (.var 2) (.neg (.cI 1))) (.cons (.var 3) .nil)))) .cN)) (.cons (.ifs (.cmp .is_ (.var 4) .cN) (.cons (.ret .cN) .nil) .nil) (.cons (.ex (.meth .append (.var 2) (.cons (.var 4) .nil))) .nil)))) (o := none) I (fun _ _ => False) (fun _ _ _ _ => trivial) (r.map encAct) (fun x ys hs σ h' i => by
      obtain ⟨rest, cs, c', k, a3, a4, e1, rfl, rfl, hcs, hc', hk, hlen, al'⟩ := i
      left
      cases rest with
      | nil => cases e1
      | cons a rest =>
        rw [List.map_cons] at e1
        injection e1 with e1 e2
        subst e1 e2
        cases al' with
        | cons e t =>
          rename_i c2
          have s := stp_in o (by simp only [List.length_cons] at hk; omega) hc' e
          have am := s.2
          have hl := actL_mem.mp am
          have f' := f.app (xs := cs.map Cf.a ++ [c'.a])
          have q1 := law_is_move_act (d) (P := P) (w := a.1) (n := a.2) _ f'
          rw [decide_eq_true (show (0 : Int) ≤ a.2 by omega), decide_eq_true (show (a.2 : Int) < (P.mv a.1).length by omega)] at q1
          have q2 := law_do_stp (d + 1) o _ f' hc' e
          have nn : isNon c2.a = false := rfl
          have ap := append_last (h := h) (xs := cs.map Cf.a ++ [c'.a]) (x := c2.a) (by simp only [List.length_cons] at hk; simp; omega)
          refine ⟨_, _, .inl ?_, rest, cs ++ [c'], c2, k + 1, some (.d (encAct a)), some (.d c2.a), rfl, rfl, rfl, ?_, s.1, by simp only [List.length_cons] at hk; omega, by simp; omega, t⟩
          · unfold frB
            simp only [encAct] at q1 q2 ⊢
            simp [q1, q2, idx_last, idx_neg1, nn, ap, lstCell_last]
          · intro c hc
            rcases List.mem_append.mp hc with z | z
            · exact hcs c z
            · rw [List.mem_singleton.mp z]
              exact ⟨hc'.1, by have := hc'.2.1; omega, by have := hc'.2.2; omega⟩) [some (.d P.a), some (.d (.tup (r.map encAct))), some (.ref h.length), none, none] (h ++ [.lst [Cf.begin.a]]) ⟨r, [], Cf.begin, 0, none, none, rfl, rfl, rfl, (fun _ z => nomatch z), begin_in o, by omega, rfl, al⟩
  rcases run with ⟨σ', h', e, rest, cs, c', k, a3, a4, e1, rfl, rfl, hcs, hc', hk, hlen, al'⟩ | ⟨v, h', _, q⟩
  · have e1' : rest = [] := by cases rest with
      | nil => rfl
      | cons a b => cases e1
    subst e1'
    refine ⟨cs ++ [c'], by simp, by simp at hk ⊢; omega, fun c hc => ?_, ?_⟩
    · rcases List.mem_append.mp hc with z | z
      · exact hcs c z
      · rw [List.mem_singleton.mp z]
        exact ⟨hc'.1, by have := hc'.2.1; omega, by have := hc'.2.2; omega⟩
    · rw [callF_succ]
      have fr : evS ⟨callF Pr Gc (d + 2), Gc⟩ (.fr (.nm 3) (.of (.var 1)) (.cons (.set (.nm 4) (.ite (.call 22 (.cons (.var 0) (.cons (.var 3) .nil))) (.call 12 (.cons (.var 0) (.cons (.idx (.var 2) (.neg (.cI 1))) (.cons (.var 3) .nil)))) .cN)) (.cons (.ifs (.cmp .is_ (.var 4) .cN) (.cons (.ret .cN) .nil) .nil) (.cons (.ex (.meth .append (.var 2) (.cons (.var 4) .nil))) .nil)))) [some (.d P.a), some (.d (.tup (r.map encAct))), some (.ref h.length), none, none] (h ++ [.lst [Cf.begin.a]]) = _ := y_fr (s := ⟨r.map encAct, none⟩) (by simp [srcOf]) e
      have bg : Cf.begin.a = .tup [.int 0, .int 0, .tup [], .tup []] := rfl
      rw [bg] at fr
      simp [Pr, b23, startA, Gc, fr]
      exact fin_lst f
  · exact q.elim
end MP

set_option Elab.async false
set_option linter.all false
set_option maxRecDepth 100000
set_option maxHeartbeats 4000000
namespace MP
open PySem
theorem Drawn.rfl' {i : Nat} {h : AH} (b : Bag h i) : Drawn i h h := ⟨b, rfl, fun _ _ => rfl⟩
theorem filter_stp {P : PD} {c : Cf} {a : Bool × Nat} (h : a ∈ (actL P).filter (enB P c.p c.q c.x c.y)) : ∃ c', stp P a c = some c' := by
  have e := (List.mem_filter.mp h).2
  rw [en_stp] at e
  exact Option.isSome_iff_exists.mp e
theorem add_act {R : List (Bool × Nat)} {a : Bool × Nat} (h : R.length ≤ 800) : binop .add (.tup (R.map encAct)) (.tup [encAct a]) = some (.tup ((R ++ [a]).map encAct)) := by
  rw [addT (by simp; omega), List.map_append]
  rfl
theorem drawn_spec (d : Nat) {P : PD} (o : PDOk P) (i : Nat) (h : AH) (f : Flat h) (hb : Bag h i) :
    ∃ (r : List (Bool × Nat)) (c : Cf) (h' : AH), callF Pr Gc (d + 3) 14 [.ref i, .d P.a, .d (.int 6), .d (.int 0)] h = .ok (.d (.tup (r.map encAct))) h' ∧ Along P Cf.begin r c ∧ r.length ≤ 6 ∧ Drawn i h h' ∧ Flat h' := by
  let R (v : MV) (h' : AH) : Prop := ∃ (r : List (Bool × Nat)) (c : Cf), v = .d (.tup (r.map encAct)) ∧ Along P Cf.begin r c ∧ r.length ≤ 6 ∧ Drawn i h h' ∧ Flat h'
  let I : List AV → AEnv → AH → Prop := fun ys σ h' => ∃ (r : List (Bool × Nat)) (c : Cf) (a4 a7 a8 : Option MV), σ = [some (.ref i), some (.d P.a), some (.d (.int 6)), some (.d (.int 0)), a4, some (.d (.tup (r.map encAct))), some (.d c.a), a7, a8] ∧ Along P Cf.begin r c ∧ c.In P r.length ∧ r.length + ys.length ≤ 6 ∧ Drawn i h h' ∧ Flat h'
  have run := forL_run (b := frB ⟨callF Pr Gc (d + 2), Gc⟩ (.nm 4) (.cons (.set (.nm 7) (.call 13 (.cons (.var 1) (.cons (.var 6) .nil))))
  (.cons (.ifs (.cmp .eq (.var 3) (.cI 1)) (.cons (.set (.nm 7) (.comp (.nm 8) (.of (.var 7)) (.cons (.cmp .in_ (.tup .nil) (.slc (.call 12 (.cons (.var 1) (.cons (.var 6) (.cons (.var 8) .nil)))) (.cons (.cI 2) .nil) .nil)) .nil) (.var 8) [8]))
  .nil) .nil)
  (.cons (.ifs (.cmp .eq (.var 7) (.lst .nil)) (.cons (.ret (.var 5))
  .nil) .nil)
  (.cons (.set (.nm 8) (.call 3 (.cons (.var 0) (.cons (.var 7) .nil))))
  (.cons (.set (.tp (.cons (.nm 5) (.cons (.nm 6) .nil))) (.tup (.cons (.bin .add (.var 5) (.tup (.cons (.var 8) .nil))) (.cons (.call 12 (.cons (.var 1) (.cons (.var 6) (.cons (.var 8) .nil)))) .nil))))
  .nil)))))) (o := none) I R (fun _ _ _ _ => trivial) ((List.range 6).map fun (k : Nat) => AV.int k) (fun x ys hs σ h' iv => by
    obtain ⟨r, c, a4, a7, a8, rfl, al, ci, hl, dr, f'⟩ := iv
    have ci0 := ci.1
    have mv := law_moves_spec d o (p := c.p) (q := c.q) h' f' ci0.hx ci0.hy (Nat.le_trans ci0.lx (by decide)) (Nat.le_trans ci0.ly (by decide))
    have gl := gd_acts o (L := (actL P).filter (enB P c.p c.q c.x c.y)) fun a ha => (List.mem_filter.mp ha).1
    have en : cmpop .eq _ _ = _ := eq_nil gl (by decide)
    rw [show confA c.p c.q c.x c.y = c.a from rfl] at mv
    cases q : (actL P).filter (enB P c.p c.q c.x c.y) with
    | nil =>
      right
      rw [q] at mv en
      simp only [List.map_nil, List.isEmpty_nil] at mv en
      refine ⟨_, h', ?_, r, c, rfl, al, by omega, dr, f'⟩
      unfold frB
      simp [mv, en]
    | cons a0 L0 =>
      left
      obtain ⟨x, h2, e3, hx, dr2, f2⟩ := law_some d i (((actL P).filter (enB P c.p c.q c.x c.y)).map encAct) h' f' dr.1 (by rw [q]; simp) (by
        rw [List.length_map]
        exact Nat.le_trans (List.length_filter_le _ _) (Nat.le_trans (actL_len o) (by decide)))
      obtain ⟨a, ha, rfl⟩ := List.mem_map.mp hx
      obtain ⟨c2, hc2⟩ := filter_stp ha
      have hlen : r.length + (ys.length + 1) ≤ 6 := by simpa using hl
      have s := stp_in o (by omega) ci hc2
      have dd := law_do_stp (d + 1) o h2 f2 ci hc2
      have ad := add_act (R := r) (a := a) (by omega)
      rw [q] at mv en e3
      refine ⟨_, h2, .inl ?_, r ++ [a], c2, some (.d x), some (.d (.lst ((a0 :: L0).map encAct))), some (.d (encAct a)), rfl, al.snoc hc2, by rw [List.length_append]; exact s.1, by rw [List.length_append]; simp; omega, dr.trans dr2, f2⟩
      unfold frB
      simp only [List.map_cons, List.isEmpty_cons] at mv en e3
      simp [mv, en, e3, dd, ad]) [some (.ref i), some (.d P.a), some (.d (.int 6)), some (.d (.int 0)), none, some (.d (.tup (([] : List (Bool × Nat)).map encAct))), some (.d Cf.begin.a), none, none] h ⟨[], Cf.begin, none, none, none, rfl, .nil _, begin_in o, by simp, Drawn.rfl' hb, f⟩
  have bg : Cf.begin.a = .tup [.int 0, .int 0, .tup [], .tup []] := rfl
  have it : evIt ⟨callF Pr Gc (d + 2), Gc⟩ (.rng (.cons (.var 2) .nil)) [some (.ref i), some (.d P.a), some (.d (.int 6)), some (.d (.int 0)), none, some (.d (.tup (([] : List (Bool × Nat)).map encAct))), some (.d Cf.begin.a), none, none] h = .ok ⟨(List.range 6).map fun (k : Nat) => AV.int k, none⟩ h := it_rng (n := 6) (by simp) (by decide)
  rcases run with ⟨σ', h', e, r, c, a4, a7, a8, rfl, al, ci, hl, dr, f'⟩ | ⟨v, h', e, r, c, rfl, al, hl, dr, f'⟩
  · refine ⟨r, c, h', ?_, al, by simpa using hl, dr, f'⟩
    have fr := y_fr it e
    rw [bg, List.map_nil] at fr
    rw [callF_succ]
    simp [Pr, b14, startA, Gc, fr]
    exact finD f' dr.2.1
  · refine ⟨r, c, h', ?_, al, hl, dr, f'⟩
    have fr := y_fr it e
    rw [bg, List.map_nil] at fr
    rw [callF_succ]
    simp [Pr, b14, startA, Gc, fr]
    exact finD f' dr.2.1
end MP

set_option Elab.async false
set_option linter.all false
set_option maxRecDepth 100000
set_option maxHeartbeats 4000000
namespace MP
open PySem
/-! couples: helpers -/
theorem bin2_r {f : AV → AV → Option AV} {i : Nat} {a b : AV} {h : AH} (e : view (.ref i) h = some a) : bin2 f (.ref i) (.d b) h = optV (f a b) h := by
  unfold bin2
  rw [e]
  rfl
theorem bin2_l {f : AV → AV → Option AV} {i : Nat} {a b : AV} {h : AH} (e : view (.ref i) h = some a) : bin2 f (.d b) (.ref i) h = optV (f b a) h := by
  unfold bin2
  rw [e]
  rfl
theorem view_at {h : AH} {i : Nat} {c : Cell} {v : AV} (e : h[i]? = some c) (e2 : c.view = some v) : view (.ref i) h = some v := by
  simp [view, e, e2]
theorem src_ref {h : AH} {j : Nat} {ls : List AV} (e : h[j]? = some (.lst ls)) : srcOf (.ref j) h = .ok ⟨ls, some (j, .lst ls)⟩ h := by
  unfold srcOf
  rw [view_at e rfl]
  simp [cellOf, e]
theorem get_app {h : AH} {c c' : Cell} {i : Nat} (e : h[i]? = some c) : (h ++ [c'])[i]? = some c := by
  rw [List.getElem?_append_left (List.getElem?_eq_some_iff.mp e).1, e]
theorem set_app {h : AH} {c c' : Cell} {i : Nat} (hi : i < h.length) : (h ++ [c']).set i c = h.set i c ++ [c'] := List.set_append_left _ _ hi
theorem Flat.app1 {h : AH} (f : Flat h) {c : Cell} (hc : ∀ n, cellOk n c = true) : Flat (h ++ [c]) := fun c' hc' n => by
  rcases List.mem_append.mp hc' with z | z
  · exact f c' z n
  · rw [List.mem_singleton.mp z]; exact hc n
theorem Flat.set1 {h : AH} (f : Flat h) {i : Nat} {c : Cell} (hc : ∀ n, cellOk n c = true) : Flat (h.set i c) := fun c' hc' n => by
  rcases List.mem_or_eq_of_mem_set hc' with z | z
  · exact f c' z n
  · rw [z]; exact hc n
@[simp] theorem em_0 {m : Mv} : idxA (encM m) (.int 0) = some (.int m.s) := (rfl)
@[simp] theorem em_1 {m : Mv} : idxA (encM m) (.int 1) = some (.str m.k) := (rfl)
@[simp] theorem em_2 {m : Mv} : idxA (encM m) (.int 2) = some (.str m.l) := (rfl)
@[simp] theorem em_3 {m : Mv} : idxA (encM m) (.int 3) = some (.int m.t) := (rfl)
theorem shp3 {i j : Int} {l : Str} (h : PyData.strOk l = true) : AV.shp (.tup [.int i, .int j, .str l]) = true := by
  unfold AV.shp
  simp [AV.pl, AV.pls, AV.toD, AV.toDs, SeqAt.shaped, PyData.canLay0, PyData.canLayAll0, h, PyData.depth, PyData.depthAll]
theorem shp2s {k l : Str} (h : PyData.strOk k = true) (h2 : PyData.strOk l = true) : AV.shp (.tup [.str k, .str l]) = true := by
  unfold AV.shp
  simp [AV.pl, AV.pls, AV.toD, AV.toDs, SeqAt.shaped, PyData.canLay0, PyData.canLayAll0, h, h2, PyData.depth, PyData.depthAll]
theorem shp2i {i j : Int} : AV.shp (.tup [.int i, .int j]) = true := by
  unfold AV.shp
  simp [AV.pl, AV.pls, AV.toD, AV.toDs, SeqAt.shaped, PyData.canLay0, PyData.canLayAll0, PyData.depth, PyData.depthAll]
theorem eq_ex {a b : AV} (ha : a.shp = true) (hb : b.shp = true) : ∃ r, cmpop .eq a b = some r := by
  show ∃ r, eqv? a b = some r
  unfold eqv?
  rw [ha, hb]
  exact ⟨_, rfl⟩
/-- two states -/
def encC (c : Int × Int) : AV := .tup [.int c.1, .int c.2]
def keyC (c : Int × Int) : List L2.Key := [.inl c.1, .inl c.2]
theorem keyT_C {c : Int × Int} : keyT (encC c) = some (keyC c) := (rfl)
theorem keysT_C : ∀ {cs : List (Int × Int)}, keysT (cs.map encC) = some (cs.map keyC)
  | [] => rfl
  | c :: cs => by
    show (match keyT (encC c), keysT (cs.map encC) with | some k, some ks => some (k :: ks) | _, _ => none) = _
    rw [keyT_C, keysT_C]
    rfl
theorem kC_inj {a b : Int × Int} (h : keyC a = keyC b) : a = b := by
  unfold keyC at h
  simp at h
  exact Prod.ext h.1 h.2
/-- what is found: couples, each with a run -/
structure Fnd (P : PD) (B : Nat) (cs : List (Int × Int)) (vs : List AV) : Prop where
  l : vs.length = cs.length
  v : ∀ v ∈ vs, ∃ r, v = .tup r ∧ r.length ≤ B
  c : ∀ c ∈ cs, (0 ≤ c.1 ∧ c.1 < P.n false) ∧ 0 ≤ c.2 ∧ c.2 < P.n true
  nd : cs.Nodup
theorem val_in : ∀ {cs : List (Int × Int)} {vs : List AV} {c : Int × Int}, vs.length = cs.length → c ∈ cs → ∃ v ∈ vs, valA ((cs.map keyC).zip vs) (keyC c) = some v
  | [], _, _, _, h => nomatch h
  | a :: cs, [], _, hl, _ => by simp at hl
  | a :: cs, v :: vs, c, hl, h => by
    unfold valA
    rw [List.map_cons, List.zip_cons_cons, List.find?_cons]
    by_cases e : keyC a = keyC c
    · rw [decide_eq_true e]
      exact ⟨v, List.mem_cons_self, rfl⟩
    · rw [decide_eq_false e]
      have hc : c ∈ cs := by
        rcases List.mem_cons.mp h with z | z
        · exact absurd (by rw [z]) e
        · exact z
      obtain ⟨u, hu, e2⟩ := val_in (vs := vs) (by simpa using hl) hc
      exact ⟨u, List.mem_cons_of_mem _ hu, e2⟩
theorem val_out : ∀ {cs : List (Int × Int)} {vs : List AV} {c : Int × Int}, c ∉ cs → valA ((cs.map keyC).zip vs) (keyC c) = none
  | [], _, _, _ => rfl
  | a :: cs, [], _, _ => rfl
  | a :: cs, v :: vs, c, h => by
    unfold valA
    rw [List.map_cons, List.zip_cons_cons, List.find?_cons]
    rw [decide_eq_false fun e => h (by rw [← kC_inj e]; exact List.mem_cons_self)]
    exact val_out fun z => h (List.mem_cons_of_mem _ z)
theorem dctGet_C {cs : List (Int × Int)} {vs : List AV} {c : Int × Int} : dctGet true (cs.map encC) vs (encC c) = some (valA ((cs.map keyC).zip vs) (keyC c)) := by
  simp [dctGet, keyT_C, keysT_C]
theorem Fnd.get {P : PD} {B : Nat} {cs : List (Int × Int)} {vs : List AV} (f : Fnd P B cs vs) {c : Int × Int} (h : c ∈ cs) : ∃ r, dgtA (.dct true (cs.map encC) vs) (encC c) = some (.tup r) ∧ r.length ≤ B := by
  obtain ⟨v, hv, e⟩ := val_in f.l h
  obtain ⟨r, rfl, hr⟩ := f.v v hv
  refine ⟨r, ?_, hr⟩
  show (match dctGet true (cs.map encC) vs (encC c) with | some r => r | none => none) = _
  rw [dctGet_C, e]
theorem Fnd.din {P : PD} {B : Nat} {cs : List (Int × Int)} {vs : List AV} (f : Fnd P B cs vs) {c : Int × Int} : dinA true (encC c) (.dct true (cs.map encC) vs) = some (.bl (decide (c ∉ cs))) := by
  show (dctGet true (cs.map encC) vs (encC c)).map _ = _
  rw [dctGet_C]
  by_cases h : c ∈ cs
  · obtain ⟨v, hv, e⟩ := val_in f.l h
    rw [e, decide_eq_false fun z => z h]
    rfl
  · rw [val_out h, decide_eq_true h]
    rfl
theorem put_out {cs : List (Int × Int)} {vs : List AV} {c : Int × Int} {x : AV} (h : c ∉ cs) (hl : cs.length < 6000) : dctPut true (cs.map encC) vs (encC c) x = some ((cs ++ [c]).map encC, vs ++ [x]) := by
  simp only [dctPut, keyT_C, keysT_C]
  rw [if_pos (by rw [List.length_map]; exact Nat.lt_of_lt_of_le hl size6000)]
  rw [if_neg, List.map_append]
  · rfl
  · rw [List.any_eq_true]
    intro ⟨k, hk, e⟩
    obtain ⟨a, ha, rfl⟩ := List.mem_map.mp hk
    exact h (by rw [← kC_inj (of_decide_eq_true e)]; exact ha)
theorem nodup_lt : ∀ (n : Nat) (l : List Nat), l.Nodup → (∀ x ∈ l, x < n) → l.length ≤ n
  | 0, [], _, _ => Nat.le_refl _
  | 0, x :: l, _, h => absurd (h x List.mem_cons_self) (Nat.not_lt_zero _)
  | n + 1, l, nd, h => by
    have r := nodup_lt n (l.erase n) (nd.erase n) fun x hx => by
      have e := (List.Nodup.mem_erase_iff nd).mp hx
      have := h x e.2
      have := e.1
      omega
    have := List.length_erase_le (a := n) (l := l)
    rw [List.length_erase] at r
    split at r <;> omega
theorem Fnd.le {P : PD} (o : PDOk P) {B : Nat} {cs : List (Int × Int)} {vs : List AV} (f : Fnd P B cs vs) : cs.length ≤ 16 := by
  have n0 := o.n0
  have n1 := o.n1
  have r := nodup_lt 16 (cs.map fun c => (c.1 * 4 + c.2).toNat) (by
    refine List.Pairwise.map _ ?_ (List.Pairwise.imp_of_mem (fun {a b} ha hb h => (show a ≠ b ∧ a ∈ cs ∧ b ∈ cs from ⟨h, ha, hb⟩)) f.nd)
    intro a b ⟨ne, ha, hb⟩ e
    have fa := f.c a ha
    have fb := f.c b hb
    exact ne (Prod.ext (by omega) (by omega))) (fun x hx => by
    obtain ⟨a, ha, rfl⟩ := List.mem_map.mp hx
    have fa := f.c a ha
    omega)
  rwa [List.length_map] at r
/-- what is told of what comes later -/
def LaterOk (P : PD) (B : Nat) (xs : List AV) : Prop := ∀ e ∈ xs, ∃ (c : Int × Int) (r : List AV), e = .tup [encC c, .tup r] ∧ ((0 ≤ c.1 ∧ c.1 < P.n false) ∧ 0 ≤ c.2 ∧ c.2 < P.n true) ∧ r.length ≤ B
theorem LaterOk.snoc {P : PD} {B : Nat} {xs : List AV} {c : Int × Int} {r : List AV} (h : LaterOk P B xs) (hc : (0 ≤ c.1 ∧ c.1 < P.n false) ∧ 0 ≤ c.2 ∧ c.2 < P.n true) (hr : r.length ≤ B) : LaterOk P B (xs ++ [.tup [encC c, .tup r]]) := fun e he => by
  rcases List.mem_append.mp he with z | z
  · exact h e z
  · exact ⟨c, r, List.mem_singleton.mp z, hc, hr⟩
theorem if_app {T : GT} {A B E : Ex} {σ : AEnv} {hw : AH} {a b : Bool} {e : AV} {xs : List AV} (hA : evE T A σ (hw ++ [.lst xs]) = .ok (.d (.bl a)) (hw ++ [.lst xs])) (hB : evE T B σ (hw ++ [.lst xs]) = .ok (.d (.bl b)) (hw ++ [.lst xs])) (hE : evE T E σ (hw ++ [.lst xs]) = .ok (.d e) (hw ++ [.lst xs]))
    (hv : σ[3]? = some (some (.ref hw.length))) (hx : xs.length < 6000) : ∃ ys, (ys = xs ∨ ys = xs ++ [e]) ∧ evS T (.ifs (.and A B) (.cons (.ex (.meth .append (.var 3) (.cons E .nil))) .nil) .nil) σ (hw ++ [.lst xs]) = .nx σ (hw ++ [.lst ys]) := by
  have ap := append_last (h := hw) (xs := xs) (x := e) hx
  cases a
  · exact ⟨xs, .inl rfl, by simp [hA]⟩
  · cases b
    · exact ⟨xs, .inl rfl, by simp [hA, hB]⟩
    · exact ⟨xs ++ [e], .inr rfl, by simp [hA, hB, hE, hv, lstCell_last, ap]⟩
theorem mem_enum : ∀ {n : Nat} {xs : List AV} {x : AV}, x ∈ enumItems n xs → ∃ (k : Nat) (y : AV), x = .tup [.int k, y] ∧ y ∈ xs
  | _, [], _, h => nomatch h
  | n, a :: xs, x, h => by
    rcases List.mem_cons.mp h with z | z
    · exact ⟨n, a, z, List.mem_cons_self⟩
    · obtain ⟨k, y, e, hy⟩ := mem_enum z
      exact ⟨k, y, e, List.mem_cons_of_mem _ hy⟩
theorem enumItems_len : ∀ {n : Nat} {xs : List AV}, (enumItems n xs).length = xs.length
  | _, [] => rfl
  | n, a :: xs => by
    show (enumItems (n + 1) xs).length + 1 = xs.length + 1
    rw [enumItems_len]
end MP

set_option Elab.async false
set_option linter.all false
set_option maxRecDepth 100000
set_option maxHeartbeats 4000000
namespace MP
open PySem
/-! couples: the body of the loop -/
def xST : Ex := .cmp .eq (.tup (.cons (.var 10) (.cons (.var 14) (.cons (.var 12) .nil)))) (.tup (.cons (.var 4) (.cons (.var 5) (.cons (.var 16) .nil))))
def xKW (a b : Str) : Ex := .cmp .eq (.tup (.cons (.var 11) (.cons (.var 15) .nil))) (.tup (.cons (.cS a) (.cons (.cS b) .nil)))
def xRun (ts : Exs) : Ex := .bin .add (.var 6) (.tup ts)
def tL : Ex := .tup (.cons (.cS "left") (.cons (.var 8) .nil))
def tR : Ex := .tup (.cons (.cS "right") (.cons (.var 9) .nil))
def sApp (A B E : Ex) : Sm := .ifs (.and A B) (.cons (.ex (.meth .append (.var 3) (.cons E .nil))) .nil) .nil
def e1c : Ex := .tup (.cons (.tup (.cons (.var 13) (.cons (.var 17) .nil))) (.cons (xRun (.cons tL (.cons tR .nil))) .nil))
def e2c : Ex := .tup (.cons (.tup (.cons (.var 13) (.cons (.var 17) .nil))) (.cons (xRun (.cons tR (.cons tL .nil))) .nil))
def bM2 : Sms := .cons (sApp xST (xKW "send" "take") e1c) (.cons (sApp xST (xKW "take" "send") e2c) .nil)
def tgM : Tg := .tp (.cons (.nm 9) (.cons (.tp (.cons (.nm 14) (.cons (.nm 15) (.cons (.nm 16) (.cons (.nm 17) .nil))))) .nil))
def tgN : Tg := .tp (.cons (.nm 8) (.cons (.tp (.cons (.nm 10) (.cons (.nm 11) (.cons (.nm 12) (.cons (.nm 13) .nil))))) .nil))
def xMv (k : Int) : Ex := .idx (.idx (.var 0) (.cI k)) (.cI 1)
def fM2 : Sm := .fr tgM (.enm (xMv 1)) bM2
def e0c : Ex := .tup (.cons (.tup (.cons (.var 13) (.cons (.var 5) .nil))) (.cons (xRun (.cons tL .nil)) .nil))
def bN : Sms := .cons (sApp (.cmp .eq (.var 10) (.var 4)) (.cmp .eq (.var 11) (.cS "step")) e0c) (.cons fM2 .nil)
def fN : Sm := .fr tgN (.enm (xMv 0)) bN
def e3c : Ex := .tup (.cons (.tup (.cons (.var 4) (.cons (.var 17) .nil))) (.cons (xRun (.cons tR .nil)) .nil))
def bM1 : Sms := .cons (sApp (.cmp .eq (.var 14) (.var 5)) (.cmp .eq (.var 15) (.cS "step")) e3c) .nil
def fM1 : Sm := .fr tgM (.enm (xMv 1)) bM1
def bPQ : Sms := .cons (.set (.nm 6) (.dgt (.var 1) (.tup (.cons (.var 4) (.cons (.var 5) .nil))))) (.cons fN (.cons fM1 .nil))
def fPQ : Sm := .fr (.tp (.cons (.nm 4) (.cons (.nm 5) .nil))) (.of (.var 2)) bPQ
def bC : Sms := .cons (.ifs (.din true (.var 7) (.var 1)) (.cons (.dpt (.var 1) (.var 7) (.var 6)) (.cons (.ex (.meth .append (.var 2) (.cons (.var 7) .nil))) .nil)) .nil) .nil
def fC : Sm := .fr (.tp (.cons (.nm 7) (.cons (.nm 6) .nil))) (.of (.var 3)) bC
def bW : Sms := .cons (.set (.nm 3) (.newl .nil)) (.cons fPQ (.cons (.set (.nm 2) (.newl .nil)) (.cons fC .nil)))
def cW : Ex := .cmp .ne (.var 2) (.lst .nil)
theorem b4_eq : b4 = .cons (.par [1, 2] (.cons (.dst (.cons (.tup (.cons (.cI 0) (.cons (.cI 0) .nil))) (.cons (.tup .nil) .nil))) (.cons (.newl (.cons (.tup (.cons (.cI 0) (.cons (.cI 0) .nil))) .nil)) .nil))) (.cons (.whl cW bW) (.cons (.ret (.var 1)) .nil)) := rfl
/-- the names of a lap -/
def env (P : PD) (n0 j l : Nat) (p q : Int) (r : AV) (a7 a8 a9 a10 a11 a12 a13 a14 a15 a16 a17 : Option MV) : AEnv :=
  [some (.d P.a), some (.ref n0), some (.ref j), some (.ref l), some (.d (.int p)), some (.d (.int q)), some (.d r), a7, a8, a9, a10, a11, a12, a13, a14, a15, a16, a17]
def envN (P : PD) (n0 j l : Nat) (p q : Int) (r : AV) (a7 : Option MV) (n : Int) (a9 : Option MV) (m : Mv) (a14 a15 a16 a17 : Option MV) : AEnv :=
  env P n0 j l p q r a7 (some (.d (.int n))) a9 (some (.d (.int m.s))) (some (.d (.str m.k))) (some (.d (.str m.l))) (some (.d (.int m.t))) a14 a15 a16 a17
def InR (P : PD) (c : Int × Int) : Prop := (0 ≤ c.1 ∧ c.1 < P.n false) ∧ 0 ≤ c.2 ∧ c.2 < P.n true
theorem two_add {P : PD} {B : Nat} {xs ys : List AV} {c : Int × Int} {r : List AV} {e : AV} (h : LaterOk P B xs) (hy : ys = xs ∨ ys = xs ++ [e]) (he : e = .tup [encC c, .tup r]) (hc : InR P c) (hr : r.length ≤ B) : LaterOk P B ys ∧ ys.length ≤ xs.length + 1 := by
  rcases hy with z | z
  · rw [z]; exact ⟨h, by omega⟩
  · rw [z, he]; exact ⟨h.snoc hc hr, by simp⟩
theorem loop_M2 (T : GT) {P : PD} (o : PDOk P) {n0 j : Nat} {hw : AH} {p q : Int} {r : List AV} {a7 : Option MV} {n : Int} {m : Mv} {B : Nat} (hm : MvOk (P.n false) m) (hr : r.length + 2 ≤ B) (hB : B ≤ 5000) {us : List AV} (hu : ∀ x ∈ us, ∃ (k : Nat) (u : Mv), x = .tup [.int k, encM u] ∧ MvOk (P.n true) u) :
    ∀ {xs : List AV} {a9 a14 a15 a16 a17 : Option MV}, LaterOk P B xs → xs.length + 2 * us.length ≤ 5000 → ∃ (ys : List AV) (b9 b14 b15 b16 b17 : Option MV), LaterOk P B ys ∧ ys.length ≤ xs.length + 2 * us.length ∧
      forL (frB T tgM bM2) none us (envN P n0 j hw.length p q (.tup r) a7 n a9 m a14 a15 a16 a17) (hw ++ [.lst xs]) = .nx (envN P n0 j hw.length p q (.tup r) a7 n b9 m b14 b15 b16 b17) (hw ++ [.lst ys]) := by
  induction us with
  | nil => exact fun {xs a9 a14 a15 a16 a17} h1 h2 => ⟨xs, a9, a14, a15, a16, a17, h1, by omega, rfl⟩
  | cons x us ih =>
    intro xs a9 a14 a15 a16 a17 h1 h2
    obtain ⟨k, u, rfl, hu1⟩ := hu x List.mem_cons_self
    obtain ⟨r1, q1⟩ := eq_ex (a := .tup [.int m.s, .int u.s, .str m.l]) (b := .tup [.int p, .int q, .str u.l]) (shp3 hm.lok) (shp3 hu1.lok)
    obtain ⟨r2, q2⟩ := eq_ex (a := .tup [.str m.k, .str u.k]) (b := .tup [.str "send", .str "take"]) (shp2s hm.k.ok hu1.k.ok) (shp2s ok_send ok_take)
    obtain ⟨r3, q3⟩ := eq_ex (a := .tup [.str m.k, .str u.k]) (b := .tup [.str "take", .str "send"]) (shp2s hm.k.ok hu1.k.ok) (shp2s ok_take ok_send)
    have ad : ∀ z w : AV, binop .add (.tup r) (.tup [z, w]) = some (.tup (r ++ [z, w])) := fun z w => addT (by simp; omega)
    simp only [List.length_cons] at h2
    obtain ⟨ys, hy, e1⟩ := if_app (T := T) (hw := hw) (xs := xs) (σ := envN P n0 j hw.length p q (.tup r) a7 n (some (.d (.int k))) m (some (.d (.int u.s))) (some (.d (.str u.k))) (some (.d (.str u.l))) (some (.d (.int u.t)))) (A := xST) (B := xKW "send" "take") (E := e1c) (a := r1) (b := r2) (e := .tup [encC (m.t, u.t), .tup (r ++ [.tup [.str "left", .int n], .tup [.str "right", .int k]])])
      (by simp [xST, envN, env, q1]) (by simp [xKW, envN, env, q2]) (by simp [e1c, xRun, tL, tR, envN, env, ad, encC]) rfl (by omega)
    obtain ⟨z1, z2⟩ := two_add (B := B) h1 hy rfl ⟨⟨hm.t0, hm.t1⟩, hu1.t0, hu1.t1⟩ (by simp; omega)
    obtain ⟨zs, hz, e2⟩ := if_app (T := T) (hw := hw) (xs := ys) (σ := envN P n0 j hw.length p q (.tup r) a7 n (some (.d (.int k))) m (some (.d (.int u.s))) (some (.d (.str u.k))) (some (.d (.str u.l))) (some (.d (.int u.t)))) (A := xST) (B := xKW "take" "send") (E := e2c) (a := r1) (b := r3) (e := .tup [encC (m.t, u.t), .tup (r ++ [.tup [.str "right", .int k], .tup [.str "left", .int n]])])
      (by simp [xST, envN, env, q1]) (by simp [xKW, envN, env, q3]) (by simp [e2c, xRun, tL, tR, envN, env, ad, encC]) rfl (by omega)
    obtain ⟨w1, w2⟩ := two_add (B := B) z1 hz rfl ⟨⟨hm.t0, hm.t1⟩, hu1.t0, hu1.t1⟩ (by simp; omega)
    obtain ⟨ws, b9, b14, b15, b16, b17, v1, v2, v3⟩ := ih (fun y hy => hu y (List.mem_cons_of_mem _ hy)) (xs := zs) (a9 := some (.d (.int k))) (a14 := some (.d (.int u.s))) (a15 := some (.d (.str u.k))) (a16 := some (.d (.str u.l))) (a17 := some (.d (.int u.t))) w1 (by omega)
    refine ⟨ws, b9, b14, b15, b16, b17, v1, by simp only [List.length_cons]; omega, ?_⟩
    have body : frB T tgM bM2 (.tup [.int k, encM u]) (envN P n0 j hw.length p q (.tup r) a7 n a9 m a14 a15 a16 a17) (hw ++ [.lst xs]) = .nx (envN P n0 j hw.length p q (.tup r) a7 n (some (.d (.int k))) m (some (.d (.int u.s))) (some (.d (.str u.k))) (some (.d (.str u.l))) (some (.d (.int u.t)))) (hw ++ [.lst zs]) := by
      have as : asg tgM (.d (.tup [.int k, encM u])) (envN P n0 j hw.length p q (.tup r) a7 n a9 m a14 a15 a16 a17) = some (envN P n0 j hw.length p q (.tup r) a7 n (some (.d (.int k))) m (some (.d (.int u.s))) (some (.d (.str u.k))) (some (.d (.str u.l))) (some (.d (.int u.t)))) := rfl
      unfold frB
      rw [as]
      dsimp only
      exact (y_nx e1).trans ((y_nx e2).trans rfl)
    rw [forL, body]
    dsimp only
    rw [if_pos (show stillAt none _ from trivial)]
    exact v3
end MP

set_option Elab.async false
set_option linter.all false
set_option maxRecDepth 100000
set_option maxHeartbeats 4000000
namespace MP
open PySem
theorem srcE_ms {P : PD} {w : Bool} {h : AH} : srcE (.d (P.ms w)) h = .ok ⟨(P.mv w).map encM, none⟩ h := (rfl)
theorem it_enm (T : GT) {P : PD} {w : Bool} {σ : AEnv} {h : AH} (e : σ[0]? = some (some (.d P.a))) : evIt T (.enm (xMv (wI w))) σ h = .ok ⟨enumItems 0 ((P.mv w).map encM), none⟩ h := by
  cases w
  · simp [xMv, wI, e, srcE_ms]
  · simp [xMv, wI, e, srcE_ms]
theorem items_ok {P : PD} (o : PDOk P) {w : Bool} : ∀ x ∈ enumItems 0 ((P.mv w).map encM), ∃ (k : Nat) (u : Mv), x = .tup [.int k, encM u] ∧ MvOk (P.n w) u := fun x hx => by
  obtain ⟨k, y, e, hy⟩ := mem_enum hx
  obtain ⟨u, hu, rfl⟩ := List.mem_map.mp hy
  exact ⟨k, u, e, o.ok w u hu⟩
theorem items_len {P : PD} {w : Bool} : (enumItems 0 ((P.mv w).map encM)).length = (P.mv w).length := by rw [enumItems_len, List.length_map]
theorem loop_N (T : GT) {P : PD} (o : PDOk P) (h10 : (P.mv true).length ≤ 10) {n0 j : Nat} {hw : AH} {p q : Int} {r : List AV} {a7 : Option MV} {B : Nat} (hq : 0 ≤ q ∧ q < P.n true) (hr : r.length + 2 ≤ B) (hB : B ≤ 5000) {us : List AV} (hu : ∀ x ∈ us, ∃ (k : Nat) (u : Mv), x = .tup [.int k, encM u] ∧ MvOk (P.n false) u) :
    ∀ {xs : List AV} {a8 a9 a10 a11 a12 a13 a14 a15 a16 a17 : Option MV}, LaterOk P B xs → xs.length + 21 * us.length ≤ 5000 → ∃ (ys : List AV) (b8 b9 b10 b11 b12 b13 b14 b15 b16 b17 : Option MV), LaterOk P B ys ∧ ys.length ≤ xs.length + 21 * us.length ∧
      forL (frB T tgN bN) none us (env P n0 j hw.length p q (.tup r) a7 a8 a9 a10 a11 a12 a13 a14 a15 a16 a17) (hw ++ [.lst xs]) = .nx (env P n0 j hw.length p q (.tup r) a7 b8 b9 b10 b11 b12 b13 b14 b15 b16 b17) (hw ++ [.lst ys]) := by
  induction us with
  | nil => exact fun {xs a8 a9 a10 a11 a12 a13 a14 a15 a16 a17} h1 h2 => ⟨xs, a8, a9, a10, a11, a12, a13, a14, a15, a16, a17, h1, by omega, rfl⟩
  | cons x us ih =>
    intro xs a8 a9 a10 a11 a12 a13 a14 a15 a16 a17 h1 h2
    obtain ⟨k, u, rfl, hu1⟩ := hu x List.mem_cons_self
    have q2 := eq_str hu1.k.ok ok_step
    have ad : ∀ z : AV, binop .add (.tup r) (.tup [z]) = some (.tup (r ++ [z])) := fun z => addT (by simp; omega)
    simp only [List.length_cons] at h2
    obtain ⟨ys, hy, e1⟩ := if_app (T := T) (hw := hw) (xs := xs) (σ := envN P n0 j hw.length p q (.tup r) a7 k a9 u a14 a15 a16 a17) (A := .cmp .eq (.var 10) (.var 4)) (B := .cmp .eq (.var 11) (.cS "step")) (E := e0c) (a := u.s == p) (b := u.k == "step") (e := .tup [encC (u.t, q), .tup (r ++ [.tup [.str "left", .int k]])])
      (by simp [envN, env]) (by simp [envN, env, q2]) (by simp [e0c, xRun, tL, envN, env, ad, encC]) rfl (by omega)
    obtain ⟨z1, z2⟩ := two_add (B := B) h1 hy rfl ⟨⟨hu1.t0, hu1.t1⟩, hq⟩ (by simp; omega)
    obtain ⟨zs, c9, c14, c15, c16, c17, w1, w2, w3⟩ := loop_M2 T o (n0 := n0) (j := j) (hw := hw) (p := p) (q := q) (r := r) (a7 := a7) (n := k) (m := u) (B := B) hu1 hr hB (us := enumItems 0 ((P.mv true).map encM)) (items_ok o) (xs := ys) (a9 := a9) (a14 := a14) (a15 := a15) (a16 := a16) (a17 := a17) z1 (by rw [items_len]; omega)
    rw [items_len] at w2
    obtain ⟨ws, b8, b9, b10, b11, b12, b13, b14, b15, b16, b17, v1, v2, v3⟩ := ih (fun y hy => hu y (List.mem_cons_of_mem _ hy)) (xs := zs) (a8 := some (.d (.int k))) (a9 := c9) (a10 := some (.d (.int u.s))) (a11 := some (.d (.str u.k))) (a12 := some (.d (.str u.l))) (a13 := some (.d (.int u.t))) (a14 := c14) (a15 := c15) (a16 := c16) (a17 := c17) w1 (by omega)
    refine ⟨ws, b8, b9, b10, b11, b12, b13, b14, b15, b16, b17, v1, by simp only [List.length_cons]; omega, ?_⟩
    have body : frB T tgN bN (.tup [.int k, encM u]) (env P n0 j hw.length p q (.tup r) a7 a8 a9 a10 a11 a12 a13 a14 a15 a16 a17) (hw ++ [.lst xs]) = .nx (envN P n0 j hw.length p q (.tup r) a7 k c9 u c14 c15 c16 c17) (hw ++ [.lst zs]) := by
      have as : asg tgN (.d (.tup [.int k, encM u])) (env P n0 j hw.length p q (.tup r) a7 a8 a9 a10 a11 a12 a13 a14 a15 a16 a17) = some (envN P n0 j hw.length p q (.tup r) a7 k a9 u a14 a15 a16 a17) := rfl
      unfold frB
      rw [as]
      dsimp only
      exact (y_nx e1).trans ((y_nx (y_fr (it_enm T (P := P) (w := true) rfl) w3)).trans rfl)
    rw [forL, body]
    dsimp only
    rw [if_pos (show stillAt none _ from trivial)]
    exact v3
theorem loop_M1 (T : GT) {P : PD} (o : PDOk P) {n0 j : Nat} {hw : AH} {p q : Int} {r : List AV} {a7 : Option MV} {B : Nat} (hp : 0 ≤ p ∧ p < P.n false) (hr : r.length + 2 ≤ B) (hB : B ≤ 5000) {us : List AV} (hu : ∀ x ∈ us, ∃ (k : Nat) (u : Mv), x = .tup [.int k, encM u] ∧ MvOk (P.n true) u) :
    ∀ {xs : List AV} {a8 a9 a10 a11 a12 a13 a14 a15 a16 a17 : Option MV}, LaterOk P B xs → xs.length + us.length ≤ 5000 → ∃ (ys : List AV) (b8 b9 b10 b11 b12 b13 b14 b15 b16 b17 : Option MV), LaterOk P B ys ∧ ys.length ≤ xs.length + us.length ∧
      forL (frB T tgM bM1) none us (env P n0 j hw.length p q (.tup r) a7 a8 a9 a10 a11 a12 a13 a14 a15 a16 a17) (hw ++ [.lst xs]) = .nx (env P n0 j hw.length p q (.tup r) a7 b8 b9 b10 b11 b12 b13 b14 b15 b16 b17) (hw ++ [.lst ys]) := by
  induction us with
  | nil => exact fun {xs a8 a9 a10 a11 a12 a13 a14 a15 a16 a17} h1 h2 => ⟨xs, a8, a9, a10, a11, a12, a13, a14, a15, a16, a17, h1, by omega, rfl⟩
  | cons x us ih =>
    intro xs a8 a9 a10 a11 a12 a13 a14 a15 a16 a17 h1 h2
    obtain ⟨k, u, rfl, hu1⟩ := hu x List.mem_cons_self
    have q2 := eq_str hu1.k.ok ok_step
    have ad : ∀ z : AV, binop .add (.tup r) (.tup [z]) = some (.tup (r ++ [z])) := fun z => addT (by simp; omega)
    simp only [List.length_cons] at h2
    obtain ⟨ys, hy, e1⟩ := if_app (T := T) (hw := hw) (xs := xs) (σ := env P n0 j hw.length p q (.tup r) a7 a8 (some (.d (.int k))) a10 a11 a12 a13 (some (.d (.int u.s))) (some (.d (.str u.k))) (some (.d (.str u.l))) (some (.d (.int u.t)))) (A := .cmp .eq (.var 14) (.var 5)) (B := .cmp .eq (.var 15) (.cS "step")) (E := e3c) (a := u.s == q) (b := u.k == "step") (e := .tup [encC (p, u.t), .tup (r ++ [.tup [.str "right", .int k]])])
      (by simp [env]) (by simp [env, q2]) (by simp [e3c, xRun, tR, env, ad, encC]) rfl (by omega)
    obtain ⟨z1, z2⟩ := two_add (B := B) h1 hy rfl ⟨hp, hu1.t0, hu1.t1⟩ (by simp; omega)
    obtain ⟨ws, b8, b9, b10, b11, b12, b13, b14, b15, b16, b17, v1, v2, v3⟩ := ih (fun y hy => hu y (List.mem_cons_of_mem _ hy)) (xs := ys) (a8 := a8) (a9 := some (.d (.int k))) (a10 := a10) (a11 := a11) (a12 := a12) (a13 := a13) (a14 := some (.d (.int u.s))) (a15 := some (.d (.str u.k))) (a16 := some (.d (.str u.l))) (a17 := some (.d (.int u.t))) z1 (by omega)
    refine ⟨ws, b8, b9, b10, b11, b12, b13, b14, b15, b16, b17, v1, by simp only [List.length_cons]; omega, ?_⟩
    have body : frB T tgM bM1 (.tup [.int k, encM u]) (env P n0 j hw.length p q (.tup r) a7 a8 a9 a10 a11 a12 a13 a14 a15 a16 a17) (hw ++ [.lst xs]) = .nx (env P n0 j hw.length p q (.tup r) a7 a8 (some (.d (.int k))) a10 a11 a12 a13 (some (.d (.int u.s))) (some (.d (.str u.k))) (some (.d (.str u.l))) (some (.d (.int u.t)))) (hw ++ [.lst ys]) := by
      have as : asg tgM (.d (.tup [.int k, encM u])) (env P n0 j hw.length p q (.tup r) a7 a8 a9 a10 a11 a12 a13 a14 a15 a16 a17) = some (env P n0 j hw.length p q (.tup r) a7 a8 (some (.d (.int k))) a10 a11 a12 a13 (some (.d (.int u.s))) (some (.d (.str u.k))) (some (.d (.str u.l))) (some (.d (.int u.t)))) := rfl
      unfold frB
      rw [as]
      dsimp only
      exact (y_nx e1).trans rfl
    rw [forL, body]
    dsimp only
    rw [if_pos (show stillAt none _ from trivial)]
    exact v3
end MP

set_option Elab.async false
set_option linter.all false
set_option maxRecDepth 100000
set_option maxHeartbeats 4000000
namespace MP
open PySem
/-- the names of a lap, all open -/
def envG (P : PD) (n0 j : Nat) (a3 a4 a5 a6 a7 a8 a9 a10 a11 a12 a13 a14 a15 a16 a17 : Option MV) : AEnv :=
  [some (.d P.a), some (.ref n0), some (.ref j), a3, a4, a5, a6, a7, a8, a9, a10, a11, a12, a13, a14, a15, a16, a17]
theorem loop_PQ (T : GT) {P : PD} (o : PDOk P) (h10 : ∀ w, (P.mv w).length ≤ 10) {n0 j : Nat} {hw : AH} {cs ls : List (Int × Int)} {vs : List AV} {B : Nat} {a7 : Option MV} (hf : hw[n0]? = some (.dct true (cs.map encC) vs)) (hj : hw[j]? = some (.lst (ls.map encC))) (F : Fnd P B cs vs) (hB : B + 2 ≤ 5000) {us : List (Int × Int)} (hu : ∀ c ∈ us, c ∈ cs) :
    ∀ {xs : List AV} {a4 a5 a6 a8 a9 a10 a11 a12 a13 a14 a15 a16 a17 : Option MV}, LaterOk P (B + 2) xs → xs.length + 220 * us.length ≤ 5000 → ∃ (ys : List AV) (b4 b5 b6 b8 b9 b10 b11 b12 b13 b14 b15 b16 b17 : Option MV), LaterOk P (B + 2) ys ∧ ys.length ≤ xs.length + 220 * us.length ∧
      forL (frB T (.tp (.cons (.nm 4) (.cons (.nm 5) .nil))) bPQ) (some (j, .lst (ls.map encC))) (us.map encC) (envG P n0 j (some (.ref hw.length)) a4 a5 a6 a7 a8 a9 a10 a11 a12 a13 a14 a15 a16 a17) (hw ++ [.lst xs]) = .nx (envG P n0 j (some (.ref hw.length)) b4 b5 b6 a7 b8 b9 b10 b11 b12 b13 b14 b15 b16 b17) (hw ++ [.lst ys]) := by
  induction us with
  | nil => exact fun {xs a4 a5 a6 a8 a9 a10 a11 a12 a13 a14 a15 a16 a17} h1 h2 => ⟨xs, a4, a5, a6, a8, a9, a10, a11, a12, a13, a14, a15, a16, a17, h1, by omega, rfl⟩
  | cons c us ih =>
    intro xs a4 a5 a6 a8 a9 a10 a11 a12 a13 a14 a15 a16 a17 h1 h2
    simp only [List.length_cons] at h2
    have hc := hu c List.mem_cons_self
    obtain ⟨r, er, hr⟩ := F.get hc
    have rg := F.c c hc
    obtain ⟨ys, b8, b9, b10, b11, b12, b13, b14, b15, b16, b17, v1, v2, v3⟩ := loop_N T o (h10 true) (n0 := n0) (j := j) (hw := hw) (p := c.1) (q := c.2) (r := r) (a7 := a7) (B := B + 2) rg.2 (by omega) (by omega) (us := enumItems 0 ((P.mv false).map encM)) (items_ok o) (xs := xs) (a8 := a8) (a9 := a9) (a10 := a10) (a11 := a11) (a12 := a12) (a13 := a13) (a14 := a14) (a15 := a15) (a16 := a16) (a17 := a17) h1 (by rw [items_len]; have := h10 false; omega)
    rw [items_len] at v2
    have hl0 := h10 false
    have hl1 := h10 true
    obtain ⟨zs, c8, c9, c10, c11, c12, c13, c14, c15, c16, c17, w1, w2, w3⟩ := loop_M1 T o (n0 := n0) (j := j) (hw := hw) (p := c.1) (q := c.2) (r := r) (a7 := a7) (B := B + 2) rg.1 (by omega) (by omega) (us := enumItems 0 ((P.mv true).map encM)) (items_ok o) (xs := ys) (a8 := b8) (a9 := b9) (a10 := b10) (a11 := b11) (a12 := b12) (a13 := b13) (a14 := b14) (a15 := b15) (a16 := b16) (a17 := b17) v1 (by rw [items_len]; omega)
    rw [items_len] at w2
    obtain ⟨ws, d4, d5, d6, d8, d9, d10, d11, d12, d13, d14, d15, d16, d17, x1, x2, x3⟩ := ih (fun y hy => hu y (List.mem_cons_of_mem _ hy)) (xs := zs) (a4 := some (.d (.int c.1))) (a5 := some (.d (.int c.2))) (a6 := some (.d (.tup r))) (a8 := c8) (a9 := c9) (a10 := c10) (a11 := c11) (a12 := c12) (a13 := c13) (a14 := c14) (a15 := c15) (a16 := c16) (a17 := c17) w1 (by omega)
    refine ⟨ws, d4, d5, d6, d8, d9, d10, d11, d12, d13, d14, d15, d16, d17, x1, by simp only [List.length_cons]; omega, ?_⟩
    have body : frB T (.tp (.cons (.nm 4) (.cons (.nm 5) .nil))) bPQ (encC c) (envG P n0 j (some (.ref hw.length)) a4 a5 a6 a7 a8 a9 a10 a11 a12 a13 a14 a15 a16 a17) (hw ++ [.lst xs]) = .nx (env P n0 j hw.length c.1 c.2 (.tup r) a7 c8 c9 c10 c11 c12 c13 c14 c15 c16 c17) (hw ++ [.lst zs]) := by
      have as : asg (.tp (.cons (.nm 4) (.cons (.nm 5) .nil))) (.d (encC c)) (envG P n0 j (some (.ref hw.length)) a4 a5 a6 a7 a8 a9 a10 a11 a12 a13 a14 a15 a16 a17) = some (envG P n0 j (some (.ref hw.length)) (some (.d (.int c.1))) (some (.d (.int c.2))) a6 a7 a8 a9 a10 a11 a12 a13 a14 a15 a16 a17) := rfl
      have st : evS T (.set (.nm 6) (.dgt (.var 1) (.tup (.cons (.var 4) (.cons (.var 5) .nil))))) (envG P n0 j (some (.ref hw.length)) (some (.d (.int c.1))) (some (.d (.int c.2))) a6 a7 a8 a9 a10 a11 a12 a13 a14 a15 a16 a17) (hw ++ [.lst xs]) = .nx (env P n0 j hw.length c.1 c.2 (.tup r) a7 a8 a9 a10 a11 a12 a13 a14 a15 a16 a17) (hw ++ [.lst xs]) := by
        have b2 : bin2 dgtA (.ref n0) (.d (.tup [.int c.1, .int c.2])) (hw ++ [.lst xs]) = .ok (.d (.tup r)) (hw ++ [.lst xs]) := by
          rw [bin2_r (view_at (get_app hf) rfl)]
          exact congrArg (fun z => optV z (hw ++ [.lst xs])) er
        simp [envG, env, b2]
      unfold frB
      rw [as]
      dsimp only
      exact (y_nx st).trans ((y_nx (y_fr (it_enm T (P := P) (w := false) rfl) v3)).trans ((y_nx (y_fr (it_enm T (P := P) (w := true) rfl) w3)).trans rfl))
    rw [List.map_cons, forL, body]
    dsimp only
    rw [if_pos (show stillAt (some (j, .lst (ls.map encC))) (hw ++ [.lst zs]) from get_app hj)]
    exact x3
theorem dptM_at {h : AH} {n0 : Nat} {t : Bool} {ks vs ks' vs' : List AV} {k v : AV} (g : h[n0]? = some (.dct t ks vs)) (pt : dctPut t ks vs k v = some (ks', vs')) : dptM (.ref n0) (.d k) (.d v) h = some (h.set n0 (.dct t ks' vs')) := by
  simp [dptM, g, pt]
theorem body_C0 {T : GT} {P : PD} {n0 j : Nat} {H : AH} {k v : AV} {a3 a4 a5 a8 a9 a10 a11 a12 a13 a14 a15 a16 a17 : Option MV} (dn : bin2 (dinA true) (.d k) (.ref n0) H = .ok (.d (.bl false)) H) : evSs T bC (envG P n0 j a3 a4 a5 (some (.d v)) (some (.d k)) a8 a9 a10 a11 a12 a13 a14 a15 a16 a17) H = .nx (envG P n0 j a3 a4 a5 (some (.d v)) (some (.d k)) a8 a9 a10 a11 a12 a13 a14 a15 a16 a17) H := by
  simp [bC, envG, dn]
theorem body_C1 {T : GT} {P : PD} {n0 j : Nat} {H H2 H3 : AH} {k v : AV} {a3 a4 a5 a8 a9 a10 a11 a12 a13 a14 a15 a16 a17 : Option MV} (dn : bin2 (dinA true) (.d k) (.ref n0) H = .ok (.d (.bl true)) H) (dp : dptM (.ref n0) (.d k) (.d v) H = some H2) (ls : lstCell (.ref j) H2 = true) (ap : methM .append (.ref j) [.d k] H2 = .ok (.d .non) H3) : evSs T bC (envG P n0 j a3 a4 a5 (some (.d v)) (some (.d k)) a8 a9 a10 a11 a12 a13 a14 a15 a16 a17) H = .nx (envG P n0 j a3 a4 a5 (some (.d v)) (some (.d k)) a8 a9 a10 a11 a12 a13 a14 a15 a16 a17) H3 := by
  simp [bC, envG, dn, dp, ls, ap]
theorem loop_C (T : GT) {P : PD} (o : PDOk P) {n0 : Nat} {B : Nat} {ys : List AV} {us : List AV} (hy : LaterOk P B us) (hul : us.length ≤ 5000) :
    ∀ {hw : AH} {cs lc : List (Int × Int)} {vs : List AV} {l : Nat} {a4 a5 a6 a7 a8 a9 a10 a11 a12 a13 a14 a15 a16 a17 : Option MV}, Flat hw → l = hw.length → n0 < hw.length → hw[n0]? = some (.dct true ((cs ++ lc).map encC) vs) → Fnd P B (cs ++ lc) vs →
      ∃ (hw' : AH) (lc' : List (Int × Int)) (vs' : List AV) (b6 b7 : Option MV), Flat hw' ∧ hw'.length = hw.length ∧ hw'.take n0 = hw.take n0 ∧ hw'[n0]? = some (.dct true ((cs ++ lc').map encC) vs') ∧ Fnd P B (cs ++ lc') vs' ∧ (∀ i, i ≠ n0 → hw'[i]? = hw[i]?) ∧
        forL (frB T (.tp (.cons (.nm 7) (.cons (.nm 6) .nil))) bC) (some (l, .lst ys)) us (envG P n0 (hw.length + 1) (some (.ref l)) a4 a5 a6 a7 a8 a9 a10 a11 a12 a13 a14 a15 a16 a17) (hw ++ [.lst ys] ++ [.lst (lc.map encC)]) = .nx (envG P n0 (hw.length + 1) (some (.ref l)) a4 a5 b6 b7 a8 a9 a10 a11 a12 a13 a14 a15 a16 a17) (hw' ++ [.lst ys] ++ [.lst (lc'.map encC)]) := by
  induction us with
  | nil => exact fun {hw cs lc vs l a4 a5 a6 a7 a8 a9 a10 a11 a12 a13 a14 a15 a16 a17} f hl hn hf F => ⟨hw, lc, vs, a6, a7, f, rfl, rfl, hf, F, fun _ _ => rfl, rfl⟩
  | cons x us ih =>
    intro hw cs lc vs l a4 a5 a6 a7 a8 a9 a10 a11 a12 a13 a14 a15 a16 a17 f hl hn hf F
    obtain ⟨c, r, rfl, hc, hr⟩ := hy x List.mem_cons_self
    have ih' := @ih (fun e he => hy e (List.mem_cons_of_mem _ he)) (by simp only [List.length_cons] at hul; omega)
    have as : asg (.tp (.cons (.nm 7) (.cons (.nm 6) .nil))) (.d (.tup [encC c, .tup r])) (envG P n0 (hw.length + 1) (some (.ref l)) a4 a5 a6 a7 a8 a9 a10 a11 a12 a13 a14 a15 a16 a17) = some (envG P n0 (hw.length + 1) (some (.ref l)) a4 a5 (some (.d (.tup r))) (some (.d (encC c))) a8 a9 a10 a11 a12 a13 a14 a15 a16 a17) := rfl
    have vw : view (.ref n0) (hw ++ [.lst ys] ++ [.lst (lc.map encC)]) = some (.dct true ((cs ++ lc).map encC) vs) := view_at (get_app (get_app hf)) rfl
    have dn : bin2 (dinA true) (.d (encC c)) (.ref n0) (hw ++ [.lst ys] ++ [.lst (lc.map encC)]) = .ok (.d (.bl (decide (c ∉ cs ++ lc)))) (hw ++ [.lst ys] ++ [.lst (lc.map encC)]) := by
      rw [bin2_l vw, F.din]
      rfl
    by_cases hm : c ∈ cs ++ lc
    · rw [decide_eq_false fun z => z hm] at dn
      obtain ⟨hw', lc', vs', b6, b7, g1, g2, g3, g4, g5, g6, g7⟩ := @ih' hw cs lc vs l a4 a5 (some (.d (.tup r))) (some (.d (encC c))) a8 a9 a10 a11 a12 a13 a14 a15 a16 a17  f hl hn hf F
      refine ⟨hw', lc', vs', b6, b7, g1, g2, g3, g4, g5, g6, ?_⟩
      have body : frB T (.tp (.cons (.nm 7) (.cons (.nm 6) .nil))) bC (.tup [encC c, .tup r]) (envG P n0 (hw.length + 1) (some (.ref l)) a4 a5 a6 a7 a8 a9 a10 a11 a12 a13 a14 a15 a16 a17) (hw ++ [.lst ys] ++ [.lst (lc.map encC)]) = .nx (envG P n0 (hw.length + 1) (some (.ref l)) a4 a5 (some (.d (.tup r))) (some (.d (encC c))) a8 a9 a10 a11 a12 a13 a14 a15 a16 a17) (hw ++ [.lst ys] ++ [.lst (lc.map encC)]) := by
        unfold frB
        rw [as]
        exact body_C0 dn
      rw [forL, body]
      dsimp only
      rw [if_pos (show stillAt (some (l, .lst ys)) _ from by subst hl; exact get_app get_last)]
      exact g7
    · rw [decide_eq_true hm] at dn
      have le := F.le o
      have pt := put_out (vs := vs) (x := .tup r) hm (by omega)
      have F' : Fnd P B (cs ++ (lc ++ [c])) (vs ++ [.tup r]) := by
        rw [← List.append_assoc]
        refine ⟨by have := F.l; simp only [List.length_append, List.length_cons, List.length_nil] at this ⊢; omega, fun v hv => ?_, fun c' hc' => ?_, ?_⟩
        · rcases List.mem_append.mp hv with z | z
          · exact F.v v z
          · exact ⟨r, List.mem_singleton.mp z, hr⟩
        · rcases List.mem_append.mp hc' with z | z
          · exact F.c c' z
          · rw [List.mem_singleton.mp z]; exact hc
        · rw [List.nodup_append]
          exact ⟨F.nd, by simp, fun a ha b hb e => hm (by rw [← List.mem_singleton.mp hb, ← e]; exact ha)⟩
      have hset : (hw.set n0 (.dct true ((cs ++ (lc ++ [c])).map encC) (vs ++ [.tup r])))[n0]? = some (.dct true ((cs ++ (lc ++ [c])).map encC) (vs ++ [.tup r])) := List.getElem?_set_self hn
      obtain ⟨hw', lc', vs', b6, b7, g1, g2, g3, g4, g5, g6, g7⟩ := @ih' (hw.set n0 (.dct true ((cs ++ (lc ++ [c])).map encC) (vs ++ [.tup r]))) cs (lc ++ [c]) (vs ++ [.tup r]) l a4 a5 (some (.d (.tup r))) (some (.d (encC c))) a8 a9 a10 a11 a12 a13 a14 a15 a16 a17 (f.set1 fun _ => rfl) (by rw [List.length_set]; exact hl) (by rw [List.length_set]; exact hn) hset F'
      rw [List.length_set] at g2 g7
      refine ⟨hw', lc', vs', b6, b7, g1, g2, by rw [g3, List.take_set_of_le (Nat.le_refl _)], g4, g5, fun i hi => by rw [g6 i hi, List.getElem?_set_ne (Ne.symm hi)], ?_⟩
      have body : frB T (.tp (.cons (.nm 7) (.cons (.nm 6) .nil))) bC (.tup [encC c, .tup r]) (envG P n0 (hw.length + 1) (some (.ref l)) a4 a5 a6 a7 a8 a9 a10 a11 a12 a13 a14 a15 a16 a17) (hw ++ [.lst ys] ++ [.lst (lc.map encC)]) = .nx (envG P n0 (hw.length + 1) (some (.ref l)) a4 a5 (some (.d (.tup r))) (some (.d (encC c))) a8 a9 a10 a11 a12 a13 a14 a15 a16 a17) (hw.set n0 (.dct true ((cs ++ (lc ++ [c])).map encC) (vs ++ [.tup r])) ++ [.lst ys] ++ [.lst ((lc ++ [c]).map encC)]) := by
        have dp : dptM (.ref n0) (.d (encC c)) (.d (.tup r)) (hw ++ [.lst ys] ++ [.lst (lc.map encC)]) = some (hw.set n0 (.dct true ((cs ++ (lc ++ [c])).map encC) (vs ++ [.tup r])) ++ [.lst ys] ++ [.lst (lc.map encC)]) := by
          have g : (hw ++ [.lst ys] ++ [.lst (lc.map encC)])[n0]? = some (.dct true ((cs ++ lc).map encC) vs) := get_app (get_app hf)
          rw [dptM_at g pt]
          rw [set_app (by rw [List.length_append]; omega), set_app hn, List.append_assoc cs]
        have ap := append_last (h := hw.set n0 (.dct true ((cs ++ (lc ++ [c])).map encC) (vs ++ [.tup r])) ++ [.lst ys]) (xs := lc.map encC) (x := encC c) (by rw [List.length_map]; rw [List.length_append] at le; omega)
        have ls := lstCell_last (h := hw.set n0 (.dct true ((cs ++ (lc ++ [c])).map encC) (vs ++ [.tup r])) ++ [.lst ys]) (xs := lc.map encC)
        have hl2 : (hw.set n0 (Cell.dct true ((cs ++ (lc ++ [c])).map encC) (vs ++ [AV.tup r])) ++ [Cell.lst ys]).length = hw.length + 1 := by rw [List.length_append, List.length_set]; rfl
        rw [hl2] at ap ls
        have e2 : (lc ++ [c]).map encC = lc.map encC ++ [encC c] := by rw [List.map_append]; rfl
        rw [e2]
        unfold frB
        rw [as]
        exact body_C1 dn dp ls ap
      rw [forL, body]
      dsimp only
      rw [if_pos (show stillAt (some (l, .lst ys)) _ from by
        subst hl
        refine get_app ?_
        have := get_last (h := hw.set n0 (.dct true ((cs ++ (lc ++ [c])).map encC) (vs ++ [.tup r]))) (c := .lst ys)
        rwa [List.length_set] at this)]
      exact g7
end MP

set_option Elab.async false
set_option linter.all false
set_option maxRecDepth 100000
set_option maxHeartbeats 4000000
namespace MP
open PySem
structure St (P : PD) (h0 : AH) (B : Nat) (cs ls : List (Int × Int)) (vs : List AV) (j : Nat) (hw : AH) : Prop where
  f : Flat hw
  n : h0.length < hw.length
  t : hw.take h0.length = h0
  d : hw[h0.length]? = some (.dct true (cs.map encC) vs)
  l : hw[j]? = some (.lst (ls.map encC))
  F : Fnd P B cs vs
  s : ∀ c ∈ ls, c ∈ cs
  k : ls.length ≤ cs.length
theorem lap_W (T : GT) {P : PD} (o : PDOk P) (h10 : ∀ w, (P.mv w).length ≤ 10) {h0 : AH} {B : Nat} {cs ls : List (Int × Int)} {vs : List AV} {j : Nat} {hw : AH} (S : St P h0 B cs ls vs j hw) (hB : B + 2 ≤ 5000) {a3 a4 a5 a6 a7 a8 a9 a10 a11 a12 a13 a14 a15 a16 a17 : Option MV} :
    ∃ (lc : List (Int × Int)) (vs' : List AV) (hw' : AH) (j' : Nat) (b3 b4 b5 b6 b7 b8 b9 b10 b11 b12 b13 b14 b15 b16 b17 : Option MV), St P h0 (B + 2) (cs ++ lc) lc vs' j' hw' ∧
      evSs T bW (envG P h0.length j a3 a4 a5 a6 a7 a8 a9 a10 a11 a12 a13 a14 a15 a16 a17) hw = .nx (envG P h0.length j' b3 b4 b5 b6 b7 b8 b9 b10 b11 b12 b13 b14 b15 b16 b17) hw' := by
  have le := S.F.le o
  have k := S.k
  obtain ⟨ys, b4, b5, b6, b8, b9, b10, b11, b12, b13, b14, b15, b16, b17, v1, v2, v3⟩ := loop_PQ T o h10 (n0 := h0.length) (j := j) (hw := hw) (a7 := a7) S.d S.l S.F hB (us := ls) S.s (xs := []) (a4 := a4) (a5 := a5) (a6 := a6) (a8 := a8) (a9 := a9) (a10 := a10) (a11 := a11) (a12 := a12) (a13 := a13) (a14 := a14) (a15 := a15) (a16 := a16) (a17 := a17) (fun _ z => nomatch z) (by simp; omega)
  have F2 : Fnd P (B + 2) (cs ++ []) vs := by
    rw [List.append_nil]
    exact ⟨S.F.l, fun v hv => by obtain ⟨r, e, hr⟩ := S.F.v v hv; exact ⟨r, e, by omega⟩, S.F.c, S.F.nd⟩
  obtain ⟨hw', lc, vs', d6, d7, g1, g2, g3, g4, g5, g6, g7⟩ := loop_C T o (n0 := h0.length) (B := B + 2) (ys := ys) (us := ys) v1 (by simp at v2; omega) (hw := hw) (cs := cs) (lc := []) (vs := vs) (l := hw.length) (a4 := b4) (a5 := b5) (a6 := b6) (a7 := a7) (a8 := b8) (a9 := b9) (a10 := b10) (a11 := b11) (a12 := b12) (a13 := b13) (a14 := b14) (a15 := b15) (a16 := b16) (a17 := b17) S.f rfl S.n (by rw [List.append_nil]; exact S.d) F2
  refine ⟨lc, vs', hw' ++ [.lst ys] ++ [.lst (lc.map encC)], hw.length + 1, some (.ref hw.length), b4, b5, d6, d7, b8, b9, b10, b11, b12, b13, b14, b15, b16, b17, ?_, ?_⟩
  · refine ⟨(g1.app).app, by simp only [List.length_append]; have := S.n; omega, ?_, get_app (get_app g4), ?_, g5, fun c hc => List.mem_append_right _ hc, by rw [List.length_append]; omega⟩
    · have n1 : h0.length ≤ hw'.length := by have := S.n; omega
      rw [List.take_append_of_le_length (by rw [List.length_append]; omega), List.take_append_of_le_length n1, g3, S.t]
    · have e : (hw' ++ [Cell.lst ys]).length = hw.length + 1 := by rw [List.length_append, g2]; rfl
      rw [← e]
      exact get_last
  · have s1 : evS T (.set (.nm 3) (.newl .nil)) (envG P h0.length j a3 a4 a5 a6 a7 a8 a9 a10 a11 a12 a13 a14 a15 a16 a17) hw = .nx (envG P h0.length j (some (.ref hw.length)) a4 a5 a6 a7 a8 a9 a10 a11 a12 a13 a14 a15 a16 a17) (hw ++ [.lst []]) := by
      simp [envG]
    have s2 : evS T fPQ (envG P h0.length j (some (.ref hw.length)) a4 a5 a6 a7 a8 a9 a10 a11 a12 a13 a14 a15 a16 a17) (hw ++ [.lst []]) = _ := y_fr (s := ⟨ls.map encC, some (j, .lst (ls.map encC))⟩) (h1 := hw ++ [.lst []]) (by
      have := src_ref (get_app (c' := Cell.lst []) S.l)
      simp only [x_evIt_of, envG, x_var]
      exact this) v3
    have s3 : evS T (.set (.nm 2) (.newl .nil)) (envG P h0.length j (some (.ref hw.length)) b4 b5 b6 a7 b8 b9 b10 b11 b12 b13 b14 b15 b16 b17) (hw ++ [.lst ys]) = .nx (envG P h0.length (hw.length + 1) (some (.ref hw.length)) b4 b5 b6 a7 b8 b9 b10 b11 b12 b13 b14 b15 b16 b17) (hw ++ [.lst ys] ++ [.lst []]) := by
      simp [envG]
    have s4 : evS T fC (envG P h0.length (hw.length + 1) (some (.ref hw.length)) b4 b5 b6 a7 b8 b9 b10 b11 b12 b13 b14 b15 b16 b17) (hw ++ [.lst ys] ++ [.lst []]) = _ := y_fr (s := ⟨ys, some (hw.length, .lst ys)⟩) (h1 := hw ++ [.lst ys] ++ [.lst []]) (by
      have := src_ref (get_app (c' := Cell.lst []) (get_last (h := hw) (c := Cell.lst ys)))
      simp only [x_evIt_of, envG, x_var]
      exact this) g7
    exact (y_nx s1).trans ((y_nx s2).trans ((y_nx s3).trans ((y_nx s4).trans rfl)))
theorem gd_C {P : PD} (o : PDOk P) {c : Int × Int} (h : (0 ≤ c.1 ∧ c.1 < P.n false) ∧ 0 ≤ c.2 ∧ c.2 < P.n true) : Gd 1 18 (encC c) := by
  have n0 := o.n0
  have n1 := o.n1
  have r := Gd.tup (k := 0) (n := 8) (xs := [.int c.1, .int c.2]) fun x hx => by
    rcases List.mem_cons.mp hx with z | z
    · rw [z]; exact gd_int (by omega) (by omega)
    · rw [List.mem_singleton.mp z]; exact gd_int (by omega) (by omega)
  exact r
theorem gd_Cs {P : PD} (o : PDOk P) {cs : List (Int × Int)} (h : ∀ c ∈ cs, (0 ≤ c.1 ∧ c.1 < P.n false) ∧ 0 ≤ c.2 ∧ c.2 < P.n true) : Gd 2 (cs.length * 19) (.lst (cs.map encC)) := by
  have r := Gd.lst (k := 1) (n := 18) (xs := cs.map encC) fun x hx => by
    obtain ⟨a, ha, rfl⟩ := List.mem_map.mp hx
    exact gd_C o (h a ha)
  rw [List.length_map] at r
  exact r
theorem cond_W (T : GT) {P : PD} (o : PDOk P) {h0 : AH} {B : Nat} {cs ls : List (Int × Int)} {vs : List AV} {j : Nat} {hw : AH} (S : St P h0 B cs ls vs j hw) {a3 a4 a5 a6 a7 a8 a9 a10 a11 a12 a13 a14 a15 a16 a17 : Option MV} :
    evT T cW (envG P h0.length j a3 a4 a5 a6 a7 a8 a9 a10 a11 a12 a13 a14 a15 a16 a17) hw = .ok (!ls.isEmpty) hw := by
  have e : bin2 (cmpB .ne) (.ref j) (.d (.lst [])) hw = .ok (.d (.bl (!ls.isEmpty))) hw := by
    rw [bin2_r (view_at S.l rfl)]
    show optV ((cmpop .ne (.lst (ls.map encC)) (.lst [])).map .bl) hw = _
    rw [k_ne, eq_nil (gd_Cs o fun c hc => S.F.c c (S.s c hc)) (by decide)]
    cases ls <;> rfl
  simp [cW, envG, e]
theorem loop_W (T : GT) {P : PD} (o : PDOk P) (h10 : ∀ w, (P.mv w).length ≤ 10) {h0 : AH} : ∀ (n : Nat) {B : Nat} {cs ls : List (Int × Int)} {vs : List AV} {j : Nat} {hw : AH} {a3 a4 a5 a6 a7 a8 a9 a10 a11 a12 a13 a14 a15 a16 a17 : Option MV}, St P h0 B cs ls vs j hw → B + 2 * n ≤ 1000 → (ls = [] → 1 ≤ n) → (ls ≠ [] → 18 ≤ n + cs.length) →
    ∃ (B' : Nat) (cs' ls' : List (Int × Int)) (vs' : List AV) (j' : Nat) (hw' : AH) (b3 b4 b5 b6 b7 b8 b9 b10 b11 b12 b13 b14 b15 b16 b17 : Option MV), St P h0 B' cs' ls' vs' j' hw' ∧ whlN (fun σ h => evT T cW σ h) (fun σ h => evSs T bW σ h) n (envG P h0.length j a3 a4 a5 a6 a7 a8 a9 a10 a11 a12 a13 a14 a15 a16 a17) hw = some (.nx (envG P h0.length j' b3 b4 b5 b6 b7 b8 b9 b10 b11 b12 b13 b14 b15 b16 b17) hw')
  | 0, B, cs, ls, vs, j, hw, a3, a4, a5, a6, a7, a8, a9, a10, a11, a12, a13, a14, a15, a16, a17, S, hB, h1, h2 => by
    have := S.F.le o
    by_cases e : ls = []
    · exact absurd (h1 e) (by decide)
    · have := h2 e
      omega
  | n + 1, B, cs, ls, vs, j, hw, a3, a4, a5, a6, a7, a8, a9, a10, a11, a12, a13, a14, a15, a16, a17, S, hB, h1, h2 => by
    have c := cond_W T o S (a3 := a3) (a4 := a4) (a5 := a5) (a6 := a6) (a7 := a7) (a8 := a8) (a9 := a9) (a10 := a10) (a11 := a11) (a12 := a12) (a13 := a13) (a14 := a14) (a15 := a15) (a16 := a16) (a17 := a17)
    by_cases e : ls = []
    · refine ⟨B, cs, ls, vs, j, hw, a3, a4, a5, a6, a7, a8, a9, a10, a11, a12, a13, a14, a15, a16, a17, S, ?_⟩
      rw [e] at c
      rw [whlN, c]
      rfl
    · have h3 := h2 e
      have le := S.F.le o
      obtain ⟨lc, vs', hw', j', b3, b4, b5, b6, b7, b8, b9, b10, b11, b12, b13, b14, b15, b16, b17, S', eb⟩ := lap_W T o h10 S (by omega) (a3 := a3) (a4 := a4) (a5 := a5) (a6 := a6) (a7 := a7) (a8 := a8) (a9 := a9) (a10 := a10) (a11 := a11) (a12 := a12) (a13 := a13) (a14 := a14) (a15 := a15) (a16 := a16) (a17 := a17)
      obtain ⟨B', cs', ls', vs2, j2, hw2, d3, d4, d5, d6, d7, d8, d9, d10, d11, d12, d13, d14, d15, d16, d17, S2, e2⟩ := loop_W T o h10 n (B := B + 2) (a3 := b3) (a4 := b4) (a5 := b5) (a6 := b6) (a7 := b7) (a8 := b8) (a9 := b9) (a10 := b10) (a11 := b11) (a12 := b12) (a13 := b13) (a14 := b14) (a15 := b15) (a16 := b16) (a17 := b17) S' (by omega) (fun _ => by omega) (fun hn => by
        have : 1 ≤ lc.length := by
          cases lc with
          | nil => exact absurd rfl hn
          | cons a b => simp
        rw [List.length_append]
        omega)
      refine ⟨B', cs', ls', vs2, j2, hw2, d3, d4, d5, d6, d7, d8, d9, d10, d11, d12, d13, d14, d15, d16, d17, S2, ?_⟩
      have e3 : (!ls.isEmpty) = true := by
        cases ls with
        | nil => exact absurd rfl e
        | cons a b => rfl
      rw [e3] at c
      rw [whlN, c]
      dsimp only
      rw [eb]
      exact e2
theorem couples_spec (d : Nat) {P : PD} (o : PDOk P) (h10 : ∀ w, (P.mv w).length ≤ 10) (h : AH) (f : Flat h) : ∃ (B : Nat) (cs : List (Int × Int)) (vs : List AV), Fnd P B cs vs ∧ callF Pr Gc (d + 1) 4 [.d P.a] h = .ok (.d (.dct true (cs.map encC) vs)) h := by
  have n0 := o.n0
  have n1 := o.n1
  have S : St P h 0 [(0, 0)] [(0, 0)] [.tup []] (h.length + 1) (h ++ [.dct true [encC (0, 0)] [.tup []]] ++ [.lst [encC (0, 0)]]) := by
    refine ⟨(f.app1 fun _ => rfl).app, by simp, ?_, get_app get_last, ?_, ⟨rfl, fun v hv => ⟨[], List.mem_singleton.mp hv, Nat.le_refl _⟩, fun c hc => ?_, by simp⟩, fun c hc => hc, Nat.le_refl _⟩
    · rw [List.append_assoc, List.take_append_of_le_length (Nat.le_refl _), List.take_length]
    · have e : (h ++ [Cell.dct true [encC (0, 0)] [AV.tup []]]).length = h.length + 1 := by rw [List.length_append]; rfl
      rw [← e]
      exact get_last
    · rw [List.mem_singleton.mp hc]
      refine ⟨⟨?_, ?_⟩, ?_, ?_⟩ <;> first | exact Int.le_refl 0 | (show (0 : Int) < _; omega)
  obtain ⟨B', cs', ls', vs', j', hw', b3, b4, b5, b6, b7, b8, b9, b10, b11, b12, b13, b14, b15, b16, b17, S', e⟩ := loop_W ⟨callF Pr Gc d, Gc⟩ o h10 17 S (a3 := none) (a4 := none) (a5 := none) (a6 := none) (a7 := none) (a8 := none) (a9 := none) (a10 := none) (a11 := none) (a12 := none) (a13 := none) (a14 := none) (a15 := none) (a16 := none) (a17 := none) (by decide) (fun z => nomatch z) (fun _ => by decide)
  refine ⟨B', cs', vs', S'.F, ?_⟩
  have w : evS ⟨callF Pr Gc d, Gc⟩ (.whl cW bW) (envG P h.length (h.length + 1) none none none none none none none none none none none none none none none) (h ++ [.dct true [encC (0, 0)] [.tup []]] ++ [.lst [encC (0, 0)]]) = _ := whlR_eq e
  have p : evS ⟨callF Pr Gc d, Gc⟩ (.par [1, 2] (.cons (.dst (.cons (.tup (.cons (.cI 0) (.cons (.cI 0) .nil))) (.cons (.tup .nil) .nil))) (.cons (.newl (.cons (.tup (.cons (.cI 0) (.cons (.cI 0) .nil))) .nil)) .nil))) (startA 18 [.d P.a]) h = .nx (envG P h.length (h.length + 1) none none none none none none none none none none none none none none none) (h ++ [.dct true [encC (0, 0)] [.tup []]] ++ [.lst [encC (0, 0)]]) := by
    simp [startA, pairUp, dstK, keysT, keyT, keysK, keyK, envG, encC]
  have ret : evS ⟨callF Pr Gc d, Gc⟩ (.ret (.var 1)) (envG P h.length j' b3 b4 b5 b6 b7 b8 b9 b10 b11 b12 b13 b14 b15 b16 b17) hw' = .rt (.ref h.length) hw' := by
    simp [envG]
  have all : evSs ⟨callF Pr Gc d, Gc⟩ MP.b4 (startA 18 [.d P.a]) h = .rt (.ref h.length) hw' := by
    rw [b4_eq]
    exact (y_nx p).trans ((y_nx w).trans (y_rt ret))
  rw [callF_succ]
  show (if [MV.d P.a].length = 1 then finS false h.length (evSs ⟨callF Pr Gc d, Gc⟩ MP.b4 (startA 18 [.d P.a]) h) else .stuck) = _
  rw [if_pos (show [MV.d P.a].length = 1 from rfl), all, k_finR]
  unfold fin
  rw [S'.t, if_pos (List.all_eq_true.mpr fun c hc => f c hc _)]
  simp [S'.d]
end MP

set_option Elab.async false
set_option linter.all false
set_option maxRecDepth 100000
set_option maxHeartbeats 4000000
namespace MP
open PySem
theorem alike_C {c e : Int × Int} : PySem.W.alike (encC c).toD (encC e).toD = true := rfl
theorem alike_M {m u : Mv} : PySem.W.alike (encM m).toD (encM u).toD = true := rfl
theorem shpC {c : Int × Int} : (encC c).shp = true := shp2i
theorem shpM {m : Mv} (hk : PyData.strOk m.k = true) (hl : PyData.strOk m.l = true) : (encM m).shp = true := by
  unfold AV.shp
  simp [encM, AV.pl, AV.pls, AV.toD, AV.toDs, SeqAt.shaped, PyData.canLay0, PyData.canLayAll0, hk, hl, PyData.depth, PyData.depthAll]
theorem sortOk_of {α : Type} (enc : α → AV) {xs : List α} (h1 : ∀ a ∈ xs, (enc a).shp = true) (h2 : ∀ a b, PySem.W.alike (enc a).toD (enc b).toD = true) (h3 : ∀ a, ∃ x r, enc a = .tup (x :: r)) : sortOk (xs.map enc) = true := by
  unfold sortOk
  rw [Bool.and_eq_true, Bool.and_eq_true, Bool.or_eq_true]
  refine ⟨⟨?_, ?_⟩, .inl ?_⟩
  · rw [List.all_eq_true]
    intro v hv
    obtain ⟨a, ha, rfl⟩ := List.mem_map.mp hv
    exact h1 a ha
  · rw [List.all_eq_true]
    intro v hv
    rw [List.all_eq_true]
    intro w hw
    obtain ⟨a, ha, rfl⟩ := List.mem_map.mp hv
    obtain ⟨b, hb, rfl⟩ := List.mem_map.mp hw
    exact h2 a b
  · rw [List.all_eq_true]
    intro v hv
    obtain ⟨a, ha, rfl⟩ := List.mem_map.mp hv
    obtain ⟨x, r, e⟩ := h3 a
    rw [e]
theorem unmap {α : Type} (enc : α → AV) : ∀ {l : List AV} {xs : List α}, (∀ v ∈ l, v ∈ xs.map enc) → ∃ ys : List α, l = ys.map enc ∧ ∀ a ∈ ys, a ∈ xs
  | [], _, _ => ⟨[], rfl, fun _ z => nomatch z⟩
  | v :: l, xs, h => by
    obtain ⟨a, ha, e⟩ := List.mem_map.mp (h v List.mem_cons_self)
    obtain ⟨ys, e2, hy⟩ := unmap enc (l := l) (xs := xs) fun w hw => h w (List.mem_cons_of_mem _ hw)
    exact ⟨a :: ys, by rw [List.map_cons, e, ← e2], fun b hb => by
      rcases List.mem_cons.mp hb with z | z
      · rw [z]; exact ha
      · exact hy b z⟩
theorem sortA_mem {xs : List AV} {v : AV} : v ∈ sortA xs ↔ v ∈ xs := (List.mergeSort_perm xs _).mem_iff
theorem srt_C {cs : List (Int × Int)} {vs : List AV} (hl : cs.length ≤ 6000) : ∃ ds : List (Int × Int), biF .sorted [.dct true (cs.map encC) vs] = some (.lst (ds.map encC)) ∧ (∀ c ∈ ds, c ∈ cs) := by
  obtain ⟨ds, e, hd⟩ := unmap encC (l := sortA (cs.map encC)) (xs := cs) fun v hv => sortA_mem.mp hv
  refine ⟨ds, ?_, hd⟩
  have s := sortOk_of encC (xs := cs) (fun _ _ => shpC) (fun _ _ => alike_C) fun c => ⟨_, _, rfl⟩
  have ft : (cs.map encC).all fitT = true := by
    rw [List.all_eq_true]
    intro v hv
    obtain ⟨c, hc, rfl⟩ := List.mem_map.mp hv
    show ([AV.int c.1, AV.int c.2].all fitK && decide (2 ≤ sizeLine)) = true
    rw [decide_eq_true (Nat.le_trans (by decide) size6000)]
    rfl
  show (if _ then _ else _) = _
  rw [s, ft, e]
  rfl
theorem gd_kind {k : Str} (h : KOk k) : Gd 0 8 (.str k) := by
  rcases h with rfl | rfl | rfl
  · exact gd_str ok_send (by decide +kernel) (by decide +kernel)
  · exact gd_str ok_take (by decide +kernel) (by decide +kernel)
  · exact gd_str ok_step (by decide +kernel) (by decide +kernel)
theorem gd_let {l : Str} (h : l = "a" ∨ l = "b" ∨ l = "x" ∨ l = "y") : Gd 0 8 (.str l) := by
  rcases h with rfl | rfl | rfl | rfl
  · exact gd_str ok_a (by decide +kernel) (by decide +kernel)
  · exact gd_str ok_b (by decide +kernel) (by decide +kernel)
  · exact gd_str ok_x (by decide +kernel) (by decide +kernel)
  · exact gd_str ok_y (by decide +kernel) (by decide +kernel)
theorem gd_empty : Gd 0 8 (.str "") := gd_str ok_e (by decide +kernel) (by decide +kernel)
theorem gd_mv {n : Int} (hn : n ≤ 4) {m : Mv} (ok : MvOk n m) : Gd 1 36 (encM m) := by
  have s0 := ok.s0
  have s1 := ok.s1
  have t0 := ok.t0
  have t1 := ok.t1
  have l : Gd 0 8 (.str m.l) := by
    have := ok.l
    split at this
    · rw [this]; exact gd_empty
    · exact gd_let this
  have r := Gd.tup (k := 0) (n := 8) (xs := [.int m.s, .str m.k, .str m.l, .int m.t]) fun x hx => by
    rcases List.mem_cons.mp hx with z | z
    · rw [z]; exact gd_int s0 (by omega)
    rcases List.mem_cons.mp z with z | z
    · rw [z]; exact gd_kind ok.k
    rcases List.mem_cons.mp z with z | z
    · rw [z]; exact l
    · rw [List.mem_singleton.mp z]; exact gd_int t0 (by omega)
  exact r
theorem gd_mvs {n : Int} (hn : n ≤ 4) {ms : List Mv} (ok : ∀ m ∈ ms, MvOk n m) : Gd 2 (ms.length * 37) (.lst (ms.map encM)) := by
  have r := Gd.lst (k := 1) (n := 36) (xs := ms.map encM) fun x hx => by
    obtain ⟨a, ha, rfl⟩ := List.mem_map.mp hx
    exact gd_mv hn (ok a ha)
  rw [List.length_map] at r
  exact r
theorem PDOk.n4 {P : PD} (o : PDOk P) (w : Bool) : P.n w ≤ 4 := by
  cases w
  · exact o.n0.2
  · exact o.n1.2
@[simp] theorem src_ms {P : PD} {w : Bool} {h : AH} : srcOf (.d (P.ms w)) h = .ok ⟨(P.mv w).map encM, none⟩ h := (rfl)
def sendP (s : Int) (m : Mv) : Bool := m.s == s && m.k == ("send" : Str)
theorem sends_spec (d : Nat) {P : PD} (o : PDOk P) (w : Bool) (s : Int) (h : AH) (f : Flat h) : callF Pr Gc (d + 1) 5 [.d (P.side w), .d (.int s)] h = .ok (.d (.lst (((P.mv w).filter (sendP s)).map encM))) h := by
  have c0 : evE ⟨callF Pr Gc d, Gc⟩ (.comp (.nm 2) (.of (.idx (.var 0) (.cI 1))) (.cons (.and (.cmp .eq (.idx (.var 2) (.cI 0)) (.var 1)) (.cmp .eq (.idx (.var 2) (.cI 1)) (.cS "send"))) .nil) (.var 2) [2]) [some (.d (P.side w)), some (.d (.int s)), none] h = .ok (.d (.lst (((P.mv w).filter (sendP s)).map encM))) h := by
    refine comp_fl encM _ (by simp) (fun m hm => ?_) (Nat.le_trans (o.ll w) (by decide))
    have es := eq_str (o.ok w m hm).k.ok ok_send
    cases c1 : m.s == s <;> cases c2 : m.k == ("send" : Str) <;> simp [turn, es, sendP, c1, c2]
  rw [callF_succ]
  simp [Pr, b5, startA, Gc, c0]
  exact pureD f
theorem duel_spec (d : Nat) {P : PD} (o : PDOk P) (h10 : ∀ w, (P.mv w).length ≤ 10) (h : AH) (f : Flat h) : ∃ v : AV, (v = .non ∨ ∃ c, v = encC c) ∧ callF Pr Gc (d + 2) 6 [.d P.a] h = .ok (.d v) h := by
  obtain ⟨B, cs, vs, F, e⟩ := couples_spec d o h10 h f
  obtain ⟨ds, es, hd⟩ := srt_C (vs := vs) (Nat.le_trans (F.le o) (by decide : 16 ≤ 6000))
  let I : List AV → AEnv → AH → Prop := fun ys σ h' => ∃ (us : List (Int × Int)) (a1 a2 : Option MV), ys = us.map encC ∧ σ = [some (.d P.a), a1, a2] ∧ h' = h
  have run := forL_run (b := frB ⟨callF Pr Gc (d + 1), Gc⟩ (.tp (.cons (.nm 1) (.cons (.nm 2) .nil))) (.cons (.ifs (.and (.cmp .ne (.call 5 (.cons (.idx (.var 0) (.cI 0)) (.cons (.var 1) .nil))) (.lst .nil)) (.cmp .ne (.call 5 (.cons (.idx (.var 0) (.cI 1)) (.cons (.var 2) .nil))) (.lst .nil))) (.cons (.ret (.tup (.cons (.var 1) (.cons (.var 2) .nil)))) .nil) .nil) .nil)) (o := none) I (fun v h' => (∃ c, v = .d (encC c)) ∧ h' = h) (fun _ _ _ _ => trivial) (ds.map encC) (fun x ys hs σ h' i => by
      obtain ⟨us, a1, a2, e1, rfl, rfl⟩ := i
      cases us with
      | nil => cases e1
      | cons c us =>
        rw [List.map_cons] at e1
        injection e1 with e1 e2
        subst e1 e2
        have s0 := sends_spec d o false c.1 h' f
        have s1 := sends_spec d o true c.2 h' f
        have n0 : cmpop .ne _ _ = _ := k_ne.trans (congrArg (Option.map (!·)) (eq_nil (gd_mvs (o.n4 false) (ms := (P.mv false).filter (sendP c.1)) fun m hm => o.ok false m (List.mem_filter.mp hm).1) (by decide)))
        have n1 : cmpop .ne _ _ = _ := k_ne.trans (congrArg (Option.map (!·)) (eq_nil (gd_mvs (o.n4 true) (ms := (P.mv true).filter (sendP c.2)) fun m hm => o.ok true m (List.mem_filter.mp hm).1) (by decide)))
        have as : asg (.tp (.cons (.nm 1) (.cons (.nm 2) .nil))) (.d (encC c)) [some (.d P.a), a1, a2] = some [some (.d P.a), some (.d (.int c.1)), some (.d (.int c.2))] := rfl
        generalize ((P.mv false).filter (sendP c.1)).map encM = A0 at s0 n0
        generalize ((P.mv true).filter (sendP c.2)).map encM = A1 at s1 n1
        cases z0 : A0.isEmpty with
        | true =>
          left
          rw [z0] at n0
          refine ⟨_, _, .inl ?_, us, some (.d (.int c.1)), some (.d (.int c.2)), rfl, rfl, rfl⟩
          unfold frB
          rw [as]
          simp [s0, n0]
        | false =>
          rw [z0] at n0
          cases z1 : A1.isEmpty with
          | true =>
            left
            rw [z1] at n1
            refine ⟨_, _, .inl ?_, us, some (.d (.int c.1)), some (.d (.int c.2)), rfl, rfl, rfl⟩
            unfold frB
            rw [as]
            simp [s0, n0, s1, n1]
          | false =>
            right
            rw [z1] at n1
            refine ⟨_, _, ?_, ⟨c, rfl⟩, rfl⟩
            unfold frB
            rw [as]
            simp [s0, n0, s1, n1, encC]) [some (.d P.a), none, none] h ⟨ds, none, none, rfl, rfl, rfl⟩
  have it : evIt ⟨callF Pr Gc (d + 1), Gc⟩ (.of (.bi .sorted (.cons (.call 4 (.cons (.var 0) .nil)) .nil))) [some (.d P.a), none, none] h = .ok ⟨ds.map encC, none⟩ h := by
    simp [e, es, srcOf, cellOf]
  rcases run with ⟨σ', h', e1, us, a1, a2, _, rfl, rfl⟩ | ⟨v, h', e1, ⟨c, rfl⟩, rfl⟩
  · refine ⟨.non, .inl rfl, ?_⟩
    have fr := y_fr it e1
    rw [callF_succ]
    simp [Pr, b6, startA, Gc, fr]
    exact pureD f
  · refine ⟨encC c, .inr ⟨c, rfl⟩, ?_⟩
    have fr := y_fr it e1
    rw [callF_succ]
    simp [Pr, b6, startA, Gc, fr]
    exact pureD f
end MP

set_option Elab.async false
set_option linter.all false
set_option maxRecDepth 100000
set_option maxHeartbeats 4000000
namespace MP
open PySem
def PD.setM (P : PD) (w : Bool) (ms : List Mv) : PD := if w then { P with v1 := ms } else { P with v0 := ms }
theorem setM_mv {P : PD} {w : Bool} {ms : List Mv} : (P.setM w ms).mv w = ms := by cases w <;> rfl
theorem setM_mv' {P : PD} {w v : Bool} {ms : List Mv} (h : v ≠ w) : (P.setM w ms).mv v = P.mv v := by
  cases w <;> cases v <;> first | rfl | exact absurd rfl h
theorem setM_n {P : PD} {w v : Bool} {ms : List Mv} : (P.setM w ms).n v = P.n v := by cases w <;> cases v <;> rfl
theorem setM_side {P : PD} {w : Bool} {ms : List Mv} : (P.setM w ms).side w = .tup [.int (P.n w), .tup (ms.map encM), P.es w] := by cases w <;> rfl
theorem setM_side' {P : PD} {w v : Bool} {ms : List Mv} (h : v ≠ w) : (P.setM w ms).side v = P.side v := by
  cases w <;> cases v <;> first | rfl | exact absurd rfl h
theorem inA_lst {a : AV} {ys : List AV} : inA a (.lst ys) = if (a.shp && (AV.lst ys).shp) = true then some ((AV.toDs ys).any fun z => PyData.eqv z a.toD) else none := by cases a <;> rfl
theorem nin_ex {a : AV} {ys : List AV} (ha : a.shp = true) (hy : (AV.lst ys).shp = true) : ∃ r, cmpop .nin a (.lst ys) = some r := by
  show ∃ r, (inA a (.lst ys)).map (!·) = some r
  rw [inA_lst, ha, hy]
  exact ⟨_, rfl⟩
theorem without_spec (d : Nat) {P : PD} (o : PDOk P) (w : Bool) (bs : List Mv) (hb : ∀ m ∈ bs, m ∈ P.mv w) (h : AH) (f : Flat h) : ∃ ms : List Mv, (∀ m ∈ ms, m ∈ P.mv w) ∧ ms.length ≤ (P.mv w).length ∧ callF Pr Gc (d + 1) 7 [.d (P.side w), .d (.lst (bs.map encM))] h = .ok (.d ((P.setM w ms).side w)) h := by
  have hs : (AV.lst (bs.map encM)).shp = true := (gd_mvs (o.n4 w) fun m hm => o.ok w m (hb m hm)).shp (by decide)
  let p : Mv → Bool := fun m => !((AV.toDs (bs.map encM)).any fun z => PyData.eqv z (encM m).toD)
  have hp : ∀ m ∈ P.mv w, cmpop .nin (encM m) (.lst (bs.map encM)) = some (p m) := fun m hm => by
    show (inA (encM m) (.lst (bs.map encM))).map (!·) = _
    rw [inA_lst, (gd_mv (o.n4 w) (o.ok w m hm)).shp (by decide), hs]
    rfl
  have c0 : evE ⟨callF Pr Gc d, Gc⟩ (.comp (.nm 2) (.of (.idx (.var 0) (.cI 1))) (.cons (.cmp .nin (.var 2) (.var 1)) .nil) (.var 2) [2]) [some (.d (P.side w)), some (.d (.lst (bs.map encM))), none] h = .ok (.d (.lst (((P.mv w).filter p).map encM))) h := by
    refine comp_fl encM p (by simp) (fun m hm => ?_) (Nat.le_trans (o.ll w) (by decide))
    have e := hp m hm
    cases c1 : p m <;> rw [c1] at e <;> simp [turn, -k_nin, e]
  refine ⟨(P.mv w).filter p, fun m hm => (List.mem_filter.mp hm).1, List.length_filter_le _ _, ?_⟩
  rw [callF_succ, setM_side]
  simp [Pr, b7, startA, Gc, c0]
  exact pureD f
theorem draw_str (d : Nat) (i : Nat) (xs : List Str) (h : AH) (f : Flat h) (hb : Bag h i) (hx : xs ≠ []) (hl : xs.length ≤ 100) : ∃ s h', callF Pr Gc (d + 2) 3 [.ref i, .d (.lst (xs.map AV.str))] h = .ok (.d (.str s)) h' ∧ s ∈ xs ∧ Drawn i h h' ∧ Flat h' := by
  obtain ⟨x, h', e, hm, dr, f'⟩ := law_some d i (xs.map AV.str) h f hb (by simpa using hx) (by rw [List.length_map]; omega)
  obtain ⟨s, hs, rfl⟩ := List.mem_map.mp hm
  exact ⟨s, h', e, hs, dr, f'⟩
def AB (l : Str) : Prop := l = "a" ∨ l = "b" ∨ l = "x" ∨ l = "y"
theorem any_move_spec (d : Nat) (i : Nat) (n : Int) (hn : 0 < n) (hn4 : n ≤ 4) (s1 s2 t1 t2 : Str) (h1 : AB s1) (h2 : AB s2) (h3 : AB t1) (h4 : AB t2) (h : AH) (f : Flat h) (hb : Bag h i) :
    ∃ m h', callF Pr Gc (d + 3) 8 [.ref i, .d (.int n), .d (.lst [.str s1, .str s2]), .d (.lst [.str t1, .str t2])] h = .ok (.d (encM m)) h' ∧ MvOk n m ∧ Drawn i h h' ∧ Flat h' := by
  obtain ⟨k, ha, e1, hk, d1, f1⟩ := draw_str d i ["send", "take", "send", "take", "step"] h f hb (by simp) (by simp)
  have hk' : KOk k := by
    simp only [List.mem_cons, List.not_mem_nil, or_false] at hk
    rcases hk with z | z | z | z | z
    · exact .inl z
    · exact .inr (.inl z)
    · exact .inl z
    · exact .inr (.inl z)
    · exact .inr (.inr z)
  simp only [List.map_cons, List.map_nil] at e1
  have es := eq_str hk'.ok ok_send
  have en := ne_str hk'.ok ok_step
  rw [callF_succ]
  cases c1 : k == ("step" : Str) with
  | true =>
    have ke := eq_of_beq c1
    rw [c1] at en
    obtain ⟨r1, hc, e3, r10, r11, d3, f3⟩ := law_take (d + 1) i n ha f1 d1.1 hn (by omega)
    obtain ⟨r2, hd, e4, r20, r21, d4, f4⟩ := law_take (d + 1) i n hc f3 d3.1 hn (by omega)
    refine ⟨⟨r1, k, "", r2⟩, hd, ?_, ⟨r10, r11, r20, r21, hk', by rw [if_pos ke]⟩, (d1.trans d3).trans d4, f4⟩
    simp [Pr, b8, startA, Gc, e1, en, e3, e4]
    exact finD f4 (by rw [d4.2.1, d3.2.1, d1.2.1])
  | false =>
    rw [c1] at en
    have kn : ¬ (k = "step") := fun z => by
      rw [z] at c1
      exact absurd c1 (by simp)
    cases c2 : k == ("send" : Str) with
    | true =>
      rw [c2] at es
      obtain ⟨l, hl, e2, hm, d2, f2⟩ := draw_str d i [s1, s2] ha f1 d1.1 (by simp) (by simp)
      simp only [List.map_cons, List.map_nil] at e2
      obtain ⟨r1, hc, e3, r10, r11, d3, f3⟩ := law_take (d + 1) i n hl f2 d2.1 hn (by omega)
      obtain ⟨r2, hd, e4, r20, r21, d4, f4⟩ := law_take (d + 1) i n hc f3 d3.1 hn (by omega)
      refine ⟨⟨r1, k, l, r2⟩, hd, ?_, ⟨r10, r11, r20, r21, hk', by
        rw [if_neg kn]
        simp only [List.mem_cons, List.not_mem_nil, or_false] at hm
        rcases hm with z | z <;> rw [z]
        · exact h1
        · exact h2⟩, ((d1.trans d2).trans d3).trans d4, f4⟩
      simp [Pr, b8, startA, Gc, e1, en, es, e2, e3, e4]
      exact finD f4 (by rw [d4.2.1, d3.2.1, d2.2.1, d1.2.1])
    | false =>
      rw [c2] at es
      obtain ⟨l, hl, e2, hm, d2, f2⟩ := draw_str d i [t1, t2] ha f1 d1.1 (by simp) (by simp)
      simp only [List.map_cons, List.map_nil] at e2
      obtain ⟨r1, hc, e3, r10, r11, d3, f3⟩ := law_take (d + 1) i n hl f2 d2.1 hn (by omega)
      obtain ⟨r2, hd, e4, r20, r21, d4, f4⟩ := law_take (d + 1) i n hc f3 d3.1 hn (by omega)
      refine ⟨⟨r1, k, l, r2⟩, hd, ?_, ⟨r10, r11, r20, r21, hk', by
        rw [if_neg kn]
        simp only [List.mem_cons, List.not_mem_nil, or_false] at hm
        rcases hm with z | z <;> rw [z]
        · exact h3
        · exact h4⟩, ((d1.trans d2).trans d3).trans d4, f4⟩
      simp [Pr, b8, startA, Gc, e1, en, es, e2, e3, e4]
      exact finD f4 (by rw [d4.2.1, d3.2.1, d2.2.1, d1.2.1])
/-- a move turned -/
def turnK (k : Str) : Str := if k == "send" then "take" else if k == "take" then "send" else "step"
def turnM (m : Mv) : Mv := ⟨m.s, turnK m.k, m.l, m.t⟩
theorem turnM_ok {n : Int} {m : Mv} (h : MvOk n m) : MvOk n (turnM m) := by
  obtain ⟨s0, s1, t0, t1, k, l⟩ := h
  refine ⟨s0, s1, t0, t1, ?_, ?_⟩
  · rcases k with z | z | z
    · exact .inr (.inl (by simp [turnM, turnK, z]))
    · refine .inl ?_
      show turnK m.k = _
      rw [z]; decide +kernel
    · refine .inr (.inr ?_)
      show turnK m.k = _
      rw [z]; decide +kernel
  · show (if turnK m.k = "step" then m.l = "" else _)
    rcases k with z | z | z
    · rw [z, if_neg (by decide +kernel)] at l
      rw [z, if_neg (by decide +kernel)]
      exact l
    · rw [z, if_neg (by decide +kernel)] at l
      rw [z, if_neg (by decide +kernel)]
      exact l
    · rw [z, if_pos rfl] at l
      rw [z, if_pos (by decide +kernel)]
      exact l
theorem turnM_inj {n : Int} {m u : Mv} (hm : MvOk n m) (hu : MvOk n u) (e : turnM m = turnM u) : m = u := by
  obtain ⟨ms, mk, ml, mt⟩ := m
  obtain ⟨us, uk, ul, ut⟩ := u
  have km := hm.k
  have ku := hu.k
  simp only [turnM, Mv.mk.injEq] at e
  obtain ⟨e1, e2, e3, e4⟩ := e
  simp only at km ku
  have : mk = uk := by
    rcases km with z | z | z <;> rcases ku with y | y | y <;> rw [z, y] at e2 <;> rw [z, y] <;> revert e2 <;> decide +kernel
  rw [e1, this, e3, e4]
def wordsD : AV := .dct false [.str "send", .str "take", .str "step"] [.str "take", .str "send", .str "step"]
theorem words_get {k : Str} (h : KOk k) : dgtA wordsD (.str k) = some (.str (turnK k)) := by
  rcases h with rfl | rfl | rfl <;> rfl
theorem srt_M {n : Int} (hn : n ≤ 4) {ms : List Mv} (ok : ∀ m ∈ ms, MvOk n m) : ∃ us : List Mv, biF .sorted [.lst (ms.map encM)] = some (.lst (us.map encM)) ∧ (∀ m ∈ us, m ∈ ms) ∧ us.length = ms.length ∧ sortA (ms.map encM) = us.map encM := by
  obtain ⟨us, e, hu⟩ := unmap encM (l := sortA (ms.map encM)) (xs := ms) fun v hv => sortA_mem.mp hv
  have s := sortOk_of encM (xs := ms) (fun m hm => (gd_mv hn (ok m hm)).shp (by decide)) (fun _ _ => alike_M) fun c => ⟨_, _, rfl⟩
  refine ⟨us, ?_, hu, ?_, e⟩
  · show (if _ then _ else _) = _
    rw [s, e]
    rfl
  · have := (List.mergeSort_perm (ms.map encM) (PySem.W.dataLe false AV.toD)).length_eq
    have e2 : (sortA (ms.map encM)).length = _ := this
    rw [e, List.length_map, List.length_map] at e2
    exact e2
end MP

set_option Elab.async false
set_option linter.all false
set_option maxRecDepth 100000
set_option maxHeartbeats 4000000
namespace MP
open PySem
/-! draws, more cells behind -/
theorem bag_app {hd cs : AH} {i : Nat} (b : Bag hd i) : Bag (hd ++ cs) i := by
  obtain ⟨a, b, k, cells, e, ok⟩ := b
  exact ⟨a, b, k, cells, by rw [List.getElem?_append_left (List.getElem?_eq_some_iff.mp e).1, e], ok⟩
theorem bag_lt {hd : AH} {i : Nat} (b : Bag hd i) : i < hd.length := by
  obtain ⟨a, b, k, cells, e, ok⟩ := b
  exact (List.getElem?_eq_some_iff.mp e).1
theorem flat_app {a b : AH} (ha : Flat a) (hb : Flat b) : Flat (a ++ b) := fun c hc n => by
  rcases List.mem_append.mp hc with z | z
  · exact ha c z n
  · exact hb c z n
theorem app_draw {hd cs h2 : AH} {i : Nat} (b : Bag hd i) (dr : Drawn i (hd ++ cs) h2) (f2 : Flat h2) : ∃ hd', h2 = hd' ++ cs ∧ Drawn i hd hd' ∧ Flat hd' := by
  have hi := bag_lt b
  obtain ⟨b2, hl, he⟩ := dr
  rw [List.length_append] at hl
  have e2 : h2.drop hd.length = cs := by
    apply List.ext_getElem?
    intro j
    rw [List.getElem?_drop, he _ (by omega), List.getElem?_append_right (by omega)]
    congr 1
    omega
  refine ⟨h2.take hd.length, by rw [← e2, List.take_append_drop], ⟨?_, by rw [List.length_take]; omega, fun j hj => ?_⟩, fun c hc n => f2 c (List.mem_of_mem_take hc) n⟩
  · obtain ⟨a, b, k, cells, e, ok⟩ := b2
    exact ⟨a, b, k, cells, by rw [List.getElem?_take, if_pos hi, e], ok⟩
  · by_cases z : j < hd.length
    · rw [List.getElem?_take, if_pos z, he j hj, List.getElem?_append_left z]
    · rw [List.getElem?_eq_none (by rw [List.length_take]; omega), List.getElem?_eq_none (by omega)]
theorem take_app (d i : Nat) (many : Int) {hd cs : AH} (f : Flat hd) (fc : Flat cs) (b : Bag hd i) (hm : 0 < many) (hm2 : many < 1073741824) :
    ∃ r hd', callF Pr Gc (d + 1) 2 [.ref i, .d (.int many)] (hd ++ cs) = .ok (.d (.int r)) (hd' ++ cs) ∧ 0 ≤ r ∧ r < many ∧ Drawn i hd hd' ∧ Flat hd' := by
  obtain ⟨r, h2, e, r0, r1, dr, f2⟩ := law_take d i many (hd ++ cs) (flat_app f fc) (bag_app b) hm hm2
  obtain ⟨hd', rfl, dr', f'⟩ := app_draw b dr f2
  exact ⟨r, hd', e, r0, r1, dr', f'⟩
theorem str_app (d i : Nat) (xs : List Str) {hd cs : AH} (f : Flat hd) (fc : Flat cs) (b : Bag hd i) (hx : xs ≠ []) (hl : xs.length ≤ 100) :
    ∃ s hd', callF Pr Gc (d + 2) 3 [.ref i, .d (.lst (xs.map AV.str))] (hd ++ cs) = .ok (.d (.str s)) (hd' ++ cs) ∧ s ∈ xs ∧ Drawn i hd hd' ∧ Flat hd' := by
  obtain ⟨s, h2, e, hs, dr, f2⟩ := draw_str d i xs (hd ++ cs) (flat_app f fc) (bag_app b) hx hl
  obtain ⟨hd', rfl, dr', f'⟩ := app_draw b dr f2
  exact ⟨s, hd', e, hs, dr', f'⟩
theorem any_app (d i : Nat) (n : Int) (hn : 0 < n) (hn4 : n ≤ 4) (s1 s2 t1 t2 : Str) (h1 : AB s1) (h2 : AB s2) (h3 : AB t1) (h4 : AB t2) {hd cs : AH} (f : Flat hd) (fc : Flat cs) (b : Bag hd i) :
    ∃ m hd', callF Pr Gc (d + 3) 8 [.ref i, .d (.int n), .d (.lst [.str s1, .str s2]), .d (.lst [.str t1, .str t2])] (hd ++ cs) = .ok (.d (encM m)) (hd' ++ cs) ∧ MvOk n m ∧ Drawn i hd hd' ∧ Flat hd' := by
  obtain ⟨m, h5, e, ok, dr, f2⟩ := any_move_spec d i n hn hn4 s1 s2 t1 t2 h1 h2 h3 h4 (hd ++ cs) (flat_app f fc) (bag_app b)
  obtain ⟨hd', rfl, dr', f'⟩ := app_draw b dr f2
  exact ⟨m, hd', e, ok, dr', f'⟩
theorem compL_draw {i : Nat} {f : AV → AH → R (Option AV)} {cs : AH} {α : Type} (enc : α → AV) (g : α → AV) : ∀ {xs : List α}, (∀ x ∈ xs, ∀ hd, Flat hd → Bag hd i → ∃ b hd', f (enc x) (hd ++ cs) = .ok (if b = true then some (g x) else none) (hd' ++ cs) ∧ Drawn i hd hd' ∧ Flat hd') →
    ∀ hd, Flat hd → Bag hd i → ∃ (ys : List α) (hd' : AH), compL f none (xs.map enc) (hd ++ cs) = .ok (ys.map g) (hd' ++ cs) ∧ ys.Sublist xs ∧ Drawn i hd hd' ∧ Flat hd'
  | [], _, hd, fl, b => ⟨[], hd, rfl, List.Sublist.refl _, Drawn.rfl' b, fl⟩
  | x :: xs, st, hd, fl, b => by
    obtain ⟨c, h1, e1, d1, f1⟩ := st x List.mem_cons_self hd fl b
    obtain ⟨ys, h2, e2, sl, d2, f2⟩ := compL_draw enc g (xs := xs) (fun y hy => st y (List.mem_cons_of_mem _ hy)) h1 f1 d1.1
    cases c with
    | true =>
      refine ⟨x :: ys, h2, ?_, sl.cons₂ x, d1.trans d2, f2⟩
      rw [List.map_cons]
      unfold compL
      rw [e1]
      dsimp only
      rw [if_pos (show stillAt none _ from trivial), e2]
      rfl
    | false =>
      refine ⟨ys, h2, ?_, sl.cons x, d1.trans d2, f2⟩
      rw [List.map_cons]
      unfold compL
      rw [e1]
      dsimp only
      rw [if_pos (show stillAt none _ from trivial), e2]
      rfl
/-! dicts of moves -/
def keyM (m : Mv) : List L2.Key := [.inl m.s, .inr m.k, .inr m.l, .inl m.t]
theorem keyT_M {m : Mv} : keyT (encM m) = some (keyM m) := (rfl)
theorem keysT_M : ∀ {ms : List Mv}, keysT (ms.map encM) = some (ms.map keyM)
  | [] => rfl
  | c :: cs => by
    show (match keyT (encM c), keysT (cs.map encM) with | some k, some ks => some (k :: ks) | _, _ => none) = _
    rw [keyT_M, keysT_M]
    rfl
theorem keyM_inj {a b : Mv} (h : keyM a = keyM b) : a = b := by
  obtain ⟨a1, a2, a3, a4⟩ := a
  obtain ⟨b1, b2, b3, b4⟩ := b
  unfold keyM at h
  simp at h
  obtain ⟨rfl, rfl, rfl, rfl⟩ := h
  rfl
/-- moves as keys -/
structure DM (n : Int) (ms : List Mv) (vs : List AV) : Prop where
  l : vs.length = ms.length
  ok : ∀ m ∈ ms, MvOk n m
  nd : ms.Nodup
theorem DM.put {n : Int} {ms : List Mv} {vs : List AV} (D : DM n ms vs) {m : Mv} (hm : MvOk n m) (hl : ms.length < 6000) (x : AV) : ∃ ms' vs', dctPut true (ms.map encM) vs (encM m) x = some (ms'.map encM, vs') ∧ DM n ms' vs' ∧ ms'.length ≤ ms.length + 1 := by
  have hs : (ms.map encM).length < sizeLine := by rw [List.length_map]; exact Nat.lt_of_lt_of_le hl size6000
  by_cases hin : m ∈ ms
  · refine ⟨ms, putL (ms.map keyM) vs (keyM m) x, ?_, ⟨?_, D.ok, D.nd⟩, by omega⟩
    · simp only [dctPut, keyT_M, keysT_M]
      rw [if_pos hs, if_pos]
      rw [List.any_eq_true]
      exact ⟨keyM m, List.mem_map.mpr ⟨m, hin, rfl⟩, decide_eq_true rfl⟩
    · unfold putL
      rw [List.length_zipWith, List.length_map, D.l]
      omega
  · refine ⟨ms ++ [m], vs ++ [x], ?_, ⟨by have := D.l; simp only [List.length_append, List.length_cons, List.length_nil]; omega, fun u hu => ?_, ?_⟩, by simp⟩
    · simp only [dctPut, keyT_M, keysT_M]
      rw [if_pos hs, if_neg, List.map_append]
      · rfl
      · rw [List.any_eq_true]
        intro ⟨k, hk, e⟩
        obtain ⟨a, ha, rfl⟩ := List.mem_map.mp hk
        exact hin (by rw [← keyM_inj (of_decide_eq_true e)]; exact ha)
    · rcases List.mem_append.mp hu with z | z
      · exact D.ok u z
      · rw [List.mem_singleton.mp z]; exact hm
    · rw [List.nodup_append]
      exact ⟨D.nd, by simp, fun a ha b hb e => hin (by rw [← List.mem_singleton.mp hb, ← e]; exact ha)⟩
theorem encM_inj {a b : Mv} (h : encM a = encM b) : a = b := by
  have : keyT (encM a) = keyT (encM b) := by rw [h]
  rw [keyT_M, keyT_M] at this
  injection this with this
  exact keyM_inj this
theorem srt_nd {ms us : List Mv} (e : sortA (ms.map encM) = us.map encM) (nd : ms.Nodup) : us.Nodup := by
  have p : (sortA (ms.map encM)).Perm (ms.map encM) := List.mergeSort_perm _ _
  rw [e] at p
  have n1 : (ms.map encM).Nodup := List.Pairwise.map _ (fun a b h e => h (encM_inj e)) nd
  have n2 : (us.map encM).Nodup := p.symm.nodup n1
  exact List.Pairwise.of_map encM (fun a b h e => h (by rw [e])) n2
theorem srt_D {n : Int} (hn : n ≤ 4) {ms : List Mv} {vs : List AV} (D : DM n ms vs) : ∃ us : List Mv, biF .sorted [.dct true (ms.map encM) vs] = some (.lst (us.map encM)) ∧ (∀ m ∈ us, MvOk n m) ∧ us.length = ms.length ∧ us.Nodup := by
  obtain ⟨us, e1, hu, hl, e⟩ := srt_M hn D.ok
  have s := sortOk_of encM (xs := ms) (fun m hm => (gd_mv hn (D.ok m hm)).shp (by decide)) (fun _ _ => alike_M) fun c => ⟨_, _, rfl⟩
  refine ⟨us, ?_, fun m hm => D.ok m (hu m hm), hl, srt_nd e D.nd⟩
  have ft : (ms.map encM).all fitT = true := by
    rw [List.all_eq_true]
    intro v hv
    obtain ⟨m, hm, rfl⟩ := List.mem_map.mp hv
    have ok := D.ok m hm
    have lk : m.k.length ≤ 100 := by
      rcases ok.k with z | z | z <;> rw [z] <;> decide +kernel
    have ll : m.l.length ≤ 100 := by
      have l := ok.l
      split at l
      · rw [l]; decide +kernel
      · rcases l with z | z | z | z <;> rw [z] <;> decide +kernel
    show ([AV.int m.s, AV.str m.k, AV.str m.l, AV.int m.t].all fitK && decide (4 ≤ sizeLine)) = true
    rw [decide_eq_true (Nat.le_trans (by decide) size6000)]
    simp [fitK, Nat.le_trans lk (Nat.le_trans (by decide) size6000), Nat.le_trans ll (Nat.le_trans (by decide) size6000)]
  show (if _ then _ else _) = _
  rw [s, ft, e]
  rfl
theorem turned_spec (d : Nat) {n : Int} (hn : n ≤ 4) {ms : List Mv} {es : AV} (ok : ∀ m ∈ ms, MvOk n m) (hl : ms.length ≤ 20) (nd : ms.Nodup) (h : AH) (f : Flat h) :
    ∃ us : List Mv, (∀ m ∈ us, MvOk n m) ∧ us.length = ms.length ∧ us.Nodup ∧ callF Pr Gc (d + 1) 9 [.d (.tup [.int n, .tup (ms.map encM), es])] h = .ok (.d (.tup [.int n, .tup (us.map encM), es])) h := by
  have ok2 : ∀ m ∈ ms.map turnM, MvOk n m := fun m hm => by
    obtain ⟨u, hu, rfl⟩ := List.mem_map.mp hm
    exact turnM_ok (ok u hu)
  obtain ⟨us, e1, hu, hlu, e⟩ := srt_M hn ok2
  have nd2 : (ms.map turnM).Nodup := by
    have : ∀ {ls : List Mv}, ls.Nodup → (∀ m ∈ ls, MvOk n m) → (ls.map turnM).Nodup := fun {ls} hn2 ho => by
      refine List.Pairwise.map _ ?_ (List.Pairwise.imp_of_mem (fun {a b} ha hb h => (show a ≠ b ∧ a ∈ ls ∧ b ∈ ls from ⟨h, ha, hb⟩)) hn2)
      intro a b ⟨ne, ha, hb⟩ e
      exact ne (turnM_inj (ho a ha) (ho b hb) e)
    exact this nd ok
  refine ⟨us, fun m hm => ok2 m (hu m hm), by rw [hlu, List.length_map], srt_nd e nd2, ?_⟩
  have c0 : evE ⟨callF Pr Gc d, Gc⟩ (.comp (.tp (.cons (.nm 2) (.cons (.nm 3) (.cons (.nm 4) (.cons (.nm 5) .nil))))) (.of (.idx (.var 0) (.cI 1))) .nil (.tup (.cons (.var 2) (.cons (.dgt (.var 1) (.var 3)) (.cons (.var 4) (.cons (.var 5) .nil))))) [2, 3, 4, 5]) [some (.d (.tup [.int n, .tup (ms.map encM), es])), some (.d wordsD), none, none, none, none] h = .ok (.d (.lst ((ms.map turnM).map encM))) h := by
    rw [List.map_map]
    refine comp_mp encM _ (by simp [srcOf]) (fun m hm => ?_) (Nat.le_trans hl (by decide))
    have w := words_get (ok m hm).k
    simp [turn, asg_mv, w, encM, turnM]
  have dd : evS ⟨callF Pr Gc d, Gc⟩ (.set (.nm 1) (.dsp (.cons (.cS "send") (.cons (.cS "take") (.cons (.cS "take") (.cons (.cS "send") (.cons (.cS "step") (.cons (.cS "step") .nil)))))))) [some (.d (.tup [.int n, .tup (ms.map encM), es])), none, none, none, none, none] h = .nx [some (.d (.tup [.int n, .tup (ms.map encM), es])), some (.d wordsD), none, none, none, none] h := by
    simp [pairUp, dspK, keysK, keyK, wordsD]
    rw [if_pos (by decide +kernel)]
    rfl
  rw [callF_succ]
  simp [Pr, b9, startA, Gc, -x_evE_dsp, -x_evS_set, dd]
  generalize (ms.map turnM).map encM = W at c0 e1
  simp [c0, e1]
  exact pureD f
end MP

set_option Elab.async false
set_option linter.all false
set_option maxRecDepth 100000
set_option maxHeartbeats 4000000
namespace MP
open PySem
/-! talk_pair -/
def ev (i : Nat) (a1 a2 a3 a4 a5 a6 a7 a8 a9 a10 a11 a12 a13 : Option MV) : AEnv := [some (.ref i), a1, a2, a3, a4, a5, a6, a7, a8, a9, a10, a11, a12, a13]
theorem set_lastL {h : AH} {c c' : Cell} {L : Nat} (e : h.length = L) : (h ++ [c]).set L c' = h ++ [c'] := by subst e; exact set_last
theorem get_lastL {h : AH} {c : Cell} {L : Nat} (e : h.length = L) : (h ++ [c])[L]? = some c := by subst e; exact get_last
def sAny (vi : Nat) (s1 s2 t1 t2 : Str) : Sms := .cons (.dpt (.var vi) (.call 8 (.cons (.var 0) (.cons (.var 7) (.cons (.lst (.cons (.cS s1) (.cons (.cS s2) .nil))) (.cons (.lst (.cons (.cS t1) (.cons (.cS t2) .nil))) .nil))))) (.cB true)) .nil
theorem loop_any (d : Nat) {i M vi L : Nat} (hM : 2 ≤ M) (hM4 : M ≤ 4) {s1 s2 t1 t2 : Str} (h1 : AB s1) (h2 : AB s2) (h3 : AB t1) (h4 : AB t2) {cs : AH} (fc : Flat cs) {σ : AEnv} (e0 : σ[0]? = some (some (.ref i))) (e7 : σ[7]? = some (some (.d (.int M)))) (ev' : σ[vi]? = some (some (.ref L))) (hv : vi ≠ 1) (h1l : 1 < σ.length) :
    ∀ (xs : List AV) {a : Option MV} {hd : AH} {ms : List Mv} {vs : List AV}, Flat hd → Bag hd i → (hd ++ cs).length = L → DM M ms vs → ms.length + xs.length ≤ 100 →
      ∃ (b : Option MV) (hd' : AH) (ms' : List Mv) (vs' : List AV), Flat hd' ∧ Drawn i hd hd' ∧ DM M ms' vs' ∧ ms'.length ≤ ms.length + xs.length ∧ forL (frB ⟨callF Pr Gc (d + 3), Gc⟩ (.nm 1) (sAny vi s1 s2 t1 t2)) none xs (σ.set 1 a) (hd ++ cs ++ [.dct true (ms.map encM) vs]) = .nx (σ.set 1 b) (hd' ++ cs ++ [.dct true (ms'.map encM) vs'])
  | [], a, hd, ms, vs, f, b, hl, D, _ => ⟨a, hd, ms, vs, f, Drawn.rfl' b, D, Nat.le_add_right _ _, rfl⟩
  | x :: xs, a, hd, ms, vs, f, b, hl, D, hn => by
    simp only [List.length_cons] at hn
    have fcs : Flat (cs ++ [.dct true (ms.map encM) vs]) := flat_app fc fun c hc n => by rw [List.mem_singleton.mp hc]; rfl
    obtain ⟨m, hd1, e1, ok, dr, f1⟩ := any_app d i M (by omega) (by omega) s1 s2 t1 t2 h1 h2 h3 h4 f fcs b
    have hl1 : (hd1 ++ cs).length = L := by rw [List.length_append, dr.2.1, ← List.length_append]; exact hl
    obtain ⟨ms1, vs1, ep, D1, hle⟩ := D.put ok (by omega) (.bl true)
    obtain ⟨b2, hd2, ms2, vs2, f2, dr2, D2, hle2, e2⟩ := loop_any d hM hM4 h1 h2 h3 h4 fc e0 e7 ev' hv h1l xs (a := some (.d x)) f1 dr.1 hl1 D1 (by omega)
    refine ⟨b2, hd2, ms2, vs2, f2, dr.trans dr2, D2, by simp only [List.length_cons]; omega, ?_⟩
    have body : frB ⟨callF Pr Gc (d + 3), Gc⟩ (.nm 1) (sAny vi s1 s2 t1 t2) x (σ.set 1 a) (hd ++ cs ++ [.dct true (ms.map encM) vs]) = .nx (σ.set 1 (some (.d x))) (hd1 ++ cs ++ [.dct true (ms1.map encM) vs1]) := by
      have as : asg (.nm 1) (.d x) (σ.set 1 a) = some (σ.set 1 (some (.d x))) := by
        show some ((σ.set 1 a).set 1 (some (.d x))) = _
        rw [List.set_set]
      have g0 : (σ.set 1 (some (.d x)))[0]? = some (some (.ref i)) := by rw [List.getElem?_set_ne (by decide)]; exact e0
      have g7 : (σ.set 1 (some (.d x)))[7]? = some (some (.d (.int M))) := by rw [List.getElem?_set_ne (by decide)]; exact e7
      have gv : (σ.set 1 (some (.d x)))[vi]? = some (some (.ref L)) := by rw [List.getElem?_set_ne (Ne.symm hv)]; exact ev'
      have dp : dptM (.ref L) (.d (encM m)) (.d (.bl true)) (hd1 ++ cs ++ [.dct true (ms.map encM) vs]) = some (hd1 ++ cs ++ [.dct true (ms1.map encM) vs1]) := by
        rw [dptM_at (get_lastL hl1) ep, set_lastL hl1]
      rw [← List.append_assoc, ← List.append_assoc] at e1
      unfold frB
      rw [as]
      dsimp only
      generalize (hd ++ cs ++ [.dct true (ms.map encM) vs]) = H0 at e1
      generalize (hd1 ++ cs ++ [.dct true (ms.map encM) vs]) = H1 at e1 dp
      generalize (hd1 ++ cs ++ [.dct true (ms1.map encM) vs1]) = H2 at dp
      generalize σ.set 1 (some (.d x)) = τ at g0 g7 gv
      simp [sAny, g0, g7, gv, e1, dp]
    rw [forL, body]
    dsimp only
    rw [if_pos (show stillAt none _ from trivial)]
    exact e2
def sKind : Sms := .cons (.set (.nm 9) (.call 3 (.cons (.var 0) (.cons (.lst (.cons (.cS "send") (.cons (.cS "take") .nil))) .nil))))
  (.cons (.dpt (.var 8) (.tup (.cons (.var 1) (.cons (.var 9) (.cons (.call 3 (.cons (.var 0) (.cons (.ite (.cmp .eq (.var 9) (.cS "send")) (.lst (.cons (.cS "a") (.cons (.cS "b") .nil))) (.lst (.cons (.cS "x") (.cons (.cS "y") .nil)))) .nil))) (.cons (.bin .mod (.bin .add (.var 1) (.cI 1)) (.var 7)) .nil))))) (.cB true)) .nil)
theorem loop_kind (d : Nat) {i M L : Nat} (hM : 2 ≤ M) (hM4 : M ≤ 4) :
    ∀ (xs : List Nat) {a1 a9 : Option MV} {hd : AH} {ms : List Mv} {vs : List AV}, (∀ k ∈ xs, k < M) → Flat hd → Bag hd i → hd.length = L → DM M ms vs → ms.length + xs.length ≤ 100 →
      ∃ (b1 b9 : Option MV) (hd' : AH) (ms' : List Mv) (vs' : List AV), Flat hd' ∧ Drawn i hd hd' ∧ DM M ms' vs' ∧ ms'.length ≤ ms.length + xs.length ∧ forL (frB ⟨callF Pr Gc (d + 3), Gc⟩ (.nm 1) sKind) none (xs.map fun (k : Nat) => AV.int k) (ev i a1 none none none none none (some (.d (.int M))) (some (.ref L)) a9 none none none none) (hd ++ [.dct true (ms.map encM) vs]) = .nx (ev i b1 none none none none none (some (.d (.int M))) (some (.ref L)) b9 none none none none) (hd' ++ [.dct true (ms'.map encM) vs'])
  | [], a1, a9, hd, ms, vs, _, f, b, hl, D, _ => ⟨a1, a9, hd, ms, vs, f, Drawn.rfl' b, D, Nat.le_add_right _ _, rfl⟩
  | k :: xs, a1, a9, hd, ms, vs, hk, f, b, hl, D, hn => by
    simp only [List.length_cons] at hn
    have hkM := hk k List.mem_cons_self
    have fcs : Flat [Cell.dct true (ms.map encM) vs] := fun c hc n => by rw [List.mem_singleton.mp hc]; rfl
    obtain ⟨kd, hd1, e1, hkd, dr, f1⟩ := str_app (d + 1) i ["send", "take"] f fcs b (by simp) (by simp)
    simp only [List.map_cons, List.map_nil, List.mem_cons, List.not_mem_nil, or_false] at e1 hkd
    have kk : KOk kd := by rcases hkd with z | z; exact .inl z; exact .inr (.inl z)
    have kn : ¬ kd = "step" := by rcases hkd with z | z <;> rw [z] <;> decide +kernel
    have es := eq_str kk.ok ok_send
    have md : binop .mod (.int ((k : Int) + 1)) (.int M) = some (.int (((k : Int) + 1) % M)) := mod_p _ _ (by omega)
    have fin : ∀ (l : Str) (hd2 : AH), AB l → Drawn i hd1 hd2 → Flat hd2 → callF Pr Gc (d + 3) 3 [.ref i, .d (.lst (if kd == "send" then [.str "a", .str "b"] else [.str "x", .str "y"]))] (hd1 ++ [.dct true (ms.map encM) vs]) = .ok (.d (.str l)) (hd2 ++ [.dct true (ms.map encM) vs]) →
        ∃ (b1 b9 : Option MV) (hd' : AH) (ms' : List Mv) (vs' : List AV), Flat hd' ∧ Drawn i hd hd' ∧ DM M ms' vs' ∧ ms'.length ≤ ms.length + (xs.length + 1) ∧ forL (frB ⟨callF Pr Gc (d + 3), Gc⟩ (.nm 1) sKind) none ((k :: xs).map fun (k : Nat) => AV.int k) (ev i a1 none none none none none (some (.d (.int M))) (some (.ref L)) a9 none none none none) (hd ++ [.dct true (ms.map encM) vs]) = .nx (ev i b1 none none none none none (some (.d (.int M))) (some (.ref L)) b9 none none none none) (hd' ++ [.dct true (ms'.map encM) vs']) := fun l hd2 hl2 dr2 f2 e2 => by
      have ok : MvOk M ⟨k, kd, l, ((k : Int) + 1) % M⟩ := ⟨by show (0 : Int) ≤ k; omega, by show (k : Int) < M; omega, Int.emod_nonneg _ (by omega), Int.emod_lt_of_pos _ (by omega), kk, by show (if kd = "step" then _ else _); rw [if_neg kn]; exact hl2⟩
      obtain ⟨ms1, vs1, ep, D1, hle⟩ := D.put ok (by omega) (.bl true)
      have hl3 : hd2.length = L := by rw [dr2.2.1, dr.2.1]; exact hl
      obtain ⟨b1, b9, hd3, ms3, vs3, f3, dr3, D3, hle3, e3⟩ := loop_kind d hM hM4 xs (a1 := some (.d (.int k))) (a9 := some (.d (.str kd))) (fun z hz => hk z (List.mem_cons_of_mem _ hz)) f2 dr2.1 hl3 D1 (by omega)
      refine ⟨b1, b9, hd3, ms3, vs3, f3, (dr.trans dr2).trans dr3, D3, by omega, ?_⟩
      have dp : dptM (.ref L) (.d (.tup [.int k, .str kd, .str l, .int (((k : Int) + 1) % M)])) (.d (.bl true)) (hd2 ++ [.dct true (ms.map encM) vs]) = some (hd2 ++ [.dct true (ms1.map encM) vs1]) := by
        rw [show AV.tup [.int k, .str kd, .str l, .int (((k : Int) + 1) % M)] = encM ⟨k, kd, l, ((k : Int) + 1) % M⟩ from rfl, dptM_at (get_lastL hl3) ep, set_lastL hl3]
      have body : frB ⟨callF Pr Gc (d + 3), Gc⟩ (.nm 1) sKind (.int k) (ev i a1 none none none none none (some (.d (.int M))) (some (.ref L)) a9 none none none none) (hd ++ [.dct true (ms.map encM) vs]) = .nx (ev i (some (.d (.int k))) none none none none none (some (.d (.int M))) (some (.ref L)) (some (.d (.str kd))) none none none none) (hd2 ++ [.dct true (ms1.map encM) vs1]) := by
        generalize (hd ++ [.dct true (ms.map encM) vs]) = H0 at e1
        generalize (hd1 ++ [.dct true (ms.map encM) vs]) = H1 at e1 e2
        generalize (hd2 ++ [.dct true (ms.map encM) vs]) = H2 at e2 dp
        generalize (hd2 ++ [.dct true (ms1.map encM) vs1]) = H3 at dp
        unfold frB
        cases c2 : kd == ("send" : Str) <;> rw [c2] at es e2 <;> simp at e2 <;> simp [sKind, ev, e1, es, e2, md, dp]
      rw [List.map_cons, forL, body]
      dsimp only
      rw [if_pos (show stillAt none _ from trivial)]
      exact e3
    cases c2 : kd == ("send" : Str) with
    | true =>
      obtain ⟨l, hd2, e2, hl2, dr2, f2⟩ := str_app (d + 1) i ["a", "b"] f1 fcs dr.1 (by simp) (by simp)
      simp only [List.map_cons, List.map_nil, List.mem_cons, List.not_mem_nil, or_false] at e2 hl2
      exact fin l hd2 (by rcases hl2 with z | z; exact .inl z; exact .inr (.inl z)) dr2 f2 (by rw [c2]; exact e2)
    | false =>
      obtain ⟨l, hd2, e2, hl2, dr2, f2⟩ := str_app (d + 1) i ["x", "y"] f1 fcs dr.1 (by simp) (by simp)
      simp only [List.map_cons, List.map_nil, List.mem_cons, List.not_mem_nil, or_false] at e2 hl2
      exact fin l hd2 (by rcases hl2 with z | z; exact .inr (.inr (.inl z)); exact .inr (.inr (.inr z))) dr2 f2 (by rw [c2]; exact e2)
end MP

set_option Elab.async false
set_option linter.all false
set_option maxRecDepth 100000
set_option maxHeartbeats 4000000
namespace MP
open PySem
theorem setM_ok {P : PD} (o : PDOk P) {w : Bool} {ms : List Mv} (hm : ∀ m ∈ ms, m ∈ P.mv w) (hl : ms.length ≤ (P.mv w).length) : PDOk (P.setM w ms) := by
  have l0 := o.l0
  have l1 := o.l1
  refine ⟨?_, ?_, by rw [setM_n]; exact o.n0, by rw [setM_n]; exact o.n1, fun v m h => ?_⟩
  · cases w
    · rw [setM_mv]; omega
    · rw [setM_mv' (by decide)]; exact l0
  · cases w
    · rw [setM_mv' (by decide)]; exact l1
    · rw [setM_mv]; omega
  · rw [setM_n]
    by_cases e : v = w
    · subst e
      rw [setM_mv] at h
      exact o.ok v m (hm m h)
    · rw [setM_mv' e] at h
      exact o.ok v m h
def bLap : Sms := .cons (.set (.nm 10) (.call 6 (.cons (.var 5) .nil)))
  (.cons (.ifs (.cmp .is_ (.var 10) .cN) (.cons (.ret (.var 5))
  .nil) .nil)
  (.cons (.set (.nm 1) (.call 2 (.cons (.var 0) (.cons (.cI 2) .nil))))
  (.cons (.set (.nm 11) (.comp (.nm 13) (.of (.idx (.idx (.var 5) (.var 1)) (.cI 1))) (.cons (.and (.cmp .eq (.idx (.var 13) (.cI 0)) (.idx (.var 10) (.var 1))) (.cmp .eq (.idx (.var 13) (.cI 1)) (.cS "send"))) .nil) (.var 13) [13]))
  (.cons (.set (.nm 12) (.call 7 (.cons (.idx (.var 5) (.var 1)) (.cons (.slc (.var 11) .nil (.cons (.cI 1) .nil)) .nil))))
  (.cons (.set (.nm 5) (.ite (.cmp .eq (.var 1) (.cI 0)) (.tup (.cons (.var 12) (.cons (.idx (.var 5) (.cI 1)) .nil))) (.tup (.cons (.idx (.var 5) (.cI 0)) (.cons (.var 12) .nil)))))
  .nil)))))
@[simp] theorem ec_w {c : Int × Int} {w : Bool} : idxA (encC c) (.int (wI w)) = some (.int (if w then c.2 else c.1)) := by cases w <;> rfl
theorem cut_l1 {ms : List Mv} : slcA (.lst (ms.map encM)) none (some 1) = some (.lst ((ms.take 1).map encM)) := by
  show some (AV.lst (cutL _ _ _)) = _
  rw [cut1, List.map_take]
theorem lap_spec (d : Nat) {i : Nat} {P : PD} (o : PDOk P) (h10 : ∀ w, (P.mv w).length ≤ 10) {hd cs : AH} (f : Flat hd) (fc : Flat cs) (b : Bag hd i) {x : AV} {a1 a2 a3 a4 a6 a7 a8 a9 a10 a11 a12 a13 : Option MV} :
    (∃ (P' : PD) (hd' : AH) (b1 b10 b11 b12 : Option MV), PDOk P' ∧ (∀ w, (P'.mv w).length ≤ 10) ∧ Drawn i hd hd' ∧ Flat hd' ∧ frB ⟨callF Pr Gc (d + 3), Gc⟩ (.nm 6) bLap x (ev i a1 a2 a3 a4 (some (.d P.a)) a6 a7 a8 a9 a10 a11 a12 a13) (hd ++ cs) = .nx (ev i b1 a2 a3 a4 (some (.d P'.a)) (some (.d x)) a7 a8 a9 b10 b11 b12 a13) (hd' ++ cs)) ∨
    frB ⟨callF Pr Gc (d + 3), Gc⟩ (.nm 6) bLap x (ev i a1 a2 a3 a4 (some (.d P.a)) a6 a7 a8 a9 a10 a11 a12 a13) (hd ++ cs) = .rt (.d P.a) (hd ++ cs) := by
  obtain ⟨v, hv, e1⟩ := duel_spec (d + 1) o h10 (hd ++ cs) (flat_app f fc)
  rcases hv with rfl | ⟨c, rfl⟩
  · right
    unfold frB
    generalize hd ++ cs = H at e1 ⊢
    simp [bLap, ev, e1]
  · left
    obtain ⟨r, hd1, e2, r0, r1, dr, f1⟩ := take_app (d + 2) i 2 f fc b (by decide) (by decide)
    obtain ⟨w, rfl⟩ : ∃ w, r = wI w := by
      by_cases z : r = 0
      · exact ⟨false, z⟩
      · exact ⟨true, by show r = 1; omega⟩
    let s : Int := if w then c.2 else c.1
    have hm : ∀ m ∈ ((P.mv w).filter (sendP s)).take 1, m ∈ P.mv w := fun m hm => (List.mem_filter.mp (List.mem_of_mem_take hm)).1
    obtain ⟨ms, hms, hlen, e4⟩ := without_spec (d + 2) o w (((P.mv w).filter (sendP s)).take 1) hm (hd1 ++ cs) (flat_app f1 fc)
    have c0 : evE ⟨callF Pr Gc (d + 3), Gc⟩ (.comp (.nm 13) (.of (.idx (.idx (.var 5) (.var 1)) (.cI 1))) (.cons (.and (.cmp .eq (.idx (.var 13) (.cI 0)) (.idx (.var 10) (.var 1))) (.cmp .eq (.idx (.var 13) (.cI 1)) (.cS "send"))) .nil) (.var 13) [13]) (ev i (some (.d (.int (wI w)))) a2 a3 a4 (some (.d P.a)) (some (.d x)) a7 a8 a9 (some (.d (encC c))) a11 a12 a13) (hd1 ++ cs) = .ok (.d (.lst (((P.mv w).filter (sendP s)).map encM))) (hd1 ++ cs) := by
      generalize hd1 ++ cs = H
      refine comp_fl encM _ (by simp [ev]) (fun m hm => ?_) (Nat.le_trans (o.ll w) (by decide))
      have es := eq_str (o.ok w m hm).k.ok ok_send
      cases w <;> cases c1 : m.s == s <;> cases c2 : m.k == ("send" : Str) <;> simp [s] at c1 <;> simp [turn, ev, es, sendP, c1, c2, s]
    refine ⟨P.setM w ms, hd1, some (.d (.int (wI w))), some (.d (encC c)), some (.d (.lst (((P.mv w).filter (sendP s)).map encM))), some (.d ((P.setM w ms).side w)), setM_ok o hms hlen, fun v => ?_, dr, f1, ?_⟩
    · by_cases z : v = w
      · subst z
        rw [setM_mv]
        have := h10 v
        omega
      · rw [setM_mv' z]; exact h10 v
    · unfold frB
      generalize hG : ((P.mv w).filter (sendP s)) = G at c0 e4 ⊢
      generalize hd ++ cs = H0 at e1 e2 ⊢
      generalize hd1 ++ cs = H1 at e2 e4 c0 ⊢
      have nn : isNon (encC c) = false := rfl
      have cl := cut_l1 (ms := G)
      generalize G.map encM = GL at c0 cl ⊢
      generalize (G.take 1).map encM = GT at cl e4
      simp only [ev] at c0
      have fin : (if w = false then AV.tup [(P.setM w ms).side w, P.side true] else AV.tup [P.side false, (P.setM w ms).side w]) = (P.setM w ms).a := by
        cases w
        · rw [if_pos rfl, ← setM_side' (P := P) (w := false) (v := true) (ms := ms) (by decide)]; rfl
        · rw [if_neg (by decide), ← setM_side' (P := P) (w := true) (v := false) (ms := ms) (by decide)]; rfl
      have wz : (wI w == 0) = !w := by cases w <;> rfl
      rw [← fin]
      cases hw : w <;> rw [hw] at c0 e2 e4 wz <;> simp [bLap, ev, e1, nn, e2, c0, cl, e4, wz]
theorem loop_lap (d : Nat) {i : Nat} {cs : AH} (fc : Flat cs) : ∀ (xs : List AV) {P : PD} {hd : AH} {a1 a2 a3 a4 a6 a7 a8 a9 a10 a11 a12 a13 : Option MV}, PDOk P → (∀ w, (P.mv w).length ≤ 10) → Flat hd → Bag hd i →
    ∃ (P' : PD) (hd' : AH), PDOk P' ∧ (∀ w, (P'.mv w).length ≤ 10) ∧ Drawn i hd hd' ∧ Flat hd' ∧
      ((∃ b1 b6 b10 b11 b12 : Option MV, forL (frB ⟨callF Pr Gc (d + 3), Gc⟩ (.nm 6) bLap) none xs (ev i a1 a2 a3 a4 (some (.d P.a)) a6 a7 a8 a9 a10 a11 a12 a13) (hd ++ cs) = .nx (ev i b1 a2 a3 a4 (some (.d P'.a)) b6 a7 a8 a9 b10 b11 b12 a13) (hd' ++ cs)) ∨
      forL (frB ⟨callF Pr Gc (d + 3), Gc⟩ (.nm 6) bLap) none xs (ev i a1 a2 a3 a4 (some (.d P.a)) a6 a7 a8 a9 a10 a11 a12 a13) (hd ++ cs) = .rt (.d P'.a) (hd' ++ cs))
  | [], P, hd, a1, a2, a3, a4, a6, a7, a8, a9, a10, a11, a12, a13, o, h10, f, b => ⟨P, hd, o, h10, Drawn.rfl' b, f, .inl ⟨a1, a6, a10, a11, a12, rfl⟩⟩
  | x :: xs, P, hd, a1, a2, a3, a4, a6, a7, a8, a9, a10, a11, a12, a13, o, h10, f, b => by
    rcases lap_spec d o h10 f fc b (x := x) (a1 := a1) (a2 := a2) (a3 := a3) (a4 := a4) (a6 := a6) (a7 := a7) (a8 := a8) (a9 := a9) (a10 := a10) (a11 := a11) (a12 := a12) (a13 := a13) with ⟨P1, hd1, b1, b10, b11, b12, o1, h1, dr, f1, e⟩ | e
    · obtain ⟨P2, hd2, o2, h2, dr2, f2, r⟩ := loop_lap d fc xs (P := P1) (hd := hd1) (a1 := b1) (a2 := a2) (a3 := a3) (a4 := a4) (a6 := some (.d x)) (a7 := a7) (a8 := a8) (a9 := a9) (a10 := b10) (a11 := b11) (a12 := b12) (a13 := a13) o1 h1 f1 dr.1
      refine ⟨P2, hd2, o2, h2, dr.trans dr2, f2, ?_⟩
      rw [forL, e]
      dsimp only
      rw [if_pos (show stillAt none _ from trivial)]
      exact r
    · refine ⟨P, hd, o, h10, Drawn.rfl' b, f, .inr ?_⟩
      rw [forL, e]
end MP

set_option Elab.async false
set_option linter.all false
set_option maxRecDepth 100000
set_option maxHeartbeats 4000000
namespace MP
open PySem
theorem views_at {h : AH} {i : Nat} {v : AV} {r : List MV} (e : view (.ref i) h = some v) : views (.ref i :: r) h = (views r h).map (v :: ·) := by
  rw [views, e]
  cases views r h <;> rfl
theorem pairs_true : ∀ {ms : List Mv}, pairsOf (ms.map fun m => AV.tup [encM m, .bl true]) = some (ms.map encM, ms.map fun _ => AV.bl true)
  | [] => rfl
  | m :: ms => by
    show (match pairsOf (ms.map fun m => AV.tup [encM m, .bl true]) with | some (ks, vs) => some (encM m :: ks, AV.bl true :: vs) | none => none) = _
    rw [pairs_true]
    rfl
theorem dict_true {ms : List Mv} (nd : ms.Nodup) : biF .dict [.lst (ms.map fun m => AV.tup [encM m, .bl true])] = some (.dct true (ms.map encM) (ms.map fun _ => AV.bl true)) := by
  show (match pairsOf (ms.map fun m => AV.tup [encM m, .bl true]) with
    | some (ks, vs) => (match keysT ks with
      | some kk => if kk.Nodup then some (AV.dct true ks vs) else none
      | none => none)
    | none => none) = _
  rw [pairs_true]
  dsimp only
  rw [keysT_M]
  dsimp only
  rw [if_pos]
  exact List.Pairwise.map _ (fun a b h e => h (keyM_inj e)) nd
theorem fin_cs {mt : Bool} {n : Nat} {v : AV} {hd cs : AH} (f : Flat hd) (e : hd.length = n) : fin mt n (.d v) (hd ++ cs) = .ok (.d v) hd := by
  unfold fin
  subst e
  rw [List.take_append_of_le_length (Nat.le_refl _), List.take_length, if_pos (List.all_eq_true.mpr fun c hc => f c hc _)]
theorem nat_of {r : Int} (h : 0 ≤ r) : ∃ n : Nat, r = n := ⟨r.toNat, by omega⟩
def sOne : Sm := .set (.nm 3) (.tup (.cons (.var 7) (.cons (.bi .tuple (.cons (.bi .sorted (.cons (.var 8) .nil)) .nil)) (.cons (.var 2) .nil))))
def xEnds : Ex := .comp (.nm 1) (.rng (.cons (.var 7) .nil)) (.cons (.cmp .gt (.call 2 (.cons (.var 0) (.cons (.cI 3) .nil))) (.cI 0)) .nil) (.var 1) [1]
def sEnds : Sm := .set (.nm 2) (.bi .tuple (.cons xEnds .nil))
def xRight : Ex := .comp (.nm 13) (.of (.idx (.call 9 (.cons (.var 3) .nil)) (.cI 1))) (.cons (.cmp .gt (.call 2 (.cons (.var 0) (.cons (.cI 8) .nil))) (.cI 0)) .nil) (.tup (.cons (.var 13) (.cons (.cB true) .nil))) [13]
def sRight : Sm := .set (.nm 4) (.new (.bi .dict (.cons xRight .nil)))
def sPair : Sm := .set (.nm 5) (.tup (.cons (.var 3) (.cons (.tup (.cons (.var 7) (.cons (.bi .tuple (.cons (.bi .sorted (.cons (.var 4) .nil)) .nil)) (.cons (.slc (.var 2) .nil (.cons (.bin .sub (.var 7) (.cI 1)) .nil)) .nil)))) .nil)))
def itThree : It := .rng (.cons (.call 2 (.cons (.var 0) (.cons (.cI 3) .nil))) .nil)
def sPar0 : Sm := .par [7, 8] (.cons (.bin .add (.cI 2) (.call 2 (.cons (.var 0) (.cons (.cI 3) .nil)))) (.cons (.newd true) .nil))
def itLap : It := .rng (.cons (.ite (.cmp .gt (.call 2 (.cons (.var 0) (.cons (.cI 5) .nil))) (.cI 0)) (.cI 30) (.cI 0)) .nil)
theorem b10_eq : b10 = .cons sPar0 (.cons (.fr (.nm 1) (.rng (.cons (.var 7) .nil)) sKind) (.cons (.fr (.nm 1) itThree (sAny 8 "a" "b" "x" "y")) (.cons sEnds (.cons sOne (.cons sRight (.cons (.fr (.nm 1) itThree (sAny 4 "x" "y" "a" "b")) (.cons sPair (.cons (.fr (.nm 6) itLap bLap) (.cons (.ret (.var 5)) .nil))))))))) := rfl
theorem ab_a : AB "a" := .inl rfl
theorem ab_b : AB "b" := .inr (.inl rfl)
theorem ab_x : AB "x" := .inr (.inr (.inl rfl))
theorem ab_y : AB "y" := .inr (.inr (.inr rfl))
theorem talk_spec (d : Nat) (i : Nat) (h : AH) (f : Flat h) (hb : Bag h i) : ∃ (P : PD) (h' : AH), PDOk P ∧ (∀ w, (P.mv w).length ≤ 10) ∧ callF Pr Gc (d + 4) 10 [.ref i] h = .ok (.d P.a) h' ∧ Drawn i h h' ∧ Flat h' := by
  -- the number of states
  obtain ⟨r0, h1, e1, r00, r01, d1, f1⟩ := take_app (d + 2) i 3 f (cs := []) (fun _ z => nomatch z) hb (by decide) (by decide)
  rw [List.append_nil, List.append_nil] at e1
  obtain ⟨n0, rfl⟩ := nat_of r00
  let M : Nat := 2 + n0
  have hM : 2 ≤ M := Nat.le_add_right _ _
  have hM4 : M ≤ 4 := by show 2 + n0 ≤ 4; omega
  have l1 : h1.length = h.length := d1.2.1
  have s1 : evS ⟨callF Pr Gc (d + 3), Gc⟩ sPar0 (startA 14 [.ref i]) h = .nx (ev i none none none none none none (some (.d (.int M))) (some (.ref h.length)) none none none none none) (h1 ++ [.dct true (([] : List Mv).map encM) []]) := by
    have c : ((2 : Int) + (n0 : Int)) = ((2 + n0 : Nat) : Int) := by omega
    simp [sPar0, startA, e1, ev, l1, M]
  -- the moves of a ring
  have D0 : DM M [] [] := ⟨rfl, (fun _ z => nomatch z), List.nodup_nil⟩
  obtain ⟨b1, b9, h2, m2, v2, f2, d2, D2, hl2, e2⟩ := loop_kind d hM hM4 (List.range M) (i := i) (L := h.length) (a1 := none) (a9 := none) (fun k hk => List.mem_range.mp hk) f1 d1.1 l1 D0 (by simp; omega)
  rw [List.length_range] at hl2
  have l2 : h2.length = h.length := by rw [d2.2.1, l1]
  have s2 := y_fr (t := .nm 1) (b := sKind) (it_rng (T := ⟨callF Pr Gc (d + 3), Gc⟩) (es := .cons (.var 7) .nil) (σ := ev i none none none none none none (some (.d (.int M))) (some (.ref h.length)) none none none none none) (h := h1 ++ [.dct true (([] : List Mv).map encM) []]) (n := M) (by simp [ev]) (by omega)) e2
  -- more moves
  have fl : ∀ (ms : List Mv) (vs : List AV), Flat [Cell.dct true (ms.map encM) vs] := fun ms vs c hc n => by rw [List.mem_singleton.mp hc]; rfl
  obtain ⟨r3, h3, e3, r30, r31, d3, f3⟩ := take_app (d + 2) i 3 f2 (fl m2 v2) d2.1 (by decide) (by decide)
  obtain ⟨n3, rfl⟩ := nat_of r30
  have l3 : h3.length = h.length := by rw [d3.2.1, l2]
  simp only [List.length_nil] at hl2
  obtain ⟨c1, h4, m4, v4, f4, d4, D4, hl4, e4⟩ := loop_any d (i := i) (M := M) (vi := 8) (L := h.length) hM hM4 ab_a ab_b ab_x ab_y (cs := []) (fun _ z => nomatch z) (σ := ev i b1 none none none none none (some (.d (.int M))) (some (.ref h.length)) b9 none none none none) rfl rfl rfl (by decide) (show 1 < 14 by decide) ((List.range n3).map fun (k : Nat) => AV.int k) (a := b1) f3 d3.1 (by rw [List.append_nil]; exact l3) D2 (by simp; omega)
  rw [List.append_nil, List.append_nil] at e4
  simp only [List.length_map, List.length_range] at hl4
  have l4 : h4.length = h.length := by rw [d4.2.1, l3]
  have s3 := y_fr (it_rng (T := ⟨callF Pr Gc (d + 3), Gc⟩) (es := .cons (.call 2 (.cons (.var 0) (.cons (.cI 3) .nil))) .nil) (σ := ev i b1 none none none none none (some (.d (.int M))) (some (.ref h.length)) b9 none none none none) (h := h2 ++ [.dct true (m2.map encM) v2]) (h1 := h3 ++ [.dct true (m2.map encM) v2]) (n := n3) (by
    generalize h2 ++ [.dct true (m2.map encM) v2] = H2 at e3 ⊢
    generalize h3 ++ [.dct true (m2.map encM) v2] = H3 at e3 ⊢
    simp [ev, e3]) (by omega)) e4
  -- ends
  obtain ⟨ys, h5, e5, sl5, d5, f5⟩ := compL_draw (i := i) (cs := [.dct true (m4.map encM) v4]) (fun k : Nat => AV.int k) (fun k : Nat => AV.int k) (xs := List.range M) (f := turn ⟨callF Pr Gc (d + 3), Gc⟩ (.nm 1) (.cons (.cmp .gt (.call 2 (.cons (.var 0) (.cons (.cI 3) .nil))) (.cI 0)) .nil) (.var 1) (ev i none none none none none none (some (.d (.int M))) (some (.ref h.length)) b9 none none none none)) (fun k hk hd fd bd => by
    obtain ⟨r, hd', e, r0, r1, dr, f'⟩ := take_app (d + 2) i 3 fd (fl m4 v4) bd (by decide) (by decide)
    refine ⟨decide (0 < r), hd', ?_, dr, f'⟩
    generalize hd ++ [.dct true (m4.map encM) v4] = H at e ⊢
    generalize hd' ++ [.dct true (m4.map encM) v4] = H' at e ⊢
    by_cases c : 0 < r <;> simp [turn, ev, e, c]) h4 f4 d4.1
  have l5 : h5.length = h.length := by rw [d5.2.1, l4]
  have x5 : evE ⟨callF Pr Gc (d + 3), Gc⟩ xEnds (ev i c1 none none none none none (some (.d (.int M))) (some (.ref h.length)) b9 none none none none) (h4 ++ [.dct true (m4.map encM) v4]) = .ok (.d (.lst (ys.map fun (k : Nat) => AV.int k))) (h5 ++ [.dct true (m4.map encM) v4]) := by
    refine x_comp (h1 := h4 ++ [Cell.dct true (m4.map encM) v4]) (s := ⟨(List.range M).map fun (k : Nat) => AV.int k, none⟩) (it_rng (n := M) (by simp [ev]) (by omega)) e5 ?_
    have := sl5.length_le
    rw [List.length_range] at this
    rw [List.length_map]
    exact Nat.le_trans (show ys.length ≤ 6000 by omega) size6000
  have s4 : evS ⟨callF Pr Gc (d + 3), Gc⟩ sEnds (ev i c1 none none none none none (some (.d (.int M))) (some (.ref h.length)) b9 none none none none) (h4 ++ [.dct true (m4.map encM) v4]) = .nx (ev i c1 (some (.d (.tup (ys.map fun (k : Nat) => AV.int k)))) none none none none (some (.d (.int M))) (some (.ref h.length)) b9 none none none none) (h5 ++ [.dct true (m4.map encM) v4]) := by
    generalize ys.map (fun (k : Nat) => AV.int k) = EN at x5 ⊢
    generalize h4 ++ [.dct true (m4.map encM) v4] = H4 at x5 ⊢
    generalize h5 ++ [.dct true (m4.map encM) v4] = H5 at x5 ⊢
    simp only [ev] at x5
    simp [sEnds, ev, x5]
  -- one
  generalize hEN : ys.map (fun (k : Nat) => AV.int k) = EN at s4
  obtain ⟨u4, t4, ou4, lu4, nu4⟩ := srt_D (n := M) (by omega) D4
  have s5 : evS ⟨callF Pr Gc (d + 3), Gc⟩ sOne (ev i c1 (some (.d (.tup EN))) none none none none (some (.d (.int M))) (some (.ref h.length)) b9 none none none none) (h5 ++ [.dct true (m4.map encM) v4]) = .nx (ev i c1 (some (.d (.tup EN))) (some (.d (.tup [.int M, .tup (u4.map encM), .tup EN]))) none none none (some (.d (.int M))) (some (.ref h.length)) b9 none none none none) (h5 ++ [.dct true (m4.map encM) v4]) := by
    have vw : view (.ref h.length) (h5 ++ [.dct true (m4.map encM) v4]) = some (.dct true (m4.map encM) v4) := view_at (get_lastL l5) rfl
    generalize h5 ++ [.dct true (m4.map encM) v4] = H5 at vw ⊢
    simp [sOne, ev, views_at vw, t4]
  -- right
  obtain ⟨u6, ou6, lu6, nu6, e6⟩ := turned_spec (d + 2) (n := M) (by omega) (ms := u4) (es := .tup EN) ou4 (by omega) nu4 (h5 ++ [.dct true (m4.map encM) v4]) (flat_app f5 (fl m4 v4))
  obtain ⟨zs, h7, e7, sl7, d7, f7⟩ := compL_draw (i := i) (cs := [.dct true (m4.map encM) v4]) encM (fun m : Mv => AV.tup [encM m, .bl true]) (xs := u6) (f := turn ⟨callF Pr Gc (d + 3), Gc⟩ (.nm 13) (.cons (.cmp .gt (.call 2 (.cons (.var 0) (.cons (.cI 8) .nil))) (.cI 0)) .nil) (.tup (.cons (.var 13) (.cons (.cB true) .nil))) (ev i c1 (some (.d (.tup EN))) (some (.d (.tup [.int M, .tup (u4.map encM), .tup EN]))) none none none (some (.d (.int M))) (some (.ref h.length)) b9 none none none none)) (fun m hm hd fd bd => by
    obtain ⟨r, hd', e, r0, r1, dr, f'⟩ := take_app (d + 2) i 8 fd (fl m4 v4) bd (by decide) (by decide)
    refine ⟨decide (0 < r), hd', ?_, dr, f'⟩
    generalize hd ++ [.dct true (m4.map encM) v4] = H at e ⊢
    generalize hd' ++ [.dct true (m4.map encM) v4] = H' at e ⊢
    by_cases c : 0 < r <;> simp [turn, ev, e, c]) h5 f5 d5.1
  have l7 : h7.length = h.length := by rw [d7.2.1, l5]
  have lz := sl7.length_le
  have nz : zs.Nodup := sl7.nodup nu6
  have x7 : evE ⟨callF Pr Gc (d + 3), Gc⟩ xRight (ev i c1 (some (.d (.tup EN))) (some (.d (.tup [.int M, .tup (u4.map encM), .tup EN]))) none none none (some (.d (.int M))) (some (.ref h.length)) b9 none none none none) (h5 ++ [.dct true (m4.map encM) v4]) = .ok (.d (.lst (zs.map fun m => AV.tup [encM m, .bl true]))) (h7 ++ [.dct true (m4.map encM) v4]) := by
    refine x_comp (h1 := h5 ++ [Cell.dct true (m4.map encM) v4]) (s := ⟨u6.map encM, none⟩) ?_ e7 (by rw [List.length_map]; exact Nat.le_trans (show zs.length ≤ 6000 by omega) size6000)
    generalize h5 ++ [.dct true (m4.map encM) v4] = H5 at e6 ⊢
    simp [ev, e6, srcOf]
  have dz := dict_true nz
  have s6 : evS ⟨callF Pr Gc (d + 3), Gc⟩ sRight (ev i c1 (some (.d (.tup EN))) (some (.d (.tup [.int M, .tup (u4.map encM), .tup EN]))) none none none (some (.d (.int M))) (some (.ref h.length)) b9 none none none none) (h5 ++ [.dct true (m4.map encM) v4]) = .nx (ev i c1 (some (.d (.tup EN))) (some (.d (.tup [.int M, .tup (u4.map encM), .tup EN]))) (some (.ref (h.length + 1))) none none (some (.d (.int M))) (some (.ref h.length)) b9 none none none none) (h7 ++ [.dct true (m4.map encM) v4] ++ [.dct true (zs.map encM) (zs.map fun _ => AV.bl true)]) := by
    have ll : (h7 ++ [Cell.dct true (m4.map encM) v4]).length = h.length + 1 := by rw [List.length_append, l7]; rfl
    generalize h5 ++ [.dct true (m4.map encM) v4] = H5 at x7 ⊢
    generalize h7 ++ [.dct true (m4.map encM) v4] = H7 at x7 ll ⊢
    generalize zs.map (fun m => AV.tup [encM m, .bl true]) = ZZ at x7 dz
    simp only [ev] at x7
    simp [sRight, ev, x7, dz, newM, ll]
  -- more of right
  have D7 : DM M zs (zs.map fun _ => AV.bl true) := ⟨List.length_map _, fun m hm => ou6 m (sl7.subset hm), nz⟩
  have fl2 : Flat ([Cell.dct true (m4.map encM) v4] ++ [.dct true (zs.map encM) (zs.map fun _ => AV.bl true)]) := flat_app (fl _ _) (fl _ _)
  obtain ⟨r8, h8, e8, r80, r81, d8, f8⟩ := take_app (d + 2) i 3 f7 fl2 d7.1 (by decide) (by decide)
  obtain ⟨n8, rfl⟩ := nat_of r80
  have l8 : h8.length = h.length := by rw [d8.2.1, l7]
  rw [← List.append_assoc, ← List.append_assoc] at e8
  obtain ⟨g1, h9, m9, v9, f9, d9, D9, hl9, e9⟩ := loop_any d (i := i) (M := M) (vi := 4) (L := h.length + 1) hM hM4 ab_x ab_y ab_a ab_b (cs := [.dct true (m4.map encM) v4]) (fl m4 v4) (σ := ev i c1 (some (.d (.tup EN))) (some (.d (.tup [.int M, .tup (u4.map encM), .tup EN]))) (some (.ref (h.length + 1))) none none (some (.d (.int M))) (some (.ref h.length)) b9 none none none none) rfl rfl rfl (by decide) (show 1 < 14 by decide) ((List.range n8).map fun (k : Nat) => AV.int k) (a := c1) f8 d8.1 (by rw [List.length_append, l8]; rfl) D7 (by simp; omega)
  simp only [List.length_map, List.length_range] at hl9
  have l9 : h9.length = h.length := by rw [d9.2.1, l8]
  have s7 := y_fr (it_rng (T := ⟨callF Pr Gc (d + 3), Gc⟩) (es := .cons (.call 2 (.cons (.var 0) (.cons (.cI 3) .nil))) .nil) (σ := ev i c1 (some (.d (.tup EN))) (some (.d (.tup [.int M, .tup (u4.map encM), .tup EN]))) (some (.ref (h.length + 1))) none none (some (.d (.int M))) (some (.ref h.length)) b9 none none none none) (h := h7 ++ [.dct true (m4.map encM) v4] ++ [.dct true (zs.map encM) (zs.map fun _ => AV.bl true)]) (h1 := h8 ++ [.dct true (m4.map encM) v4] ++ [.dct true (zs.map encM) (zs.map fun _ => AV.bl true)]) (n := n8) (by
    generalize h7 ++ [.dct true (m4.map encM) v4] ++ [.dct true (zs.map encM) (zs.map fun _ => AV.bl true)] = H2 at e8 ⊢
    generalize h8 ++ [.dct true (m4.map encM) v4] ++ [.dct true (zs.map encM) (zs.map fun _ => AV.bl true)] = H3 at e8 ⊢
    simp [ev, e8]) (by omega)) e9
  -- the pair
  obtain ⟨u9, t9, ou9, lu9, nu9⟩ := srt_D (n := M) (by omega) D9
  let P0 : PD := ⟨M, u4, .tup EN, M, u9, .tup (cutL EN none (some ((M : Int) - 1)))⟩
  have o0 : PDOk P0 := ⟨by show u4.length ≤ 20; omega, by show u9.length ≤ 20; omega, by show 1 ≤ (M : Int) ∧ (M : Int) ≤ 4; omega, by show 1 ≤ (M : Int) ∧ (M : Int) ≤ 4; omega, fun w => by
    cases w
    · exact ou4
    · exact ou9⟩
  have h10 : ∀ w, (P0.mv w).length ≤ 10 := fun w => by
    cases w
    · show u4.length ≤ 10; omega
    · show u9.length ≤ 10; omega
  have s8 : evS ⟨callF Pr Gc (d + 3), Gc⟩ sPair (ev i g1 (some (.d (.tup EN))) (some (.d (.tup [.int M, .tup (u4.map encM), .tup EN]))) (some (.ref (h.length + 1))) none none (some (.d (.int M))) (some (.ref h.length)) b9 none none none none) (h9 ++ [.dct true (m4.map encM) v4] ++ [.dct true (m9.map encM) v9]) = .nx (ev i g1 (some (.d (.tup EN))) (some (.d (.tup [.int M, .tup (u4.map encM), .tup EN]))) (some (.ref (h.length + 1))) (some (.d P0.a)) none (some (.d (.int M))) (some (.ref h.length)) b9 none none none none) (h9 ++ [.dct true (m4.map encM) v4] ++ [.dct true (m9.map encM) v9]) := by
    have ll : (h9 ++ [Cell.dct true (m4.map encM) v4]).length = h.length + 1 := by rw [List.length_append, l9]; rfl
    have vw : view (.ref (h.length + 1)) (h9 ++ [.dct true (m4.map encM) v4] ++ [.dct true (m9.map encM) v9]) = some (.dct true (m9.map encM) v9) := view_at (get_lastL ll) rfl
    generalize h9 ++ [.dct true (m4.map encM) v4] ++ [.dct true (m9.map encM) v9] = H9 at vw ⊢
    have pa : P0.a = .tup [.tup [.int M, .tup (u4.map encM), .tup EN], .tup [.int M, .tup (u9.map encM), .tup (cutL EN none (some ((M : Int) - 1)))]] := rfl
    rw [pa]
    simp [sPair, ev, views_at vw, t9]
  -- duels taken out
  have fl3 : Flat ([Cell.dct true (m4.map encM) v4] ++ [.dct true (m9.map encM) v9]) := flat_app (fl _ _) (fl _ _)
  obtain ⟨r10, ha, e10, r100, r101, d10, f10⟩ := take_app (d + 2) i 5 f9 fl3 d9.1 (by decide) (by decide)
  have la : ha.length = h.length := by rw [d10.2.1, l9]
  let K : Nat := if 0 < r10 then 30 else 0
  obtain ⟨P', hz, oz, hz10, dzz, fz, rz⟩ := loop_lap d (i := i) fl3 ((List.range K).map fun (k : Nat) => AV.int k) (P := P0) (hd := ha) (a1 := g1) (a2 := some (.d (.tup EN))) (a3 := some (.d (.tup [.int M, .tup (u4.map encM), .tup EN]))) (a4 := some (.ref (h.length + 1))) (a6 := none) (a7 := some (.d (.int M))) (a8 := some (.ref h.length)) (a9 := b9) (a10 := none) (a11 := none) (a12 := none) (a13 := none) o0 h10 f10 d10.1
  have lz' : hz.length = h.length := by rw [dzz.2.1, la]
  have i9 : evIt ⟨callF Pr Gc (d + 3), Gc⟩ itLap (ev i g1 (some (.d (.tup EN))) (some (.d (.tup [.int M, .tup (u4.map encM), .tup EN]))) (some (.ref (h.length + 1))) (some (.d P0.a)) none (some (.d (.int M))) (some (.ref h.length)) b9 none none none none) (h9 ++ ([.dct true (m4.map encM) v4] ++ [.dct true (m9.map encM) v9])) = .ok ⟨(List.range K).map fun (k : Nat) => AV.int k, none⟩ (ha ++ ([.dct true (m4.map encM) v4] ++ [.dct true (m9.map encM) v9])) := by
    refine it_rng (n := K) ?_ (by show (if 0 < r10 then 30 else 0) ≤ 6000; split <;> omega)
    generalize h9 ++ ([.dct true (m4.map encM) v4] ++ [.dct true (m9.map encM) v9]) = H9 at e10 ⊢
    generalize ha ++ ([.dct true (m4.map encM) v4] ++ [.dct true (m9.map encM) v9]) = HA at e10 ⊢
    by_cases z : 0 < r10 <;> simp [ev, e10, z, K]
  have dr : Drawn i h hz := (((((((((d1.trans d2).trans d3).trans d4).trans d5).trans d7).trans d8).trans d9).trans d10).trans dzz)
  refine ⟨P', hz, oz, hz10, ?_, dr, fz⟩
  have pre : ∀ {r : RS}, evSs ⟨callF Pr Gc (d + 3), Gc⟩ (.cons (.fr (.nm 6) itLap bLap) (.cons (.ret (.var 5)) .nil)) (ev i g1 (some (.d (.tup EN))) (some (.d (.tup [.int M, .tup (u4.map encM), .tup EN]))) (some (.ref (h.length + 1))) (some (.d P0.a)) none (some (.d (.int M))) (some (.ref h.length)) b9 none none none none) (h9 ++ [.dct true (m4.map encM) v4] ++ [.dct true (m9.map encM) v9]) = r → evSs ⟨callF Pr Gc (d + 3), Gc⟩ b10 (startA 14 [.ref i]) h = r := fun e => by
    rw [b10_eq]
    exact (y_nx s1).trans ((y_nx s2).trans ((y_nx s3).trans ((y_nx s4).trans ((y_nx s5).trans ((y_nx s6).trans ((y_nx s7).trans ((y_nx s8).trans e)))))))
  rw [callF_succ]
  show (if [MV.ref i].length = 1 then finS false h.length (evSs ⟨callF Pr Gc (d + 3), Gc⟩ b10 (startA 14 [.ref i]) h) else .stuck) = _
  rw [if_pos (show [MV.ref i].length = 1 from rfl)]
  rw [← List.append_assoc] at i9
  rcases rz with ⟨k1, k6, k10, k11, k12, ez⟩ | ez
  · have s9 := y_fr i9 ez
    rw [pre ((y_nx s9).trans (y_rt (v := .d P'.a) (h1 := hz ++ ([.dct true (m4.map encM) v4] ++ [.dct true (m9.map encM) v9])) (by simp [ev]))), k_finR]
    exact fin_cs fz lz'
  · have s9 := y_fr i9 ez
    rw [pre (y_rt s9), k_finR]
    exact fin_cs fz lz'
end MP

set_option Elab.async false
set_option linter.all false
set_option maxRecDepth 100000
set_option maxHeartbeats 4000000
namespace MP
open PySem
/-! the law -/
theorem bag_spec (d : Nat) (ns : List Int) (hl : ns.length ≤ 63) : ∃ h : AH, callF Pr Gc (d + 1) 0 [.d (.scr ns)] [] = .ok (.ref 0) h ∧ Bag h 0 ∧ Flat h ∧ h.length = 1 := by
  have ab : ∀ i : Int, biF .abs [.int i] = some (.int (if i < 0 then -i else i)) := fun i => rfl
  let ks : List Int := cutL ns none (some 63)
  have lk : ks.length ≤ 63 := by
    show (cutL ns none (some 63)).length ≤ 63
    unfold cutL
    rw [List.length_take, List.length_drop]
    omega
  have c0 : evE ⟨callF Pr Gc d, Gc⟩ (.comp (.nm 1) (.of (.slc (.var 0) .nil (.cons (.cI 63) .nil))) .nil (.bi .abs (.cons (.var 1) .nil)) [1]) [some (.d (.scr ns)), none] [] = .ok (.d (.lst ((ks.map fun i => if i < 0 then -i else i).map AV.int))) [] := by
    rw [List.map_map]
    refine comp_mp AV.int _ ?_ (fun i _ => by simp [turn, ab]) (by omega)
    have sl : slcA (.scr ns) none (some 63) = some (.lst (ks.map AV.int)) := by
      show some (AV.lst (cutL (ns.map AV.int) none (some 63))) = _
      have : cutL (ns.map AV.int) none (some 63) = ks.map AV.int := by
        show _ = (cutL ns none (some 63)).map AV.int
        unfold cutL
        rw [List.length_map, List.map_take, List.map_drop]
      rw [this]
    simp [sl, srcOf, cellOf]
  refine ⟨[bagC 0 1234567891 0 (ks.map fun i => if i < 0 then -i else i)], ?_, ⟨0, 1234567891, 0, _, rfl, ⟨by decide, by decide, by decide, by rw [List.length_map]; exact lk, fun x hx => ?_⟩⟩, fun c hc n => by rw [List.mem_singleton.mp hc]; rfl, rfl⟩
  · rw [callF_succ]
    generalize (ks.map fun i => if i < 0 then -i else i) = K2 at c0 ⊢
    simp [Pr, b0, startA, c0]
    rfl
  · obtain ⟨i, _, rfl⟩ := List.mem_map.mp hx
    split <;> omega
theorem gd_row {x : List Str} (hx : Lets x) (hl : x.length ≤ 1000) : Gd 1 9000 (rowA x) := by
  have r := Gd.tup (k := 0) (n := 8) (xs := x.map AV.str) fun v hv => by
    obtain ⟨a, ha, rfl⟩ := List.mem_map.mp hv
    exact gd_let (hx a ha)
  rw [List.length_map] at r
  exact r.mono (Nat.le_refl _) (by omega)
theorem gd_conf {p q : Int} {x y : List Str} (p0 : 0 ≤ p) (p1 : p ≤ 4) (q0 : 0 ≤ q) (q1 : q ≤ 4) (hx : Lets x) (hy : Lets y) (lx : x.length ≤ 1000) (ly : y.length ≤ 1000) : Gd 2 36004 (confA p q x y) := by
  have r := Gd.tup (k := 1) (n := 9000) (xs := [.int p, .int q, rowA x, rowA y]) fun v hv => by
    rcases List.mem_cons.mp hv with z | z
    · rw [z]; exact (gd_int p0 (by omega)).mono (by decide) (by decide)
    rcases List.mem_cons.mp z with z | z
    · rw [z]; exact (gd_int q0 (by omega)).mono (by decide) (by decide)
    rcases List.mem_cons.mp z with z | z
    · rw [z]; exact gd_row hx lx
    · rw [List.mem_singleton.mp z]; exact gd_row hy ly
  exact r
theorem gd_in {P : PD} (o : PDOk P) {k : Nat} {c : Cf} (i : c.In P k) : Gd 2 36004 c.a := by
  have := o.n0.2
  have := o.n1.2
  have := i.1.p1
  have := i.1.q1
  exact gd_conf i.1.p0 (by omega) i.1.q0 (by omega) i.1.hx i.1.hy (Nat.le_trans i.1.lx (by decide)) (Nat.le_trans i.1.ly (by decide))
theorem gd_pair {k n : Nat} {u v : AV} (hu : Gd k n u) (hv : Gd k n v) : Gd (k + 1) (2 * (n + 1)) (.lst [u, v]) := by
  have r := Gd.lst (k := k) (n := n) (xs := [u, v]) fun x hx => by
    rcases List.mem_cons.mp hx with z | z
    · rw [z]; exact hu
    · rw [List.mem_singleton.mp z]; exact hv
  exact r
theorem step_cf {P : PD} {w : Bool} {m : Mv} {c : Cf} : stepA w m c.p c.q c.x c.y = if enabled w m c.p c.q c.x c.y then (nextC w m c).a else .non := rfl
theorem gd_step {P : PD} (o : PDOk P) {k : Nat} (hk : k < 900) {c : Cf} (i : c.In P k) {w : Bool} {m : Mv} (ok : MvOk (P.n w) m) : Gd 2 36004 (stepA w m c.p c.q c.x c.y) := by
  rw [step_cf (P := P)]
  split
  · exact gd_in o (next_in hk i ok)
  · exact gd_non.mono (by decide) (by decide)
theorem repr_conf {p q : Int} {x y : List Str} (g : Gd 2 36004 (confA p q x y)) : biF .repr [confA p q x y] = some (.str (confA p q x y).toD.shown) := g.repT (by decide) (by decide)
/-- the law's names -/
def lv (ns : List Int) (a2 a3 a4 a5 a6 a7 a8 a9 a10 a11 a12 a13 a14 a15 a16 a17 : Option MV) : AEnv := [some (.d (.scr ns)), some (.ref 0), a2, a3, a4, a5, a6, a7, a8, a9, a10, a11, a12, a13, a14, a15, a16, a17]
def bAct : Sms := .cons (.ifs (.or (.not (.call 1 (.cons (.lst (.cons (.call 24 (.cons (.var 3) (.cons (.var 11) .nil))) (.cons (.call 29 (.cons (.var 3) (.cons (.var 7) (.cons (.var 11) .nil)))) .nil))) (.cons (.lst (.cons (.cB true) (.cons (.call 12 (.cons (.var 3) (.cons (.var 7) (.cons (.var 11) .nil)))) .nil))) .nil)))) (.cmp .ne (.bi .repr (.cons (.var 7) .nil)) (.var 10))) (.cons (.ret (.cB false)) .nil) .nil) .nil
theorem loop_act (d : Nat) {P : PD} (o : PDOk P) {k : Nat} (hk : k < 900) {c : Cf} (i : c.In P k) {H : AH} (f : Flat H) {ns : List Int} {a2 a4 a5 a6 a8 a9 a12 a13 a14 a15 a16 a17 : Option MV} :
    ∀ (L : List (Bool × Nat)) {a11 : Option MV}, (∀ a ∈ L, a ∈ actL P) → ∃ b11 : Option MV, forL (frB ⟨callF Pr Gc (d + 4), Gc⟩ (.nm 11) bAct) none (L.map encAct) (lv ns a2 (some (.d P.a)) a4 a5 a6 (some (.d c.a)) a8 a9 (some (.d (.str c.a.toD.shown))) a11 a12 a13 a14 a15 a16 a17) H = .nx (lv ns a2 (some (.d P.a)) a4 a5 a6 (some (.d c.a)) a8 a9 (some (.d (.str c.a.toD.shown))) b11 a12 a13 a14 a15 a16 a17) H
  | [], a11, _ => ⟨a11, rfl⟩
  | a :: L, a11, hL => by
    have ha := hL a List.mem_cons_self
    have hal := actL_mem.mp ha
    obtain ⟨m, hm, mm⟩ := actL_get ha
    have mok := o.ok a.1 m mm
    obtain ⟨b11, e⟩ := loop_act d o hk i f L (a11 := some (.d (encAct a))) (ns := ns) (a2 := a2) (a4 := a4) (a5 := a5) (a6 := a6) (a8 := a8) (a9 := a9) (a12 := a12) (a13 := a13) (a14 := a14) (a15 := a15) (a16 := a16) (a17 := a17) fun b hb => hL b (List.mem_cons_of_mem _ hb)
    refine ⟨b11, ?_⟩
    have q1 := is_move_act (d + 1) (P := P) (w := a.1) (n := a.2) H f
    rw [decide_eq_true (show (0 : Int) ≤ a.2 by omega), decide_eq_true (show (a.2 : Int) < (P.mv a.1).length by omega)] at q1
    have q2 := do_spec d o H f i.1 hm
    have q3 := law_do_spec (d + 3) (P := P) (p := c.p) (q := c.q) H f i.1.hx i.1.hy (Nat.le_trans i.1.lx (by decide)) (Nat.le_trans i.1.ly (by decide)) hm mok
    have gc := gd_in o i
    have gs := gd_step o hk i mok
    have q4 := alike_lst (d + 3) (gd_pair ((gd_bl true).mono (by decide) (by decide)) gs) (by decide) (by decide) H f
    have q5 : biF .repr [c.a] = some (.str c.a.toD.shown) := repr_conf gc
    have q6 : cmpop .ne (.str c.a.toD.shown) (.str c.a.toD.shown) = some false := by
      rw [k_ne, gc.shpS]; rfl
    rw [show confA c.p c.q c.x c.y = c.a from rfl] at q2 q3
    rw [show actA a.1 a.2 = encAct a from rfl] at q1 q2 q3
    have body : frB ⟨callF Pr Gc (d + 4), Gc⟩ (.nm 11) bAct (encAct a) (lv ns a2 (some (.d P.a)) a4 a5 a6 (some (.d c.a)) a8 a9 (some (.d (.str c.a.toD.shown))) a11 a12 a13 a14 a15 a16 a17) H = .nx (lv ns a2 (some (.d P.a)) a4 a5 a6 (some (.d c.a)) a8 a9 (some (.d (.str c.a.toD.shown))) (some (.d (encAct a))) a12 a13 a14 a15 a16 a17) H := by
      generalize stepA a.1 m c.p c.q c.x c.y = SV at q2 q3 q4
      generalize c.a.toD.shown = SH at q5 q6 ⊢
      generalize encAct a = EA at q1 q2 q3 ⊢
      unfold frB
      simp [bAct, lv, q1, q2, q3, q4, q5, q6]
    rw [List.map_cons, forL, body]
    dsimp only
    rw [if_pos (show stillAt none _ from trivial)]
    exact e
def bHere : Sms := .cons (.set (.nm 10) (.bi .repr (.cons (.var 7) .nil)))
  (.cons (.ifs (.not (.call 1 (.cons (.lst (.cons (.call 20 (.cons (.var 3) (.cons (.var 7) .nil))) (.cons (.call 28 (.cons (.var 3) (.cons (.var 7) .nil))) .nil))) (.cons (.lst (.cons (.cB true) (.cons (.bi .tuple (.cons (.call 13 (.cons (.var 3) (.cons (.var 7) .nil))) .nil)) .nil))) .nil)))) (.cons (.ret (.cB false)) .nil) .nil)
  (.cons (.fr (.nm 11) (.of (.call 11 (.cons (.var 3) .nil))) bAct) .nil))
theorem loop_here (d : Nat) {P : PD} (o : PDOk P) {k : Nat} (hk : k < 900) {H : AH} (f : Flat H) {ns : List Int} {a2 a4 a5 a6 a8 a9 a12 a13 a14 a15 a16 a17 : Option MV} :
    ∀ (L : List Cf) {a7 a10 a11 : Option MV}, (∀ c ∈ L, c.In P k) → ∃ b7 b10 b11 : Option MV, forL (frB ⟨callF Pr Gc (d + 4), Gc⟩ (.nm 7) bHere) none (L.map Cf.a) (lv ns a2 (some (.d P.a)) a4 a5 a6 a7 a8 a9 a10 a11 a12 a13 a14 a15 a16 a17) H = .nx (lv ns a2 (some (.d P.a)) a4 a5 a6 b7 a8 a9 b10 b11 a12 a13 a14 a15 a16 a17) H
  | [], a7, a10, a11, _ => ⟨a7, a10, a11, rfl⟩
  | c :: L, a7, a10, a11, hL => by
    have i := hL c List.mem_cons_self
    have gc := gd_in o i
    obtain ⟨b11, e1⟩ := loop_act d o hk i f (actL P) (a11 := a11) (ns := ns) (a2 := a2) (a4 := a4) (a5 := a5) (a6 := a6) (a8 := a8) (a9 := a9) (a12 := a12) (a13 := a13) (a14 := a14) (a15 := a15) (a16 := a16) (a17 := a17) fun b hb => hb
    obtain ⟨b7, b10, c11, e⟩ := loop_here d o hk f L (a7 := some (.d c.a)) (a10 := some (.d (.str c.a.toD.shown))) (a11 := b11) (ns := ns) (a2 := a2) (a4 := a4) (a5 := a5) (a6 := a6) (a8 := a8) (a9 := a9) (a12 := a12) (a13 := a13) (a14 := a14) (a15 := a15) (a16 := a16) (a17 := a17) fun b hb => hL b (List.mem_cons_of_mem _ hb)
    refine ⟨b7, b10, c11, ?_⟩
    have q0 := acts_spec (d + 3) o H f
    have q1 := i.1.conf (d + 1) H f
    have q2 := moves_spec d o H f i.1
    have q3 := law_moves_spec (d + 2) o (p := c.p) (q := c.q) H f i.1.hx i.1.hy (Nat.le_trans i.1.lx (by decide)) (Nat.le_trans i.1.ly (by decide))
    have fl : ((actL P).filter (enB P c.p c.q c.x c.y)).length ≤ 40 := Nat.le_trans (List.length_filter_le _ _) (actL_len o)
    have ga : Gd 2 800 (.tup (((actL P).filter (enB P c.p c.q c.x c.y)).map encAct)) := by
      have r := Gd.tup (k := 1) (n := 18) (xs := ((actL P).filter (enB P c.p c.q c.x c.y)).map encAct) fun v hv => by
        obtain ⟨a, ha, rfl⟩ := List.mem_map.mp hv
        exact gd_act o (List.mem_filter.mp ha).1
      rw [List.length_map] at r
      exact r.mono (Nat.le_refl _) (by omega)
    have q4 := alike_lst (d + 3) (gd_pair ((gd_bl true).mono (by decide) (by decide)) ga) (by decide) (by decide) H f
    have q5 : biF .repr [c.a] = some (.str c.a.toD.shown) := repr_conf gc
    rw [show confA c.p c.q c.x c.y = c.a from rfl] at q1 q2 q3
    have fr : evS ⟨callF Pr Gc (d + 4), Gc⟩ (.fr (.nm 11) (.of (.call 11 (.cons (.var 3) .nil))) bAct) (lv ns a2 (some (.d P.a)) a4 a5 a6 (some (.d c.a)) a8 a9 (some (.d (.str c.a.toD.shown))) a11 a12 a13 a14 a15 a16 a17) H = _ := y_fr (s := ⟨(actL P).map encAct, none⟩) (h1 := H) (by
      generalize (actL P).map encAct = AL at q0 ⊢
      simp [lv, q0, srcOf, cellOf]) e1
    have body : frB ⟨callF Pr Gc (d + 4), Gc⟩ (.nm 7) bHere c.a (lv ns a2 (some (.d P.a)) a4 a5 a6 a7 a8 a9 a10 a11 a12 a13 a14 a15 a16 a17) H = .nx (lv ns a2 (some (.d P.a)) a4 a5 a6 (some (.d c.a)) a8 a9 (some (.d (.str c.a.toD.shown))) b11 a12 a13 a14 a15 a16 a17) H := by
      generalize ((actL P).filter (enB P c.p c.q c.x c.y)).map encAct = FL at q2 q3 q4
      generalize c.a.toD.shown = SH at q5 fr ⊢
      simp only [lv] at fr
      unfold frB
      simp [bHere, lv, q1, q2, q3, q4, q5, -x_evIt_of, fr]
    rw [List.map_cons, forL, body]
    dsimp only
    rw [if_pos (show stillAt none _ from trivial)]
    exact e
end MP

set_option Elab.async false
set_option linter.all false
set_option maxRecDepth 100000
set_option maxHeartbeats 4000000
namespace MP
open PySem
theorem told_exc {T : GT} {m : Ex} {σ : AEnv} {h : AH} (e : evE T m σ h = .exc ⟨0, []⟩ h) : evE T (.told 0 m) σ h = .ok (.d (.tup [.str "nothing"])) h := by
  show (match evE T m σ h with
    | .ok (.d v) h => (R.ok (MV.d (.tup [.str "told", v])) h : R MV)
    | .ok (.ref _) _ => .stuck
    | .exc x h => if x.cls = 0 then R.ok (MV.d (.tup [.str "nothing"])) h else .stuck
    | .stuck => .stuck) = _
  rw [e]
  exact if_pos rfl
def tNo : AV := .tup [.str "nothing"]
theorem gd_no : Gd 1 9 tNo := by
  have r := Gd.tup (k := 0) (n := 8) (xs := [.str "nothing"]) fun v hv => by
    rw [List.mem_singleton.mp hv]
    exact gd_str (by decide +kernel) (by decide +kernel) (by decide +kernel)
  exact r
theorem ne_no : cmpop .ne tNo tNo = some false := by
  rw [k_ne, gd_no.eq (by decide)]; rfl
theorem gd_no2 : Gd 2 20 (.lst [tNo, tNo]) := gd_pair gd_no gd_no
theorem ne_no2 : cmpop .ne (.lst [tNo, tNo]) (.lst [tNo, tNo]) = some false := by
  rw [k_ne, gd_no2.eq (by decide)]; rfl
theorem mul_no : binop .mul (.lst [tNo]) (.int 2) = some (.lst [tNo, tNo]) := by
  show (if 0 ≤ (2 : Int) ∧ (2 : Int) < 2 ^ 63 ∧ [tNo].length * (2 : Int).toNat ≤ sizeLine then some (AV.lst (List.replicate (2 : Int).toNat [tNo]).flatten) else none) = _
  rw [if_pos ⟨by decide, by omega, show 1 * 2 ≤ sizeLine from Nat.le_trans (by decide) size6000⟩]
  rfl
theorem ne_ff : cmpop .ne (.bl false) (.bl false) = some false := by
  rw [k_ne, (gd_bl false).eq (by decide)]; rfl
def bThing : Sms := .cons (.set (.nm 16) (.newl (.cons (.told 0 (.call 28 (.cons (.var 3) (.cons (.var 9) .nil)))) .nil)))
  (.cons (.ex (.meth .append (.var 16) (.cons (.told 0 (.call 29 (.cons (.var 3) (.cons (.var 9) (.cons (.tup (.cons (.cS "left") (.cons (.cI 0) .nil))) .nil))))) .nil)))
  (.cons (.ifs (.or (.cmp .isn (.call 20 (.cons (.var 3) (.cons (.var 9) .nil))) (.cB false)) (.cmp .ne (.var 16) (.bin .mul (.lst (.cons (.tup (.cons (.cS "nothing") .nil)) .nil)) (.cI 2)))) (.cons (.ret (.cB false)) .nil) .nil) .nil))
theorem loop_thing (d : Nat) {P : PD} {ns : List Int} {a2 a4 a5 a6 a7 a8 a10 a11 a12 a13 a14 a15 a17 : Option MV} :
    ∀ (L : List AV) {H : AH} {a9 a16 : Option MV}, Flat H → (∀ v ∈ L, Conf P v false) → ∃ (js : AH) (b9 b16 : Option MV), Flat (H ++ js) ∧ forL (frB ⟨callF Pr Gc (d + 4), Gc⟩ (.nm 9) bThing) none L (lv ns a2 (some (.d P.a)) a4 a5 a6 a7 a8 a9 a10 a11 a12 a13 a14 a15 a16 a17) H = .nx (lv ns a2 (some (.d P.a)) a4 a5 a6 a7 a8 b9 a10 a11 a12 a13 a14 a15 b16 a17) (H ++ js)
  | [], H, a9, a16, f, _ => ⟨[], a9, a16, by rw [List.append_nil]; exact f, by rw [List.append_nil]; rfl⟩
  | v :: L, H, a9, a16, f, hL => by
    have c := hL v List.mem_cons_self
    obtain ⟨js, b9, b16, f2, e⟩ := loop_thing d L (H := H ++ [.lst [tNo, tNo]]) (a9 := some (.d v)) (a16 := some (.ref H.length)) (ns := ns) (a2 := a2) (a4 := a4) (a5 := a5) (a6 := a6) (a7 := a7) (a8 := a8) (a10 := a10) (a11 := a11) (a12 := a12) (a13 := a13) (a14 := a14) (a15 := a15) (a17 := a17) f.app fun u hu => hL u (List.mem_cons_of_mem _ hu)
    refine ⟨[.lst [tNo, tNo]] ++ js, b9, b16, by rw [← List.append_assoc]; exact f2, ?_⟩
    rw [← List.append_assoc]
    have f1 : Flat (H ++ [.lst [tNo]]) := f.app
    have f3 : Flat (H ++ [.lst [tNo, tNo]]) := f.app
    have q1 : evE ⟨callF Pr Gc (d + 4), Gc⟩ (.told 0 (.call 28 (.cons (.var 3) (.cons (.var 9) .nil)))) (lv ns a2 (some (.d P.a)) a4 a5 a6 a7 a8 (some (.d v)) a10 a11 a12 a13 a14 a15 a16 a17) H = .ok (.d tNo) H := told_exc (by
      have r := moves_raise d H f c
      simp [lv, r])
    have q2 : evE ⟨callF Pr Gc (d + 4), Gc⟩ (.told 0 (.call 29 (.cons (.var 3) (.cons (.var 9) (.cons (.tup (.cons (.cS "left") (.cons (.cI 0) .nil))) .nil))))) (lv ns a2 (some (.d P.a)) a4 a5 a6 a7 a8 (some (.d v)) a10 a11 a12 a13 a14 a15 (some (.ref H.length)) a17) (H ++ [.lst [tNo]]) = .ok (.d tNo) (H ++ [.lst [tNo]]) := told_exc (by
      have r := do_raise d (u := .tup [.str "left", .int 0]) (H ++ [.lst [tNo]]) f1 c
      generalize H ++ [.lst [tNo]] = H1 at r ⊢
      simp [lv, r])
    have q3 := c (d + 1) (H ++ [.lst [tNo, tNo]]) f3
    have ap := append_last (h := H) (xs := [tNo]) (x := tNo) (by decide)
    have ls := lstCell_last (h := H) (xs := [tNo])
    have vw : view (.ref H.length) (H ++ [.lst [tNo, tNo]]) = some (.lst [tNo, tNo]) := view_last
    have b2 : bin2 (cmpB .ne) (.ref H.length) (.d (.lst [tNo, tNo])) (H ++ [.lst [tNo, tNo]]) = .ok (.d (.bl false)) (H ++ [.lst [tNo, tNo]]) := by
      rw [bin2_r vw]
      show optV ((cmpop .ne (.lst [tNo, tNo]) (.lst [tNo, tNo])).map .bl) _ = _
      rw [ne_no2]
      rfl
    have mn := mul_no
    have body : frB ⟨callF Pr Gc (d + 4), Gc⟩ (.nm 9) bThing v (lv ns a2 (some (.d P.a)) a4 a5 a6 a7 a8 a9 a10 a11 a12 a13 a14 a15 a16 a17) H = .nx (lv ns a2 (some (.d P.a)) a4 a5 a6 a7 a8 (some (.d v)) a10 a11 a12 a13 a14 a15 (some (.ref H.length)) a17) (H ++ [.lst [tNo, tNo]]) := by
      have s1 : evS ⟨callF Pr Gc (d + 4), Gc⟩ (.set (.nm 16) (.newl (.cons (.told 0 (.call 28 (.cons (.var 3) (.cons (.var 9) .nil)))) .nil))) (lv ns a2 (some (.d P.a)) a4 a5 a6 a7 a8 (some (.d v)) a10 a11 a12 a13 a14 a15 a16 a17) H = .nx (lv ns a2 (some (.d P.a)) a4 a5 a6 a7 a8 (some (.d v)) a10 a11 a12 a13 a14 a15 (some (.ref H.length)) a17) (H ++ [.lst [tNo]]) := by
        simp [q1]
        simp [lv]
      have s2 : evS ⟨callF Pr Gc (d + 4), Gc⟩ (.ex (.meth .append (.var 16) (.cons (.told 0 (.call 29 (.cons (.var 3) (.cons (.var 9) (.cons (.tup (.cons (.cS "left") (.cons (.cI 0) .nil))) .nil))))) .nil))) (lv ns a2 (some (.d P.a)) a4 a5 a6 a7 a8 (some (.d v)) a10 a11 a12 a13 a14 a15 (some (.ref H.length)) a17) (H ++ [.lst [tNo]]) = .nx (lv ns a2 (some (.d P.a)) a4 a5 a6 a7 a8 (some (.d v)) a10 a11 a12 a13 a14 a15 (some (.ref H.length)) a17) (H ++ [.lst [tNo, tNo]]) := by
        have g : (lv ns a2 (some (.d P.a)) a4 a5 a6 a7 a8 (some (.d v)) a10 a11 a12 a13 a14 a15 (some (.ref H.length)) a17)[16]? = some (some (.ref H.length)) := rfl
        generalize (lv ns a2 (some (.d P.a)) a4 a5 a6 a7 a8 (some (.d v)) a10 a11 a12 a13 a14 a15 (some (.ref H.length)) a17) = τ at q2 g ⊢
        simp only [List.cons_append, List.nil_append] at ap
        generalize H ++ [.lst [tNo]] = H1 at q2 ap ls ⊢
        simp [g, ls, q2, ap]
      have s3 : evS ⟨callF Pr Gc (d + 4), Gc⟩ (.ifs (.or (.cmp .isn (.call 20 (.cons (.var 3) (.cons (.var 9) .nil))) (.cB false)) (.cmp .ne (.var 16) (.bin .mul (.lst (.cons (.tup (.cons (.cS "nothing") .nil)) .nil)) (.cI 2)))) (.cons (.ret (.cB false)) .nil) .nil) (lv ns a2 (some (.d P.a)) a4 a5 a6 a7 a8 (some (.d v)) a10 a11 a12 a13 a14 a15 (some (.ref H.length)) a17) (H ++ [.lst [tNo, tNo]]) = .nx (lv ns a2 (some (.d P.a)) a4 a5 a6 a7 a8 (some (.d v)) a10 a11 a12 a13 a14 a15 (some (.ref H.length)) a17) (H ++ [.lst [tNo, tNo]]) := by
        generalize H ++ [.lst [tNo, tNo]] = H2 at q3 b2 ⊢
        unfold tNo at mn b2
        simp [lv, q3, mn, b2]
      exact (y_nx s1).trans ((y_nx s2).trans ((y_nx s3).trans rfl))
    rw [forL, body]
    dsimp only
    rw [if_pos (show stillAt none _ from trivial)]
    exact e
def bNoM : Sms := .cons (.ifs (.or (.cmp .ne (.call 24 (.cons (.var 3) (.cons (.var 9) .nil))) (.call 22 (.cons (.var 3) (.cons (.var 9) .nil)))) (.cmp .ne (.told 0 (.call 29 (.cons (.var 3) (.cons (.idx (.var 6) (.cI 0)) (.cons (.var 9) .nil))))) (.tup (.cons (.cS "nothing") .nil)))) (.cons (.ret (.cB false)) .nil) .nil) .nil
theorem loop_nom (d : Nat) {P : PD} {k : Nat} {c : Cf} {PL : List AV} (i : c.In P k) {H : AH} (f : Flat H) {ns : List Int} {a2 a4 a5 a7 a8 a10 a11 a12 a13 a14 a15 a16 a17 : Option MV} :
    ∀ (L : List AV) {a9 : Option MV}, (∀ v ∈ L, NoMove P v) → ∃ b9 : Option MV, forL (frB ⟨callF Pr Gc (d + 4), Gc⟩ (.nm 9) bNoM) none L (lv ns a2 (some (.d P.a)) a4 a5 (some (.d (.lst (c.a :: PL)))) a7 a8 a9 a10 a11 a12 a13 a14 a15 a16 a17) H = .nx (lv ns a2 (some (.d P.a)) a4 a5 (some (.d (.lst (c.a :: PL)))) a7 a8 b9 a10 a11 a12 a13 a14 a15 a16 a17) H
  | [], a9, _ => ⟨a9, rfl⟩
  | v :: L, a9, hL => by
    have m := hL v List.mem_cons_self
    obtain ⟨b9, e⟩ := loop_nom d (PL := PL) i f L (a9 := some (.d v)) (ns := ns) (a2 := a2) (a4 := a4) (a5 := a5) (a7 := a7) (a8 := a8) (a10 := a10) (a11 := a11) (a12 := a12) (a13 := a13) (a14 := a14) (a15 := a15) (a16 := a16) (a17 := a17) fun u hu => hL u (List.mem_cons_of_mem _ hu)
    refine ⟨b9, ?_⟩
    have q1 := m.a (d + 1) H f
    have q2 := m.b (d + 2) H f
    have ix : idxA (.lst (c.a :: PL)) (.int 0) = some c.a := atI_get (n := 0) rfl
    have q3 : evE ⟨callF Pr Gc (d + 4), Gc⟩ (.told 0 (.call 29 (.cons (.var 3) (.cons (.idx (.var 6) (.cI 0)) (.cons (.var 9) .nil))))) (lv ns a2 (some (.d P.a)) a4 a5 (some (.d (.lst (c.a :: PL)))) a7 a8 (some (.d v)) a10 a11 a12 a13 a14 a15 a16 a17) H = .ok (.d tNo) H := told_exc (by
      have r := do_raise2 d (u := v) H f i.1.conf m
      rw [show confA c.p c.q c.x c.y = c.a from rfl] at r
      simp [lv, ix, r])
    have nn := ne_no
    have ff := ne_ff
    have body : frB ⟨callF Pr Gc (d + 4), Gc⟩ (.nm 9) bNoM v (lv ns a2 (some (.d P.a)) a4 a5 (some (.d (.lst (c.a :: PL)))) a7 a8 a9 a10 a11 a12 a13 a14 a15 a16 a17) H = .nx (lv ns a2 (some (.d P.a)) a4 a5 (some (.d (.lst (c.a :: PL)))) a7 a8 (some (.d v)) a10 a11 a12 a13 a14 a15 a16 a17) H := by
      have g3 : (lv ns a2 (some (.d P.a)) a4 a5 (some (.d (.lst (c.a :: PL)))) a7 a8 (some (.d v)) a10 a11 a12 a13 a14 a15 a16 a17)[3]? = some (some (.d P.a)) := rfl
      have g9 : (lv ns a2 (some (.d P.a)) a4 a5 (some (.d (.lst (c.a :: PL)))) a7 a8 (some (.d v)) a10 a11 a12 a13 a14 a15 a16 a17)[9]? = some (some (.d v)) := rfl
      show evSs _ bNoM (lv ns a2 (some (.d P.a)) a4 a5 (some (.d (.lst (c.a :: PL)))) a7 a8 (some (.d v)) a10 a11 a12 a13 a14 a15 a16 a17) H = _
      generalize (lv ns a2 (some (.d P.a)) a4 a5 (some (.d (.lst (c.a :: PL)))) a7 a8 (some (.d v)) a10 a11 a12 a13 a14 a15 a16 a17) = τ at q3 g3 g9 ⊢
      unfold tNo at q3 nn
      simp [bNoM, g3, g9, q1, q2, q3, nn, ff]
    rw [forL, body]
    dsimp only
    rw [if_pos (show stillAt none _ from trivial)]
    exact e
end MP

set_option Elab.async false
set_option linter.all false
set_option maxRecDepth 100000
set_option maxHeartbeats 4000000
namespace MP
open PySem
/-- letters, all the same -/
def As (n : Nat) : List Str := List.replicate n "a"
theorem As_lets {n : Nat} : Lets (As n) := fun a ha => .inl (List.eq_of_mem_replicate ha)
theorem As_len {n : Nat} : (As n).length = n := List.length_replicate
theorem flat_rep {α : Type} {a : α} : ∀ n : Nat, (List.replicate n [a]).flatten = List.replicate n a
  | 0 => rfl
  | n + 1 => by rw [List.replicate_succ, List.flatten_cons, flat_rep n, List.replicate_succ]; rfl
theorem mul_As {n : Nat} (h2 : 2 ≤ n) (h6 : n ≤ 6000) : binop .mul (.tup [.str "a"]) (.int n) = some (rowA (As n)) := by
  show (if [AV.str "a"] ≠ [] ∧ 2 ≤ (n : Int) ∧ (n : Int) ≤ 6000 ∧ [AV.str "a"].length ≤ 1000 then some (AV.tup (List.replicate (n : Int).toNat [AV.str "a"]).flatten) else none) = _
  rw [if_pos ⟨by simp, by omega, by omega, by simp⟩, Int.toNat_natCast, flat_rep]
  unfold rowA As
  rw [List.map_replicate]
theorem cut_2 {cs : List Cf} (h : cs ≠ []) : ∃ ds : List Cf, slcA (.lst (cs.map Cf.a)) (some (-2)) none = some (.lst (ds.map Cf.a)) ∧ ds ≠ [] ∧ (∀ c ∈ ds, c ∈ cs) ∧ ds.length ≤ cs.length := by
  refine ⟨cutL cs (some (-2)) none, ?_, ?_, fun c hc => List.mem_of_mem_drop (List.mem_of_mem_take hc), ?_⟩
  · show some (AV.lst (cutL (cs.map Cf.a) (some (-2)) none)) = _
    unfold cutL
    rw [List.length_map, List.map_take, List.map_drop]
  · have hl : 0 < cs.length := by
      cases cs with
      | nil => exact absurd rfl h
      | cons a b => simp
    have : 0 < (cutL cs (some (-2)) none).length := by
      have e1 : HT.sIx cs.length 0 (some (-2)) = ((-2 : Int) + (cs.length : Int)).toNat := by simp [HT.sIx]
      have e2 : HT.sIx cs.length cs.length none = cs.length := rfl
      unfold cutL
      rw [List.length_take, List.length_drop, e1, e2]
      omega
    intro e
    rw [e] at this
    exact absurd this (by decide)
  · unfold cutL
    rw [List.length_take, List.length_drop]
    omega
theorem compL_ex {i : Nat} {f : AV → AH → R (Option AV)} {Q : Cf → Prop} : ∀ {xs : List AV}, (∀ x ∈ xs, ∀ h, Flat h → Bag h i → ∃ (c : Cf) (h' : AH), f x h = .ok (some c.a) h' ∧ Q c ∧ Drawn i h h' ∧ Flat h') →
    ∀ h, Flat h → Bag h i → ∃ (L : List Cf) (h' : AH), compL f none xs h = .ok (L.map Cf.a) h' ∧ (∀ c ∈ L, Q c) ∧ L.length = xs.length ∧ Drawn i h h' ∧ Flat h'
  | [], _, h, fl, b => ⟨[], h, rfl, (fun _ z => nomatch z), rfl, Drawn.rfl' b, fl⟩
  | x :: xs, st, h, fl, b => by
    obtain ⟨c, h1, e1, q, d1, f1⟩ := st x List.mem_cons_self h fl b
    obtain ⟨L, h2, e2, hL, hl, d2, f2⟩ := compL_ex (xs := xs) (fun y hy => st y (List.mem_cons_of_mem _ hy)) h1 f1 d1.1
    refine ⟨c :: L, h2, ?_, fun u hu => ?_, by simp [hl], d1.trans d2, f2⟩
    · unfold compL
      rw [e1]
      dsimp only
      rw [if_pos (show stillAt none _ from trivial), e2]
      rfl
    · rcases List.mem_cons.mp hu with z | z
      · rw [z]; exact q
      · exact hL u z
def rowsL : List (List Str) := [[], ["a"], ["b", "a"], ["x", "y", "x"]]
theorem rowsL_ok : ∀ r ∈ rowsL, Lets r ∧ r.length ≤ 3 := by
  intro r hr
  simp only [rowsL, List.mem_cons, List.not_mem_nil, or_false] at hr
  rcases hr with rfl | rfl | rfl | rfl
  · exact ⟨(fun _ z => nomatch z), by decide⟩
  · exact ⟨fun a ha => .inl (List.mem_singleton.mp ha), by decide⟩
  · refine ⟨fun a ha => ?_, by decide⟩
    simp only [List.mem_cons, List.not_mem_nil, or_false] at ha
    rcases ha with z | z
    · exact .inr (.inl z)
    · exact .inl z
  · refine ⟨fun a ha => ?_, by decide⟩
    simp only [List.mem_cons, List.not_mem_nil, or_false] at ha
    rcases ha with z | z | z
    · exact .inr (.inr (.inl z))
    · exact .inr (.inr (.inr z))
    · exact .inr (.inr (.inl z))
theorem row_draw (d i : Nat) (h : AH) (f : Flat h) (b : Bag h i) : ∃ (r : List Str) (h' : AH), callF Pr Gc (d + 2) 3 [.ref i, .d (.lst (rowsL.map rowA))] h = .ok (.d (rowA r)) h' ∧ (Lets r ∧ r.length ≤ 3) ∧ Drawn i h h' ∧ Flat h' := by
  obtain ⟨x, h', e, hm, dr, f'⟩ := law_some d i (rowsL.map rowA) h f b (by simp [rowsL]) (by decide)
  obtain ⟨r, hr, rfl⟩ := List.mem_map.mp hm
  exact ⟨r, h', e, rowsL_ok r hr, dr, f'⟩
theorem conf_false {P : PD} {v : AV} {b : Bool} (c : Conf P v b) (e : b = false) : Conf P v false := by rw [← e]; exact c
def th1 (P : PD) (c : Cf) : List AV := [.non, .tup [], .lst [.int c.p, .int c.q, rowA c.x, rowA c.y], .tup [.int c.p, .int c.q, rowA c.x], .tup [.int c.p, .int c.q, rowA c.x, rowA c.y, .tup []], .tup [.int (P.n false), .int c.q, rowA c.x, rowA c.y], .tup [.int c.p, .int (P.n true), rowA c.x, rowA c.y], .tup [.bl true, .int c.q, rowA c.x, rowA c.y], .tup [.int (-1), .int c.q, rowA c.x, rowA c.y], .tup [.int c.p, .int c.q, .lst (c.x.map .str), rowA c.y]]
def th2 (c : Cf) : List AV := [.tup [.int c.p, .int c.q, .tup [.str "if then"], rowA c.y], .tup [.int c.p, .int c.q, .tup [.int 0], rowA c.y], .tup [.int c.p, .int c.q, rowA c.x, .non], .tup [.int c.p, .int c.q, .tup [.str "take"], rowA c.y], .tup [.int c.p, .int c.q, rowA (As 5001), rowA c.y]]
theorem th_bad {P : PD} {k : Nat} {c : Cf} (i : c.In P k) : ∀ v ∈ th1 P c ++ th2 c, Conf P v false := by
  have rx := row_lets i.1.hx (Nat.le_trans i.1.lx (by decide))
  have ry := row_lets i.1.hy (Nat.le_trans i.1.ly (by decide))
  have tb : ∀ T, ∃ b, isiA (AV.bl true) T = some b := fun T => ⟨_, rfl⟩
  intro v hv
  rcases List.mem_append.mp hv with hv | hv
  · simp only [th1, List.mem_cons, List.not_mem_nil, or_false] at hv
    rcases hv with rfl | rfl | rfl | rfl | rfl | rfl | rfl | rfl | rfl | rfl
    · exact conf_non
    · exact conf_len (by decide)
    · exact conf_lst
    · exact conf_len (by simp)
    · exact conf_len (by simp)
    · exact conf_false (conf_4 rx ry) (by rw [decide_eq_false (show ¬ P.n false < P.n false from Int.lt_irrefl _)]; simp)
    · exact conf_false (conf_4 rx ry) (by rw [decide_eq_false (show ¬ P.n true < P.n true from Int.lt_irrefl _)]; simp)
    · exact conf_fst tb (fun i z => nomatch z)
    · exact conf_false (conf_4 rx ry) (by simp)
    · exact conf_false (conf_4 row_lst ry) (by simp)
  · simp only [th2, List.mem_cons, List.not_mem_nil, or_false] at hv
    rcases hv with rfl | rfl | rfl | rfl | rfl
    · exact conf_false (conf_4 (row_one name_if) ry) (by simp)
    · exact conf_false (conf_4 (row_one name_int) ry) (by simp)
    · exact conf_false (conf_4 rx row_non) (by simp)
    · exact conf_false (conf_4 (row_one name_take) ry) (by simp)
    · exact conf_false (conf_4 (row_long As_lets (by rw [As_len]; decide) (by rw [As_len]; decide)) ry) (by simp)
def nms (P : PD) : List AV := [.non, .tup [], .tup [.str "left"], .lst [.str "left", .int 0], .tup [.str "zoo", .int 0], .tup [.str "left", .int (P.mv false).length], .tup [.str "right", .int (P.mv true).length], .tup [.str "left", .bl true], .tup [.str "left", .int (-1)], .tup [.int 0, .int 0], .tup [.str "left", .int 0, .int 0], .tup [.str "left", .non]]
theorem nms_bad {P : PD} : ∀ v ∈ nms P, NoMove P v := by
  intro v hv
  simp only [nms, List.mem_cons, List.not_mem_nil, or_false] at hv
  rcases hv with rfl | rfl | rfl | rfl | rfl | rfl | rfl | rfl | rfl | rfl | rfl | rfl
  · exact nm_non
  · exact nm_len (by decide)
  · exact nm_len (by simp)
  · exact nm_lst
  · exact nm_zoo
  · exact nm_act (w := false) (n := (P.mv false).length) (by omega)
  · exact nm_act (w := true) (n := (P.mv true).length) (by omega)
  · exact nm_snd (fun T => ⟨_, rfl⟩) (fun i z => nomatch z)
  · exact nm_act (w := false) (n := -1) (by omega)
  · exact nm_int
  · exact nm_len (by simp)
  · exact nm_snd (fun T => ⟨_, rfl⟩) (fun i z => nomatch z)
end MP

set_option Elab.async false
set_option linter.all false
set_option maxRecDepth 100000
set_option maxHeartbeats 4000000
namespace MP
open PySem
theorem Cf.In.mono {P : PD} {k k' : Nat} {c : Cf} (i : c.In P k) (h : k ≤ k') : c.In P k' := ⟨i.1, by have := i.2.1; omega, by have := i.2.2; omega⟩
def sL1 : Sm := .set (.nm 3) (.call 10 (.cons (.var 1) .nil))
def sL2 : Sm := .set (.nm 4) (.call 14 (.cons (.var 1) (.cons (.var 3) (.cons (.cI 6) (.cons (.cI 0) .nil)))))
def sL3 : Sm := .set (.nm 5) (.lst (.cons (.tup .nil) (.cons (.tup (.cons (.cS "a") .nil)) (.cons (.tup (.cons (.cS "b") (.cons (.cS "a") .nil))) (.cons (.tup (.cons (.cS "x") (.cons (.cS "y") (.cons (.cS "x") .nil)))) .nil)))))
def xDraws : Ex := .comp (.nm 17) (.rng (.cons (.cI 3) .nil)) .nil (.tup (.cons (.call 2 (.cons (.var 1) (.cons (.idx (.idx (.var 3) (.cI 0)) (.cI 0)) .nil))) (.cons (.call 2 (.cons (.var 1) (.cons (.idx (.idx (.var 3) (.cI 1)) (.cI 0)) .nil))) (.cons (.call 3 (.cons (.var 1) (.cons (.var 5) .nil))) (.cons (.call 3 (.cons (.var 1) (.cons (.var 5) .nil))) .nil))))) [17]
def sL4 : Sm := .set (.nm 6) (.bin .add (.slc (.call 23 (.cons (.var 3) (.cons (.var 4) .nil))) (.cons (.neg (.cI 2)) .nil) .nil) xDraws)
def sL5 : Sm := .fr (.nm 7) (.of (.var 6)) bHere
def sL6 : Sm := .set (.tp (.cons (.nm 12) (.cons (.nm 13) (.cons (.nm 14) (.cons (.nm 15) .nil))))) (.idx (.var 6) (.cI 0))
def sL7 : Sm := .set (.nm 8) (.lst (.cons .cN (.cons (.tup .nil) (.cons (.bi .list (.cons (.idx (.var 6) (.cI 0)) .nil)) (.cons (.tup (.cons (.var 12) (.cons (.var 13) (.cons (.var 14) .nil)))) (.cons (.tup (.cons (.var 12) (.cons (.var 13) (.cons (.var 14) (.cons (.var 15) (.cons (.tup .nil) .nil)))))) (.cons (.tup (.cons (.idx (.idx (.var 3) (.cI 0)) (.cI 0)) (.cons (.var 13) (.cons (.var 14) (.cons (.var 15) .nil))))) (.cons (.tup (.cons (.var 12) (.cons (.idx (.idx (.var 3) (.cI 1)) (.cI 0)) (.cons (.var 14) (.cons (.var 15) .nil))))) (.cons (.tup (.cons (.cB true) (.cons (.var 13) (.cons (.var 14) (.cons (.var 15) .nil))))) (.cons (.tup (.cons (.neg (.cI 1)) (.cons (.var 13) (.cons (.var 14) (.cons (.var 15) .nil))))) (.cons (.tup (.cons (.var 12) (.cons (.var 13) (.cons (.bi .list (.cons (.var 14) .nil)) (.cons (.var 15) .nil))))) .nil)))))))))))
def sL8 : Sm := .set (.nm 8) (.bin .add (.var 8) (.lst (.cons (.tup (.cons (.var 12) (.cons (.var 13) (.cons (.tup (.cons (.cS "if then") .nil)) (.cons (.var 15) .nil))))) (.cons (.tup (.cons (.var 12) (.cons (.var 13) (.cons (.tup (.cons (.cI 0) .nil)) (.cons (.var 15) .nil))))) (.cons (.tup (.cons (.var 12) (.cons (.var 13) (.cons (.var 14) (.cons .cN .nil))))) (.cons (.tup (.cons (.var 12) (.cons (.var 13) (.cons (.tup (.cons (.cS "take") .nil)) (.cons (.var 15) .nil))))) (.cons (.tup (.cons (.var 12) (.cons (.var 13) (.cons (.bin .mul (.tup (.cons (.cS "a") .nil)) (.cI 5001)) (.cons (.var 15) .nil))))) .nil)))))))
def sL9 : Sm := .fr (.nm 9) (.of (.var 8)) bThing
def xNms : Ex := .lst (.cons .cN (.cons (.tup .nil) (.cons (.tup (.cons (.cS "left") .nil)) (.cons (.lst (.cons (.cS "left") (.cons (.cI 0) .nil))) (.cons (.tup (.cons (.cS "zoo") (.cons (.cI 0) .nil))) (.cons (.tup (.cons (.cS "left") (.cons (.bi .len (.cons (.idx (.idx (.var 3) (.cI 0)) (.cI 1)) .nil)) .nil))) (.cons (.tup (.cons (.cS "right") (.cons (.bi .len (.cons (.idx (.idx (.var 3) (.cI 1)) (.cI 1)) .nil)) .nil))) (.cons (.tup (.cons (.cS "left") (.cons (.cB true) .nil))) (.cons (.tup (.cons (.cS "left") (.cons (.neg (.cI 1)) .nil))) (.cons (.tup (.cons (.cI 0) (.cons (.cI 0) .nil))) (.cons (.tup (.cons (.cS "left") (.cons (.cI 0) (.cons (.cI 0) .nil)))) (.cons (.tup (.cons (.cS "left") (.cons .cN .nil))) .nil))))))))))))
def sL10 : Sm := .fr (.nm 9) (.of xNms) bNoM
def sL11 : Sm := .ifs (.cmp .isn (.call 20 (.cons (.var 3) (.cons (.tup (.cons (.var 12) (.cons (.var 13) (.cons (.bin .mul (.tup (.cons (.cS "a") .nil)) (.cI 5000)) (.cons (.var 15) .nil))))) .nil))) (.cB true)) (.cons (.ret (.cB false)) .nil) .nil
def bLaw : Sms := .cons sL1 (.cons sL2 (.cons sL3 (.cons sL4 (.cons sL5 (.cons sL6 (.cons sL7 (.cons sL8 (.cons sL9 (.cons sL10 (.cons sL11 .nil))))))))))
theorem b30_eq : b30 = .cons (.set (.nm 1) (.call 0 (.cons (.var 0) .nil))) (.cons (.ifs (.not (.call 1 (.cons (.call 15 .nil) (.cons (.tup (.cons (.cI 0) (.cons (.cI 0) (.cons (.tup .nil) (.cons (.tup .nil) .nil))))) .nil)))) (.cons (.ret (.cB false)) .nil) .nil) (.cons (.fr (.nm 2) (.rng (.cons (.cI 4) .nil)) bLaw) (.cons (.ret (.cB true)) .nil))) := rfl
theorem lap_law (d : Nat) {ns : List Int} {x : AV} {H : AH} (f : Flat H) (b : Bag H 0) {a2 a3 a4 a5 a6 a7 a8 a9 a10 a11 a12 a13 a14 a15 a16 : Option MV} :
    ∃ (H' : AH) (b3 b4 b5 b6 b7 b8 b9 b10 b11 b12 b13 b14 b15 b16 : Option MV), Flat H' ∧ Bag H' 0 ∧ frB ⟨callF Pr Gc (d + 4), Gc⟩ (.nm 2) bLaw x (lv ns a2 a3 a4 a5 a6 a7 a8 a9 a10 a11 a12 a13 a14 a15 a16 none) H = .nx (lv ns (some (.d x)) b3 b4 b5 b6 b7 b8 b9 b10 b11 b12 b13 b14 b15 b16 none) H' := by
  obtain ⟨P, H1, o, h10, e1, d1, f1⟩ := talk_spec d 0 H f b
  obtain ⟨r, cl, H2, e2, al, hr, d2, f2⟩ := drawn_spec (d + 1) o 0 H1 f1 d1.1
  obtain ⟨cs, hcs, hlen, hin, e3⟩ := played_spec (d + 1) o H2 f2 al (by omega)
  obtain ⟨ds, e4, hds, hsub, hdl⟩ := cut_2 hcs
  -- the drawn ones
  have n0 := o.n0
  have n1 := o.n1
  obtain ⟨L, H3, e5, hL, hLl, d3, f3⟩ := compL_ex (i := 0) (Q := fun c => c.In P 10) (f := turn ⟨callF Pr Gc (d + 4), Gc⟩ (.nm 17) .nil (.tup (.cons (.call 2 (.cons (.var 1) (.cons (.idx (.idx (.var 3) (.cI 0)) (.cI 0)) .nil))) (.cons (.call 2 (.cons (.var 1) (.cons (.idx (.idx (.var 3) (.cI 1)) (.cI 0)) .nil))) (.cons (.call 3 (.cons (.var 1) (.cons (.var 5) .nil))) (.cons (.call 3 (.cons (.var 1) (.cons (.var 5) .nil))) .nil))))) (lv ns (some (.d x)) (some (.d P.a)) (some (.d (.tup (r.map encAct)))) (some (.d (.lst (rowsL.map rowA)))) a6 a7 a8 a9 a10 a11 a12 a13 a14 a15 a16 none)) (xs := (List.range 3).map fun (k : Nat) => AV.int k) (fun y hy h fh bh => by
    obtain ⟨p, h1, q1, p0, p1, g1, k1⟩ := law_take (d + 3) 0 (P.n false) h fh bh (by omega) (by omega)
    obtain ⟨q, h2, q2, q0, q1', g2, k2⟩ := law_take (d + 3) 0 (P.n true) h1 k1 g1.1 (by omega) (by omega)
    obtain ⟨rx, h3, q3, ⟨lx, ll⟩, g3, k3⟩ := row_draw (d + 2) 0 h2 k2 g2.1
    obtain ⟨ry, h4, q4, ⟨ly, lm⟩, g4, k4⟩ := row_draw (d + 2) 0 h3 k3 g3.1
    refine ⟨⟨p, q, rx, ry⟩, h4, ?_, ⟨⟨p0, p1, q0, q1', lx, ly, by show rx.length ≤ 900; omega, by show ry.length ≤ 900; omega⟩, by show rx.length ≤ 10; omega, by show ry.length ≤ 10; omega⟩, ((g1.trans g2).trans g3).trans g4, k4⟩
    generalize rowsL.map rowA = RL at q3 q4 ⊢
    simp [turn, lv, q1, q2, q3, q4, Cf.a, confA]) H2 f2 d2.1
  have x5 : evE ⟨callF Pr Gc (d + 4), Gc⟩ xDraws (lv ns (some (.d x)) (some (.d P.a)) (some (.d (.tup (r.map encAct)))) (some (.d (.lst (rowsL.map rowA)))) a6 a7 a8 a9 a10 a11 a12 a13 a14 a15 a16 none) H2 = .ok (.d (.lst (L.map Cf.a))) H3 :=
    x_comp (h1 := H2) (s := ⟨(List.range 3).map fun (k : Nat) => AV.int k, none⟩) (it_rng (n := 3) (by simp [lv]) (by decide)) e5 (by rw [List.length_map, hLl]; simp; exact Nat.le_trans (by decide) size6000)
  have ad : binop .add (.lst (ds.map Cf.a)) (.lst (L.map Cf.a)) = some (.lst ((ds ++ L).map Cf.a)) := by
    rw [addL (by simp at hLl ⊢; omega), List.map_append]
  have inP : ∀ c ∈ ds ++ L, c.In P 10 := fun c hc => by
    rcases List.mem_append.mp hc with z | z
    · exact (hin c (hsub c z)).mono (by omega)
    · exact hL c z
  obtain ⟨c, ds', rfl⟩ : ∃ c ds', ds = c :: ds' := by
    cases ds with
    | nil => exact absurd rfl hds
    | cons a b => exact ⟨a, b, rfl⟩
  have ic := inP c (List.mem_append_left _ List.mem_cons_self)
  let PL : List Cf := ds' ++ L
  obtain ⟨b7, b10, b11, e7⟩ := loop_here d o (k := 10) (by decide) (H := H3) f3 (ns := ns) (a2 := some (.d x)) (a4 := some (.d (.tup (r.map encAct)))) (a5 := some (.d (.lst (rowsL.map rowA)))) (a6 := some (.d (.lst ((c :: PL).map Cf.a)))) (a8 := a8) (a9 := a9) (a12 := a12) (a13 := a13) (a14 := a14) (a15 := a15) (a16 := a16) (a17 := none) (c :: PL) (a7 := a7) (a10 := a10) (a11 := a11) inP
  obtain ⟨js, b9, b16, f9, e9⟩ := loop_thing d (P := P) (th1 P c ++ th2 c) (H := H3) (ns := ns) (a2 := some (.d x)) (a4 := some (.d (.tup (r.map encAct)))) (a5 := some (.d (.lst (rowsL.map rowA)))) (a6 := some (.d (.lst ((c :: PL).map Cf.a)))) (a7 := b7) (a8 := some (.d (.lst (th1 P c ++ th2 c)))) (a9 := a9) (a10 := b10) (a11 := b11) (a12 := some (.d (.int c.p))) (a13 := some (.d (.int c.q))) (a14 := some (.d (rowA c.x))) (a15 := some (.d (rowA c.y))) (a16 := a16) (a17 := none) f3 (th_bad ic)
  obtain ⟨c9, e10⟩ := loop_nom d (P := P) (c := c) (PL := PL.map Cf.a) ic f9 (ns := ns) (a2 := some (.d x)) (a4 := some (.d (.tup (r.map encAct)))) (a5 := some (.d (.lst (rowsL.map rowA)))) (a7 := b7) (a8 := some (.d (.lst (th1 P c ++ th2 c)))) (a10 := b10) (a11 := b11) (a12 := some (.d (.int c.p))) (a13 := some (.d (.int c.q))) (a14 := some (.d (rowA c.x))) (a15 := some (.d (rowA c.y))) (a16 := b16) (a17 := none) (nms P) (a9 := b9) nms_bad
  have cf : Conf P (.tup [.int c.p, .int c.q, rowA (As 5000), rowA c.y]) true := by
    have z := conf_4 (P := P) (p := c.p) (q := c.q) (row_lets (x := As 5000) As_lets (by rw [As_len]; exact Nat.le_refl _)) (row_lets ic.1.hy (Nat.le_trans ic.1.ly (by decide)))
    rw [decide_eq_true ic.1.p0, decide_eq_true ic.1.p1, decide_eq_true ic.1.q0, decide_eq_true ic.1.q1] at z
    exact z
  have e11 := cf (d + 1) (H3 ++ js) f9
  have m0 := mul_As (n := 5000) (by decide) (by decide)
  have m1 := mul_As (n := 5001) (by decide) (by decide)
  refine ⟨H3 ++ js, some (.d P.a), some (.d (.tup (r.map encAct))), some (.d (.lst (rowsL.map rowA))), some (.d (.lst ((c :: PL).map Cf.a))), b7, some (.d (.lst (th1 P c ++ th2 c))), c9, b10, b11, some (.d (.int c.p)), some (.d (.int c.q)), some (.d (rowA c.x)), some (.d (rowA c.y)), b16, f9, bag_app d3.1, ?_⟩
  have s1 : evS ⟨callF Pr Gc (d + 4), Gc⟩ sL1 (lv ns (some (.d x)) a3 a4 a5 a6 a7 a8 a9 a10 a11 a12 a13 a14 a15 a16 none) H = .nx (lv ns (some (.d x)) (some (.d P.a)) a4 a5 a6 a7 a8 a9 a10 a11 a12 a13 a14 a15 a16 none) H1 := by
    simp [sL1, lv, e1]
  have s2 : evS ⟨callF Pr Gc (d + 4), Gc⟩ sL2 (lv ns (some (.d x)) (some (.d P.a)) a4 a5 a6 a7 a8 a9 a10 a11 a12 a13 a14 a15 a16 none) H1 = .nx (lv ns (some (.d x)) (some (.d P.a)) (some (.d (.tup (r.map encAct)))) a5 a6 a7 a8 a9 a10 a11 a12 a13 a14 a15 a16 none) H2 := by
    simp [sL2, lv, e2]
  have s3 : evS ⟨callF Pr Gc (d + 4), Gc⟩ sL3 (lv ns (some (.d x)) (some (.d P.a)) (some (.d (.tup (r.map encAct)))) a5 a6 a7 a8 a9 a10 a11 a12 a13 a14 a15 a16 none) H2 = .nx (lv ns (some (.d x)) (some (.d P.a)) (some (.d (.tup (r.map encAct)))) (some (.d (.lst (rowsL.map rowA)))) a6 a7 a8 a9 a10 a11 a12 a13 a14 a15 a16 none) H2 := by
    simp [sL3, lv, rowsL, rowA]
  have s4 : evS ⟨callF Pr Gc (d + 4), Gc⟩ sL4 (lv ns (some (.d x)) (some (.d P.a)) (some (.d (.tup (r.map encAct)))) (some (.d (.lst (rowsL.map rowA)))) a6 a7 a8 a9 a10 a11 a12 a13 a14 a15 a16 none) H2 = .nx (lv ns (some (.d x)) (some (.d P.a)) (some (.d (.tup (r.map encAct)))) (some (.d (.lst (rowsL.map rowA)))) (some (.d (.lst ((c :: PL).map Cf.a)))) a7 a8 a9 a10 a11 a12 a13 a14 a15 a16 none) H3 := by
    have ad' : binop .add (.lst ((c :: ds').map Cf.a)) (.lst (L.map Cf.a)) = some (.lst ((c :: PL).map Cf.a)) := ad
    generalize (c :: ds').map Cf.a = A1 at e4 ad'
    generalize (c :: PL).map Cf.a = A2 at ad' ⊢
    generalize L.map Cf.a = A3 at ad' x5
    generalize cs.map Cf.a = A4 at e3 e4
    generalize rowsL.map rowA = A5 at x5 ⊢
    simp only [lv] at x5
    simp [sL4, lv, e3, e4, x5, ad']
  have s5 : evS ⟨callF Pr Gc (d + 4), Gc⟩ sL5 (lv ns (some (.d x)) (some (.d P.a)) (some (.d (.tup (r.map encAct)))) (some (.d (.lst (rowsL.map rowA)))) (some (.d (.lst ((c :: PL).map Cf.a)))) a7 a8 a9 a10 a11 a12 a13 a14 a15 a16 none) H3 = _ := y_fr (s := ⟨(c :: PL).map Cf.a, none⟩) (h1 := H3) (by
    generalize (c :: PL).map Cf.a = A2
    simp [lv, srcOf, cellOf]) e7
  have ix : idxA (.lst ((c :: PL).map Cf.a)) (.int 0) = some c.a := atI_get (n := 0) rfl
  have s6 : evS ⟨callF Pr Gc (d + 4), Gc⟩ sL6 (lv ns (some (.d x)) (some (.d P.a)) (some (.d (.tup (r.map encAct)))) (some (.d (.lst (rowsL.map rowA)))) (some (.d (.lst ((c :: PL).map Cf.a)))) b7 a8 a9 b10 b11 a12 a13 a14 a15 a16 none) H3 = .nx (lv ns (some (.d x)) (some (.d P.a)) (some (.d (.tup (r.map encAct)))) (some (.d (.lst (rowsL.map rowA)))) (some (.d (.lst ((c :: PL).map Cf.a)))) b7 a8 a9 b10 b11 (some (.d (.int c.p))) (some (.d (.int c.q))) (some (.d (rowA c.x))) (some (.d (rowA c.y))) a16 none) H3 := by
    generalize (c :: PL).map Cf.a = A2 at ix ⊢
    simp [sL6, lv, ix, Cf.a, asg_cf]
  have lr : biF .list [rowA c.x] = some (.lst (c.x.map .str)) := rfl
  have s7 : evS ⟨callF Pr Gc (d + 4), Gc⟩ sL7 (lv ns (some (.d x)) (some (.d P.a)) (some (.d (.tup (r.map encAct)))) (some (.d (.lst (rowsL.map rowA)))) (some (.d (.lst ((c :: PL).map Cf.a)))) b7 a8 a9 b10 b11 (some (.d (.int c.p))) (some (.d (.int c.q))) (some (.d (rowA c.x))) (some (.d (rowA c.y))) a16 none) H3 = .nx (lv ns (some (.d x)) (some (.d P.a)) (some (.d (.tup (r.map encAct)))) (some (.d (.lst (rowsL.map rowA)))) (some (.d (.lst ((c :: PL).map Cf.a)))) b7 (some (.d (.lst (th1 P c)))) a9 b10 b11 (some (.d (.int c.p))) (some (.d (.int c.q))) (some (.d (rowA c.x))) (some (.d (rowA c.y))) a16 none) H3 := by
    generalize (c :: PL).map Cf.a = A2 at ix ⊢
    simp [sL7, lv, ix, Cf.a, lst_conf, lr, th1]
  have s8 : evS ⟨callF Pr Gc (d + 4), Gc⟩ sL8 (lv ns (some (.d x)) (some (.d P.a)) (some (.d (.tup (r.map encAct)))) (some (.d (.lst (rowsL.map rowA)))) (some (.d (.lst ((c :: PL).map Cf.a)))) b7 (some (.d (.lst (th1 P c)))) a9 b10 b11 (some (.d (.int c.p))) (some (.d (.int c.q))) (some (.d (rowA c.x))) (some (.d (rowA c.y))) a16 none) H3 = .nx (lv ns (some (.d x)) (some (.d P.a)) (some (.d (.tup (r.map encAct)))) (some (.d (.lst (rowsL.map rowA)))) (some (.d (.lst ((c :: PL).map Cf.a)))) b7 (some (.d (.lst (th1 P c ++ th2 c)))) a9 b10 b11 (some (.d (.int c.p))) (some (.d (.int c.q))) (some (.d (rowA c.x))) (some (.d (rowA c.y))) a16 none) H3 := by
    have al2 : binop .add (.lst (th1 P c)) (.lst (th2 c)) = some (.lst (th1 P c ++ th2 c)) := addL (by simp [th1, th2])
    unfold th2 at al2 ⊢
    generalize As 5001 = B1 at m1 al2 ⊢
    simp only [Int.cast_ofNat_Int] at m1
    simp [sL8, lv, m1, al2]
  have s9 : evS ⟨callF Pr Gc (d + 4), Gc⟩ sL9 (lv ns (some (.d x)) (some (.d P.a)) (some (.d (.tup (r.map encAct)))) (some (.d (.lst (rowsL.map rowA)))) (some (.d (.lst ((c :: PL).map Cf.a)))) b7 (some (.d (.lst (th1 P c ++ th2 c)))) a9 b10 b11 (some (.d (.int c.p))) (some (.d (.int c.q))) (some (.d (rowA c.x))) (some (.d (rowA c.y))) a16 none) H3 = _ := y_fr (s := ⟨th1 P c ++ th2 c, none⟩) (h1 := H3) (by
    generalize th1 P c ++ th2 c = A2
    simp [lv, srcOf, cellOf]) e9
  have s10 : evS ⟨callF Pr Gc (d + 4), Gc⟩ sL10 (lv ns (some (.d x)) (some (.d P.a)) (some (.d (.tup (r.map encAct)))) (some (.d (.lst (rowsL.map rowA)))) (some (.d (.lst ((c :: PL).map Cf.a)))) b7 (some (.d (.lst (th1 P c ++ th2 c)))) b9 b10 b11 (some (.d (.int c.p))) (some (.d (.int c.q))) (some (.d (rowA c.x))) (some (.d (rowA c.y))) b16 none) (H3 ++ js) = _ := y_fr (s := ⟨nms P, none⟩) (h1 := H3 ++ js) (by
    simp [lv, xNms, srcOf, cellOf, nms]) e10
  have s11 : evS ⟨callF Pr Gc (d + 4), Gc⟩ sL11 (lv ns (some (.d x)) (some (.d P.a)) (some (.d (.tup (r.map encAct)))) (some (.d (.lst (rowsL.map rowA)))) (some (.d (.lst ((c :: PL).map Cf.a)))) b7 (some (.d (.lst (th1 P c ++ th2 c)))) c9 b10 b11 (some (.d (.int c.p))) (some (.d (.int c.q))) (some (.d (rowA c.x))) (some (.d (rowA c.y))) b16 none) (H3 ++ js) = .nx (lv ns (some (.d x)) (some (.d P.a)) (some (.d (.tup (r.map encAct)))) (some (.d (.lst (rowsL.map rowA)))) (some (.d (.lst ((c :: PL).map Cf.a)))) b7 (some (.d (.lst (th1 P c ++ th2 c)))) c9 b10 b11 (some (.d (.int c.p))) (some (.d (.int c.q))) (some (.d (rowA c.x))) (some (.d (rowA c.y))) b16 none) (H3 ++ js) := by
    generalize As 5000 = B1 at m0 e11
    generalize H3 ++ js = HH at e11 ⊢
    simp only [Int.cast_ofNat_Int] at m0
    simp [sL11, lv, m0, e11]
  show evSs _ bLaw (lv ns (some (.d x)) a3 a4 a5 a6 a7 a8 a9 a10 a11 a12 a13 a14 a15 a16 none) H = _
  exact (y_nx s1).trans ((y_nx s2).trans ((y_nx s3).trans ((y_nx s4).trans ((y_nx s5).trans ((y_nx s6).trans ((y_nx s7).trans ((y_nx s8).trans ((y_nx s9).trans ((y_nx s10).trans ((y_nx s11).trans rfl))))))))))
theorem loop_law (d : Nat) {ns : List Int} : ∀ (xs : List AV) {H : AH} {a2 a3 a4 a5 a6 a7 a8 a9 a10 a11 a12 a13 a14 a15 a16 : Option MV}, Flat H → Bag H 0 →
    ∃ (σ : AEnv) (H' : AH), forL (frB ⟨callF Pr Gc (d + 4), Gc⟩ (.nm 2) bLaw) none xs (lv ns a2 a3 a4 a5 a6 a7 a8 a9 a10 a11 a12 a13 a14 a15 a16 none) H = .nx σ H'
  | [], H, a2, a3, a4, a5, a6, a7, a8, a9, a10, a11, a12, a13, a14, a15, a16, _, _ => ⟨_, H, rfl⟩
  | x :: xs, H, a2, a3, a4, a5, a6, a7, a8, a9, a10, a11, a12, a13, a14, a15, a16, f, b => by
    obtain ⟨H1, b3, b4, b5, b6, b7, b8, b9, b10, b11, b12, b13, b14, b15, b16, f1, b1, e⟩ := lap_law d (ns := ns) (x := x) f b (a2 := a2) (a3 := a3) (a4 := a4) (a5 := a5) (a6 := a6) (a7 := a7) (a8 := a8) (a9 := a9) (a10 := a10) (a11 := a11) (a12 := a12) (a13 := a13) (a14 := a14) (a15 := a15) (a16 := a16)
    obtain ⟨σ, H2, e2⟩ := loop_law d xs (ns := ns) (H := H1) (a2 := some (.d x)) (a3 := b3) (a4 := b4) (a5 := b5) (a6 := b6) (a7 := b7) (a8 := b8) (a9 := b9) (a10 := b10) (a11 := b11) (a12 := b12) (a13 := b13) (a14 := b14) (a15 := b15) (a16 := b16) f1 b1
    refine ⟨σ, H2, ?_⟩
    rw [forL, e]
    dsimp only
    rw [if_pos (show stillAt none _ from trivial)]
    exact e2
theorem law_spec (d : Nat) (ns : List Int) (hl : ns.length ≤ 63) : ∃ h', callF Pr Gc (d + 5) 30 [.d (.scr ns)] [] = .ok (.d (.bl true)) h' := by
  obtain ⟨H, e0, b, f, hl1⟩ := bag_spec (d + 3) ns hl
  have e1 := begin_spec (d + 3) H f
  have g := gd_conf (p := 0) (q := 0) (x := []) (y := []) (by decide) (by decide) (by decide) (by decide) (fun _ z => nomatch z) (fun _ z => nomatch z) (by decide) (by decide)
  have e2 := alike_tup (d + 3) (xs := [.int 0, .int 0, .tup [], .tup []]) g (by decide) (by decide) H f
  obtain ⟨σ, H2, e3⟩ := loop_law d (ns := ns) ((List.range 4).map fun (k : Nat) => AV.int k) (H := H) (a2 := none) (a3 := none) (a4 := none) (a5 := none) (a6 := none) (a7 := none) (a8 := none) (a9 := none) (a10 := none) (a11 := none) (a12 := none) (a13 := none) (a14 := none) (a15 := none) (a16 := none) f b
  have s1 : evS ⟨callF Pr Gc (d + 4), Gc⟩ (.set (.nm 1) (.call 0 (.cons (.var 0) .nil))) (startA 18 [.d (.scr ns)]) [] = .nx (lv ns none none none none none none none none none none none none none none none none) H := by
    simp [startA, e0, lv]
  have s2 : evS ⟨callF Pr Gc (d + 4), Gc⟩ (.ifs (.not (.call 1 (.cons (.call 15 .nil) (.cons (.tup (.cons (.cI 0) (.cons (.cI 0) (.cons (.tup .nil) (.cons (.tup .nil) .nil))))) .nil)))) (.cons (.ret (.cB false)) .nil) .nil) (lv ns none none none none none none none none none none none none none none none none) H = .nx (lv ns none none none none none none none none none none none none none none none none) H := by
    simp [e1, e2]
  have s3 : evS ⟨callF Pr Gc (d + 4), Gc⟩ (.fr (.nm 2) (.rng (.cons (.cI 4) .nil)) bLaw) (lv ns none none none none none none none none none none none none none none none none) H = _ := y_fr (it_rng (n := 4) (by simp) (by decide)) e3
  have all : evSs ⟨callF Pr Gc (d + 4), Gc⟩ b30 (startA 18 [.d (.scr ns)]) [] = .rt (.d (.bl true)) H2 := by
    rw [b30_eq]
    exact (y_nx s1).trans ((y_nx s2).trans ((y_nx s3).trans (y_rt (by simp))))
  refine ⟨[], ?_⟩
  rw [callF_succ]
  show (if [MV.d (.scr ns)].length = 1 then finS false 0 (evSs ⟨callF Pr Gc (d + 4), Gc⟩ b30 (startA 18 [.d (.scr ns)]) []) else .stuck) = _
  rw [if_pos (show [MV.d (.scr ns)].length = 1 from rfl), all]
  rfl
end MP

set_option Elab.async false
set_option maxRecDepth 100000 in
set_option maxHeartbeats 8000000 in
theorem PySem.Challenge.cw_turntalk_k25_configurations_and_moves_holds : PySem.Challenge.rw_turntalk_k25_configurations_and_moves.Holds := by
  exact MP.holds_of fun ns hl _ => MP.law_spec 15 ns hl
