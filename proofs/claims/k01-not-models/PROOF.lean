import PyProof.Rows.All
import Wide.All
import OpenK.AllK
import Wide.FinOn
import HandS.ForMost
import HandS.IsInst
import HandS.Wide
import HandS.TupAny
import HandS.TupMul
import HandS.Exc
import HandS.WordsExc
import HandS.Flow
import HandS.Defaults
import HandS.Zip
import PyProof.Draws
import KE.GoesEnum
import HandS.Style
import KE.KStateDown
import HandS.Ends
import HandS.Head0
import HandS.Head1
import HandS.Head2
import HandS.HeadEnd
import HandS.HeadHook1
import HandS.HeadHook2
import PySem.Challenge.RW_unitlogic_k01_not_models
set_option Elab.async false
set_option linter.all false
set_option maxRecDepth 100000
/-! UA: a small language over plain data (numbers, texts, tuples as values; what changes stands in a list of objects), and what its terms give. -/
namespace U
open PySem

inductive D where
  | non | bl (b : Bool) | int (i : Int) | str (x : Str)
  | tup (xs : List D) | lst (xs : List D) | dct (ks vs : List D) | ins (c : Str) (fs : List Str) (vs : List D)
  | ref (i : Nat) | ty (n : String) | glo (x : Str) | exc (c : Str)
  deriving Inhabited

/-- an object that may change -/
inductive DO where
  | lst (xs : List D) | dct (ks vs : List D) | ins (c : Str) (fs : List Str) (vs : List D)

abbrev Hd := List DO
abbrev Tau := List (Option D)

inductive Out (α : Type) where
  | ok (a : α) (G : Hd) | exc (c : Str) (G : Hd) | bad

def Out.then {α β : Type} (o : Out α) (f : α → Hd → Out β) : Out β := match o with
  | .ok a G => f a G
  | .exc c G => .exc c G
  | .bad => .bad
@[simp] theorem Out.then_ok {α β : Type} (a : α) (G : Hd) (f : α → Hd → Out β) : (Out.ok a G).then f = f a G := rfl
@[simp] theorem Out.then_exc {α β : Type} (c : Str) (G : Hd) (f : α → Hd → Out β) : (Out.exc c G).then f = .exc c G := rfl
@[simp] theorem Out.then_bad {α β : Type} (f : α → Hd → Out β) : (Out.bad).then f = .bad := rfl

abbrev line : Nat := 16777216

inductive BOp where
  | add | sub | mul | fdiv | mod | pow
inductive COp where
  | eq | ne | lt | le | gt | ge | isn | notn | isin | nin
/-- built-in functions by value -/
inductive BI where
  | len | abs | isi | all | any | sum | tuple | list | dict | int | str | min | max
/-- targets of names -/
inductive MT where
  | nam (i : Nat) | tp0 | tpc (t r : MT)

mutual
inductive ME where
  | var (i : Nat) | con (d : D) | tup (es : MEs) | lst (es : MEs) | dct (kvs : MEs)
  | alloc (e : ME)
  | bin (o : BOp) (a b : ME) | neg (a : ME) | not (a : ME) | and (a b : ME) | or (a b : ME) | ifx (c : MB) (a b : ME)
  | cmp (o : COp) (a b : ME) | chain (o p : COp) (a b c : ME)
  | ix (a i : ME) | sl (a : ME) (lo hi : MO)
  | call (f : Str) (es : MEs) | bi (b : BI) (es : MEs)
  | get (o k d : ME) | append (o e : ME) | extend (o e : ME)
  | lc (e : ME) (t : MT) (it : MI) (c : MB) (own : List Nat)
inductive MEs where
  | nil | cons (e : ME) (es : MEs)
/-- an end of a slice -/
inductive MO where
  | no | yes (e : ME)
/-- tests -/
inductive MB where
  | val (e : ME) | not (t : MB) | and (t u : MB) | or (t u : MB) | ifx (c t u : MB) | yes
inductive MI where
  | val (e : ME) | rng1 (a : ME) | rng2 (a b : ME) | enum (e : ME) | zip (a b : ME)
end

mutual
inductive MS where
  | set (t : MT) (e : ME) | par (is : List Nat) (es : MEs) | setix (o i e : ME)
  | aug (i : Nat) (o : BOp) (e : ME)
  | iff (c : MB) (a b : MSs) | whl (c : MB) (b : MSs) | forr (t : MT) (it : MI) (b : MSs)
  | ret (e : ME) | exp (e : ME) | pass | never
inductive MSs where
  | nil | cons (s : MS) (ss : MSs)
end

/-! ### values -/
mutual
def toPy : D → Option PyData
  | .non => some .none
  | .bl b => some (.bool b)
  | .int i => some (.int i)
  | .str x => some (.str x)
  | .tup xs => (toPys xs).map .tuple
  | .lst xs => (toPys xs).map .list
  | _ => none
def toPys : List D → Option (List PyData)
  | [] => some []
  | d :: ds => match toPy d, toPys ds with
    | some x, some xs => some (x :: xs)
    | _, _ => none
end
/-- .. a list that may change among them -/
def toPyG (G : Hd) : D → Option PyData
  | .ref i => match G[i]? with
    | some (.lst ds) => (toPys ds).map .list
    | _ => none
  | d => toPy d

def eqD (G : Hd) (a b : D) : Option Bool := match toPyG G a, toPyG G b with
  | some x, some y => if SeqAt.shaped x && SeqAt.shaped y then some (PyData.eqv x y) else none
  | _, _ => none

/-- a list's items; a sequence's -/
def listD (G : Hd) : D → Option (List D)
  | .lst xs => some xs
  | .ref i => match G[i]? with
    | some (.lst xs) => some xs
    | _ => none
  | _ => none
def seqD (G : Hd) : D → Option (List D)
  | .tup xs => some xs
  | d => listD G d

def truD (G : Hd) : D → Option Bool
  | .non => some false
  | .bl b => some b
  | .int i => some (i != 0)
  | .str x => if x.length ≤ line then some ((x.length : Int) != 0) else none
  | .tup xs => some (!xs.isEmpty)
  | d => (listD G d).map fun xs => !xs.isEmpty

def lenD (G : Hd) : D → Option Nat
  | .str x => if x.length ≤ line then some x.length else none
  | d => (seqD G d).map List.length

def flatD : D → Bool
  | .non => true
  | .bl _ => true
  | .int _ => true
  | .str _ => true
  | _ => false
def flatEq : D → D → Bool
  | .non, .non => true
  | .bl a, .bl b => a == b
  | .bl a, .int b => (if a then 1 else 0) == b
  | .int a, .bl b => a == (if b then 1 else 0)
  | .int a, .int b => a == b
  | .str a, .str b => a == b
  | _, _ => false
def mulOk (i j : Int) : Bool := decide (i.natAbs < 2 ^ 64) || decide (j.natAbs < 2 ^ 64) || decide (i.natAbs.log2 + j.natAbs.log2 < 1000000)
def divOk (j : Int) : Bool := decide (j ≠ 0) && decide (j.natAbs.log2 < 9000)
def powOk (i j : Int) : Bool := decide (0 ≤ j) && decide (j ≤ 1000000) && decide (i.natAbs < 2 ^ 64)

def binD (G : Hd) : BOp → D → D → Option D
  | .add, .int i, .int j => some (.int (i + j))
  | .add, .str x, .str y => if x.length + y.length ≤ line then some (.str (x ++ y)) else none
  | .add, .tup xs, .tup ys => if xs.length + ys.length ≤ line then some (.tup (xs ++ ys)) else none
  | .add, x, y => match listD G x, listD G y with
    | some xs, some ys => if xs.length + ys.length ≤ line then some (.lst (xs ++ ys)) else none
    | _, _ => none
  | .sub, .int i, .int j => some (.int (i - j))
  | .mul, .int i, .int j => if mulOk i j then some (.int (i * j)) else none
  | .mul, .tup xs, .int n => if !xs.isEmpty && (decide (xs.length ≤ 1000) && (decide (2 ≤ n) && decide (n ≤ 1000))) then some (.tup (List.replicate n.toNat xs).flatten) else none
  | .fdiv, .int i, .int j => if divOk j then some (.int (i.fdiv j)) else none
  | .mod, .int i, .int j => if j ≠ 0 then some (.int (i.fmod j)) else none
  | .pow, .int i, .int j => if powOk i j then some (.int (i ^ j.toNat)) else none
  | _, _, _ => none

def keyD : D → Bool
  | .int _ => true
  | .str _ => true
  | _ => false
def keyEq : D → D → Bool
  | .int i, .int j => decide (i = j)
  | .str x, .str y => decide (x = y)
  | _, _ => false
/-- a dict's value -/
def dictGet : List D → List D → D → Option D
  | k :: ks, v :: vs, x => if keyEq k x then some v else dictGet ks vs x
  | _, _, _ => none
/-- .. stored: at its place, or behind all -/
def swapV (x y : D) : List D → List D → List D
  | k :: ks, v :: vs => (if keyEq k x then y else v) :: swapV x y ks vs
  | _, _ => []
def dictPut (ks vs : List D) (x y : D) : List D × List D := if ks.any (fun k => keyEq k x) then (ks, swapV x y ks vs) else (ks ++ [x], vs ++ [y])
def dictOf (G : Hd) : D → Option (List D × List D)
  | .dct ks vs => some (ks, vs)
  | .ref i => match G[i]? with
    | some (.dct ks vs) => some (ks, vs)
    | _ => none
  | _ => none
/-- x in y -/
def signOf : D → Option Nat
  | .str c => match c.cps.toList with
    | [k] => some k
    | _ => none
  | _ => none
def inSeq (x : D) (ys : List D) : Option Bool := if flatD x && ys.all flatD then some (ys.any fun z => flatEq z x) else none
def inD (G : Hd) (x y : D) : Option Bool := match y with
  | .str z => (signOf x).map fun k => decide (k ∈ z.cps.toList)
  | y => match dictOf G y with
    | some (ks, vs) => if keyD x then some (dictGet ks vs x).isSome else none
    | none => (seqD G y).bind (inSeq x)
def ixSeq (xs : List D) : D → Option D
  | .int j => (L2.ixN xs.length j).bind fun k => xs[k]?
  | _ => none
def ixD (G : Hd) (a i : D) : Option D := match a with
  | .str x => match i with
    | .int j => if x.length ≤ line then (L2.ixN x.length j).bind fun k => x.cps.toList[k]?.map fun c => .str ⟨#[c]⟩ else none
    | _ => none
  | a => match dictOf G a with
    | some (ks, vs) => if keyD i then dictGet ks vs i else none
    | none => (seqD G a).bind fun xs => ixSeq xs i
def isNonD : D → Bool
  | .non => true
  | _ => false
def cmpD (G : Hd) : COp → D → D → Option Bool
  | .eq, x, y => eqD G x y
  | .ne, x, y => (eqD G x y).map (!·)
  | .lt, .int i, .int j => some (decide (i < j))
  | .le, .int i, .int j => some (decide (i ≤ j))
  | .gt, .int i, .int j => some (decide (j < i))
  | .ge, .int i, .int j => some (decide (j ≤ i))
  | .lt, .str x, .str y => some (decide (x.cps.toList < y.cps.toList))
  | .isn, x, .non => some (isNonD x)
  | .notn, x, .non => some (!isNonD x)
  | .isin, x, y => inD G x y
  | .nin, x, y => (inD G x y).map (!·)
  | _, _, _ => none

def cutD (xs : List D) (lo hi : Option Int) : List D := (xs.drop (HT.sIx xs.length 0 lo)).take (HT.sIx xs.length xs.length hi - HT.sIx xs.length 0 lo)
def slD (G : Hd) (a : D) (lo hi : Option Int) : Option D := match a with
  | .tup xs => some (.tup (cutD xs lo hi))
  | a => (listD G a).map fun xs => .lst (cutD xs lo hi)

def typeD (G : Hd) : D → Option String
  | .non => some "NoneType"
  | .bl _ => some "bool"
  | .int _ => some "int"
  | .str _ => some "str"
  | .tup _ => some "tuple"
  | .lst _ => some "list"
  | .dct _ _ => some "dict"
  | .ref i => match G[i]? with
    | some (.lst _) => some "list"
    | some (.dct _ _) => some "dict"
    | _ => none
  | _ => none
def isiD (t n : String) : Option Bool := if ["int", "bool", "str", "tuple", "list"].contains n then some (t == n || (t == "bool" && n == "int")) else none

def boolsD : List D → Option (List Bool)
  | [] => some []
  | .bl b :: r => (boolsD r).map (b :: ·)
  | _ :: _ => none
def intsD : List D → Option (List Int)
  | [] => some []
  | .int i :: r => (intsD r).map (i :: ·)
  | _ :: _ => none

def arg1 (f : D → Option D) : List D → Option D
  | [x] => f x
  | _ => none
def arg2 (f : D → D → Option D) : List D → Option D
  | [x, y] => f x y
  | _ => none
def intD : D → Option Int
  | .int i => some i
  | _ => none
def absD : D → Option D
  | .int i => some (.int (if i < 0 then -i else i))
  | _ => none
def tyD : D → Option String
  | .ty n => some n
  | _ => none
def biD (G : Hd) (o : BI) (as : List D) : Option D := match o with
  | .len => arg1 (fun x => (lenD G x).map fun (n : Nat) => .int (n : Int)) as
  | .abs => arg1 absD as
  | .isi => arg2 (fun x y => (tyD y).bind fun n => (typeD G x).bind fun t => (isiD t n).map .bl) as
  | .all => arg1 (fun x => ((listD G x).bind boolsD).map fun bs => .bl (bs.all id)) as
  | .any => arg1 (fun x => ((listD G x).bind boolsD).map fun bs => .bl (bs.any id)) as
  | .tuple => arg1 (fun x => (seqD G x).map .tup) as
  | .list => arg1 (fun x => (seqD G x).map .lst) as
  | _ => none

/-! ### targets -/
def bindT : MT → D → Tau → Option Tau
  | .nam i, d, τ => some (τ.set i (some d))
  | .tp0, .tup [], τ => some τ
  | .tpc t r, .tup (d :: ds), τ => (bindT t d τ).bind fun τ' => bindT r (.tup ds) τ'
  | _, _, _ => none
def wipeD (τ : Tau) : List Nat → Tau
  | [] => τ
  | v :: vs => (wipeD τ vs).set v none

def lift {α : Type} (o : Option α) (G : Hd) : Out α := match o with
  | some a => .ok a G
  | none => .bad
@[simp] theorem lift_some {α : Type} (a : α) (G : Hd) : lift (some a) G = .ok a G := rfl
@[simp] theorem lift_none {α : Type} (G : Hd) : lift (none : Option α) G = .bad := rfl

/-- what a loop walks -/
inductive DI where
  | items (ds : List D) | dyn (i : Nat)

/-- a comprehension over written items -/
def lcGo (turn : D → Hd → Out (Option D)) : List D → List D → Hd → Out (List D)
  | [], acc, G => .ok acc G
  | x :: xs, acc, G => (turn x G).then fun r G' => match r with
    | some y => lcGo turn xs (acc ++ [y]) G'
    | none => lcGo turn xs acc G'
/-- .. over a list that may change -/
def lcDyn (turn : D → Hd → Out (Option D)) (i : Nat) : Nat → Nat → List D → Hd → Out (List D)
  | 0, k, acc, G => match G[i]? with
    | some (.lst ds) => if ds.length ≤ k then .ok acc G else .bad
    | _ => .bad
  | n + 1, k, acc, G => match G[i]? with
    | some (.lst ds) => match ds[k]? with
      | some x => (turn x G).then fun r G' => match r with
        | some y => lcDyn turn i n (k + 1) (acc ++ [y]) G'
        | none => lcDyn turn i n (k + 1) acc G'
      | none => .bad
    | _ => .bad
def nolim : Str := Str.empty
def noexc {α : Type} : Out α → Out α
  | .exc _ _ => .bad
  | o => o
@[simp] theorem noexc_ok {α : Type} (a : α) (G : Hd) : noexc (.ok a G) = .ok a G := rfl
@[simp] theorem noexc_bad {α : Type} : noexc (.bad : Out α) = .bad := rfl
@[simp] theorem noexc_exc {α : Type} (c : Str) (G : Hd) : noexc (.exc c G : Out α) = .bad := rfl

def rangeD (a b : Int) : Option (List D) := if -(2 ^ 62) ≤ a ∧ a < 2 ^ 62 ∧ -(2 ^ 62) ≤ b ∧ b < 2 ^ 62 then some ((List.range (b - a).toNat).map fun (k : Nat) => .int (a + k)) else none
def enumFrom : Nat → List D → List D
  | _, [] => []
  | k, d :: ds => .tup [.int k, d] :: enumFrom (k + 1) ds
def zipD : List D → List D → List D
  | a :: as, b :: bs => .tup [a, b] :: zipD as bs
  | _, _ => []
/-- what stands still -/
def stillD : D → Option (List D)
  | .tup xs => some xs
  | .lst xs => some xs
  | _ => none
def zip2D : D → D → Option (List D)
  | .tup xs, .tup ys => some (zipD xs ys)
  | .lst xs, .lst ys => some (zipD xs ys)
  | _, _ => none
def iterD (G : Hd) : D → Option DI
  | .ref i => match G[i]? with
    | some (.lst _) => some (.dyn i)
    | _ => none
  | .str x => some (.items (x.cps.toList.map fun c => .str ⟨#[c]⟩))
  | d => (stillD d).map .items

/-- a value that holds no object that may change -/
def closed (n : Nat) : D → Bool
  | .tup xs => closeds n xs
  | .lst xs => closeds n xs
  | .dct ks vs => closeds n ks && closeds n vs
  | .ins _ _ vs => closeds n vs
  | .ref i => decide (i < n)
  | _ => true
where closeds (n : Nat) : List D → Bool
  | [] => true
  | d :: ds => closed n d && closeds n ds

abbrev Fn := Str → List D → Hd → Out D

def objOf : D → Option DO
  | .lst xs => some (.lst xs)
  | .dct ks vs => some (.dct ks vs)
  | _ => none
def allocD (d : D) (G : Hd) : Out D := match objOf d with
  | some o => .ok (.ref G.length) (G ++ [o])
  | none => .bad
/-- a store into the object i: below the base what is stored holds no such object -/
def storeOk (b i : Nat) (d : D) : Bool := decide (b ≤ i) || closed 0 d
def appendD (b : Nat) (o x : D) (G : Hd) : Out D := match o with
  | .ref i => match G[i]? with
    | some (.lst xs) => if storeOk b i x && decide (xs.length < line) then .ok .non (G.set i (.lst (xs ++ [x]))) else .bad
    | _ => .bad
  | _ => .bad
def putD (b : Nat) (o k x : D) (G : Hd) : Out Unit := match o with
  | .ref i => match G[i]? with
    | some (.dct ks vs) => if storeOk b i x && keyD k && decide (ks.length < line) then .ok () (G.set i (.dct (dictPut ks vs k x).1 (dictPut ks vs k x).2)) else .bad
    | some (.lst xs) => match k with
      | .int j => match L2.ixN xs.length j with
        | some n => if storeOk b i x then .ok () (G.set i (.lst (xs.set n x))) else .bad
        | none => .bad
      | _ => .bad
    | _ => .bad
  | _ => .bad
def getD (G : Hd) (o k d : D) : Option D := match dictOf G o with
  | some (ks, vs) => if keyD k then some ((dictGet ks vs k).getD d) else none
  | none => none

/-- pairs written in a display -/
def dispD : List D → List D × List D → Option (List D × List D)
  | k :: v :: r, acc => if keyD k then dispD r (dictPut acc.1 acc.2 k v) else none
  | [], acc => some acc
  | _, _ => none

mutual
def evE (Φ : Fn) (b : Nat) : ME → Tau → Hd → Out D
  | .var i, τ, G => match τ[i]? with
    | some (some d) => .ok d G
    | _ => .bad
  | .con d, _, G => .ok d G
  | .tup es, τ, G => (evEs Φ b es τ G).then fun ds G => .ok (.tup ds) G
  | .lst es, τ, G => (evEs Φ b es τ G).then fun ds G => .ok (.lst ds) G
  | .dct kvs, τ, G => (evEs Φ b kvs τ G).then fun ds G => lift ((dispD ds ([], [])).map fun q => .dct q.1 q.2) G
  | .alloc e, τ, G => (evE Φ b e τ G).then allocD
  | .bin o x y, τ, G => (evE Φ b x τ G).then fun x G => (evE Φ b y τ G).then fun y G => lift (binD G o x y) G
  | .neg x, τ, G => (evE Φ b x τ G).then fun x G => lift ((intD x).map fun i => .int (-i)) G
  | .not x, τ, G => (evE Φ b x τ G).then fun x G => lift ((truD G x).map fun k => .bl (!k)) G
  | .and x y, τ, G => (evE Φ b x τ G).then fun x G => match x with
    | .bl true => evE Φ b y τ G
    | .bl false => .ok (.bl false) G
    | _ => .bad
  | .or x y, τ, G => (evE Φ b x τ G).then fun x G => match x with
    | .bl true => .ok (.bl true) G
    | .bl false => evE Φ b y τ G
    | _ => .bad
  | .ifx c x y, τ, G => (evT Φ b c τ G).then fun k G => if k then evE Φ b x τ G else evE Φ b y τ G
  | .cmp o x y, τ, G => (evE Φ b x τ G).then fun x G => (evE Φ b y τ G).then fun y G => lift ((cmpD G o x y).map .bl) G
  | .chain o p x y z, τ, G => (evE Φ b x τ G).then fun x G => (evE Φ b y τ G).then fun y G => match cmpD G o x y with
    | some true => (evE Φ b z τ G).then fun z G => lift ((cmpD G p y z).map .bl) G
    | some false => .ok (.bl false) G
    | none => .bad
  | .ix x i, τ, G => (evE Φ b x τ G).then fun x G => (evE Φ b i τ G).then fun i G => lift (ixD G x i) G
  | .sl x lo hi, τ, G => (evE Φ b x τ G).then fun x G => (evO Φ b lo τ G).then fun lo G => (evO Φ b hi τ G).then fun hi G => lift (slD G x lo hi) G
  | .call f es, τ, G => (evEs Φ b es τ G).then fun ds G => Φ f ds G
  | .bi f es, τ, G => (evEs Φ b es τ G).then fun ds G => lift (biD G f ds) G
  | .get o k d, τ, G => (evE Φ b o τ G).then fun o G => match dictOf G o with
    | some _ => (evE Φ b k τ G).then fun k G => (evE Φ b d τ G).then fun d G => lift (getD G o k d) G
    | none => .bad
  | .append o e, τ, G => (evE Φ b o τ G).then fun o G => match listD G o with
    | some _ => (evE Φ b e τ G).then fun x G => appendD b o x G
    | none => .bad
  | .extend o e, τ, G => .bad
  | .lc e t it c own, τ, G => (evI Φ b it τ G).then fun J G =>
    let turn : D → Hd → Out (Option D) := fun x G => match bindT t x (wipeD τ own) with
      | some τ' => noexc ((evT Φ b c τ' G).then fun k G => if k then (evE Φ b e τ' G).then fun y G => .ok (some y) G else .ok none G)
      | none => .bad
    (match J with
    | .items ds => if ds.length ≤ line then lcGo turn ds [] G else .bad
    | .dyn i => match G[i]? with
      | some (.lst ds) => if ds.length ≤ line then lcDyn turn i ds.length 0 [] G else .bad
      | _ => .bad).then fun ds G => .ok (.lst ds) G
def evO (Φ : Fn) (b : Nat) : MO → Tau → Hd → Out (Option Int)
  | .no, _, G => .ok none G
  | .yes e, τ, G => (evE Φ b e τ G).then fun x G => lift ((intD x).map some) G
def evT (Φ : Fn) (b : Nat) : MB → Tau → Hd → Out Bool
  | .not x, τ, G => (evT Φ b x τ G).then fun k G => .ok (!k) G
  | .and x y, τ, G => (evT Φ b x τ G).then fun k G => if k then evT Φ b y τ G else .ok false G
  | .or x y, τ, G => (evT Φ b x τ G).then fun k G => if k then .ok true G else evT Φ b y τ G
  | .ifx c x y, τ, G => (evT Φ b c τ G).then fun k G => if k then evT Φ b x τ G else evT Φ b y τ G
  | .val e, τ, G => (evE Φ b e τ G).then fun x G => lift (truD G x) G
  | .yes, _, G => .ok true G
def evEs (Φ : Fn) (b : Nat) : MEs → Tau → Hd → Out (List D)
  | .nil, _, G => .ok [] G
  | .cons e es, τ, G => (evE Φ b e τ G).then fun d G => (evEs Φ b es τ G).then fun ds G => .ok (d :: ds) G
def evI (Φ : Fn) (b : Nat) : MI → Tau → Hd → Out DI
  | .val e, τ, G => (evE Φ b e τ G).then fun x G => lift (iterD G x) G
  | .rng1 x, τ, G => (evE Φ b x τ G).then fun x G => lift (((intD x).bind fun n => rangeD 0 n).map .items) G
  | .rng2 x y, τ, G => (evE Φ b x τ G).then fun x G => (evE Φ b y τ G).then fun y G => lift (((intD x).bind fun a => (intD y).bind fun n => rangeD a n).map .items) G
  | .enum e, τ, G => (evE Φ b e τ G).then fun x G => lift ((stillD x).map fun ds => .items (enumFrom 0 ds)) G
  | .zip x y, τ, G => (evE Φ b x τ G).then fun x G => (evE Φ b y τ G).then fun y G => lift ((zip2D x y).map .items) G
end

/-! ### statements -/
inductive Fl where
  | nx (τ : Tau) | rt (d : D) | bk (τ : Tau) | ct (τ : Tau)

/-- a loop's turn: what goes on, or the loop's end -/
def forGo (turn : D → Tau → Hd → Out Fl) : List D → Tau → Hd → Out Fl
  | [], τ, G => .ok (.nx τ) G
  | x :: xs, τ, G => (turn x τ G).then fun f G' => match f with
    | .nx τ' => forGo turn xs τ' G'
    | .ct τ' => forGo turn xs τ' G'
    | .bk τ' => .ok (.nx τ') G'
    | .rt d => .ok (.rt d) G'
def forDyn (turn : D → Tau → Hd → Out Fl) (i : Nat) : Nat → Nat → Tau → Hd → Out Fl
  | 0, k, τ, G => match G[i]? with
    | some (.lst ds) => if ds.length ≤ k then .ok (.nx τ) G else .bad
    | _ => .bad
  | n + 1, k, τ, G => match G[i]? with
    | some (.lst ds) => match ds[k]? with
      | some x => (turn x τ G).then fun f G' => match f with
        | .nx τ' => forDyn turn i n (k + 1) τ' G'
        | .ct τ' => forDyn turn i n (k + 1) τ' G'
        | .bk τ' => .ok (.nx τ') G'
        | .rt d => .ok (.rt d) G'
      | none => .bad
    | _ => .bad
def whileGo (test : Tau → Hd → Out Bool) (body : Tau → Hd → Out Fl) : Nat → Tau → Hd → Out Fl
  | 0, _, _ => .bad
  | n + 1, τ, G => (test τ G).then fun k G => if k then (body τ G).then fun f G => match f with
      | .nx τ' => whileGo test body n τ' G
      | .ct τ' => whileGo test body n τ' G
      | .bk τ' => .ok (.nx τ') G
      | .rt d => .ok (.rt d) G
    else .ok (.nx τ) G
def setAll : List Nat → List D → Tau → Option Tau
  | i :: is, d :: ds, τ => setAll is ds (τ.set i (some d))
  | [], [], τ => some τ
  | _, _, _ => none
def wFuel : Nat := 10000000

mutual
def evS (Φ : Fn) (b : Nat) : MS → Tau → Hd → Out Fl
  | .set t e, τ, G => (evE Φ b e τ G).then fun d G => lift ((bindT t d τ).map .nx) G
  | .par is es, τ, G => (evEs Φ b es τ G).then fun ds G => lift ((setAll is ds τ).map .nx) G
  | .setix o i e, τ, G => (evE Φ b e τ G).then fun d G => (evE Φ b o τ G).then fun o G => (evE Φ b i τ G).then fun i G => (putD b o i d G).then fun _ G => .ok (.nx τ) G
  | .aug i o e, τ, G => match τ[i]? with
    | some (some (.int x)) => (evE Φ b e τ G).then fun y G => match y with
      | .int y => lift ((binD G o (.int x) (.int y)).map fun z => .nx (τ.set i (some z))) G
      | _ => .bad
    | _ => .bad
  | .iff c x y, τ, G => (evT Φ b c τ G).then fun k G => if k then evSs Φ b x τ G else evSs Φ b y τ G
  | .whl c s, τ, G => whileGo (fun τ G => evT Φ b c τ G) (fun τ G => evSs Φ b s τ G) wFuel τ G
  | .forr t it s, τ, G => (evI Φ b it τ G).then fun J G =>
    let turn : D → Tau → Hd → Out Fl := fun x τ G => match bindT t x τ with
      | some τ' => evSs Φ b s τ' G
      | none => .bad
    match J with
    | .items ds => forGo turn ds τ G
    | .dyn i => match G[i]? with
      | some (.lst ds) => forDyn turn i ds.length 0 τ G
      | _ => .bad
  | .ret e, τ, G => (evE Φ b e τ G).then fun d G => .ok (.rt d) G
  | .exp e, τ, G => (evE Φ b e τ G).then fun _ G => .ok (.nx τ) G
  | .pass, τ, G => .ok (.nx τ) G
  | .never, _, _ => .bad
def evSs (Φ : Fn) (b : Nat) : MSs → Tau → Hd → Out Fl
  | .nil, τ, G => .ok (.nx τ) G
  | .cons s ss, τ, G => (evS Φ b s τ G).then fun f G => match f with
    | .nx τ' => evSs Φ b ss τ' G
    | f => .ok f G
end

/-! ### functions -/
/-- what a function hands back: objects of its own that may change are hidden -/
def frz : Nat → Nat → Hd → D → Option D
  | 0, n, _, d => if closed n d then some d else none
  | k + 1, n, G, d => match d with
    | .ref i => if i < n then some (.ref i) else match G[i]? with
      | some (.lst ds) => (ds.mapM (frz k n G)).map .lst
      | some (.dct ks vs) => (vs.mapM (frz k n G)).map (.dct ks)
      | some (.ins c fs vs) => (vs.mapM (frz k n G)).map (.ins c fs)
      | none => none
    | .tup ds => (ds.mapM (frz k n G)).map .tup
    | d => if closed n d then some d else none

structure FDef where
  n : Nat
  slots : Nat
  keep : Bool
  body : MSs
/-- one call: fd's body upon the arguments -/
def callF (Φ : Fn) (fd : FDef) (ds : List D) (G : Hd) : Out D :=
  if ds.length = fd.n then
    match evSs Φ G.length fd.body (ds.map some ++ List.replicate (fd.slots - ds.length) none) G with
    | .ok (.nx _) G' => .ok .non (G'.take G.length)
    | .ok (.rt d) G' => if fd.keep then .ok d G' else match frz 4 G.length G' d with
      | some d' => .ok d' (G'.take G.length)
      | none => .bad
    | .exc c G' => .exc c (G'.take G.length)
    | _ => .bad
  else .bad
/-- the program: calls at most n deep -/
def run (tbl : List (Str × FDef)) : Nat → Fn
  | 0, _, _, _ => .bad
  | n + 1, f, ds, G => match tbl.lookup f with
    | some fd => callF (run tbl n) fd ds G
    | none => .bad
end U

set_option Elab.async false
set_option linter.all false
set_option maxRecDepth 100000
/-! UB: how plain data stands in the layer's heap. -/
namespace U
open PySem L2

/-- an int or a text as a key -/
def kD : Key → D
  | .inl i => .int i
  | .inr x => .str x

/-- the context: what is written, the module's names, what is wanted of an exception, the base, the bases -/
structure C where
  K : PySem.W.Frag
  mg : Str → Option Value
  EX : Str → Hp → Prop
  b : Nat
  P : Nat → Prop
  /-- things that others are about to change (a comprehension's new list) -/
  Z : List Addr

section
variable (c : C) (H : Hp) (ρ : List Addr)
mutual
def Rp : D → V → Prop
  | .non, v => v = .non
  | .bl b, v => v = .bl b
  | .int i, v => v = .int i
  | .str x, v => v = .str x
  | .tup ds, v => ∃ a vs, v = .ref a ∧ SqT c.K H a vs ∧ Rps ds vs
  | .lst ds, v => ∃ a vs, v = .ref a ∧ Rd H a (.lst vs) ∧ (a ∉ ρ ∧ a ∉ c.Z) ∧ Rps ds vs
  | .dct ks ds, v => ∃ a kvs, v = .ref a ∧ Rd H a (.dK kvs) ∧ (a ∉ ρ ∧ a ∉ c.Z) ∧ ks = kvs.map (fun p => kD p.1) ∧ Rps ds (kvs.map (·.2))
  | .ins n fs ds, v => ∃ a C dx fvs, v = .ref a ∧ c.mg n = some (.ref C) ∧ Rd H a (.ins C dx fvs) ∧ (a ∉ ρ ∧ a ∉ c.Z) ∧ fs = fvs.map (·.1) ∧ Rps ds (fvs.map (·.2))
  | .ref i, v => ∃ a, ρ[i]? = some a ∧ v = .ref a
  | .ty n, v => v = .ty n
  | .glo x, v => ∃ a, c.mg x = some (.ref a) ∧ v = .ref a
  | .exc _, _ => False
def Rps : List D → List V → Prop
  | [], vs => vs = []
  | d :: ds, vs => ∃ v r, vs = v :: r ∧ Rp d v ∧ Rps ds r
end
/-- an object that may change -/
def RepO (a : Addr) : DO → Prop
  | .lst ds => ∃ vs, H a = some (.lst vs) ∧ Rps c H ρ ds vs
  | .dct ks ds => ∃ kvs, H a = some (.dK kvs) ∧ ks = kvs.map (fun p => kD p.1) ∧ Rps c H ρ ds (kvs.map (·.2))
  | .ins n fs ds => ∃ C dx fvs, c.mg n = some (.ref C) ∧ H a = some (.ins C dx fvs) ∧ fs = fvs.map (·.1) ∧ Rps c H ρ ds (fvs.map (·.2))
end

/-- the heap goes on: what does not change stays, new objects that may change were not there -/
structure Ext0 (c : C) (H : Hp) (ρ : List Addr) (H' : Hp) (ρ' : List Addr) : Prop where
  more : ∃ new, ρ' = ρ ++ new ∧ ∀ a ∈ new, H a = none
  keep : ∀ a u, a ∉ ρ → a ∉ c.Z → Rd H a u → Rd H' a u
  tups : ∀ a xs, Rd H a (.tup xs) → Rd H' a (.tup xs)
  dom : ∀ a, H a ≠ none → H' a ≠ none
structure Ext (c : C) (H : Hp) (ρ : List Addr) (H' : Hp) (ρ' : List Addr) : Prop extends Ext0 c H ρ H' ρ' where
  zs : ∀ a ∈ c.Z, H' a = H a

theorem rdSome {H : Hp} {a : Addr} {u : HO} (h : Rd H a u) : H a ≠ none := by
  rcases h with h | ⟨o, h⟩ <;> rw [h] <;> exact fun z => nomatch z

section
variable {c : C} {H H1 H2 : Hp} {ρ ρ1 ρ2 : List Addr}
theorem Ext0.refl : Ext0 c H ρ H ρ := ⟨⟨[], by simp, by simp⟩, fun _ _ _ _ h => h, fun _ _ h => h, fun _ h => h⟩
theorem Ext.refl : Ext c H ρ H ρ := ⟨Ext0.refl, fun _ _ => rfl⟩
theorem Ext0.notin (e : Ext0 c H ρ H1 ρ1) {a : Addr} (h : a ∉ ρ) (h' : H a ≠ none) : a ∉ ρ1 := by
  obtain ⟨new, rfl, hn⟩ := e.more
  intro z
  rcases List.mem_append.mp z with z | z
  · exact h z
  · exact h' (hn a z)
theorem Ext0.trans (e : Ext0 c H ρ H1 ρ1) (f : Ext0 c H1 ρ1 H2 ρ2) : Ext0 c H ρ H2 ρ2 := by
  refine ⟨?_, fun a u h hz r => f.keep a u (e.notin h (rdSome r)) hz (e.keep a u h hz r), fun a xs r => f.tups a xs (e.tups a xs r), fun a h => f.dom a (e.dom a h)⟩
  obtain ⟨n1, rfl, h1⟩ := e.more
  obtain ⟨n2, rfl, h2⟩ := f.more
  refine ⟨n1 ++ n2, by rw [List.append_assoc], fun a h => ?_⟩
  rcases List.mem_append.mp h with h | h
  · exact h1 a h
  · exact Classical.byContradiction fun z => e.dom a z (h2 a h)
theorem Ext.trans (e : Ext c H ρ H1 ρ1) (f : Ext c H1 ρ1 H2 ρ2) : Ext c H ρ H2 ρ2 := ⟨e.toExt0.trans f.toExt0, fun a h => (f.zs a h).trans (e.zs a h)⟩
theorem Ext0.get (e : Ext0 c H ρ H1 ρ1) {i : Nat} {a : Addr} (h : ρ[i]? = some a) : ρ1[i]? = some a := by
  obtain ⟨n1, rfl, _⟩ := e.more
  rw [List.getElem?_append_left (List.getElem?_eq_some_iff.mp h).1]
  exact h
theorem Ext0.sqT {K : PySem.W.Frag} (e : Ext0 c H ρ H1 ρ1) {a : Addr} {xs : List V} (h : SqT K H a xs) : SqT K H1 a xs := by
  rcases h with h | h
  · exact .inl (e.tups a xs h)
  · exact .inr h
end

theorem keysClosed {n : Nat} : ∀ (kvs : List (Key × V)), closed.closeds n (kvs.map (fun p => kD p.1)) = true
  | [] => rfl
  | (.inl i, v) :: r => Bool.and_eq_true_iff.mpr ⟨rfl, keysClosed r⟩
  | (.inr i, v) :: r => Bool.and_eq_true_iff.mpr ⟨rfl, keysClosed r⟩
section
variable {c : C} {H H1 : Hp} {ρ ρ1 : List Addr}
mutual
theorem Rp.mono0 (e : Ext0 c H ρ H1 ρ1) : ∀ (d : D) (v : V), Rp c H ρ d v → Rp c H1 ρ1 d v
  | .non, _, h => h
  | .bl _, _, h => h
  | .int _, _, h => h
  | .str _, _, h => h
  | .ty _, _, h => h
  | .glo _, _, h => h
  | .exc _, _, h => h
  | .ref i, v, h => by
    unfold Rp at h ⊢
    obtain ⟨a, ha, r⟩ := h
    exact ⟨a, e.get ha, r⟩
  | .tup ds, v, h => by
    unfold Rp at h ⊢
    obtain ⟨a, vs, r, s, t⟩ := h
    exact ⟨a, vs, r, e.sqT s, Rps.mono0 e ds vs t⟩
  | .lst ds, v, h => by
    unfold Rp at h ⊢
    obtain ⟨a, vs, r, s, n, t⟩ := h
    exact ⟨a, vs, r, e.keep _ _ n.1 n.2 s, ⟨e.notin n.1 (rdSome s), n.2⟩, Rps.mono0 e ds vs t⟩
  | .dct ks ds, v, h => by
    unfold Rp at h ⊢
    obtain ⟨a, kvs, r, s, n, k, t⟩ := h
    exact ⟨a, kvs, r, e.keep _ _ n.1 n.2 s, ⟨e.notin n.1 (rdSome s), n.2⟩, k, Rps.mono0 e ds _ t⟩
  | .ins nm fs ds, v, h => by
    unfold Rp at h ⊢
    obtain ⟨a, C, dx, fvs, r, m, s, n, k, t⟩ := h
    exact ⟨a, C, dx, fvs, r, m, e.keep _ _ n.1 n.2 s, ⟨e.notin n.1 (rdSome s), n.2⟩, k, Rps.mono0 e ds _ t⟩
theorem Rps.mono0 (e : Ext0 c H ρ H1 ρ1) : ∀ (ds : List D) (vs : List V), Rps c H ρ ds vs → Rps c H1 ρ1 ds vs
  | [], _, h => h
  | d :: ds, vs, h => by
    unfold Rps at h ⊢
    obtain ⟨v, r, x, y, z⟩ := h
    exact ⟨v, r, x, Rp.mono0 e d v y, Rps.mono0 e ds r z⟩
end
theorem Rp.mono (e : Ext c H ρ H1 ρ1) (d : D) (v : V) (h : Rp c H ρ d v) : Rp c H1 ρ1 d v := Rp.mono0 e.toExt0 d v h
theorem Rps.mono (e : Ext c H ρ H1 ρ1) (ds : List D) (vs : List V) (h : Rps c H ρ ds vs) : Rps c H1 ρ1 ds vs := Rps.mono0 e.toExt0 ds vs h
mutual
theorem Rp.closed : ∀ (d : D) (v : V), Rp c H ρ d v → closed ρ.length d = true
  | .non, _, _ => rfl
  | .bl _, _, _ => rfl
  | .int _, _, _ => rfl
  | .str _, _, _ => rfl
  | .ty _, _, _ => rfl
  | .glo _, _, _ => rfl
  | .exc _, _, _ => rfl
  | .ref i, v, h => by
    unfold Rp at h
    obtain ⟨a, ha, _⟩ := h
    exact decide_eq_true (List.getElem?_eq_some_iff.mp ha).1
  | .tup ds, v, h => by
    unfold Rp at h
    obtain ⟨a, vs, _, _, t⟩ := h
    exact Rps.closed ds vs t
  | .lst ds, v, h => by
    unfold Rp at h
    obtain ⟨a, vs, _, _, _, t⟩ := h
    exact Rps.closed ds vs t
  | .dct ks ds, v, h => by
    unfold Rp at h
    obtain ⟨a, kvs, _, _, _, k, t⟩ := h
    subst k
    exact Bool.and_eq_true_iff.mpr ⟨keysClosed kvs, Rps.closed ds _ t⟩
  | .ins nm fs ds, v, h => by
    unfold Rp at h
    obtain ⟨a, C, dx, fvs, _, _, _, _, _, t⟩ := h
    exact Rps.closed ds _ t
theorem Rps.closed : ∀ (ds : List D) (vs : List V), Rps c H ρ ds vs → closed.closeds ρ.length ds = true
  | [], _, _ => rfl
  | d :: ds, vs, h => by
    unfold Rps at h
    obtain ⟨v, r, _, y, z⟩ := h
    exact Bool.and_eq_true_iff.mpr ⟨Rp.closed d v y, Rps.closed ds r z⟩
end
end

/-! ### cutting the objects that may change -/
theorem take_get {α : Type} {l : List α} {n i : Nat} (h : i < n) : (l.take n)[i]? = l[i]? := by
  rw [List.getElem?_take, if_pos h]
section
variable {c : C} {H : Hp} {ρ : List Addr} {n : Nat}
mutual
theorem Rp.cut : ∀ (d : D) (v : V), closed n d = true → Rp c H ρ d v → Rp c H (ρ.take n) d v
  | .non, _, _, h => h
  | .bl _, _, _, h => h
  | .int _, _, _, h => h
  | .str _, _, _, h => h
  | .ty _, _, _, h => h
  | .glo _, _, _, h => h
  | .exc _, _, _, h => h
  | .ref i, v, k, h => by
    unfold Rp at h ⊢
    obtain ⟨a, ha, r⟩ := h
    exact ⟨a, by rw [take_get (of_decide_eq_true k)]; exact ha, r⟩
  | .tup ds, v, k, h => by
    unfold Rp at h ⊢
    obtain ⟨a, vs, r, s, t⟩ := h
    exact ⟨a, vs, r, s, Rps.cut ds vs k t⟩
  | .lst ds, v, k, h => by
    unfold Rp at h ⊢
    obtain ⟨a, vs, r, s, m, t⟩ := h
    exact ⟨a, vs, r, s, ⟨fun z => m.1 (List.mem_of_mem_take z), m.2⟩, Rps.cut ds vs k t⟩
  | .dct ks ds, v, k, h => by
    unfold Rp at h ⊢
    obtain ⟨a, kvs, r, s, m, q, t⟩ := h
    exact ⟨a, kvs, r, s, ⟨fun z => m.1 (List.mem_of_mem_take z), m.2⟩, q, Rps.cut ds _ (Bool.and_eq_true_iff.mp k).2 t⟩
  | .ins nm fs ds, v, k, h => by
    unfold Rp at h ⊢
    obtain ⟨a, C, dx, fvs, r, q, s, m, j, t⟩ := h
    exact ⟨a, C, dx, fvs, r, q, s, ⟨fun z => m.1 (List.mem_of_mem_take z), m.2⟩, j, Rps.cut ds _ k t⟩
theorem Rps.cut : ∀ (ds : List D) (vs : List V), closed.closeds n ds = true → Rps c H ρ ds vs → Rps c H (ρ.take n) ds vs
  | [], _, _, h => h
  | d :: ds, vs, k, h => by
    unfold Rps at h ⊢
    obtain ⟨v, r, x, y, z⟩ := h
    obtain ⟨k1, k2⟩ := Bool.and_eq_true_iff.mp k
    exact ⟨v, r, x, Rp.cut d v k1 y, Rps.cut ds r k2 z⟩
end
end
def closedO (n : Nat) : DO → Bool
  | .lst ds => closed.closeds n ds
  | .dct ks ds => closed.closeds n ds
  | .ins _ _ ds => closed.closeds n ds
mutual
theorem closed_le {m n : Nat} (h : m ≤ n) : ∀ d : D, closed m d = true → closed n d = true
  | .non, _ => rfl
  | .bl _, _ => rfl
  | .int _, _ => rfl
  | .str _, _ => rfl
  | .ty _, _ => rfl
  | .glo _, _ => rfl
  | .exc _, _ => rfl
  | .ref i, k => decide_eq_true (Nat.lt_of_lt_of_le (of_decide_eq_true k) h)
  | .tup ds, k => closeds_le h ds k
  | .lst ds, k => closeds_le h ds k
  | .ins _ _ ds, k => closeds_le h ds k
  | .dct ks ds, k => Bool.and_eq_true_iff.mpr ⟨closeds_le h ks (Bool.and_eq_true_iff.mp k).1, closeds_le h ds (Bool.and_eq_true_iff.mp k).2⟩
theorem closeds_le {m n : Nat} (h : m ≤ n) : ∀ ds : List D, closed.closeds m ds = true → closed.closeds n ds = true
  | [], _ => rfl
  | d :: ds, k => Bool.and_eq_true_iff.mpr ⟨closed_le h d (Bool.and_eq_true_iff.mp k).1, closeds_le h ds (Bool.and_eq_true_iff.mp k).2⟩
end
theorem closeds_append {n : Nat} : ∀ {xs ys : List D}, closed.closeds n xs = true → closed.closeds n ys = true → closed.closeds n (xs ++ ys) = true
  | [], _, _, h => h
  | d :: ds, ys, k, h => Bool.and_eq_true_iff.mpr ⟨(Bool.and_eq_true_iff.mp k).1, closeds_append (Bool.and_eq_true_iff.mp k).2 h⟩
theorem closeds_set {n : Nat} {x : D} (h : closed n x = true) : ∀ {xs : List D} (i : Nat), closed.closeds n xs = true → closed.closeds n (xs.set i x) = true
  | [], _, k => k
  | d :: ds, 0, k => Bool.and_eq_true_iff.mpr ⟨h, (Bool.and_eq_true_iff.mp k).2⟩
  | d :: ds, i + 1, k => Bool.and_eq_true_iff.mpr ⟨(Bool.and_eq_true_iff.mp k).1, closeds_set h i (Bool.and_eq_true_iff.mp k).2⟩

/-! ### lists of values -/
section
variable {c : C} {H : Hp} {ρ : List Addr}
theorem Rps.nil : Rps c H ρ [] [] := by unfold Rps; rfl
theorem Rps.cons {d : D} {ds : List D} {v : V} {vs : List V} (h : Rp c H ρ d v) (t : Rps c H ρ ds vs) : Rps c H ρ (d :: ds) (v :: vs) := by
  unfold Rps
  exact ⟨v, vs, rfl, h, t⟩
theorem Rps.of_cons {d : D} {ds : List D} {vs : List V} (h : Rps c H ρ (d :: ds) vs) : ∃ v r, vs = v :: r ∧ Rp c H ρ d v ∧ Rps c H ρ ds r := by
  unfold Rps at h
  exact h
theorem Rps.of_nil {vs : List V} (h : Rps c H ρ [] vs) : vs = [] := by
  unfold Rps at h
  exact h
theorem Rps.length : ∀ {ds : List D} {vs : List V}, Rps c H ρ ds vs → vs.length = ds.length
  | [], vs, h => by rw [h.of_nil]; rfl
  | d :: ds, vs, h => by
    obtain ⟨v, r, rfl, _, t⟩ := h.of_cons
    rw [List.length_cons, List.length_cons, Rps.length t]
theorem Rps.get : ∀ {ds : List D} {vs : List V} {i : Nat} {d : D}, Rps c H ρ ds vs → ds[i]? = some d → ∃ v, vs[i]? = some v ∧ Rp c H ρ d v
  | [], _, _, _, _, e => by simp at e
  | d :: ds, vs, 0, x, h, e => by
    obtain ⟨v, r, rfl, y, _⟩ := h.of_cons
    simp at e
    subst e
    exact ⟨v, rfl, y⟩
  | d :: ds, vs, i + 1, x, h, e => by
    obtain ⟨v, r, rfl, _, t⟩ := h.of_cons
    have e' : ds[i]? = some x := by simpa using e
    obtain ⟨u, p, q⟩ := Rps.get t e'
    exact ⟨u, by simpa using p, q⟩
theorem Rps.get' : ∀ {ds : List D} {vs : List V} {i : Nat} {v : V}, Rps c H ρ ds vs → vs[i]? = some v → ∃ d, ds[i]? = some d ∧ Rp c H ρ d v
  | [], _, _, _, h, e => by rw [h.of_nil] at e; simp at e
  | d :: ds, vs, 0, x, h, e => by
    obtain ⟨v, r, rfl, y, _⟩ := h.of_cons
    simp at e
    subst e
    exact ⟨d, rfl, y⟩
  | d :: ds, vs, i + 1, x, h, e => by
    obtain ⟨v, r, rfl, _, t⟩ := h.of_cons
    have e' : r[i]? = some x := by simpa using e
    obtain ⟨u, p, q⟩ := Rps.get' t e'
    exact ⟨u, by simpa using p, q⟩
theorem Rps.append : ∀ {ds es : List D} {vs us : List V}, Rps c H ρ ds vs → Rps c H ρ es us → Rps c H ρ (ds ++ es) (vs ++ us)
  | [], _, _, _, h, k => by rw [h.of_nil]; exact k
  | d :: ds, _, vs, _, h, k => by
    obtain ⟨v, r, rfl, y, t⟩ := h.of_cons
    exact .cons y (Rps.append t k)
theorem Rps.take : ∀ {ds : List D} {vs : List V} (n : Nat), Rps c H ρ ds vs → Rps c H ρ (ds.take n) (vs.take n)
  | _, _, 0, _ => by simp; exact .nil
  | [], _, _ + 1, h => by rw [h.of_nil]; exact .nil
  | d :: ds, _, n + 1, h => by
    obtain ⟨v, r, rfl, y, t⟩ := h.of_cons
    exact .cons y (Rps.take n t)
theorem Rps.drop : ∀ {ds : List D} {vs : List V} (n : Nat), Rps c H ρ ds vs → Rps c H ρ (ds.drop n) (vs.drop n)
  | _, _, 0, h => h
  | [], _, _ + 1, h => by rw [h.of_nil]; exact .nil
  | d :: ds, _, n + 1, h => by
    obtain ⟨v, r, rfl, y, t⟩ := h.of_cons
    exact Rps.drop n t
theorem Rps.set {x : D} {u : V} (q : Rp c H ρ x u) : ∀ {ds : List D} {vs : List V} (n : Nat), Rps c H ρ ds vs → Rps c H ρ (ds.set n x) (vs.set n u)
  | [], _, _, h => by rw [h.of_nil]; exact .nil
  | d :: ds, _, 0, h => by
    obtain ⟨v, r, rfl, y, t⟩ := h.of_cons
    exact .cons q t
  | d :: ds, _, n + 1, h => by
    obtain ⟨v, r, rfl, y, t⟩ := h.of_cons
    exact .cons y (Rps.set q n t)
end

/-! ### the state -/
structure SR (c : C) (H : Hp) (ρ : List Addr) (G : Hd) : Prop where
  len : ρ.length = G.length
  nd : ρ.Nodup
  obj : ∀ (i : Nat) (a : Addr) (o : DO), ρ[i]? = some a → G[i]? = some o → RepO c H ρ a o
  bnd : c.b ≤ G.length
  pb : ∀ n, c.P n → n ≤ c.b
  cl : ∀ (n i : Nat) (o : DO), c.P n → i < n → G[i]? = some o → closedO n o = true
  zs : ∀ a ∈ c.Z, a ∉ ρ ∧ H a ≠ none

section
variable {c : C} {H H1 : Hp} {ρ ρ1 : List Addr} {G : Hd}
theorem RepO.mono {a : Addr} {o : DO} (e : Ext c H ρ H1 ρ1) (ha : H1 a = H a) (h : RepO c H ρ a o) : RepO c H1 ρ1 a o := by
  cases o with
  | lst ds =>
    obtain ⟨vs, x, y⟩ := h
    exact ⟨vs, ha.trans x, Rps.mono e _ _ y⟩
  | dct ks ds =>
    obtain ⟨kvs, x, k, y⟩ := h
    exact ⟨kvs, ha.trans x, k, Rps.mono e _ _ y⟩
  | ins n fs ds =>
    obtain ⟨C, dx, fvs, m, x, k, y⟩ := h
    exact ⟨C, dx, fvs, m, ha.trans x, k, Rps.mono e _ _ y⟩
theorem RepO.live {a : Addr} {o : DO} (h : RepO c H ρ a o) : H a ≠ none := by
  cases o with
  | lst ds => obtain ⟨vs, x, y⟩ := h; rw [x]; exact fun z => nomatch z
  | dct ks ds => obtain ⟨kvs, x, k, y⟩ := h; rw [x]; exact fun z => nomatch z
  | ins n fs ds => obtain ⟨C, dx, fvs, m, x, k, y⟩ := h; rw [x]; exact fun z => nomatch z
theorem SR.there (s : SR c H ρ G) {a : Addr} (h : a ∈ ρ) : ∃ (i : Nat) (o : DO), ρ[i]? = some a ∧ G[i]? = some o ∧ RepO c H ρ a o := by
  obtain ⟨i, hi, e⟩ := List.mem_iff_getElem.mp h
  have hg : i < G.length := by rw [← s.len]; exact hi
  have e1 : ρ[i]? = some a := by rw [List.getElem?_eq_getElem hi, e]
  exact ⟨i, G[i], e1, List.getElem?_eq_getElem hg, s.obj i a _ e1 (List.getElem?_eq_getElem hg)⟩
theorem SR.live (s : SR c H ρ G) {a : Addr} (h : a ∈ ρ) : H a ≠ none := by
  obtain ⟨i, o, _, _, r⟩ := s.there h
  exact r.live
/-- the heap goes on and the objects that may change stand as they are -/
theorem SR.same (s : SR c H ρ G) (e : Ext c H ρ H1 ρ) (h : ∀ a ∈ ρ, H1 a = H a) : SR c H1 ρ G :=
  ⟨s.len, s.nd, fun i a o x y => (s.obj i a o x y).mono e (h a (List.mem_of_getElem? x)), s.bnd, s.pb, s.cl, fun a h => ⟨(s.zs a h).1, e.dom a (s.zs a h).2⟩⟩
/-- a new thing is laid -/
theorem Ext.new {p : Addr} {o : HO} (hz : ∀ a ∈ c.Z, H a ≠ none) (hp : H p = none) : Ext c H ρ (upd H p o) ρ := by
  have ne : ∀ a, H a ≠ none → a ≠ p := fun a h z => h (by rw [z]; exact hp)
  refine ⟨⟨⟨[], by simp, by simp⟩, fun a u _ _ r => ?_, fun a xs r => ?_, fun a h => by rw [upd_ne (ne a h)]; exact h⟩, fun a h => upd_ne (ne a (hz a h))⟩
  · have n := ne a (rdSome r)
    rcases r with r | ⟨ob, r⟩
    · exact .inl (by rw [upd_ne n]; exact r)
    · exact .inr ⟨ob, by rw [upd_ne n]; exact r⟩
  · have n := ne a (rdSome r)
    rcases r with r | ⟨ob, r⟩
    · exact .inl (by rw [upd_ne n]; exact r)
    · exact .inr ⟨ob, by rw [upd_ne n]; exact r⟩
theorem SR.ext {p : Addr} {o : HO} (s : SR c H ρ G) (hp : H p = none) : Ext c H ρ (upd H p o) ρ := Ext.new (fun a h => (s.zs a h).2) hp
theorem SR.new {p : Addr} {o : HO} (s : SR c H ρ G) (hp : H p = none) : SR c (upd H p o) ρ G :=
  s.same (s.ext hp) fun a h => upd_ne fun z => s.live h (by rw [z]; exact hp)
/-- p besides is about to be changed -/
abbrev C.and (c : C) (p : Addr) : C := { c with Z := p :: c.Z }
mutual
theorem Rp.and {p : Addr} (hp : H p = none) (e : Ext c H ρ H1 ρ1) : ∀ (d : D) (v : V), Rp c H ρ d v → Rp (c.and p) H1 ρ1 d v
  | .non, _, h => h
  | .bl _, _, h => h
  | .int _, _, h => h
  | .str _, _, h => h
  | .ty _, _, h => h
  | .glo _, _, h => h
  | .exc _, _, h => h
  | .ref i, v, h => by
    unfold Rp at h ⊢
    obtain ⟨a, ha, r⟩ := h
    exact ⟨a, e.get ha, r⟩
  | .tup ds, v, h => by
    unfold Rp at h ⊢
    obtain ⟨a, vs, r, s, t⟩ := h
    exact ⟨a, vs, r, e.sqT s, Rps.and hp e ds vs t⟩
  | .lst ds, v, h => by
    unfold Rp at h ⊢
    obtain ⟨a, vs, r, s, m, t⟩ := h
    exact ⟨a, vs, r, e.keep _ _ m.1 m.2 s, ⟨e.notin m.1 (rdSome s), fun z => (List.mem_cons.mp z).elim (fun z => rdSome s (by rw [z]; exact hp)) m.2⟩, Rps.and hp e ds vs t⟩
  | .dct ks ds, v, h => by
    unfold Rp at h ⊢
    obtain ⟨a, kvs, r, s, m, q, t⟩ := h
    exact ⟨a, kvs, r, e.keep _ _ m.1 m.2 s, ⟨e.notin m.1 (rdSome s), fun z => (List.mem_cons.mp z).elim (fun z => rdSome s (by rw [z]; exact hp)) m.2⟩, q, Rps.and hp e ds _ t⟩
  | .ins nm fs ds, v, h => by
    unfold Rp at h ⊢
    obtain ⟨a, C, dx, fvs, r, q, s, m, j, t⟩ := h
    exact ⟨a, C, dx, fvs, r, q, e.keep _ _ m.1 m.2 s, ⟨e.notin m.1 (rdSome s), fun z => (List.mem_cons.mp z).elim (fun z => rdSome s (by rw [z]; exact hp)) m.2⟩, j, Rps.and hp e ds _ t⟩
theorem Rps.and {p : Addr} (hp : H p = none) (e : Ext c H ρ H1 ρ1) : ∀ (ds : List D) (vs : List V), Rps c H ρ ds vs → Rps (c.and p) H1 ρ1 ds vs
  | [], _, h => h
  | d :: ds, vs, h => by
    unfold Rps at h ⊢
    obtain ⟨v, r, x, y, z⟩ := h
    exact ⟨v, r, x, Rp.and hp e d v y, Rps.and hp e ds r z⟩
end
mutual
theorem Rp.off {p : Addr} : ∀ (d : D) (v : V), Rp (c.and p) H ρ d v → Rp c H ρ d v
  | .non, _, h => h
  | .bl _, _, h => h
  | .int _, _, h => h
  | .str _, _, h => h
  | .ty _, _, h => h
  | .glo _, _, h => h
  | .exc _, _, h => h
  | .ref i, v, h => h
  | .tup ds, v, h => by
    unfold Rp at h ⊢
    obtain ⟨a, vs, r, s, t⟩ := h
    exact ⟨a, vs, r, s, Rps.off ds vs t⟩
  | .lst ds, v, h => by
    unfold Rp at h ⊢
    obtain ⟨a, vs, r, s, m, t⟩ := h
    exact ⟨a, vs, r, s, ⟨m.1, fun z => m.2 (List.mem_cons_of_mem _ z)⟩, Rps.off ds vs t⟩
  | .dct ks ds, v, h => by
    unfold Rp at h ⊢
    obtain ⟨a, kvs, r, s, m, q, t⟩ := h
    exact ⟨a, kvs, r, s, ⟨m.1, fun z => m.2 (List.mem_cons_of_mem _ z)⟩, q, Rps.off ds _ t⟩
  | .ins nm fs ds, v, h => by
    unfold Rp at h ⊢
    obtain ⟨a, C, dx, fvs, r, q, s, m, j, t⟩ := h
    exact ⟨a, C, dx, fvs, r, q, s, ⟨m.1, fun z => m.2 (List.mem_cons_of_mem _ z)⟩, j, Rps.off ds _ t⟩
theorem Rps.off {p : Addr} : ∀ (ds : List D) (vs : List V), Rps (c.and p) H ρ ds vs → Rps c H ρ ds vs
  | [], _, h => h
  | d :: ds, vs, h => by
    unfold Rps at h ⊢
    obtain ⟨v, r, x, y, z⟩ := h
    exact ⟨v, r, x, Rp.off d v y, Rps.off ds r z⟩
end
mutual
theorem Rp.own {p : Addr} : ∀ (d : D) (v : V), Rp (c.and p) H ρ d v → Rp c H (ρ ++ [p]) d v
  | .non, _, h => h
  | .bl _, _, h => h
  | .int _, _, h => h
  | .str _, _, h => h
  | .ty _, _, h => h
  | .glo _, _, h => h
  | .exc _, _, h => h
  | .ref i, v, h => by
    unfold Rp at h ⊢
    obtain ⟨a, e, r⟩ := h
    exact ⟨a, by rw [List.getElem?_append_left (List.getElem?_eq_some_iff.mp e).1]; exact e, r⟩
  | .tup ds, v, h => by
    unfold Rp at h ⊢
    obtain ⟨a, vs, r, s, t⟩ := h
    exact ⟨a, vs, r, s, Rps.own ds vs t⟩
  | .lst ds, v, h => by
    unfold Rp at h ⊢
    obtain ⟨a, vs, r, s, m, t⟩ := h
    exact ⟨a, vs, r, s, ⟨fun z => (List.mem_append.mp z).elim m.1 fun z => m.2 (by rw [List.mem_singleton.mp z]; exact List.mem_cons_self), fun z => m.2 (List.mem_cons_of_mem _ z)⟩, Rps.own ds vs t⟩
  | .dct ks ds, v, h => by
    unfold Rp at h ⊢
    obtain ⟨a, kvs, r, s, m, q, t⟩ := h
    exact ⟨a, kvs, r, s, ⟨fun z => (List.mem_append.mp z).elim m.1 fun z => m.2 (by rw [List.mem_singleton.mp z]; exact List.mem_cons_self), fun z => m.2 (List.mem_cons_of_mem _ z)⟩, q, Rps.own ds _ t⟩
  | .ins nm fs ds, v, h => by
    unfold Rp at h ⊢
    obtain ⟨a, C, dx, fvs, r, q, s, m, j, t⟩ := h
    exact ⟨a, C, dx, fvs, r, q, s, ⟨fun z => (List.mem_append.mp z).elim m.1 fun z => m.2 (by rw [List.mem_singleton.mp z]; exact List.mem_cons_self), fun z => m.2 (List.mem_cons_of_mem _ z)⟩, j, Rps.own ds _ t⟩
theorem Rps.own {p : Addr} : ∀ (ds : List D) (vs : List V), Rps (c.and p) H ρ ds vs → Rps c H (ρ ++ [p]) ds vs
  | [], _, h => h
  | d :: ds, vs, h => by
    unfold Rps at h ⊢
    obtain ⟨v, r, x, y, z⟩ := h
    exact ⟨v, r, x, Rp.own d v y, Rps.own ds r z⟩
end
theorem RepO.map (c c' : C) {H H' : Hp} {ρ ρ' : List Addr} {a : Addr} {o : DO} (hm : c'.mg = c.mg) (ha : H' a = H a) (f : ∀ ds vs, Rps c H ρ ds vs → Rps c' H' ρ' ds vs) (h : RepO c H ρ a o) : RepO c' H' ρ' a o := by
  cases o with
  | lst ds =>
    obtain ⟨vs, x, y⟩ := h
    exact ⟨vs, ha.trans x, f _ _ y⟩
  | dct ks ds =>
    obtain ⟨kvs, x, k, y⟩ := h
    exact ⟨kvs, ha.trans x, k, f _ _ y⟩
  | ins n fs ds =>
    obtain ⟨C, dx, fvs, m, x, k, y⟩ := h
    exact ⟨C, dx, fvs, by rw [hm]; exact m, ha.trans x, k, f _ _ y⟩
/-- p, new, is set apart -/
theorem SR.and {p : Addr} {o : HO} (s : SR c H ρ G) (hp : H p = none) : SR (c.and p) (upd H p o) ρ G := by
  have s' := s.new (o := o) hp
  refine ⟨s.len, s.nd, fun i a x h1 h2 => ?_, s.bnd, s.pb, s.cl, fun a h => ?_⟩
  · exact (s.obj i a x h1 h2).map c (c.and p) rfl (upd_ne fun z => s.live (List.mem_of_getElem? h1) (by rw [z]; exact hp)) fun ds vs => Rps.and hp (s.ext hp) ds vs
  · rcases List.mem_cons.mp h with z | z
    · rw [z, upd_same]
      exact ⟨fun y => s.live y hp, fun y => nomatch y⟩
    · exact ⟨(s'.zs a z).1, (s'.zs a z).2⟩
/-- .. it is what it was again -/
theorem SR.off {p : Addr} (s : SR (c.and p) H ρ G) : SR c H ρ G :=
  ⟨s.len, s.nd, fun i a x h1 h2 => (s.obj i a x h1 h2).map (c.and p) c rfl rfl fun ds vs => Rps.off ds vs, s.bnd, s.pb, s.cl, fun a h => s.zs a (List.mem_cons_of_mem _ h)⟩
/-- .. it is one of those that may change -/
theorem SR.own {p : Addr} {o : DO} (s : SR (c.and p) H ρ G) (hz : p ∉ c.Z) (ho : RepO (c.and p) H ρ p o) : SR c H (ρ ++ [p]) (G ++ [o]) := by
  have hp : p ∉ ρ := (s.zs p List.mem_cons_self).1
  refine ⟨by simp [s.len], ?_, fun i a x h1 h2 => ?_, by have h : c.b ≤ G.length := s.bnd; simp; omega, s.pb, fun n i x hn hi h2 => ?_, fun a h => ⟨fun z => ?_, (s.zs a (List.mem_cons_of_mem _ h)).2⟩⟩
  · rw [List.nodup_append]
    refine ⟨s.nd, by simp, fun a ha b hb => ?_⟩
    rw [List.mem_singleton.mp hb]
    exact fun z => hp (z ▸ ha)
  · by_cases hi : i < ρ.length
    · rw [List.getElem?_append_left hi] at h1
      rw [List.getElem?_append_left (by rw [← s.len]; exact hi)] at h2
      exact (s.obj i a x h1 h2).map (c.and p) c rfl rfl fun ds vs => Rps.own ds vs
    · have hl := s.len
      have z := (List.getElem?_eq_some_iff.mp h1).1
      simp at z
      have ei : i = ρ.length := by omega
      subst ei
      rw [List.getElem?_append_right (Nat.le_refl _)] at h1
      rw [List.getElem?_append_right (by omega)] at h2
      simp at h1
      rw [hl] at h2
      simp at h2
      subst h1 h2
      exact ho.map (c.and p) c rfl rfl fun ds vs => Rps.own ds vs
  · have h3 := s.pb n hn
    have h4 : c.b ≤ G.length := s.bnd
    have h3 : n ≤ c.b := h3
    rw [List.getElem?_append_left (by omega)] at h2
    exact s.cl n i x hn hi h2
  · rcases List.mem_append.mp z with y | y
    · exact (s.zs a (List.mem_cons_of_mem _ h)).1 y
    · rw [List.mem_singleton.mp y] at h
      exact hz h
/-- an object that may change is changed -/
theorem SR.write {i : Nat} {a : Addr} {o : DO} {h : HO} (s : SR c H ρ G) (hi : ρ[i]? = some a) (nt : ∀ xs, ¬ Rd H a (.tup xs)) (hc : ∀ n, c.P n → i < n → closedO n o = true)
    (ho : Ext c H ρ (upd H a h) ρ → RepO c (upd H a h) ρ a o) : Ext c H ρ (upd H a h) ρ ∧ SR c (upd H a h) ρ (G.set i o) := by
  have ma : a ∈ ρ := List.mem_of_getElem? hi
  have e : Ext c H ρ (upd H a h) ρ := by
    refine ⟨⟨⟨[], by simp, by simp⟩, fun b u nb _ r => ?_, fun b xs r => ?_, fun b hb => ?_⟩, fun b hb => upd_ne fun z => (s.zs b hb).1 (z ▸ ma)⟩
    · have n : b ≠ a := fun z => nb (z ▸ ma)
      rcases r with r | ⟨ob, r⟩
      · exact .inl (by rw [upd_ne n]; exact r)
      · exact .inr ⟨ob, by rw [upd_ne n]; exact r⟩
    · have n : b ≠ a := fun z => nt xs (z ▸ r)
      rcases r with r | ⟨ob, r⟩
      · exact .inl (by rw [upd_ne n]; exact r)
      · exact .inr ⟨ob, by rw [upd_ne n]; exact r⟩
    · by_cases z : b = a
      · rw [z, upd_same]; exact fun z => nomatch z
      · rw [upd_ne z]; exact hb
  refine ⟨e, by simp [s.len], s.nd, fun j b x h1 h2 => ?_, by simpa using s.bnd, s.pb, fun n j x hn hj h2 => ?_, fun b hb => ⟨(s.zs b hb).1, e.dom b (s.zs b hb).2⟩⟩
  · by_cases ij : j = i
    · subst ij
      rw [hi] at h1
      cases h1
      have hl : j < G.length := by rw [← s.len]; exact (List.getElem?_eq_some_iff.mp hi).1
      rw [List.getElem?_set_self hl] at h2
      cases h2
      exact ho e
    · rw [List.getElem?_set_ne (Ne.symm ij)] at h2
      have n : b ≠ a := fun z => by
        subst z
        have p1 := List.getElem?_eq_some_iff.mp hi
        have p2 := List.getElem?_eq_some_iff.mp h1
        obtain ⟨q1, e1⟩ := p1
        obtain ⟨q2, e2⟩ := p2
        exact ij ((List.getElem_inj s.nd).mp (e2.trans e1.symm))
      exact (s.obj j b x h1 h2).mono e (upd_ne n)
  · by_cases ij : j = i
    · subst ij
      have hl : j < G.length := by rw [← s.len]; exact (List.getElem?_eq_some_iff.mp hi).1
      rw [List.getElem?_set_self hl] at h2
      cases h2
      exact hc n hn hj
    · rw [List.getElem?_set_ne (Ne.symm ij)] at h2
      exact s.cl n j x hn hj h2
end

/-! ### slots -/
structure EnvR (c : C) (H : Hp) (ρ : List Addr) (σ : St) (τ : Tau) : Prop where
  len : σ.length = τ.length
  val : ∀ (i : Nat) (d : D), τ[i]? = some (some d) → ∃ v, σ[i]? = some (some v) ∧ Rp c H ρ d v
theorem EnvR.ext {c : C} {H H1 : Hp} {ρ ρ1 : List Addr} {σ : St} {τ : Tau} (h : EnvR c H ρ σ τ) (e : Ext c H ρ H1 ρ1) : EnvR c H1 ρ1 σ τ :=
  ⟨h.len, fun i d k => let ⟨v, a, b⟩ := h.val i d k; ⟨v, a, Rp.mono e d v b⟩⟩
theorem EnvR.set {c : C} {H : Hp} {ρ : List Addr} {σ : St} {τ : Tau} (h : EnvR c H ρ σ τ) (i : Nat) {d : D} {v : V} (r : Rp c H ρ d v) : EnvR c H ρ (σ.set i (some v)) (τ.set i (some d)) := by
  refine ⟨by simpa using h.len, fun j x k => ?_⟩
  by_cases ij : j = i
  · subst ij
    have hj : j < τ.length := by
      have := (List.getElem?_eq_some_iff.mp k).1
      simpa using this
    rw [List.getElem?_set_self hj] at k
    cases k
    exact ⟨v, List.getElem?_set_self (by rw [h.len]; exact hj), r⟩
  · rw [List.getElem?_set_ne (Ne.symm ij)] at k ⊢
    exact h.val j x k
theorem EnvR.wipe {c : C} {H : Hp} {ρ : List Addr} {σ : St} {τ : Tau} (h : EnvR c H ρ σ τ) : ∀ vs : List Nat, EnvR c H ρ (wipe σ vs) (wipeD τ vs)
  | [] => h
  | v :: vs => by
    have q := EnvR.wipe h vs
    refine ⟨by unfold L2.wipe wipeD; simpa using q.len, fun j x k => ?_⟩
    unfold wipeD at k
    unfold L2.wipe
    by_cases ij : j = v
    · subst ij
      by_cases hj : j < (wipeD τ vs).length
      · rw [List.getElem?_set_self hj] at k; cases k
      · rw [List.getElem?_eq_none (by simpa using hj)] at k; cases k
    · rw [List.getElem?_set_ne (Ne.symm ij)] at k ⊢
      exact q.val j x k

theorem EnvR.map {c c' : C} {H H' : Hp} {ρ ρ' : List Addr} {σ : St} {τ : Tau} (h : EnvR c H ρ σ τ) (f : ∀ d v, Rp c H ρ d v → Rp c' H' ρ' d v) : EnvR c' H' ρ' σ τ :=
  ⟨h.len, fun i d k => let ⟨v, a, b⟩ := h.val i d k; ⟨v, a, f d v b⟩⟩
/-- what is set apart is changed -/
theorem Ext.setZ {c : C} {H : Hp} {ρ : List Addr} {p : Addr} {o o' : HO} (hH : H p = some o) (nt : ∀ xs, ¬ Rd H p (.tup xs)) : Ext0 (c.and p) H ρ (upd H p o') ρ := by
  refine ⟨⟨[], by simp, by simp⟩, fun a u _ z r => ?_, fun a xs r => ?_, fun a h => ?_⟩
  · have n : a ≠ p := fun e => z (by rw [e]; exact List.mem_cons_self)
    rcases r with r | ⟨ob, r⟩
    · exact .inl (by rw [upd_ne n]; exact r)
    · exact .inr ⟨ob, by rw [upd_ne n]; exact r⟩
  · have n : a ≠ p := fun e => nt xs (e ▸ r)
    rcases r with r | ⟨ob, r⟩
    · exact .inl (by rw [upd_ne n]; exact r)
    · exact .inr ⟨ob, by rw [upd_ne n]; exact r⟩
  · by_cases e : a = p
    · rw [e, upd_same]; exact fun z => nomatch z
    · rw [upd_ne e]; exact h
theorem SR.setZ {c : C} {H : Hp} {ρ : List Addr} {G : Hd} {p : Addr} {o o' : HO} (s : SR (c.and p) H ρ G) (hH : H p = some o) (nt : ∀ xs, ¬ Rd H p (.tup xs)) : SR (c.and p) (upd H p o') ρ G := by
  have e := Ext.setZ (c := c) (ρ := ρ) (o' := o') hH nt
  have hp : p ∉ ρ := (s.zs p List.mem_cons_self).1
  refine ⟨s.len, s.nd, fun i a x h1 h2 => (s.obj i a x h1 h2).map (c.and p) (c.and p) rfl (upd_ne fun z => hp (z ▸ List.mem_of_getElem? h1)) fun ds vs => Rps.mono0 e ds vs, s.bnd, s.pb, s.cl, fun a h => ⟨(s.zs a h).1, e.dom a (s.zs a h).2⟩⟩
/-- from ahead of p to behind its last change -/
theorem Ext.apart {c : C} {H H2 : Hp} {ρ ρ2 : List Addr} {p : Addr} {o o' : HO} (hp : H p = none) (hz : ∀ a ∈ c.Z, H a ≠ none) (nt : ∀ xs, ¬ Rd H2 p (.tup xs)) (e : Ext0 (c.and p) (upd H p o) ρ H2 ρ2) (ez : ∀ a ∈ c.Z, H2 a = H a) : Ext c H ρ (upd H2 p o') ρ2 := by
  have ne : ∀ a, H a ≠ none → a ≠ p := fun a h z => h (by rw [z]; exact hp)
  refine ⟨⟨?_, fun a u h z r => ?_, fun a xs r => ?_, fun a h => ?_⟩, fun a h => ?_⟩
  · obtain ⟨new, e1, e2⟩ := e.more
    refine ⟨new, e1, fun a ha => ?_⟩
    have := e2 a ha
    by_cases z : a = p
    · rw [z]; exact hp
    · rw [upd_ne z] at this; exact this
  · have n := ne a (rdSome r)
    have r' : Rd (upd H p o) a u := by
      rcases r with r | ⟨ob, r⟩
      · exact .inl (by rw [upd_ne n]; exact r)
      · exact .inr ⟨ob, by rw [upd_ne n]; exact r⟩
    have r2 := e.keep a u h (fun y => (List.mem_cons.mp y).elim n z) r'
    rcases r2 with r | ⟨ob, r⟩
    · exact .inl (by rw [upd_ne n]; exact r)
    · exact .inr ⟨ob, by rw [upd_ne n]; exact r⟩
  · have n := ne a (rdSome r)
    have r' : Rd (upd H p o) a (.tup xs) := by
      rcases r with r | ⟨ob, r⟩
      · exact .inl (by rw [upd_ne n]; exact r)
      · exact .inr ⟨ob, by rw [upd_ne n]; exact r⟩
    rcases e.tups a xs r' with r | ⟨ob, r⟩
    · exact .inl (by rw [upd_ne n]; exact r)
    · exact .inr ⟨ob, by rw [upd_ne n]; exact r⟩
  · have n := ne a h
    rw [upd_ne n]
    exact e.dom a (by rw [upd_ne n]; exact h)
  · rw [upd_ne (ne a (hz a h))]
    exact ez a h

/-! ### what a computation gives, and what is wanted of it -/
def Fin {α β : Type} (c : C) (R : Hp → List Addr → α → β → Prop) (o : Out α) (H : Hp) (ρ : List Addr) (Q : β → Hp → Prop) : Prop := match o with
  | .ok a G => ∀ x H' ρ', Ext c H ρ H' ρ' → SR c H' ρ' G → R H' ρ' a x → Q x H'
  | .exc e G => ∀ H' ρ', Ext c H ρ H' ρ' → SR c H' ρ' G → c.EX e H'
  | .bad => False
section
variable {α β α' β' : Type} {c : C} {R : Hp → List Addr → α → β → Prop} {R' : Hp → List Addr → α' → β' → Prop} {H H1 : Hp} {ρ ρ1 : List Addr}
theorem Fin.ext {o : Out α} {Q : β → Hp → Prop} (h : Fin c R o H ρ Q) (e : Ext c H ρ H1 ρ1) : Fin c R o H1 ρ1 Q := by
  cases o with
  | ok a G => exact fun x H' ρ' e' s r => h x H' ρ' (e.trans e') s r
  | exc x G => exact fun H' ρ' e' s => h H' ρ' (e.trans e') s
  | bad => exact h
theorem Fin.mono {o : Out α} {Q Q' : β → Hp → Prop} (h : Fin c R o H ρ Q) (q : ∀ x H', Q x H' → Q' x H') : Fin c R o H ρ Q' := by
  cases o with
  | ok a G => exact fun x H' ρ' e' s r => q _ _ (h x H' ρ' e' s r)
  | exc x G => exact h
  | bad => exact h
/-- one after another -/
theorem Fin.then {o : Out α} {g : α → Hd → Out α'} {Q : β' → Hp → Prop} (h : Fin c R' (o.then g) H ρ Q) :
    Fin c R o H ρ fun x H1 => ∃ ρ1 G1 a, Ext c H ρ H1 ρ1 ∧ SR c H1 ρ1 G1 ∧ R H1 ρ1 a x ∧ Fin c R' (g a G1) H1 ρ1 Q := by
  cases o with
  | ok a G => exact fun x H' ρ' e' s r => ⟨ρ', G, a, e', s, r, Fin.ext (show Fin c R' (g a G) H ρ Q from h) e'⟩
  | exc x G => exact h
  | bad => exact h
theorem Fin.ok {a : α} {G : Hd} {Q : β → Hp → Prop} (h : Fin c R (.ok a G) H ρ Q) {x : β} {H' : Hp} {ρ' : List Addr} (e : Ext c H ρ H' ρ') (s : SR c H' ρ' G) (r : R H' ρ' a x) : Q x H' := h x H' ρ' e s r
theorem Fin.here {a : α} {G : Hd} {Q : β → Hp → Prop} (h : Fin c R (.ok a G) H ρ Q) {x : β} (s : SR c H ρ G) (r : R H ρ a x) : Q x H := h x H ρ Ext.refl s r
theorem Fin.lift {o : Option α} {G : Hd} {Q : β → Hp → Prop} (h : Fin c R (lift o G) H ρ Q) : ∃ a, o = some a ∧ Fin c R (.ok a G) H ρ Q := by
  cases o with
  | none => exact h.elim
  | some a => exact ⟨a, rfl, h⟩
end

/-- readings: an expression, a test, arguments, a statement (what is set apart and the bases: some) -/
abbrev C.zp (c : C) (Z : List Addr) (P : Nat → Prop) : C := { c with Z := Z, P := P }
def low (c : C) (f : Tau → Hd → Out D) : TE := fun σ H Q => ∃ Z P ρ G τ, SR (c.zp Z P) H ρ G ∧ EnvR (c.zp Z P) H ρ σ τ ∧ Fin (c.zp Z P) (Rp (c.zp Z P)) (f τ G) H ρ Q
def RB : Hp → List Addr → Bool → Bool → Prop := fun _ _ a b => a = b
def lowT (c : C) (f : Tau → Hd → Out Bool) : TT := fun σ H Q => ∃ Z P ρ G τ, SR (c.zp Z P) H ρ G ∧ EnvR (c.zp Z P) H ρ σ τ ∧ Fin (c.zp Z P) RB (f τ G) H ρ Q
def lowA (c : C) (f : Tau → Hd → Out (List D)) : TA := fun σ H Q => ∃ Z P ρ G τ, SR (c.zp Z P) H ρ G ∧ EnvR (c.zp Z P) H ρ σ τ ∧ Fin (c.zp Z P) (Rps (c.zp Z P)) (f τ G) H ρ Q
/-- how a statement ended -/
inductive Fv where
  | nx (σ : St) | rt (v : V) | bk (σ : St) | ct (σ : St)
def RF (c : C) : Hp → List Addr → Fl → Fv → Prop := fun H ρ a x => match a, x with
  | .nx τ, .nx σ => EnvR c H ρ σ τ
  | .rt d, .rt v => Rp c H ρ d v
  | .bk τ, .bk σ => EnvR c H ρ σ τ
  | .ct τ, .ct σ => EnvR c H ρ σ τ
  | _, _ => False
def endOf (D : Ends) : Fv → Hp → Prop
  | .nx σ => D.nx σ
  | .rt v => D.rt v
  | .bk σ => D.bk σ
  | .ct σ => D.ct σ
def lowS (c : C) (f : Tau → Hd → Out Fl) : TS := fun D σ H => ∃ Z P ρ G τ, SR (c.zp Z P) H ρ G ∧ EnvR (c.zp Z P) H ρ σ τ ∧ Fin (c.zp Z P) (RF (c.zp Z P)) (f τ G) H ρ (endOf D)

theorem _root_.L2.PE.weak {X : Cx} {e : Expr} {t t' : TE} (h : PE X e t) (k : ∀ σ H Q, t' σ H Q → t σ H Q) : PE X e t' := ⟨fun pins s σ H Q I q => h.run pins s σ H Q I (k σ H Q q)⟩
theorem _root_.L2.PT.weak {X : Cx} {e : Expr} {t t' : TT} (h : PT X e t) (k : ∀ σ H Q, t' σ H Q → t σ H Q) : PT X e t' := ⟨fun pins s σ H Q I q => h.run pins s σ H Q I (k σ H Q q)⟩
theorem _root_.L2.PW.weak {X : Cx} {e : Expr} {t t' : TT} (h : PW X e t) (k : ∀ σ H Q, t' σ H Q → t σ H Q) : PW X e t' := ⟨fun wh pins s σ H Q I q => h.run wh pins s σ H Q I (k σ H Q q)⟩
theorem _root_.L2.PA.weak {X : Cx} {e : List Expr} {t t' : TA} (h : PA X e t) (k : ∀ σ H Q, t' σ H Q → t σ H Q) : PA X e t' := ⟨fun pos pins s σ H Q I q => h.run pos pins s σ H Q I (k σ H Q q)⟩
theorem _root_.L2.PS.weak {X : Cx} {e : Stmt} {t t' : TS} (h : PS X e t) (k : ∀ D σ H, t' D σ H → t D σ H) : PS X e t' := ⟨fun pins s σ H D I q => h.run pins s σ H D I (k D σ H q)⟩
theorem _root_.L2.PSs.weak {X : Cx} {e : List Stmt} {t t' : TS} (h : PSs X e t) (k : ∀ D σ H, t' D σ H → t D σ H) : PSs X e t' := ⟨fun pins s σ H D I q => h.run pins s σ H D I (k D σ H q)⟩

/-! ### steps in a row -/
section
variable {c : C} {fa fb fd : Tau → Hd → Out D}
theorem low1 {k : D → Hd → Out D} {r : V → Hp → VK → Prop} (hr : ∀ Z P x H ρ G a Q, SR (c.zp Z P) H ρ G → Rp (c.zp Z P) H ρ a x → Fin (c.zp Z P) (Rp (c.zp Z P)) (k a G) H ρ Q → r x H Q) (σ : St) (H : Hp) (Q : VK)
    (h : low c (fun τ G => (fa τ G).then k) σ H Q) : tUn r (low c fa) σ H Q := by
  obtain ⟨Z, P, ρ, G, τ, s, v, f⟩ := h
  exact ⟨Z, P, ρ, G, τ, s, v, (Fin.then (R := Rp (c.zp Z P)) f).mono fun x H1 ⟨ρ1, G1, a, e1, s1, r1, f1⟩ => hr Z P x H1 ρ1 G1 a Q s1 r1 f1⟩
theorem low2 {k : D → D → Hd → Out D} {r : R2} (hr : ∀ Z P x y H ρ G a d Q, SR (c.zp Z P) H ρ G → Rp (c.zp Z P) H ρ a x → Rp (c.zp Z P) H ρ d y → Fin (c.zp Z P) (Rp (c.zp Z P)) (k a d G) H ρ Q → r x y H Q) (σ : St) (H : Hp) (Q : VK)
    (h : low c (fun τ G => (fa τ G).then fun a G => (fb τ G).then fun d G => k a d G) σ H Q) : tOp r (low c fa) (low c fb) σ H Q := by
  obtain ⟨Z, P, ρ, G, τ, s, v, f⟩ := h
  refine ⟨Z, P, ρ, G, τ, s, v, (Fin.then (R := Rp (c.zp Z P)) f).mono fun x H1 ⟨ρ1, G1, a, e1, s1, r1, f1⟩ => ?_⟩
  exact ⟨Z, P, ρ1, G1, τ, s1, v.ext e1, (Fin.then (R := Rp (c.zp Z P)) f1).mono fun y H2 ⟨ρ2, G2, d, e2, s2, r2, f2⟩ => hr Z P x y H2 ρ2 G2 a d Q s2 (Rp.mono e2 _ _ r1) r2 f2⟩
theorem lowT1 {k : D → Hd → Out Bool} {r : V → Hp → (Bool → Hp → Prop) → Prop} (hr : ∀ Z P x H ρ G a Q, SR (c.zp Z P) H ρ G → Rp (c.zp Z P) H ρ a x → Fin (c.zp Z P) RB (k a G) H ρ Q → r x H Q) (σ : St) (H : Hp) (Q : Bool → Hp → Prop)
    (h : lowT c (fun τ G => (fa τ G).then k) σ H Q) : low c fa σ H (fun x H1 => r x H1 Q) := by
  obtain ⟨Z, P, ρ, G, τ, s, v, f⟩ := h
  exact ⟨Z, P, ρ, G, τ, s, v, (Fin.then (R := Rp (c.zp Z P)) f).mono fun x H1 ⟨ρ1, G1, a, e1, s1, r1, f1⟩ => hr Z P x H1 ρ1 G1 a Q s1 r1 f1⟩
theorem lowA1 {ga : Tau → Hd → Out (List D)} {k : List D → Hd → Out D} {r : List V → Hp → VK → Prop} (hr : ∀ Z P xs H ρ G as Q, SR (c.zp Z P) H ρ G → Rps (c.zp Z P) H ρ as xs → Fin (c.zp Z P) (Rp (c.zp Z P)) (k as G) H ρ Q → r xs H Q) (σ : St) (H : Hp) (Q : VK)
    (h : low c (fun τ G => (ga τ G).then k) σ H Q) : lowA c ga σ H (fun xs H1 => r xs H1 Q) := by
  obtain ⟨Z, P, ρ, G, τ, s, v, f⟩ := h
  exact ⟨Z, P, ρ, G, τ, s, v, (Fin.then (R := Rps (c.zp Z P)) f).mono fun x H1 ⟨ρ1, G1, a, e1, s1, r1, f1⟩ => hr Z P x H1 ρ1 G1 a Q s1 r1 f1⟩
end
end U

set_option Elab.async false
set_option linter.all false
set_option maxRecDepth 100000
/-! UC: the operators upon plain data, as the layer's rules give them. -/
namespace U
open PySem L2 PyProof.Rows
variable {X : Cx} {c : C} {H : Hp} {ρ : List Addr} {G : Hd}

/-! ### new things -/
theorem newTup {ds : List D} {vs : List V} {p : Addr} {Q : VK} (s : SR c H ρ G) (hp : H p = none) (r : Rps c H ρ ds vs) (f : Fin c (Rp c) (.ok (.tup ds) G) H ρ Q) : Q (.ref p) (upd H p (.tup vs)) := by
  have e := s.ext (o := .tup vs) hp
  refine f.ok e (s.new hp) ?_
  unfold Rp
  exact ⟨p, vs, rfl, .inl (.inl upd_same), Rps.mono e ds vs r⟩
theorem SR.notZ (s : SR c H ρ G) {p : Addr} (hp : H p = none) : p ∉ ρ ∧ p ∉ c.Z := ⟨fun z => s.live z hp, fun z => (s.zs p z).2 hp⟩
theorem newLst {ds : List D} {vs : List V} {p : Addr} {Q : VK} (s : SR c H ρ G) (hp : H p = none) (r : Rps c H ρ ds vs) (f : Fin c (Rp c) (.ok (.lst ds) G) H ρ Q) : Q (.ref p) (upd H p (.lst vs)) := by
  have e := s.ext (o := .lst vs) hp
  refine f.ok e (s.new hp) ?_
  unfold Rp
  exact ⟨p, vs, rfl, .inl upd_same, s.notZ hp, Rps.mono e ds vs r⟩

/-! ### reading -/
theorem Rp.tup_of {ds : List D} {v : V} (h : Rp c H ρ (.tup ds) v) : ∃ a vs, v = .ref a ∧ SqT c.K H a vs ∧ Rps c H ρ ds vs := by unfold Rp at h; exact h
theorem Rp.lst_of {ds : List D} {v : V} (h : Rp c H ρ (.lst ds) v) : ∃ a vs, v = .ref a ∧ Rd H a (.lst vs) ∧ (a ∉ ρ ∧ a ∉ c.Z) ∧ Rps c H ρ ds vs := by unfold Rp at h; exact h
theorem Rp.ref_of {i : Nat} {v : V} (h : Rp c H ρ (.ref i) v) : ∃ a, ρ[i]? = some a ∧ v = .ref a := by unfold Rp at h; exact h
theorem rp_list {d : D} {v : V} {xs : List D} (s : SR c H ρ G) (h : Rp c H ρ d v) (e : listD G d = some xs) : ∃ a vs, v = .ref a ∧ Rd H a (.lst vs) ∧ Rps c H ρ xs vs := by
  cases d with
  | lst ys =>
    have e : some ys = some xs := e
    cases e
    obtain ⟨a, vs, r, q, _, t⟩ := h.lst_of
    exact ⟨a, vs, r, q, t⟩
  | ref i =>
    obtain ⟨a, ha, r⟩ := h.ref_of
    unfold listD at e
    cases g : G[i]? with
    | none => simp only [g] at e; cases e
    | some o =>
      simp only [g] at e
      cases o with
      | lst ys =>
        cases e
        obtain ⟨vs, q, t⟩ := s.obj i a _ ha g
        exact ⟨a, vs, r, .inl q, t⟩
      | _ => cases e
  | _ => cases e
theorem rp_seq {d : D} {v : V} {xs : List D} (s : SR c H ρ G) (h : Rp c H ρ d v) (e : seqD G d = some xs) : ∃ a vs, v = .ref a ∧ (Rd H a (.lst vs) ∨ SqT c.K H a vs) ∧ Rps c H ρ xs vs := by
  cases d with
  | tup ys =>
    have e : some ys = some xs := e
    cases e
    obtain ⟨a, vs, r, q, t⟩ := h.tup_of
    exact ⟨a, vs, r, .inr q, t⟩
  | lst ys =>
    obtain ⟨a, vs, r, q, t⟩ := rp_list s h e
    exact ⟨a, vs, r, .inl q, t⟩
  | ref i =>
    obtain ⟨a, vs, r, q, t⟩ := rp_list s h e
    exact ⟨a, vs, r, .inl q, t⟩
  | _ => cases e

/-! ### data, for == -/
mutual
theorem dp_of : ∀ (d : D) (v : V) (y : PyData), toPy d = some y → Rp c H ρ d v → Dp c.K H v y
  | .non, v, y, e, h => by
    have h : v = .non := h
    cases e
    rw [h]; exact .non
  | .bl b, v, y, e, h => by
    have h : v = .bl b := h
    cases e
    rw [h]; exact .bl b
  | .int b, v, y, e, h => by
    have h : v = .int b := h
    cases e
    rw [h]; exact .int b
  | .str b, v, y, e, h => by
    have h : v = .str b := h
    cases e
    rw [h]; exact .str b
  | .tup ds, v, y, e, h => by
    obtain ⟨a, vs, rfl, q, t⟩ := h.tup_of
    unfold toPy at e
    cases g : toPys ds with
    | none => rw [g] at e; cases e
    | some ys =>
      rw [g] at e
      cases e
      exact .tup q (dps_of ds vs ys g t)
  | .lst ds, v, y, e, h => by
    obtain ⟨a, vs, rfl, q, _, t⟩ := h.lst_of
    unfold toPy at e
    cases g : toPys ds with
    | none => rw [g] at e; cases e
    | some ys =>
      rw [g] at e
      cases e
      exact .lst (.inl q) (dps_of ds vs ys g t)
  | .dct _ _, _, _, e, _ => by cases e
  | .ins _ _ _, _, _, e, _ => by cases e
  | .ref _, _, _, e, _ => by cases e
  | .ty _, _, _, e, _ => by cases e
  | .glo _, _, _, e, _ => by cases e
  | .exc _, _, _, e, _ => by cases e
theorem dps_of : ∀ (ds : List D) (vs : List V) (ys : List PyData), toPys ds = some ys → Rps c H ρ ds vs → DpAll c.K H vs ys
  | [], vs, ys, e, h => by
    cases e
    rw [h.of_nil]; exact .nil
  | d :: ds, vs, ys, e, h => by
    obtain ⟨v, r, rfl, q, t⟩ := h.of_cons
    unfold toPys at e
    cases g : toPy d with
    | none => simp only [g] at e; cases e
    | some y =>
      cases g2 : toPys ds with
      | none => simp only [g, g2] at e; cases e
      | some zs =>
        simp only [g, g2] at e
        cases e
        exact .cons (dp_of d v y g q) (dps_of ds r zs g2 t)
end
theorem dpG_of {d : D} {v : V} {y : PyData} (s : SR c H ρ G) (e : toPyG G d = some y) (h : Rp c H ρ d v) : Dp c.K H v y := by
  cases d with
  | ref i =>
    obtain ⟨a, ha, rfl⟩ := h.ref_of
    unfold toPyG at e
    cases g : G[i]? with
    | none => simp only [g] at e; cases e
    | some o =>
      simp only [g] at e
      cases o with
      | lst ds =>
        obtain ⟨vs, q, t⟩ := s.obj i a _ ha g
        cases g2 : toPys ds with
        | none => simp only [g2] at e; cases e
        | some ys =>
          simp only [g2] at e
          cases e
          exact .lst (.inl (.inl q)) (dps_of ds vs ys g2 t)
      | _ => cases e
  | _ => exact dp_of _ v y e h

theorem two_eqD (hu : X.A.units + 64 < cLine) (hK : c.K = X.K) : OpR X (compareOp .Eq) (rEqD c.K) := by rw [hK]; exact op_eqD hu
theorem two_neD (hu : X.A.units + 64 < cLine) (hK : c.K = X.K) : OpR X (compareOp .NotEq) (rNeD c.K) := by rw [hK]; exact op_neD hu

/-! ### binary operators -/
/-- list + list, of lists that are read -/
def rCatL : R2 := fun x y H Q => ∃ l b xs zs, x = .ref l ∧ y = .ref b ∧ Rd H l (.lst xs) ∧ Rd H b (.lst zs) ∧ xs.length + zs.length ≤ sizeLine ∧ ∀ p, H p = none → Q (.ref p) (upd H p (.lst (xs ++ zs)))
theorem op_catL : OpR X (binaryOp .Add) rCatL := by
  intro pins s σ H x y v u Q I rx ry h
  obtain ⟨l, b, xs, zs, rfl, rfl, hH, hB, hz, q⟩ := h
  cases rx
  cases ry
  obtain ⟨z, its, n, r, e⟩ := (show ObjOk X.prog X.w H s.heap l (.lst xs) from hH.ok I.hok)
  obtain ⟨z2, its2, n2, r2, e2⟩ := (show ObjOk X.prog X.w H s.heap b (.lst zs) from hB.ok I.hok)
  have l1 := r.length
  have l2 := r2.length
  refine PySem.P.add_list e e2 ?_ (by rw [List.size_toArray, List.size_toArray]; omega)
  have ea : its.toArray ++ its2.toArray = (its ++ its2).toArray := by simp
  rw [ea]
  exact ⟨.ref _, _, I.lnew (t' := s.toks) (r.append r2) (by rw [List.length_append]; omega), rfl, q _ I.fresh⟩

theorem op_fdivU : OpR X (binaryOp .FloorDiv) (rI (fun _ j => j ≠ 0 ∧ j.natAbs.log2 < 9000) fun i j => .int (i.fdiv j)) := opI fun _ _ _ _ _ _ _ hc q => floordiv_int hc.1 q (.inl (PyProof.noPylong_of_log2 hc.2))
theorem mulOk_ok {i j : Int} (h : mulOk i j = true) : IntMulOk i j := by
  unfold mulOk at h
  simp only [Bool.or_eq_true, decide_eq_true_eq] at h
  rcases h with (h | h) | h
  · exact .of_left (intBits_le_64 (by omega) (by omega))
  · exact .of_right (intBits_le_64 (by omega) (by omega))
  · exact CMulW.ok h
theorem op_mulU : OpR X (binaryOp .Mult) (rI (fun i j => mulOk i j = true) fun i j => .int (i * j)) := opI fun _ _ _ _ _ _ _ hc q => mul_int q (mulOk_ok hc)

def rBin (K : PySem.W.Frag) : BOp → R2
  | .add => fun x y H Q => ((rI0 fun i j => .int (i + j)) x y H Q ∨ (∃ i j, x = .str i ∧ y = .str j ∧ i.length + j.length ≤ sizeLine ∧ Q (.str (i ++ j)) H)) ∨ (rCatA K x y H Q ∨ rCatL x y H Q)
  | .sub => rI0 fun i j => .int (i - j)
  | .mul => fun x y H Q => (rI (fun i j => mulOk i j = true) fun i j => .int (i * j)) x y H Q ∨ rRepT K x y H Q
  | .fdiv => rI (fun _ j => j ≠ 0 ∧ j.natAbs.log2 < 9000) fun i j => .int (i.fdiv j)
  | .mod => rI (fun _ j => j ≠ 0) fun i j => .int (i.fmod j)
  | .pow => rI CPow fun i j => .int (i ^ j.toNat)
def opPy : BOp → Operator
  | .add => .Add
  | .sub => .Sub
  | .mul => .Mult
  | .fdiv => .FloorDiv
  | .mod => .Mod
  | .pow => .Pow
theorem op_bin (o : BOp) : OpR X (binaryOp (opPy o)) (rBin X.K o) := by
  cases o with
  | add => exact (op_add.or op_add_str).or (op_catA.or op_catL)
  | sub => exact op_sub
  | mul => exact op_mulU.or op_repT
  | fdiv => exact op_fdivU
  | mod => exact op_modN
  | pow => exact op_pow
theorem ite_some {α : Type} {p : Prop} [Decidable p] {a z : α} (e : (if p then some a else none) = some z) : p ∧ a = z := by
  split at e
  · exact ⟨by assumption, Option.some.inj e⟩
  · cases e
theorem line_eq : sizeLine = line := sizeLine_eq

theorem bin_ok {o : BOp} {x y : V} {a d : D} {Q : VK} (s : SR c H ρ G) (ra : Rp c H ρ a x) (rd : Rp c H ρ d y) (f : Fin c (Rp c) (lift (binD G o a d) G) H ρ Q) : rBin c.K o x y H Q := by
  obtain ⟨z, e, f⟩ := f.lift
  have lists : ∀ {xs ys : List D}, listD G a = some xs → listD G d = some ys → (if xs.length + ys.length ≤ line then some (D.lst (xs ++ ys)) else none) = some z → rCatL x y H Q := by
    intro xs ys h1 h2 e
    obtain ⟨p, vs, rfl, q1, t1⟩ := rp_list s ra h1
    obtain ⟨p2, us, rfl, q2, t2⟩ := rp_list s rd h2
    split at e
    · rename_i hl
      cases e
      refine ⟨p, p2, vs, us, rfl, rfl, q1, q2, by rw [t1.length, t2.length, line_eq]; exact hl, fun q hq => newLst s hq (t1.append t2) f⟩
    · cases e
  have listc : (match listD G a, listD G d with
    | some xs, some ys => if xs.length + ys.length ≤ line then some (D.lst (xs ++ ys)) else none
    | _, _ => none) = some z → rCatL x y H Q := by
    intro e
    cases h1 : listD G a with
    | none => rw [h1] at e; cases e
    | some xs =>
      cases h2 : listD G d with
      | none => rw [h1, h2] at e; cases e
      | some ys =>
        rw [h1, h2] at e
        exact lists h1 h2 e
  cases o with
  | add =>
    cases a with
    | int i =>
      have hx : x = .int i := ra
      cases d with
      | int j =>
        have hy : y = .int j := rd
        cases e
        exact .inl (.inl ⟨i, j, hx, hy, f.here s rfl⟩)
      | _ => exact .inr (.inr (listc e))
    | str i =>
      have hx : x = .str i := ra
      cases d with
      | str j =>
        have hy : y = .str j := rd
        obtain ⟨hl, rfl⟩ := ite_some e
        exact .inl (.inr ⟨i, j, hx, hy, by rw [line_eq]; exact hl, f.here s rfl⟩)
      | _ => exact .inr (.inr (listc e))
    | tup xs =>
      cases d with
      | tup ys =>
        obtain ⟨hl, rfl⟩ := ite_some e
        obtain ⟨p, vs, rfl, q1, t1⟩ := ra.tup_of
        obtain ⟨p2, us, rfl, q2, t2⟩ := rd.tup_of
        refine .inr (.inl ⟨p, p2, vs, us, rfl, rfl, q1, q2, by rw [t1.length, t2.length, line_eq]; exact hl, fun z => ?_, fun _ z => ?_, fun _ _ q hq => newTup s hq (t1.append t2) f⟩)
        · have e0 : xs = [] := List.eq_nil_of_length_eq_zero (by rw [← t1.length, z]; rfl)
          subst e0
          exact f.here s rd
        · have e0 : ys = [] := List.eq_nil_of_length_eq_zero (by rw [← t2.length, z]; rfl)
          subst e0
          rw [List.append_nil] at f
          exact f.here s ra
      | _ => exact .inr (.inr (listc e))
    | _ => exact .inr (.inr (listc e))
  | sub =>
    cases a with
    | int i =>
      cases d with
      | int j =>
        cases e
        exact ⟨i, j, ra, rd, f.here s rfl⟩
      | _ => cases e
    | _ => cases e
  | mul =>
    cases a with
    | int i =>
      cases d with
      | int j =>
        obtain ⟨hl, rfl⟩ := ite_some e
        exact .inl ⟨i, j, ra, rd, hl, f.here s rfl⟩
      | _ => cases e
    | tup xs =>
      cases d with
      | int n =>
        obtain ⟨hl, rfl⟩ := ite_some e
        obtain ⟨p, vs, rfl, q1, t1⟩ := ra.tup_of
        simp only [Bool.and_eq_true, decide_eq_true_eq] at hl
        obtain ⟨h1, h2, h3, h4⟩ := hl
        refine .inr ⟨p, n, vs, rfl, rd, q1, fun z => ?_, h3, h4, by rw [t1.length]; exact h2, fun q hq => newTup s hq ?_ f⟩
        · have e0 : xs = [] := List.eq_nil_of_length_eq_zero (by rw [← t1.length, z]; rfl)
          subst e0
          simp at h1
        · generalize n.toNat = m
          induction m with
          | zero => exact .nil
          | succ m ih => exact t1.append ih
      | _ => cases e
    | _ => cases e
  | fdiv =>
    cases a with
    | int i =>
      cases d with
      | int j =>
        obtain ⟨hl, rfl⟩ := ite_some e
        unfold divOk at hl
        simp only [Bool.and_eq_true, decide_eq_true_eq] at hl
        exact ⟨i, j, ra, rd, hl, f.here s rfl⟩
      | _ => cases e
    | _ => cases e
  | mod =>
    cases a with
    | int i =>
      cases d with
      | int j =>
        obtain ⟨hl, rfl⟩ := ite_some e
        exact ⟨i, j, ra, rd, hl, f.here s rfl⟩
      | _ => cases e
    | _ => cases e
  | pow =>
    cases a with
    | int i =>
      cases d with
      | int j =>
        obtain ⟨hl, rfl⟩ := ite_some e
        unfold powOk at hl
        simp only [Bool.and_eq_true, decide_eq_true_eq] at hl
        exact ⟨i, j, ra, rd, ⟨hl.1.1, hl.1.2, hl.2⟩, f.here s rfl⟩
      | _ => cases e
    | _ => cases e
end U

set_option Elab.async false
set_option linter.all false
set_option maxRecDepth 100000
/-! UD: comparisons, truth, places, slices, built-ins upon plain data. -/
namespace U
open PySem L2 PyProof.Rows
variable {X : Cx} {c : C} {H : Hp} {ρ : List Addr} {G : Hd}

/-! ### flat values -/
def vOf : D → V
  | .bl b => .bl b
  | .int i => .int i
  | .str x => .str x
  | _ => .non
theorem flat_of {d : D} {v : V} (f : flatD d = true) (h : Rp c H ρ d v) : v = vOf d ∧ flatV v = true := by
  cases d with
  | non => have h : v = .non := h; subst h; exact ⟨rfl, rfl⟩
  | bl b => have h : v = .bl b := h; subst h; exact ⟨rfl, rfl⟩
  | int b => have h : v = .int b := h; subst h; exact ⟨rfl, rfl⟩
  | str b => have h : v = .str b := h; subst h; exact ⟨rfl, rfl⟩
  | _ => cases f
theorem flats_of : ∀ {ds : List D} {vs : List V}, ds.all flatD = true → Rps c H ρ ds vs → vs = ds.map vOf ∧ vs.all flatV = true
  | [], vs, _, h => by rw [h.of_nil]; exact ⟨rfl, rfl⟩
  | d :: ds, vs, f, h => by
    obtain ⟨v, r, rfl, q, t⟩ := h.of_cons
    rw [List.all_cons, Bool.and_eq_true] at f
    obtain ⟨a, b⟩ := flat_of f.1 q
    obtain ⟨a2, b2⟩ := flats_of f.2 t
    rw [List.map_cons, List.all_cons, ← a, ← a2, b, b2]
    exact ⟨rfl, rfl⟩
theorem flatEq_of {a b : D} (fa : flatD a = true) (fb : flatD b = true) : eqV (vOf a) (vOf b) = flatEq a b := by
  cases a <;> cases b <;> first | rfl | (cases fa; done) | (cases fb; done)
theorem inV_of {x : D} (fx : flatD x = true) : ∀ {ds : List D}, ds.all flatD = true → inV (vOf x) (ds.map vOf) = ds.any fun z => flatEq z x
  | [], _ => rfl
  | d :: ds, f => by
    rw [List.all_cons, Bool.and_eq_true] at f
    have ih := inV_of fx f.2
    unfold inV at ih ⊢
    rw [List.map_cons, List.any_cons, List.any_cons, ih, flatEq_of f.1 fx]

/-! ### keys -/
theorem key_of {d : D} {v : V} (f : keyD d = true) (h : Rp c H ρ d v) : ∃ k : Key, d = kD k ∧ v = kV k := by
  cases d with
  | int i => exact ⟨.inl i, rfl, h⟩
  | str x => exact ⟨.inr x, rfl, h⟩
  | _ => cases f
theorem keyEq_kD (a b : Key) : keyEq (kD a) (kD b) = decide (a = b) := by
  cases a with
  | inl i => cases b with
    | inl j => exact Bool.eq_iff_iff.mpr (by simp [keyEq, kD])
    | inr y => exact Bool.eq_iff_iff.mpr (by simp [keyEq, kD])
  | inr x => cases b with
    | inl j => exact Bool.eq_iff_iff.mpr (by simp [keyEq, kD])
    | inr y => exact Bool.eq_iff_iff.mpr (by simp [keyEq, kD])
theorem dictGet_of (k : Key) : ∀ {kvs : List (Key × V)} {ds : List D}, Rps c H ρ ds (kvs.map (·.2)) →
    (match dictGet (kvs.map fun p => kD p.1) ds (kD k) with
      | some d => ∃ v, valV kvs k = some v ∧ Rp c H ρ d v
      | none => valV kvs k = none)
  | [], ds, h => by
    have : dictGet (([] : List (Key × V)).map fun p => kD p.1) ds (kD k) = none := by cases ds <;> rfl
    rw [this]
    rfl
  | (q, w) :: kvs, [], h => by
    have := h.of_nil
    simp at this
  | (q, w) :: kvs, d :: ds, h => by
    obtain ⟨v, r, e, y, t⟩ := h.of_cons
    simp only [List.map_cons, List.cons.injEq] at e
    obtain ⟨rfl, rfl⟩ := e
    have ih := dictGet_of k t
    unfold dictGet
    simp only [List.map_cons, keyEq_kD]
    unfold valV
    rw [List.find?_cons]
    by_cases hk : q = k
    · simp only [hk, decide_true, if_true]
      exact ⟨w, rfl, y⟩
    · simp only [hk, decide_false, if_false, Bool.false_eq_true]
      exact ih
theorem any_keys (k : Key) : ∀ kvs : List (Key × V), (kvs.map fun p => kD p.1).any (fun q => keyEq q (kD k)) = kvs.any fun kv => decide (kv.1 = k)
  | [] => rfl
  | p :: r => by rw [List.map_cons, List.any_cons, List.any_cons, keyEq_kD, any_keys k r]
theorem swap_of {k : Key} {y : D} {v : V} (hy : Rp c H ρ y v) : ∀ {kvs : List (Key × V)} {ds : List D}, Rps c H ρ ds (kvs.map (·.2)) →
    Rps c H ρ (swapV (kD k) y (kvs.map fun p => kD p.1) ds) ((kvs.map fun kv => if kv.1 = k then (kv.1, v) else kv).map (·.2)) ∧ ((kvs.map fun kv => if kv.1 = k then (kv.1, v) else kv).map fun p => kD p.1) = kvs.map fun p => kD p.1
  | [], ds, h => ⟨.nil, rfl⟩
  | (q, w) :: kvs, [], h => by
    have := h.of_nil
    simp at this
  | (q, w) :: kvs, d :: ds, h => by
    obtain ⟨v', r, e, y', t⟩ := h.of_cons
    simp only [List.map_cons, List.cons.injEq] at e
    obtain ⟨rfl, rfl⟩ := e
    obtain ⟨i1, i2⟩ := swap_of (k := k) hy t
    simp only [List.map_cons]
    rw [i2]
    unfold swapV
    rw [keyEq_kD]
    by_cases hk : q = k
    · simp only [hk, decide_true, if_true]
      exact ⟨.cons hy i1, trivial⟩
    · simp only [hk, decide_false, if_false, Bool.false_eq_true]
      exact ⟨.cons y' i1, trivial⟩
theorem put_of {k : Key} {y : D} {v : V} (hy : Rp c H ρ y v) {kvs : List (Key × V)} {ds : List D} (h : Rps c H ρ ds (kvs.map (·.2))) :
    (dictPut (kvs.map fun p => kD p.1) ds (kD k) y).1 = (putK kvs k v).map (fun p => kD p.1) ∧ Rps c H ρ (dictPut (kvs.map fun p => kD p.1) ds (kD k) y).2 ((putK kvs k v).map (·.2)) := by
  unfold dictPut putK
  rw [any_keys]
  split
  · obtain ⟨i1, i2⟩ := swap_of (k := k) hy h
    exact ⟨i2.symm, i1⟩
  · simp only [List.map_append, List.map_cons, List.map_nil]
    exact ⟨trivial, h.append (.cons hy .nil)⟩

/-! ### comparisons -/
def rDIn : R2 := fun y x H Q => ∃ a o, x = .ref a ∧ DGet H a y o ∧ Q (.bl o.isSome) H
def rDNotIn : R2 := fun y x H Q => ∃ a o, x = .ref a ∧ DGet H a y o ∧ Q (.bl (!o.isSome)) H
theorem op_din (hu : X.A.units + 1 < cLine) : OpR X (compareOp .In) rDIn := by
  intro pins s σ H y x iv u Q I ry rx h
  obtain ⟨a, o, rfl, g, q⟩ := h
  obtain rfl : u = Value.ref a := rx
  exact d_in hu I g ry fun s3 I3 => ⟨.bl o.isSome, H, I3, rfl, q⟩
theorem op_dnotin (hu : X.A.units + 1 < cLine) : OpR X (compareOp .NotIn) rDNotIn := by
  intro pins s σ H y x iv u Q I ry rx h
  obtain ⟨a, o, rfl, g, q⟩ := h
  obtain rfl : u = Value.ref a := rx
  exact d_notIn hu I g ry fun s3 I3 => ⟨.bl (!o.isSome), H, I3, rfl, q⟩
def rCmp (K : PySem.W.Frag) : COp → R2
  | .eq => rEqD K
  | .ne => rNeD K
  | .lt => fun x y H Q => (rI0 fun i j => .bl (decide (i < j))) x y H Q ∨ ∃ i j, x = .str i ∧ y = .str j ∧ Q (.bl (decide (i.cps.toList < j.cps.toList))) H
  | .le => rI0 fun i j => .bl (decide (i ≤ j))
  | .gt => rI0 fun i j => .bl (decide (j < i))
  | .ge => rI0 fun i j => .bl (decide (j ≤ i))
  | .isn => fun x y H Q => y = .non ∧ Q (.bl (decide (x = .non))) H
  | .notn => fun x y H Q => y = .non ∧ Q (.bl (!decide (x = .non))) H
  | .isin => fun x y H Q => (∃ k z, x = .str ⟨#[k]⟩ ∧ y = .str z ∧ Q (.bl (decide (k ∈ z.cps.toList))) H) ∨ (rIn K false x y H Q ∨ rDIn x y H Q)
  | .nin => fun x y H Q => (∃ k z, x = .str ⟨#[k]⟩ ∧ y = .str z ∧ Q (.bl (!decide (k ∈ z.cps.toList))) H) ∨ (rIn K true x y H Q ∨ rDNotIn x y H Q)
def cmpPy : COp → CmpOp
  | .eq => .Eq
  | .ne => .NotEq
  | .lt => .Lt
  | .le => .LtE
  | .gt => .Gt
  | .ge => .GtE
  | .isn => .Is
  | .notn => .IsNot
  | .isin => .In
  | .nin => .NotIn
theorem op_cmp (hu : X.A.units + 64 < cLine) (o : COp) : OpR X (compareOp (cmpPy o)) (rCmp X.K o) := by
  cases o with
  | eq => exact op_eqD hu
  | ne => exact op_neD hu
  | lt => exact op_lt.or op_lt_str
  | le => exact op_le
  | gt => exact op_gt
  | ge => exact op_ge
  | isn => exact op_isN
  | notn => exact op_notN
  | isin => exact op_in_sign.or (op_in_seq.or (op_din (by omega)))
  | nin => exact op_notIn_sign.or (op_notIn_seq.or (op_dnotin (by omega)))

theorem rp_dict {d : D} {v : V} {ks vs : List D} (s : SR c H ρ G) (h : Rp c H ρ d v) (e : dictOf G d = some (ks, vs)) : ∃ a kvs, v = .ref a ∧ Rd H a (.dK kvs) ∧ ks = kvs.map (fun p => kD p.1) ∧ Rps c H ρ vs (kvs.map (·.2)) := by
  cases d with
  | dct ks' vs' =>
    have e : some (ks', vs') = some (ks, vs) := e
    cases e
    unfold Rp at h
    obtain ⟨a, kvs, r, q, _, k, t⟩ := h
    exact ⟨a, kvs, r, q, k, t⟩
  | ref i =>
    obtain ⟨a, ha, r⟩ := h.ref_of
    unfold dictOf at e
    cases g : G[i]? with
    | none => simp only [g] at e; cases e
    | some o =>
      simp only [g] at e
      cases o with
      | dct ks' vs' =>
        cases e
        obtain ⟨kvs, q, k, t⟩ := s.obj i a _ ha g
        exact ⟨a, kvs, r, .inl q, k, t⟩
      | _ => cases e
  | _ => cases e
theorem rp_get {d x : D} {v y : V} {ks vs : List D} (s : SR c H ρ G) (h : Rp c H ρ d v) (e : dictOf G d = some (ks, vs)) (kx : keyD x = true) (hx : Rp c H ρ x y) :
    ∃ a o, v = .ref a ∧ DGet H a y o ∧ (match dictGet ks vs x with
      | some z => ∃ w, o = some w ∧ Rp c H ρ z w
      | none => o = none) := by
  obtain ⟨a, kvs, rfl, q, rfl, t⟩ := rp_dict s h e
  obtain ⟨k, rfl, rfl⟩ := key_of kx hx
  have g := dictGet_of k t
  refine ⟨a, valV kvs k, rfl, .inl ⟨kvs, k, q, rfl, rfl⟩, ?_⟩
  split
  · rename_i z ez
    rw [ez] at g
    exact g
  · rename_i ez
    rw [ez] at g
    exact g
theorem rp_non {d : D} {v : V} (h : Rp c H ρ d v) : decide (v = .non) = isNonD d := by
  cases d with
  | non => have h : v = .non := h; subst h; rfl
  | bl b => have h : v = .bl b := h; subst h; rfl
  | int b => have h : v = .int b := h; subst h; rfl
  | str b => have h : v = .str b := h; subst h; rfl
  | ty b => have h : v = .ty b := h; subst h; rfl
  | tup b => obtain ⟨a, vs, rfl, _⟩ := h.tup_of; rfl
  | lst b => obtain ⟨a, vs, rfl, _⟩ := h.lst_of; rfl
  | dct b d => unfold Rp at h; obtain ⟨a, vs, rfl, _⟩ := h; rfl
  | ins b d e => unfold Rp at h; obtain ⟨a, C, dx, vs, rfl, _⟩ := h; rfl
  | ref b => obtain ⟨a, _, rfl⟩ := h.ref_of; rfl
  | glo b => unfold Rp at h; obtain ⟨a, _, rfl⟩ := h; rfl
  | exc b => exact (show False from h).elim
theorem in_ok {neg : Bool} {x y : V} {a d : D} {k : Bool} {Q : VK} (s : SR c H ρ G) (ra : Rp c H ρ a x) (rd : Rp c H ρ d y) (e : inD G a d = some k) (q : Q (.bl (if neg then !k else k)) H) :
    (∃ k z, x = .str ⟨#[k]⟩ ∧ y = .str z ∧ Q (.bl (if neg then !decide (k ∈ z.cps.toList) else decide (k ∈ z.cps.toList))) H) ∨ (rIn c.K neg x y H Q ∨ ∃ a o, y = .ref a ∧ DGet H a x o ∧ Q (.bl (if neg then !o.isSome else o.isSome)) H) := by
  have other : (match dictOf G d with
    | some (ks, vs) => if keyD a then some (dictGet ks vs a).isSome else none
    | none => (seqD G d).bind (inSeq a)) = some k → (rIn c.K neg x y H Q ∨ ∃ a o, y = .ref a ∧ DGet H a x o ∧ Q (.bl (if neg then !o.isSome else o.isSome)) H) := by
    intro e
    cases g : dictOf G d with
    | some p =>
      obtain ⟨ks, vs⟩ := p
      rw [g] at e
      obtain ⟨ka, rfl⟩ := ite_some e
      obtain ⟨p, o, rfl, dg, m⟩ := rp_get s rd g ka ra
      refine .inr ⟨p, o, rfl, dg, ?_⟩
      have eo : o.isSome = (dictGet ks vs a).isSome := by
        cases z : dictGet ks vs a with
        | none => rw [z] at m; rw [m]; rfl
        | some w => rw [z] at m; obtain ⟨w', m, _⟩ := m; rw [m]; rfl
      rw [eo]
      exact q
    | none =>
      rw [g] at e
      cases g2 : seqD G d with
      | none => rw [g2] at e; cases e
      | some ys =>
        rw [g2] at e
        obtain ⟨hf, rfl⟩ := ite_some e
        rw [Bool.and_eq_true] at hf
        obtain ⟨p, vs, rfl, sq, t⟩ := rp_seq s rd g2
        obtain ⟨e1, f1⟩ := flat_of hf.1 ra
        obtain ⟨e2, f2⟩ := flats_of hf.2 t
        refine .inl ⟨p, vs, rfl, ?_, f1, f2, ?_⟩
        · rcases sq with sq | sq
          · exact .inl (.inl sq)
          · exact .inr sq
        · rw [e1, e2, inV_of hf.1 hf.2]
          exact q
  cases d with
  | str z =>
    have hy : y = .str z := rd
    cases a with
    | str w =>
      have hx : x = .str w := ra
      have e : (signOf (.str w)).map (fun k => decide (k ∈ z.cps.toList)) = some k := e
      unfold signOf at e
      cases g : w.cps.toList with
      | nil => simp only [g] at e; cases e
      | cons n r =>
        cases r with
        | nil =>
          simp only [g] at e
          cases e
          refine .inl ⟨n, z, ?_, hy, q⟩
          rw [hx]
          congr 1
          obtain ⟨⟨l⟩⟩ := w
          have g : l = [n] := g
          rw [g]
        | cons m r => simp only [g] at e; cases e
    | _ => cases e
  | _ => exact .inr (other e)
theorem cmp_ok {o : COp} {x y : V} {a d : D} {Q : VK} (s : SR c H ρ G) (ra : Rp c H ρ a x) (rd : Rp c H ρ d y) {k : Bool} (e : cmpD G o a d = some k) (q : Q (.bl k) H) : rCmp c.K o x y H Q := by
  have eqs : ∀ {k : Bool}, eqD G a d = some k → ∃ p r, Dp c.K H x p ∧ Dp c.K H y r ∧ SeqAt.shaped p = true ∧ SeqAt.shaped r = true ∧ PyData.eqv p r = k := by
    intro k e
    unfold eqD at e
    cases g1 : toPyG G a with
    | none => rw [g1] at e; cases e
    | some p =>
      cases g2 : toPyG G d with
      | none => rw [g1, g2] at e; cases e
      | some r =>
        rw [g1, g2] at e
        obtain ⟨hs, e⟩ := ite_some e
        rw [Bool.and_eq_true] at hs
        exact ⟨p, r, dpG_of s g1 ra, dpG_of s g2 rd, hs.1, hs.2, e⟩
  cases o with
  | eq =>
    obtain ⟨p, r, h1, h2, h3, h4, rfl⟩ := eqs e
    exact ⟨p, r, h1, h2, h3, h4, q⟩
  | ne =>
    have e : (eqD G a d).map (!·) = some k := e
    cases g : eqD G a d with
    | none => rw [g] at e; cases e
    | some b =>
      rw [g] at e
      cases e
      obtain ⟨p, r, h1, h2, h3, h4, rfl⟩ := eqs g
      exact ⟨p, r, h1, h2, h3, h4, q⟩
  | lt =>
    cases a with
    | int i =>
      cases d with
      | int j => cases e; exact .inl ⟨i, j, ra, rd, q⟩
      | _ => cases e
    | str i =>
      cases d with
      | str j => cases e; exact .inr ⟨i, j, ra, rd, q⟩
      | _ => cases e
    | _ => cases e
  | le =>
    cases a with
    | int i =>
      cases d with
      | int j => cases e; exact ⟨i, j, ra, rd, q⟩
      | _ => cases e
    | _ => cases e
  | gt =>
    cases a with
    | int i =>
      cases d with
      | int j => cases e; exact ⟨i, j, ra, rd, q⟩
      | _ => cases e
    | _ => cases e
  | ge =>
    cases a with
    | int i =>
      cases d with
      | int j => cases e; exact ⟨i, j, ra, rd, q⟩
      | _ => cases e
    | _ => cases e
  | isn =>
    cases d with
    | non =>
      refine ⟨rd, ?_⟩
      rw [rp_non ra]
      have e : some (isNonD a) = some k := by cases a <;> exact e
      cases e
      exact q
    | _ => cases a <;> cases e
  | notn =>
    cases d with
    | non =>
      refine ⟨rd, ?_⟩
      rw [rp_non ra]
      have e : some (!isNonD a) = some k := by cases a <;> exact e
      cases e
      exact q
    | _ => cases a <;> cases e
  | isin => exact in_ok (neg := false) s ra rd (by cases a <;> exact e) q
  | nin =>
    have e : (inD G a d).map (!·) = some k := by cases a <;> exact e
    cases g : inD G a d with
    | none => rw [g] at e; cases e
    | some b =>
      rw [g] at e
      cases e
      exact in_ok (neg := true) s ra rd g q
end U

set_option Elab.async false
set_option linter.all false
set_option maxRecDepth 100000
/-! UE: truth, places, slices, built-ins, stores upon plain data. -/
namespace U
open PySem L2 PyProof.Rows
variable {X : Cx} {c : C} {H : Hp} {ρ : List Addr} {G : Hd}

theorem isEmpty_of {ds : List D} {vs : List V} (t : Rps c H ρ ds vs) : (!vs.isEmpty) = !ds.isEmpty := by
  have := t.length
  cases vs <;> cases ds <;> first | rfl | (simp at this; done)
theorem tru_ok {a : D} {x : V} {k : Bool} (s : SR c H ρ G) (ra : Rp c H ρ a x) (e : truD G a = some k) : TruV c.K x H k := by
  have lists : (listD G a).map (fun xs => !xs.isEmpty) = some k → TruV c.K x H k := by
    intro e
    cases g : listD G a with
    | none => rw [g] at e; cases e
    | some xs =>
      rw [g] at e
      cases e
      obtain ⟨p, vs, rfl, q, t⟩ := rp_list s ra g
      exact .inl ⟨vs, .inl q, (isEmpty_of t).symm⟩
  cases a with
  | non => have h : x = .non := ra; subst h; cases e; rfl
  | bl b => have h : x = .bl b := ra; subst h; cases e; rfl
  | int i => have h : x = .int i := ra; subst h; cases e; rfl
  | str z =>
    have h : x = .str z := ra
    subst h
    obtain ⟨h1, rfl⟩ := ite_some e
    exact ⟨by rw [line_eq]; exact h1, rfl⟩
  | tup xs =>
    cases e
    obtain ⟨p, vs, rfl, q, t⟩ := ra.tup_of
    exact .inr (.inl ⟨vs, q, (isEmpty_of t).symm⟩)
  | _ => exact lists e

theorem len_ok {a : D} {x : V} {n : Nat} (s : SR c H ρ G) (ra : Rp c H ρ a x) (e : lenD G a = some n) : LenV c.K x H n := by
  have seqs : (seqD G a).map List.length = some n → LenV c.K x H n := by
    intro e
    cases g : seqD G a with
    | none => rw [g] at e; cases e
    | some xs =>
      rw [g] at e
      cases e
      obtain ⟨p, vs, rfl, q, t⟩ := rp_seq s ra g
      rcases q with q | q
      · exact .inl ⟨vs, .inl q, t.length.symm⟩
      · exact .inr ⟨vs, q, t.length.symm⟩
  cases a with
  | str z =>
    have h : x = .str z := ra
    subst h
    obtain ⟨h1, rfl⟩ := ite_some e
    exact ⟨by rw [line_eq]; exact h1, rfl⟩
  | _ => exact seqs e

/-! ### places -/
def rDGet : R2 := fun x y H Q => ∃ a v, x = .ref a ∧ DGet H a y (some v) ∧ Q v H
theorem ix_dict (hu : X.A.units + 1 < cLine) : IxR X rDGet := by
  intro value slice pins s σ H x y v u Q I rx ry h hs
  obtain ⟨a, w, rfl, g, q⟩ := h
  obtain rfl : v = Value.ref a := rx
  exact tail_any (dict_typeIs I g) PySem.F.slot_dict_getitem.lookup (d_getItem hu I g ry fun w' s3 I3 rw' => ⟨w, H, I3, rw', q⟩) hs
theorem IxR.or {r r' : R2} (h : IxR X r) (h' : IxR X r') : IxR X (fun x y H Q => r x y H Q ∨ r' x y H Q) := by
  intro value slice pins s σ H x y v u Q I rx ry q hs
  rcases q with q | q
  · exact h value slice pins s σ H x y v u Q I rx ry q hs
  · exact h' value slice pins s σ H x y v u Q I rx ry q hs
def rIx (K : PySem.W.Frag) : R2 := fun x y H Q => (rIxL K x y H Q ∨ rIxT K x y H Q) ∨ (rIxS x y H Q ∨ rDGet x y H Q)
theorem ix_any (hu : X.A.units + 64 < cLine) : IxR X (rIx X.K) := (ix_list.or ix_tup).or (ix_str.or (ix_dict (by omega)))
theorem ix_ok {x y : V} {a d z : D} {Q : VK} (s : SR c H ρ G) (ra : Rp c H ρ a x) (rd : Rp c H ρ d y) (e : ixD G a d = some z) (f : Fin c (Rp c) (.ok z G) H ρ Q) : rIx c.K x y H Q := by
  have other : (match dictOf G a with
    | some (ks, vs) => if keyD d then dictGet ks vs d else none
    | none => (seqD G a).bind fun xs => ixSeq xs d) = some z → rIx c.K x y H Q := by
    intro e
    cases g : dictOf G a with
    | some p =>
      obtain ⟨ks, vs⟩ := p
      rw [g] at e
      have e : (if keyD d then dictGet ks vs d else none) = some z := e
      by_cases kd : keyD d = true
      · rw [if_pos kd] at e
        obtain ⟨p, o, rfl, dg, m⟩ := rp_get s ra g kd rd
        rw [e] at m
        obtain ⟨w, rfl, rw'⟩ := m
        exact .inr (.inr ⟨p, w, rfl, dg, f.here s rw'⟩)
      · rw [if_neg kd] at e
        cases e
    | none =>
      rw [g] at e
      cases g2 : seqD G a with
      | none => rw [g2] at e; cases e
      | some xs =>
        rw [g2] at e
        have e : ixSeq xs d = some z := e
        obtain ⟨p, vs, rfl, q, t⟩ := rp_seq s ra g2
        cases d with
        | int j =>
          have hy : y = .int j := rd
          have e : ((L2.ixN xs.length j).bind fun k => xs[k]?) = some z := e
          cases g3 : L2.ixN xs.length j with
          | none => rw [g3] at e; cases e
          | some k =>
            rw [g3] at e
            obtain ⟨w, hw, rw'⟩ := t.get (show xs[k]? = some z from e)
            have ea : atI vs j = some w := by
              unfold atI
              rw [t.length, g3]
              exact hw
            rcases q with q | q
            · exact .inl (.inl ⟨p, vs, j, w, rfl, hy, .inl q, ea, f.here s rw'⟩)
            · exact .inl (.inr ⟨p, vs, j, w, rfl, hy, q, ea, f.here s rw'⟩)
        | _ => cases e
  cases a with
  | str w =>
    cases d with
    | int j =>
      have hx : x = .str w := ra
      have hy : y = .int j := rd
      have e : (if w.length ≤ line then (L2.ixN w.length j).bind fun k => w.cps.toList[k]?.map fun c => D.str ⟨#[c]⟩ else none) = some z := e
      by_cases hl : w.length ≤ line
      · rw [if_pos hl] at e
        cases g3 : L2.ixN w.length j with
        | none => rw [g3] at e; cases e
        | some k =>
          rw [g3] at e
          cases g4 : w.cps.toList[k]? with
          | none =>
            have e : w.cps.toList[k]?.map (fun c => D.str ⟨#[c]⟩) = some z := e
            rw [g4] at e
            cases e
          | some n =>
            have e : w.cps.toList[k]?.map (fun c => D.str ⟨#[c]⟩) = some z := e
            rw [g4] at e
            cases e
            refine .inr (.inl ⟨w, j, n, hx, hy, by rw [line_eq]; exact hl, ?_, f.here s rfl⟩)
            unfold atI
            have hz : w.cps.toList.length = w.length := by simp [PySem.Str.length]
            rw [hz, g3]
            exact g4
      · rw [if_neg hl] at e
        cases e
    | _ => cases e
  | _ => exact other e

/-! ### slices -/
theorem cut_of {ds : List D} {vs : List V} (lo hi : Option Int) (t : Rps c H ρ ds vs) : Rps c H ρ (cutD ds lo hi) (cutV vs lo hi) := by
  unfold cutV cutD
  rw [t.length]
  exact (t.drop _).take _
def rSl (K : PySem.W.Frag) : V → Option Int → Option Int → Hp → VK → Prop := fun x lo hi H Q => rSlL K x lo hi H Q ∨ rSlA K x lo hi H Q
theorem sl_any : SlR X (rSl X.K) := by
  intro pins s σ H x v vl vu lo hi sl Q I rx hs p1 p2 q
  rcases q with q | q
  · exact sl_list pins s σ H x v vl vu lo hi sl Q I rx hs p1 p2 q
  · exact sl_tupA pins s σ H x v vl vu lo hi sl Q I rx hs p1 p2 q
theorem sl_ok {x : V} {a z : D} {lo hi : Option Int} {Q : VK} (s : SR c H ρ G) (ra : Rp c H ρ a x) (e : slD G a lo hi = some z) (f : Fin c (Rp c) (.ok z G) H ρ Q) : rSl c.K x lo hi H Q := by
  have lists : (listD G a).map (fun xs => D.lst (cutD xs lo hi)) = some z → rSl c.K x lo hi H Q := by
    intro e
    cases g : listD G a with
    | none => rw [g] at e; cases e
    | some xs =>
      rw [g] at e
      cases e
      obtain ⟨p, vs, rfl, q, t⟩ := rp_list s ra g
      exact .inl ⟨p, vs, rfl, .inl q, fun r hr => newLst s hr (cut_of lo hi t) f⟩
  cases a with
  | tup xs =>
    cases e
    obtain ⟨p, vs, rfl, q, t⟩ := ra.tup_of
    refine .inr ⟨p, vs, rfl, q, fun ⟨h1, h2⟩ => ?_, fun _ r hr => newTup s hr (cut_of lo hi t) f⟩
    have ee : cutD xs lo hi = xs := by
      unfold cutD
      rw [t.length] at h1 h2
      rw [h1, h2]
      simp
    rw [ee] at f
    exact f.here s ra
  | _ => exact lists e

/-! ### built-ins by value -/
theorem type_ok {a : D} {x : V} {t : String} (s : SR c H ρ G) (ra : Rp c H ρ a x) (e : typeD G a = some t) : TyX c.K H x (.type t) := by
  cases a with
  | non => have h : x = .non := ra; subst h; cases e; exact .base .non
  | bl b => have h : x = .bl b := ra; subst h; cases e; exact .base (.bl b)
  | int i => have h : x = .int i := ra; subst h; cases e; exact .base (.int i)
  | str z => have h : x = .str z := ra; subst h; cases e; exact .base (.str z)
  | tup xs =>
    cases e
    obtain ⟨p, vs, rfl, q, _⟩ := ra.tup_of
    rcases q with (q | ⟨o, q⟩) | ⟨o, its, n, q, cl, _⟩
    · exact .base (.tup q)
    · exact .fTuple q
    · exact .kTuple q cl
  | lst xs =>
    cases e
    obtain ⟨p, vs, rfl, q, _⟩ := ra.lst_of
    rcases q with q | ⟨o, q⟩
    · exact .base (.lst q)
    · exact .base (.frz q)
  | dct ks vs =>
    cases e
    unfold Rp at ra
    obtain ⟨p, kvs, rfl, q, _⟩ := ra
    rcases q with q | ⟨o, q⟩
    · exact .base (.dK q)
    · exact .fDict q
  | ref i =>
    obtain ⟨p, hp, rfl⟩ := ra.ref_of
    unfold typeD at e
    cases g : G[i]? with
    | none => simp only [g] at e; cases e
    | some o =>
      simp only [g] at e
      have ob := s.obj i p o hp g
      cases o with
      | lst ds => cases e; obtain ⟨vs, q, _⟩ := ob; exact .base (.lst q)
      | dct ks ds => cases e; obtain ⟨vs, q, _⟩ := ob; exact .base (.dK q)
      | ins _ _ _ => cases e
  | _ => cases e
theorem typeD_mem {a : D} {t : String} (e : typeD G a = some t) : t ∈ ["NoneType", "bool", "int", "str", "tuple", "list", "dict"] := by
  cases a with
  | ref i =>
    unfold typeD at e
    cases g : G[i]? with
    | none => simp only [g] at e; cases e
    | some o =>
      simp only [g] at e
      cases o <;> cases e <;> decide
  | _ => first | (cases e; decide) | cases e
theorem isi_tab : ∀ t ∈ ["NoneType", "bool", "int", "str", "tuple", "list", "dict"], ∀ n ∈ ["int", "bool", "str", "tuple", "list"], isiD t n = kitB t n := by decide +kernel
theorem isi_ok {a : D} {t n : String} {k : Bool} (e : typeD G a = some t) (e2 : isiD t n = some k) : kitB t n = some k := by
  have hn : n ∈ ["int", "bool", "str", "tuple", "list"] := by
    unfold isiD at e2
    have := (ite_some e2).1
    exact List.contains_iff_mem.mp this
  rw [← isi_tab t (typeD_mem e) n hn]
  exact e2
theorem bools_ok : ∀ {ds : List D} {vs : List V} {bs : List Bool}, Rps c H ρ ds vs → boolsD ds = some bs → vs = bs.map V.bl
  | [], vs, bs, t, e => by cases e; exact t.of_nil
  | d :: ds, vs, bs, t, e => by
    obtain ⟨v, r, rfl, q, t1⟩ := t.of_cons
    cases d with
    | bl b =>
      have e : (boolsD ds).map (b :: ·) = some bs := e
      cases g : boolsD ds with
      | none => rw [g] at e; cases e
      | some cs =>
        rw [g] at e
        cases e
        have ih := bools_ok t1 g
        rw [List.map_cons, ← ih]
        have q : v = .bl b := q
        rw [q]
    | _ => cases e

def rBi (X : Cx) : BI → List V → Hp → VK → Prop
  | .len => fun xs H Q => ∃ x n, xs = [x] ∧ LenV X.K x H n ∧ Q (.int n) H
  | .abs => fun xs H Q => ∃ i, xs = [.int i] ∧ Q (.int (if i < 0 then -i else i)) H
  | .isi => rIsi X.K
  | .all => rAll X.K
  | .any => rAny X.K
  | .tuple => fun xs H Q => ∃ p ys, xs = [V.ref p] ∧ ((SqL X.K H p ys ∧ ∀ (l : Addr), H l = none → Q (V.ref l) (upd H l (HO.tup ys))) ∨ SqT X.K H p ys ∧ Q (V.ref p) H)
  | .list => fun xs H Q => ∃ p ys, xs = [V.ref p] ∧ (SqL X.K H p ys ∨ SqT X.K H p ys) ∧ ∀ (l : Addr), H l = none → Q (V.ref l) (upd H l (HO.lst ys))
  | _ => fun _ _ _ => False
/-- the built-in as a value, its name -/
def biV : BI → Value
  | .len => .builtin "len"
  | .abs => .builtin "abs"
  | .isi => .builtin "isinstance"
  | .all => .builtin "all"
  | .any => .builtin "any"
  | .sum => .builtin "sum"
  | .min => .builtin "min"
  | .max => .builtin "max"
  | .tuple => .type "tuple"
  | .list => .type "list"
  | .dict => .type "dict"
  | .int => .type "int"
  | .str => .type "str"
theorem bi_call (hc : X.calm = true) (o : BI) : CallR X (biV o) (rBi X o) := by
  cases o with
  | len => exact call_len
  | abs => exact call_abs
  | isi => exact call_isi
  | all => exact cr_all hc
  | any => exact cr_any hc
  | tuple => exact call_tuple_of
  | list => exact call_list_of
  | _ => exact fun _ _ _ _ _ _ _ _ _ h => h.elim
theorem arg1_some {f : D → Option D} {as : List D} {z : D} (e : arg1 f as = some z) : ∃ a, as = [a] ∧ f a = some z := by
  match as, e with
  | [a], e => exact ⟨a, rfl, e⟩
theorem arg2_some {f : D → D → Option D} {as : List D} {z : D} (e : arg2 f as = some z) : ∃ a b, as = [a, b] ∧ f a b = some z := by
  match as, e with
  | [a, b], e => exact ⟨a, b, rfl, e⟩
theorem map_some {α β : Type} {f : α → β} {o : Option α} {z : β} (e : o.map f = some z) : ∃ a, o = some a ∧ f a = z := by
  cases o with
  | none => cases e
  | some a => exact ⟨a, rfl, Option.some.inj e⟩
theorem bind_some {α β : Type} {f : α → Option β} {o : Option α} {z : β} (e : o.bind f = some z) : ∃ a, o = some a ∧ f a = some z := by
  cases o with
  | none => cases e
  | some a => exact ⟨a, rfl, e⟩
theorem bi_ok (hK : c.K = X.K) {o : BI} {xs : List V} {as : List D} {z : D} {Q : VK} (s : SR c H ρ G) (ra : Rps c H ρ as xs) (e : biD G o as = some z) (f : Fin c (Rp c) (.ok z G) H ρ Q) : rBi X o xs H Q := by
  cases o with
  | len =>
    obtain ⟨a, rfl, e⟩ := arg1_some e
    obtain ⟨x, r, rfl, q, t⟩ := ra.of_cons
    obtain rfl := t.of_nil
    obtain ⟨n, g, rfl⟩ := map_some e
    exact ⟨x, n, rfl, hK ▸ len_ok s q g, f.here s rfl⟩
  | abs =>
    obtain ⟨a, rfl, e⟩ := arg1_some e
    obtain ⟨x, r, rfl, q, t⟩ := ra.of_cons
    obtain rfl := t.of_nil
    cases a with
    | int i =>
      cases e
      have q : x = .int i := q
      exact ⟨i, by rw [q], f.here s rfl⟩
    | _ => cases e
  | isi =>
    obtain ⟨a, b, rfl, e⟩ := arg2_some e
    obtain ⟨x, r, rfl, q, t⟩ := ra.of_cons
    obtain ⟨x2, r2, rfl, q2, t2⟩ := t.of_cons
    obtain rfl := t2.of_nil
    obtain ⟨n, g0, e⟩ := bind_some e
    obtain ⟨tn, g, e⟩ := bind_some e
    obtain ⟨k, g2, rfl⟩ := map_some e
    cases b with
    | ty m =>
      cases g0
      have q2 : x2 = .ty n := q2
      subst q2
      exact ⟨x, .ty n, .type tn, .type n, k, rfl, .ty n, hK ▸ type_ok s q g, kit_ty (isi_ok g g2), f.here s rfl⟩
    | _ => cases g0
  | all =>
    obtain ⟨a, rfl, e⟩ := arg1_some e
    obtain ⟨x, r, rfl, q, t⟩ := ra.of_cons
    obtain rfl := t.of_nil
    obtain ⟨bs, e1, rfl⟩ := map_some e
    obtain ⟨ds, g, g2⟩ := bind_some e1
    obtain ⟨p, vs, rfl, q, t⟩ := rp_list s q g
    have := bools_ok t g2
    subst this
    exact ⟨p, bs, rfl, .inl q, f.here s rfl⟩
  | any =>
    obtain ⟨a, rfl, e⟩ := arg1_some e
    obtain ⟨x, r, rfl, q, t⟩ := ra.of_cons
    obtain rfl := t.of_nil
    obtain ⟨bs, e1, rfl⟩ := map_some e
    obtain ⟨ds, g, g2⟩ := bind_some e1
    obtain ⟨p, vs, rfl, q, t⟩ := rp_list s q g
    have := bools_ok t g2
    subst this
    exact ⟨p, bs, rfl, .inl q, f.here s rfl⟩
  | tuple =>
    obtain ⟨a, rfl, e⟩ := arg1_some e
    obtain ⟨x, r, rfl, q, t⟩ := ra.of_cons
    obtain rfl := t.of_nil
    obtain ⟨ds, g, rfl⟩ := map_some e
    obtain ⟨p, vs, rfl, q', t⟩ := rp_seq s q g
    refine ⟨p, vs, rfl, ?_⟩
    rcases q' with q' | q'
    · exact .inl ⟨.inl q', fun l hl => newTup s hl t f⟩
    · refine .inr ⟨hK ▸ q', f.here s ?_⟩
      unfold Rp
      exact ⟨p, vs, rfl, q', t⟩
  | list =>
    obtain ⟨a, rfl, e⟩ := arg1_some e
    obtain ⟨x, r, rfl, q, t⟩ := ra.of_cons
    obtain rfl := t.of_nil
    obtain ⟨ds, g, rfl⟩ := map_some e
    obtain ⟨p, vs, rfl, q', t⟩ := rp_seq s q g
    refine ⟨p, vs, rfl, ?_, fun l hl => newLst s hl t f⟩
    rcases q' with q' | q'
    · exact .inl (.inl q')
    · exact .inr (hK ▸ q')
  | sum => cases e
  | dict => cases e
  | int => cases e
  | str => cases e
  | min => cases e
  | max => cases e

/-! ### stores -/
theorem store_cl {b i : Nat} {x : D} (hP : ∀ n, c.P n → n ≤ b) (h : storeOk b i x = true) {n : Nat} (hn : c.P n) (hi : i < n) : closed n x = true := by
  unfold storeOk at h
  rw [Bool.or_eq_true, decide_eq_true_eq] at h
  rcases h with h | h
  · have := hP n hn
    omega
  · exact closed_le (Nat.zero_le _) x h
theorem append_ok {o x : D} {v y : V} {Q : VK} (s : SR c H ρ G) (ro : Rp c H ρ o v) (rx : Rp c H ρ x y) (f : Fin c (Rp c) (appendD c.b o x G) H ρ Q) : rAppend v [y] H Q := by
  unfold appendD at f
  cases o with
  | ref i =>
    obtain ⟨a, ha, rfl⟩ := ro.ref_of
    cases g : G[i]? with
    | none => simp only [g] at f; exact f.elim
    | some ob =>
      simp only [g] at f
      cases ob with
      | lst xs =>
        by_cases hc : (storeOk c.b i x && decide (xs.length < line)) = true
        · simp only [hc, if_true] at f
          rw [Bool.and_eq_true, decide_eq_true_eq] at hc
          obtain ⟨vs, q, t⟩ := s.obj i a _ ha g
          refine ⟨a, vs, y, rfl, rfl, q, by rw [t.length, line_eq]; exact hc.2, ?_⟩
          obtain ⟨e, s'⟩ := s.write (o := .lst (xs ++ [x])) (h := .lst (vs ++ [y])) ha (fun ws r => by rcases r with r | ⟨_, r⟩ <;> (rw [q] at r; cases r))
            (fun n hn hi => closeds_append (s.cl n i _ hn hi g) (Bool.and_eq_true_iff.mpr ⟨store_cl s.pb hc.1 hn hi, rfl⟩))
            (fun e => ⟨vs ++ [y], upd_same, (Rps.mono e _ _ t).append (.cons (Rp.mono e _ _ rx) .nil)⟩)
          exact f.ok e s' rfl
        · simp only [hc, if_false, Bool.false_eq_true] at f
          exact f.elim
      | _ => exact f.elim
  | _ => exact f.elim
theorem PSet.or {t t' : TSet} (h : PSet X t) (h' : PSet X t') : PSet X (fun o i v H Q => t o i v H Q ∨ t' o i v H Q) := by
  intro pins s σ H o i v ov iv u Q I r1 r2 r3 q
  rcases q with q | q
  · exact h pins s σ H o i v ov iv u Q I r1 r2 r3 q
  · exact h' pins s σ H o i v ov iv u Q I r1 r2 r3 q
def rDPut : TSet := fun x y v H Q => ∃ a H4, x = .ref a ∧ DPut H a y v H4 ∧ Q H4
theorem set_dict (hu : X.A.units + 1 < cLine) : PSet X rDPut := by
  intro pins s σ H o i v ov iv u Q I r1 r2 r3 q
  obtain ⟨a, H4, rfl, g, q⟩ := q
  obtain rfl : ov = Value.ref a := r1
  exact d_setItem hu I g r2 r3 fun s4 I4 => ⟨H4, I4, q⟩
def rSet : TSet := fun o i v H Q => rSetL o i v H Q ∨ rDPut o i v H Q
theorem set_any (hu : X.A.units + 64 < cLine) : PSet X rSet := PSet.or set_list (set_dict (by omega))
theorem closeds_swap {n : Nat} {k y : D} (h : closed n y = true) : ∀ {ks vs : List D}, closed.closeds n vs = true → closed.closeds n (swapV k y ks vs) = true
  | [], _, _ => by unfold swapV; rfl
  | _ :: _, [], _ => by unfold swapV; rfl
  | q :: ks, v :: vs, e => by
    unfold swapV
    obtain ⟨e1, e2⟩ := Bool.and_eq_true_iff.mp e
    refine Bool.and_eq_true_iff.mpr ⟨?_, closeds_swap h e2⟩
    split
    · exact h
    · exact e1
theorem closeds_put {n : Nat} {k y : D} {ks vs : List D} (h : closed n y = true) (e : closed.closeds n vs = true) : closed.closeds n (dictPut ks vs k y).2 = true := by
  unfold dictPut
  split
  · exact closeds_swap h e
  · exact closeds_append e (Bool.and_eq_true_iff.mpr ⟨h, rfl⟩)
theorem put_ok {o k x : D} {v w y : V} {Q : Unit → Hp → Prop} (s : SR c H ρ G) (ro : Rp c H ρ o v) (rk : Rp c H ρ k w) (rx : Rp c H ρ x y) (f : Fin c (fun _ _ _ _ => True) (putD c.b o k x G) H ρ Q) : rSet v w y H (fun H' => Q () H') := by
  unfold putD at f
  cases o with
  | ref i =>
    obtain ⟨a, ha, rfl⟩ := ro.ref_of
    cases g : G[i]? with
    | none => simp only [g] at f; exact f.elim
    | some ob =>
      simp only [g] at f
      cases ob with
      | dct ks vs =>
        by_cases hc : (storeOk c.b i x && keyD k && decide (ks.length < line)) = true
        · simp only [hc, if_true] at f
          rw [Bool.and_eq_true, decide_eq_true_eq, Bool.and_eq_true] at hc
          obtain ⟨kvs, q, rfl, t⟩ := s.obj i a _ ha g
          obtain ⟨kk, rfl, rfl⟩ := key_of hc.1.2 rk
          obtain ⟨e, s'⟩ := s.write (o := .dct (dictPut (kvs.map fun p => kD p.1) vs (kD kk) x).1 (dictPut (kvs.map fun p => kD p.1) vs (kD kk) x).2) (h := .dK (putK kvs kk y)) ha (fun ws r => by rcases r with r | ⟨_, r⟩ <;> (rw [q] at r; cases r))
            (fun n hn hi => closeds_put (store_cl s.pb hc.1.1 hn hi) (s.cl n i _ hn hi g))
            (fun e => ⟨putK kvs kk y, upd_same, (put_of (k := kk) (Rp.mono e _ _ rx) (Rps.mono e _ _ t)).1, (put_of (k := kk) (Rp.mono e _ _ rx) (Rps.mono e _ _ t)).2⟩)
          refine .inr ⟨a, _, rfl, .inl ⟨kvs, kk, q, rfl, ?_, rfl⟩, f.ok e s' trivial⟩
          have := hc.2
          rw [List.length_map] at this
          rw [line_eq]
          exact this
        · simp only [hc, if_false, Bool.false_eq_true] at f
          exact f.elim
      | lst xs =>
        cases k with
        | int j =>
          have rk : w = .int j := rk
          subst rk
          simp only at f
          cases g2 : L2.ixN xs.length j with
          | none => simp only [g2] at f; exact f.elim
          | some n =>
            simp only [g2] at f
            by_cases hc : storeOk c.b i x = true
            · simp only [hc, if_true] at f
              obtain ⟨vs, q, t⟩ := s.obj i a _ ha g
              obtain ⟨e, s'⟩ := s.write (o := .lst (xs.set n x)) (h := .lst (vs.set n y)) ha (fun ws r => by rcases r with r | ⟨_, r⟩ <;> (rw [q] at r; cases r))
                (fun m hn hi => closeds_set (store_cl s.pb hc hn hi) n (s.cl m i _ hn hi g))
                (fun e => ⟨vs.set n y, upd_same, Rps.set (Rp.mono e _ _ rx) n (Rps.mono e _ _ t)⟩)
              exact .inl ⟨a, vs, j, n, rfl, rfl, q, by rw [t.length]; exact g2, f.ok e s' trivial⟩
            · simp only [hc, if_false, Bool.false_eq_true] at f
              exact f.elim
        | _ => exact f.elim
      | ins _ _ _ => exact f.elim
  | _ => exact f.elim
end U

set_option Elab.async false
set_option linter.all false
set_option maxRecDepth 100000
/-! UF: expressions. -/
namespace U
open PySem L2 PyProof.Rows

/-- an exception of the program's own, by its class's name -/
def exK (mg : Str → Option Value) (EX : Str → Hp → Prop) : XK := fun cls d H => ∃ e C, mg e = some (.ref C) ∧ cls = .ref C ∧ d = none ∧ EX e H
/-- what a function promises, by a function upon plain data -/
def lowSp (K : PySem.W.Frag) (mg : Str → Option Value) (n : Nat) (F : List D → Hd → Out D) : Sp := fun vs H Q E => ∃ (EX : Str → Hp → Prop) (b : Nat) (P : Nat → Prop) (Z : List Addr) (ρ : List Addr) (G : Hd) (ds : List D),
  (∀ cls d H', exK mg EX cls d H' → E cls d H') ∧ SR ⟨K, mg, EX, b, P, Z⟩ H ρ G ∧ Rps ⟨K, mg, EX, b, P, Z⟩ H ρ ds vs ∧ vs.length = n ∧ Fin ⟨K, mg, EX, b, P, Z⟩ (Rp ⟨K, mg, EX, b, P, Z⟩) (F ds G) H ρ Q

def bltNames : List Str := ["len", "abs", "isinstance", "all", "any", "sum", "min", "max", "tuple", "list", "dict", "int", "str", "bool", "range", "enumerate", "zip", "sorted", "set", "reversed"]

structure XOk (Φ : Fn) (fns : Str → Option (List Str)) (cons : Str → Option D) (X : Cx) (c : C) : Prop where
  K : c.K = X.K
  mg : c.mg = X.mg
  calm : X.calm = true
  units : X.A.units + 64 < cLine
  nd : X.N.Nodup
  kind : X.env.scope.kind = .function
  con : ∀ x d, cons x = some d → ∃ u v, X.mg x = some u ∧ RelV v u ∧ ∀ c' : C, c'.K = X.K → c'.mg = X.mg → ∀ H ρ, Rp c' H ρ d v
  blt : ∀ x ∈ bltNames, X.mg x = none
  fn : ∀ f ps, fns f = some ps → ∃ a fd k, X.mg f = some (.ref a) ∧ PySem.W.keepIn X.K (.ref a) = true ∧ (∀ n, n ≤ ps.length → KBn X.K fd ps n (ps.drop n) (fun us ws => us ++ ws) (fun us ws => us ++ ws)) ∧
    FnOk X.prog X.w X.K X.mg X.base (L2.CX X.prog X.w) k a fd ps (lowSp X.K X.mg ps.length (Φ f)) ∧ Room k X.A
  tk : Takes X (fun cls d _ H => exK c.mg c.EX cls d H)
  own : PassesOwn (model X.prog X.w) X.A X.env X.xe

section
variable {Φ : Fn} {fns : Str → Option (List Str)} {cons : Str → Option D} {X : Cx} {c : C} {pos : Pos}

theorem XOk.pass (ok : XOk Φ fns cons X c) : Passes (L2.CX X.prog X.w) X (exK c.mg c.EX) := passes_call ok.tk fun _ _ _ _ h => h

theorem se_var {i : Nat} {x : Str} (hN : X.N[i]? = some x) (hv : Vis X.env.scope x) (hd : (x == ("__debug__" : Str)) = false) (hcd : (x == ("__classdict__" : Str)) = false) : PE X (.Name x pos) (low c (evE Φ c.b (.var i))) :=
  (pe_var hN hv hd hcd).weak fun σ H Q ⟨Z, P, ρ, G, τ, s, v, f⟩ => by
    unfold evE at f
    cases g : τ[i]? with
    | none => simp only [g] at f; exact f.elim
    | some o =>
      cases o with
      | none => simp only [g] at f; exact f.elim
      | some d =>
        simp only [g] at f
        obtain ⟨u, hu, r⟩ := v.val i d g
        exact ⟨u, hu, f.here s r⟩
theorem se_lit {e : Expr} {d : D} {v : V} (h : PE X e (tC v)) (r : ∀ c' : C, ∀ H ρ, Rp c' H ρ d v) : PE X e (low c (evE Φ c.b (.con d))) :=
  h.weak fun σ H Q ⟨Z, P, ρ, G, τ, s, w, f⟩ => by
    unfold evE at f
    exact f.here s (r _ H ρ)
theorem se_glob (ok : XOk Φ fns cons X c) {x : Str} {d : D} (hg : Gl X x) (h : cons x = some d) (hd : (x == ("__debug__" : Str)) = false) : PE X (.Name x pos) (low c (evE Φ c.b (.con d))) := by
  obtain ⟨u, v, hm, r, q⟩ := ok.con x d h
  refine (pe_glob hg hm r hd).weak fun σ H Q ⟨Z, P, ρ, G, τ, s, w, f⟩ => ?_
  unfold evE at f
  exact f.here s (q (c.zp Z P) ok.K ok.mg H ρ)
theorem se_ty {x : Str} {n : String} (hg : Gl X x) (hm : X.mg x = none) (hv : bootBuiltins x = some (.type n)) (hn : x ≠ "__name__") (hd : (x == ("__debug__" : Str)) = false) : PE X (.Name x pos) (low c (evE Φ c.b (.con (.ty n)))) :=
  se_lit (pe_bltn (v := .ty n) hg hm hv rfl hn hd) fun _ _ _ => rfl

/-! ### arguments -/
theorem sa_nil : PA X [] (lowA c (evEs Φ c.b .nil)) := pa_nil.weak fun σ H Q ⟨Z, P, ρ, G, τ, s, w, f⟩ => by
  unfold evEs at f
  exact f.here s .nil
theorem sa_cons {e : Expr} {es : List Expr} {m : ME} {ms : MEs} (h : PE X e (low c (evE Φ c.b m))) (hs : PA X es (lowA c (evEs Φ c.b ms))) (he : starEach (e :: es) X.env = (false, eval e X.env) :: starEach es X.env) : PA X (e :: es) (lowA c (evEs Φ c.b (.cons m ms))) :=
  (pa_cons h hs he).weak fun σ H Q ⟨Z, P, ρ, G, τ, s, w, f⟩ => by
    unfold evEs at f
    refine ⟨Z, P, ρ, G, τ, s, w, (Fin.then (R := Rp (c.zp Z P)) f).mono fun x H1 ⟨ρ1, G1, a, e1, s1, r1, f1⟩ => ?_⟩
    refine ⟨Z, P, ρ1, G1, τ, s1, w.ext e1, (Fin.then (R := Rps (c.zp Z P)) f1).mono fun y H2 ⟨ρ2, G2, d, e2, s2, r2, f2⟩ => ?_⟩
    exact f2.here s2 (.cons (Rp.mono e2 _ _ r1) r2)
def MEs.length : MEs → Nat
  | .nil => 0
  | .cons _ r => r.length + 1
theorem evEs_len {b : Nat} : ∀ {ms : MEs} {τ : Tau} {G G' : Hd} {ds : List D}, evEs Φ b ms τ G = .ok ds G' → ds.length = ms.length
  | .nil, τ, G, G', ds, h => by
    unfold evEs at h
    cases h
    rfl
  | .cons m ms, τ, G, G', ds, h => by
    unfold evEs at h
    cases g : evE Φ b m τ G with
    | ok d G1 =>
      rw [g] at h
      simp only [Out.then_ok] at h
      cases g2 : evEs Φ b ms τ G1 with
      | ok ds2 G2 =>
        rw [g2] at h
        simp only [Out.then_ok] at h
        cases h
        rw [List.length_cons, evEs_len g2]
        rfl
      | exc _ _ => rw [g2] at h; cases h
      | bad => rw [g2] at h; cases h
    | exc _ _ => rw [g] at h; cases h
    | bad => rw [g] at h; cases h

/-! ### displays -/
theorem se_tup {es : List Expr} {k : Nat} {ms : MEs} (h : PA X es (lowA c (evEs Φ c.b ms))) (hl : ms.length ≤ 1000) : PE X (.Tuple es k pos) (low c (evE Φ c.b (.tup ms))) :=
  (pe_tup h).weak fun σ H Q ⟨Z, P, ρ, G, τ, s, w, f⟩ => by
    unfold evE at f
    refine ⟨Z, P, ρ, G, τ, s, w, ?_⟩
    cases g : evEs Φ c.b ms τ G with
    | ok ds G1 =>
      rw [g] at f
      intro xs H1 ρ1 e1 s1 r1
      refine ⟨by rw [r1.length, evEs_len g, line_eq]; exact Nat.le_trans hl (by decide), fun p hp => newTup s1 hp r1 (Fin.ext f e1)⟩
    | exc _ _ => rw [g] at f; exact f
    | bad => rw [g] at f; exact f
/-- a reading that hands on a new list or dict, fresh -/
def lowFr (c : C) (f : Tau → Hd → Out D) : TE := fun σ H Q => ∃ Z P ρ G τ, SR (c.zp Z P) H ρ G ∧ EnvR (c.zp Z P) H ρ σ τ ∧ match f τ G with
  | .ok d G' => ∃ o, objOf d = some o ∧ ∀ p H' ρ', Ext (c.zp Z P) H ρ H' ρ' → H p = none → SR ((c.zp Z P).and p) H' ρ' G' → RepO ((c.zp Z P).and p) H' ρ' p o → Q (.ref p) H'
  | .exc e G' => ∀ H' ρ', Ext (c.zp Z P) H ρ H' ρ' → SR (c.zp Z P) H' ρ' G' → c.EX e H'
  | .bad => False
theorem rp_obj {d : D} {o : DO} {p : Addr} {H H' : Hp} {ρ ρ' : List Addr} (e : objOf d = some o) (hz : p ∉ ρ' ∧ p ∉ c.Z) (h : RepO (c.and p) H' ρ' p o) : Rp c H' ρ' d (.ref p) := by
  cases d with
  | lst xs =>
    cases e
    obtain ⟨vs, q, t⟩ := h
    unfold Rp
    exact ⟨p, vs, rfl, .inl q, hz, Rps.off _ _ t⟩
  | dct ks xs =>
    cases e
    obtain ⟨kvs, q, k, t⟩ := h
    unfold Rp
    exact ⟨p, kvs, rfl, .inl q, hz, k, Rps.off _ _ t⟩
  | _ => cases e
/-- .. as a value that stays -/
theorem fr_low_imp {f : Tau → Hd → Out D} (hf : ∀ τ G d G', f τ G = .ok d G' → ∃ o, objOf d = some o) (σ : L2.St) (H : Hp) (Q : VK) (h : low c f σ H Q) : lowFr c f σ H Q := by
    obtain ⟨Z, P, ρ, G, τ, s, w, q⟩ := h
    refine ⟨Z, P, ρ, G, τ, s, w, ?_⟩
    cases g : f τ G with
    | ok d G' =>
      rw [g] at q
      obtain ⟨o, eo⟩ := hf τ G d G' g
      refine ⟨o, eo, fun p H' ρ' ex hp s' r => q (.ref p) H' ρ' ex s'.off ?_⟩
      refine rp_obj (H := H) (ρ := ρ) eo ⟨(s'.zs p List.mem_cons_self).1, fun z => (s.zs p z).2 hp⟩ r
    | exc _ _ => rw [g] at q; exact q
    | bad => rw [g] at q; exact q
/-- .. as one that may change -/
theorem fr_alloc_imp {f : Tau → Hd → Out D} (σ : L2.St) (H : Hp) (Q : VK) (h : low c (fun τ G => (f τ G).then allocD) σ H Q) : lowFr c f σ H Q := by
    obtain ⟨Z, P, ρ, G, τ, s, w, q⟩ := h
    refine ⟨Z, P, ρ, G, τ, s, w, ?_⟩
    have q : Fin (c.zp Z P) (Rp (c.zp Z P)) ((f τ G).then allocD) H ρ Q := q
    cases g : f τ G with
    | ok d G' =>
      rw [g] at q
      simp only [Out.then_ok] at q
      unfold allocD at q
      cases eo : objOf d with
      | none => simp only [eo] at q; exact q.elim
      | some o =>
        simp only [eo] at q
        refine ⟨o, eo, fun p H' ρ' ex hp s' r => ?_⟩
        have hz : p ∉ (c.zp Z P).Z := fun z => (s.zs p z).2 hp
        refine q (.ref p) H' (ρ' ++ [p]) ?_ (s'.own hz r) ?_
        · obtain ⟨new, rfl, hn⟩ := ex.more
          refine ⟨⟨⟨new ++ [p], by rw [List.append_assoc], fun a ha => ?_⟩, ex.keep, ex.tups, ex.dom⟩, ex.zs⟩
          rcases List.mem_append.mp ha with ha | ha
          · exact hn a ha
          · rw [List.mem_singleton.mp ha]; exact hp
        · unfold Rp
          refine ⟨p, ?_, rfl⟩
          rw [← s'.len, List.getElem?_append_right (Nat.le_refl _)]
          simp
    | exc _ _ => rw [g] at q; exact q
    | bad => rw [g] at q; exact q
theorem fr_low {e : Expr} {f : Tau → Hd → Out D} (h : PE X e (lowFr c f)) (hf : ∀ τ G d G', f τ G = .ok d G' → ∃ o, objOf d = some o) : PE X e (low c f) := h.weak (fr_low_imp hf)
theorem fr_alloc {e : Expr} {m : ME} (h : PE X e (lowFr c (evE Φ c.b m))) : PE X e (low c (evE Φ c.b (.alloc m))) := h.weak fun σ H Q q => fr_alloc_imp σ H Q (by
  have e : evE Φ c.b (.alloc m) = fun τ G => (evE Φ c.b m τ G).then allocD := by
    funext τ G
    rw [evE]
  rw [e] at q
  exact q)
theorem newFr {c : C} {H H1 : Hp} {ρ ρ1 : List Addr} {G1 : Hd} {o : DO} {h : HO} {Q : VK} {p : Addr} (s1 : SR c H1 ρ1 G1) (e1 : Ext c H ρ H1 ρ1) (hp : H1 p = none) (ho : RepO (c.and p) (upd H1 p h) ρ1 p o)
    (q : ∀ p H' ρ', Ext c H ρ H' ρ' → H p = none → SR (c.and p) H' ρ' G1 → RepO (c.and p) H' ρ' p o → Q (.ref p) H') : Q (.ref p) (upd H1 p h) :=
  q p _ ρ1 (e1.trans (s1.ext hp)) (Classical.byContradiction fun z => e1.dom p z hp) (s1.and hp) ho
theorem sf_lst {es : List Expr} {ms : MEs} (h : PA X es (lowA c (evEs Φ c.b ms))) (hl : ms.length ≤ 1000) : PE X (.List es pos) (lowFr c (evE Φ c.b (.lst ms))) :=
  (pe_lst h).weak fun σ H Q ⟨Z, P, ρ, G, τ, s, w, f⟩ => by
    unfold evE at f
    refine ⟨Z, P, ρ, G, τ, s, w, ?_⟩
    cases g : evEs Φ c.b ms τ G with
    | ok ds G1 =>
      rw [g] at f
      obtain ⟨o, eo, q⟩ := f
      cases eo
      intro xs H1 ρ1 e1 s1 r1
      refine ⟨by rw [r1.length, evEs_len g, line_eq]; exact Nat.le_trans hl (by decide), fun p hp => newFr (o := .lst ds) s1 e1 hp ⟨xs, upd_same, Rps.and hp (s1.ext hp) _ _ r1⟩ q⟩
    | exc _ _ => rw [g] at f; exact f
    | bad => rw [g] at f; exact f
theorem of_lst {ms : MEs} (τ : Tau) (G : Hd) (d : D) (G' : Hd) (h : evE Φ c.b (.lst ms) τ G = .ok d G') : ∃ o, objOf d = some o := by
  unfold evE at h
  cases g : evEs Φ c.b ms τ G with
  | ok ds G1 => rw [g] at h; cases h; exact ⟨_, rfl⟩
  | exc _ _ => rw [g] at h; cases h
  | bad => rw [g] at h; cases h

/-! ### operators -/
theorem se_bin (ok : XOk Φ fns cons X c) {a b : Expr} {ma mb : ME} {o : BOp} (ha : PE X a (low c (evE Φ c.b ma))) (hb : PE X b (low c (evE Φ c.b mb))) : PE X (.BinOp a (opPy o) b pos) (low c (evE Φ c.b (.bin o ma mb))) := by
  refine (pe_op (op_bin o) ha hb).weak fun σ H Q h => low2 (k := fun x y G => lift (binD G o x y) G) (fun Z P x y H ρ G a d Q s ra rd f => ?_) σ H Q (by
    have e : evE Φ c.b (.bin o ma mb) = fun τ G => (evE Φ c.b ma τ G).then fun x G => (evE Φ c.b mb τ G).then fun y G => lift (binD G o x y) G := by
      funext τ G
      rw [evE]
    rw [e] at h
    exact h)
  have := bin_ok s ra rd f
  rw [← ok.K]
  exact this
end
end U

set_option Elab.async false
set_option linter.all false
set_option maxRecDepth 100000
/-! UG: expressions, further; calls. -/
namespace U
open PySem L2 PyProof.Rows
section
variable {Φ : Fn} {fns : Str → Option (List Str)} {cons : Str → Option D} {X : Cx} {c : C} {pos : Pos}

theorem int_of {d : D} {i : Int} {v : V} {H : Hp} {ρ : List Addr} (e : intD d = some i) (h : Rp c H ρ d v) : v = .int i := by
  cases d with
  | int j => cases e; exact h
  | _ => cases e
theorem se_neg {a : Expr} {ma : ME} (ha : PE X a (low c (evE Φ c.b ma))) : PE X (.UnaryOp .USub a pos) (low c (evE Φ c.b (.neg ma))) := by
  refine (pe_un un_neg ha).weak fun σ H Q h => low1 (k := fun x G => lift ((intD x).map fun i => D.int (-i)) G) (fun Z P x H ρ G a Q s ra f => ?_) σ H Q (by
    have e : evE Φ c.b (.neg ma) = fun τ G => (evE Φ c.b ma τ G).then fun x G => lift ((intD x).map fun i => D.int (-i)) G := by
      funext τ G
      rw [evE]
    rw [e] at h
    exact h)
  obtain ⟨z, e, f⟩ := f.lift
  obtain ⟨i, e1, rfl⟩ := map_some e
  exact ⟨i, int_of e1 ra, f.here s rfl⟩
theorem se_cmp (ok : XOk Φ fns cons X c) {a b : Expr} {ma mb : ME} {o : COp} (ha : PE X a (low c (evE Φ c.b ma))) (hb : PE X b (low c (evE Φ c.b mb))) (hm : behindInMarks (cmpPy o) b = false) : PE X (.Compare a [cmpPy o] [b] pos) (low c (evE Φ c.b (.cmp o ma mb))) := by
  refine (pe_cmpR (op_cmp ok.units o) ha hb hm).weak fun σ H Q h => low2 (k := fun x y G => lift ((cmpD G o x y).map .bl) G) (fun Z P x y H ρ G a d Q s ra rd f => ?_) σ H Q (by
    have e : evE Φ c.b (.cmp o ma mb) = fun τ G => (evE Φ c.b ma τ G).then fun x G => (evE Φ c.b mb τ G).then fun y G => lift ((cmpD G o x y).map .bl) G := by
      funext τ G
      rw [evE]
    rw [e] at h
    exact h)
  obtain ⟨z, e, f⟩ := f.lift
  obtain ⟨k, e1, rfl⟩ := map_some e
  have := cmp_ok s ra rd e1 (f.here s rfl)
  rw [← ok.K]
  exact this
theorem se_chain (ok : XOk Φ fns cons X c) {a b d : Expr} {ma mb md : ME} {o p : COp} (ha : PE X a (low c (evE Φ c.b ma))) (hb : PE X b (low c (evE Φ c.b mb))) (hd : PE X d (low c (evE Φ c.b md))) (hm : lastMarks [cmpPy o, cmpPy p] [b, d] = false) :
    PE X (.Compare a [cmpPy o, cmpPy p] [b, d] pos) (low c (evE Φ c.b (.chain o p ma mb md))) := by
  refine (pe_chain (op_cmp ok.units o) (op_cmp ok.units p) ha hb hd hm).weak fun σ H Q ⟨Z, P, ρ, G, τ, s, w, f⟩ => ?_
  rw [evE] at f
  refine ⟨Z, P, ρ, G, τ, s, w, (Fin.then (R := Rp (c.zp Z P)) f).mono fun x H1 ⟨ρ1, G1, xa, e1, s1, r1, f1⟩ => ?_⟩
  refine ⟨Z, P, ρ1, G1, τ, s1, w.ext e1, (Fin.then (R := Rp (c.zp Z P)) f1).mono fun y H2 ⟨ρ2, G2, xb, e2, s2, r2, f2⟩ => ?_⟩
  have r1' := Rp.mono e2 _ _ r1
  rw [← (show (c.zp Z P).K = X.K from ok.K)]
  cases g : cmpD G2 o xa xb with
  | none => simp only [g] at f2; exact f2.elim
  | some k =>
    cases k with
    | false =>
      simp only [g] at f2
      exact cmp_ok s2 r1' r2 g ⟨false, rfl, by rw [if_neg (by decide)]; exact f2.here s2 rfl⟩
    | true =>
      simp only [g] at f2
      refine cmp_ok s2 r1' r2 g ⟨true, rfl, ?_⟩
      rw [if_pos rfl]
      refine ⟨Z, P, ρ2, G2, τ, s2, (w.ext e1).ext e2, (Fin.then (R := Rp (c.zp Z P)) f2).mono fun z H3 ⟨ρ3, G3, xd, e3, s3, r3, f3⟩ => ?_⟩
      obtain ⟨q, e, f3⟩ := f3.lift
      obtain ⟨k, e4, rfl⟩ := map_some e
      exact cmp_ok s3 (Rp.mono e3 _ _ r2) r3 e4 (f3.here s3 rfl)
theorem se_ix (ok : XOk Φ fns cons X c) {a b : Expr} {ma mb : ME} (ha : PE X a (low c (evE Φ c.b ma))) (hb : PE X b (low c (evE Φ c.b mb))) (hp : PlainIx b) : PE X (.Subscript a b pos) (low c (evE Φ c.b (.ix ma mb))) := by
  refine (pe_ix (ix_any ok.units) ha hb hp).weak fun σ H Q h => low2 (k := fun x y G => lift (ixD G x y) G) (fun Z P x y H ρ G a d Q s ra rd f => ?_) σ H Q (by
    have e : evE Φ c.b (.ix ma mb) = fun τ G => (evE Φ c.b ma τ G).then fun x G => (evE Φ c.b mb τ G).then fun y G => lift (ixD G x y) G := by
      funext τ G
      rw [evE]
    rw [e] at h
    exact h)
  obtain ⟨z, e, f⟩ := f.lift
  have := ix_ok s ra rd e f
  rw [← ok.K]
  exact this
/-- an end of a slice -/
def RI : Hp → List Addr → Option Int → Option Int → Prop := fun _ _ a b => a = b
def lowO (c : C) (f : Tau → Hd → Out (Option Int)) : TO := fun σ H Q => ∃ Z P ρ G τ, SR (c.zp Z P) H ρ G ∧ EnvR (c.zp Z P) H ρ σ τ ∧ Fin (c.zp Z P) RI (f τ G) H ρ Q
theorem so_no : PO X none (lowO c (evO Φ c.b .no)) := ⟨fun pins s σ H Q I ⟨Z, P, ρ, G, τ, sr, w, f⟩ => po_none.run pins s σ H Q I (by rw [evO] at f; exact f.here sr rfl)⟩
theorem so_yes {e : Expr} {m : ME} (h : PE X e (low c (evE Φ c.b m))) : PO X (some e) (lowO c (evO Φ c.b (.yes m))) := ⟨fun pins s σ H Q I ⟨Z, P, ρ, G, τ, sr, w, f⟩ => (po_some h).run pins s σ H Q I (by
  rw [evO] at f
  refine ⟨Z, P, ρ, G, τ, sr, w, (Fin.then (R := Rp (c.zp Z P)) f).mono fun x H1 ⟨ρ1, G1, xa, e1, s1, r1, f1⟩ => ?_⟩
  obtain ⟨z, e, f1⟩ := f1.lift
  obtain ⟨i, e4, rfl⟩ := map_some e
  exact ⟨i, int_of e4 r1, f1.here s1 rfl⟩)⟩
theorem se_sl (ok : XOk Φ fns cons X c) {a : Expr} {lo hi : Option Expr} {ma : ME} {ml mh : MO} {p2 : Pos} (ha : PE X a (low c (evE Φ c.b ma))) (hl : PO X lo (lowO c (evO Φ c.b ml))) (hh : PO X hi (lowO c (evO Φ c.b mh))) :
    PE X (.Subscript a (.Slice lo hi none p2) pos) (low c (evE Φ c.b (.sl ma ml mh))) := by
  refine (pe_slice sl_any ha hl hh).weak fun σ H Q ⟨Z, P, ρ, G, τ, s, w, f⟩ => ?_
  rw [evE] at f
  refine ⟨Z, P, ρ, G, τ, s, w, (Fin.then (R := Rp (c.zp Z P)) f).mono fun x H1 ⟨ρ1, G1, xa, e1, s1, r1, f1⟩ => ?_⟩
  refine ⟨Z, P, ρ1, G1, τ, s1, w.ext e1, (Fin.then (R := RI) f1).mono fun l H2 ⟨ρ2, G2, xl, e2, s2, r2, f2⟩ => ?_⟩
  refine ⟨Z, P, ρ2, G2, τ, s2, (w.ext e1).ext e2, (Fin.then (R := RI) f2).mono fun u H3 ⟨ρ3, G3, xh, e3, s3, r3, f3⟩ => ?_⟩
  have r2 : xl = l := r2
  have r3 : xh = u := r3
  subst r2 r3
  obtain ⟨z, e, f3⟩ := f3.lift
  rw [← (show (c.zp Z P).K = X.K from ok.K)]
  exact sl_ok s3 (Rp.mono e3 _ _ (Rp.mono e2 _ _ r1)) e f3

/-! ### tests -/
theorem RB.eq {H : Hp} {ρ : List Addr} {a b : Bool} (h : RB H ρ a b) : a = b := h
theorem st_val (ok : XOk Φ fns cons X c) {a : Expr} {ma : ME} (ha : PE X a (low c (evE Φ c.b ma))) (he : ∀ whole, isTrue a X.env whole = (do let v ← whole; standAt a.pos; holding [v] (truthy v))) : PT X a (lowT c (evT Φ c.b (.val ma))) :=
  (pt_truth ha he).weak fun σ H Q ⟨Z, P, ρ, G, τ, s, w, f⟩ => by
    rw [evT] at f
    refine ⟨Z, P, ρ, G, τ, s, w, (Fin.then (R := Rp (c.zp Z P)) f).mono fun x H1 ⟨ρ1, G1, xa, e1, s1, r1, f1⟩ => ?_⟩
    obtain ⟨k, e, f1⟩ := f1.lift
    exact ⟨k, by rw [← (show (c.zp Z P).K = X.K from ok.K)]; exact tru_ok s1 r1 e, f1.here s1 rfl⟩
theorem st_cmp (ok : XOk Φ fns cons X c) {a b : Expr} {ma mb : ME} {o : COp} (ha : PE X a (low c (evE Φ c.b ma))) (hb : PE X b (low c (evE Φ c.b mb))) (hm : behindInMarks (cmpPy o) b = false) : PT X (.Compare a [cmpPy o] [b] pos) (lowT c (evT Φ c.b (.val (.cmp o ma mb)))) := by
  refine (pt_cmpR (op_cmp ok.units o) ha hb hm).weak fun σ H Q ⟨Z, P, ρ, G, τ, s, w, f⟩ => ?_
  rw [evT, evE] at f
  have f : Fin (c.zp Z P) RB ((evE Φ c.b ma τ G).then fun x G => ((evE Φ c.b mb τ G).then fun y G => lift ((cmpD G o x y).map .bl) G).then fun x G => lift (truD G x) G) H ρ Q := by
    cases g : evE Φ c.b ma τ G <;> (rw [g] at f; exact f)
  refine ⟨Z, P, ρ, G, τ, s, w, (Fin.then (R := Rp (c.zp Z P)) f).mono fun x H1 ⟨ρ1, G1, xa, e1, s1, r1, f1⟩ => ?_⟩
  have f1 : Fin (c.zp Z P) RB ((evE Φ c.b mb τ G1).then fun y G => (lift ((cmpD G o xa y).map .bl) G).then fun x G => lift (truD G x) G) H1 ρ1 Q := by
    cases g : evE Φ c.b mb τ G1 <;> (rw [g] at f1; exact f1)
  refine ⟨Z, P, ρ1, G1, τ, s1, w.ext e1, (Fin.then (R := Rp (c.zp Z P)) f1).mono fun y H2 ⟨ρ2, G2, xb, e2, s2, r2, f2⟩ => ?_⟩
  rw [← (show (c.zp Z P).K = X.K from ok.K)]
  cases g : cmpD G2 o xa xb with
  | none => simp only [g] at f2; exact f2.elim
  | some k =>
    simp only [g] at f2
    exact cmp_ok s2 (Rp.mono e2 _ _ r1) r2 g ⟨k, rfl, Fin.here (show Fin (c.zp Z P) RB (.ok k G2) H2 ρ2 Q from f2) s2 rfl⟩
theorem st_chain (ok : XOk Φ fns cons X c) {a b d : Expr} {ma mb md : ME} {o p : COp} (ha : PE X a (low c (evE Φ c.b ma))) (hb : PE X b (low c (evE Φ c.b mb))) (hd : PE X d (low c (evE Φ c.b md))) (hm : lastMarks [cmpPy o, cmpPy p] [b, d] = false) :
    PT X (.Compare a [cmpPy o, cmpPy p] [b, d] pos) (lowT c (evT Φ c.b (.val (.chain o p ma mb md)))) := by
  refine (pt_chain (op_cmp ok.units o) (op_cmp ok.units p) ha hb hd hm).weak fun σ H Q ⟨Z, P, ρ, G, τ, s, w, f⟩ => ?_
  rw [evT, evE] at f
  have f : Fin (c.zp Z P) RB ((evE Φ c.b ma τ G).then fun x G => ((evE Φ c.b mb τ G).then fun y G => match cmpD G o x y with
    | some true => (evE Φ c.b md τ G).then fun z G => lift ((cmpD G p y z).map D.bl) G
    | some false => Out.ok (D.bl false) G
    | none => Out.bad).then fun x G => lift (truD G x) G) H ρ Q := by
    cases g : evE Φ c.b ma τ G <;> (rw [g] at f; exact f)
  refine ⟨Z, P, ρ, G, τ, s, w, (Fin.then (R := Rp (c.zp Z P)) f).mono fun x H1 ⟨ρ1, G1, xa, e1, s1, r1, f1⟩ => ?_⟩
  have f1 : Fin (c.zp Z P) RB ((evE Φ c.b mb τ G1).then fun y G => (match cmpD G o xa y with
    | some true => (evE Φ c.b md τ G).then fun z G => lift ((cmpD G p y z).map D.bl) G
    | some false => Out.ok (D.bl false) G
    | none => Out.bad).then fun x G => lift (truD G x) G) H1 ρ1 Q := by
    cases g : evE Φ c.b mb τ G1 <;> (rw [g] at f1; exact f1)
  refine ⟨Z, P, ρ1, G1, τ, s1, w.ext e1, (Fin.then (R := Rp (c.zp Z P)) f1).mono fun y H2 ⟨ρ2, G2, xb, e2, s2, r2, f2⟩ => ?_⟩
  have r1' := Rp.mono e2 _ _ r1
  rw [← (show (c.zp Z P).K = X.K from ok.K)]
  cases g : cmpD G2 o xa xb with
  | none => simp only [g] at f2; exact f2.elim
  | some k =>
    cases k with
    | false =>
      simp only [g] at f2
      exact cmp_ok s2 r1' r2 g ⟨false, rfl, by rw [if_neg (by decide)]; exact ⟨false, rfl, Fin.here (show Fin (c.zp Z P) RB (.ok false G2) H2 ρ2 Q from f2) s2 rfl⟩⟩
    | true =>
      simp only [g] at f2
      refine cmp_ok s2 r1' r2 g ⟨true, rfl, ?_⟩
      rw [if_pos rfl]
      have f2 : Fin (c.zp Z P) RB ((evE Φ c.b md τ G2).then fun z G => (lift ((cmpD G p xb z).map .bl) G).then fun x G => lift (truD G x) G) H2 ρ2 Q := by
        cases g : evE Φ c.b md τ G2 <;> (rw [g] at f2; exact f2)
      refine ⟨Z, P, ρ2, G2, τ, s2, (w.ext e1).ext e2, (Fin.then (R := Rp (c.zp Z P)) f2).mono fun z H3 ⟨ρ3, G3, xd, e3, s3, r3, f3⟩ => ?_⟩
      cases g : cmpD G3 p xb xd with
      | none => simp only [g] at f3; exact f3.elim
      | some k =>
        simp only [g] at f3
        exact cmp_ok s3 (Rp.mono e3 _ _ r2) r3 g ⟨k, rfl, Fin.here (show Fin (c.zp Z P) RB (.ok k G3) H3 ρ3 Q from f3) s3 rfl⟩
theorem st_not {a : Expr} {m : MB} (h : PT X a (lowT c (evT Φ c.b m))) : PT X (.UnaryOp .Not a pos) (lowT c (evT Φ c.b (.not m))) :=
  (pt_not h).weak fun σ H Q ⟨Z, P, ρ, G, τ, s, w, f⟩ => by
    rw [evT] at f
    refine ⟨Z, P, ρ, G, τ, s, w, (Fin.then (R := RB) f).mono fun x H1 ⟨ρ1, G1, xa, e1, s1, r1, f1⟩ => ?_⟩
    have r1 : xa = x := r1
    subst r1
    exact f1.here s1 rfl
theorem sw_one {a : Expr} {m : MB} {o : BoolOp} (h : PT X a (lowT c (evT Φ c.b m))) : PW X (.BoolOp o [a] pos) (lowT c (evT Φ c.b m)) := by
  cases o with
  | And => exact pw_and1 h
  | Or => exact pw_or1 h
theorem sw_and {a b : Expr} {rest : List Expr} {m n : MB} (ha : PT X a (lowT c (evT Φ c.b m))) (hb : PW X (.BoolOp .And (b :: rest) pos) (lowT c (evT Φ c.b n))) : PW X (.BoolOp .And (a :: b :: rest) pos) (lowT c (evT Φ c.b (.and m n))) :=
  (pw_and ha hb).weak fun σ H Q ⟨Z, P, ρ, G, τ, s, w, f⟩ => by
    rw [evT] at f
    refine ⟨Z, P, ρ, G, τ, s, w, (Fin.then (R := RB) f).mono fun x H1 ⟨ρ1, G1, xa, e1, s1, r1, f1⟩ => ?_⟩
    have r1 : xa = x := r1
    subst r1
    cases xa with
    | true => rw [if_pos rfl] at f1 ⊢; exact ⟨Z, P, ρ1, G1, τ, s1, w.ext e1, f1⟩
    | false => rw [if_neg (by decide)] at f1 ⊢; exact f1.here s1 rfl
theorem sw_or {a b : Expr} {rest : List Expr} {m n : MB} (ha : PT X a (lowT c (evT Φ c.b m))) (hb : PW X (.BoolOp .Or (b :: rest) pos) (lowT c (evT Φ c.b n))) : PW X (.BoolOp .Or (a :: b :: rest) pos) (lowT c (evT Φ c.b (.or m n))) :=
  (pw_or ha hb).weak fun σ H Q ⟨Z, P, ρ, G, τ, s, w, f⟩ => by
    rw [evT] at f
    refine ⟨Z, P, ρ, G, τ, s, w, (Fin.then (R := RB) f).mono fun x H1 ⟨ρ1, G1, xa, e1, s1, r1, f1⟩ => ?_⟩
    have r1 : xa = x := r1
    subst r1
    cases xa with
    | true => rw [if_pos rfl] at f1 ⊢; exact f1.here s1 rfl
    | false => rw [if_neg (by decide)] at f1 ⊢; exact ⟨Z, P, ρ1, G1, τ, s1, w.ext e1, f1⟩
/-- not, and, or, if as values -/
theorem se_not (ok : XOk Φ fns cons X c) {a : Expr} {m : ME} (h : PE X a (low c (evE Φ c.b m))) : PE X (.UnaryOp .Not a pos) (low c (evE Φ c.b (.not m))) :=
  (pe_notT h).weak fun σ H Q ⟨Z, P, ρ, G, τ, s, w, f⟩ => by
    rw [evE] at f
    refine ⟨Z, P, ρ, G, τ, s, w, (Fin.then (R := Rp (c.zp Z P)) f).mono fun x H1 ⟨ρ1, G1, xa, e1, s1, r1, f1⟩ => ?_⟩
    obtain ⟨z, e, f1⟩ := f1.lift
    obtain ⟨k, e4, rfl⟩ := map_some e
    exact ⟨k, by rw [← (show (c.zp Z P).K = X.K from ok.K)]; exact tru_ok s1 r1 e4, f1.here s1 rfl⟩
theorem se_and {a b : Expr} {rest : List Expr} {m n : ME} (ha : PE X a (low c (evE Φ c.b m))) (hb : PE X (.BoolOp .And (b :: rest) pos) (low c (evE Φ c.b n))) : PE X (.BoolOp .And (a :: b :: rest) pos) (low c (evE Φ c.b (.and m n))) :=
  (pe_and ha hb).weak fun σ H Q ⟨Z, P, ρ, G, τ, s, w, f⟩ => by
    rw [evE] at f
    refine ⟨Z, P, ρ, G, τ, s, w, (Fin.then (R := Rp (c.zp Z P)) f).mono fun x H1 ⟨ρ1, G1, xa, e1, s1, r1, f1⟩ => ?_⟩
    cases xa with
    | bl k =>
      cases k with
      | true => exact ⟨true, r1, by rw [if_pos rfl]; exact ⟨Z, P, ρ1, G1, τ, s1, w.ext e1, f1⟩⟩
      | false => exact ⟨false, r1, by rw [if_neg (by decide)]; exact f1.here s1 rfl⟩
    | _ => exact f1.elim
theorem se_or {a b : Expr} {rest : List Expr} {m n : ME} (ha : PE X a (low c (evE Φ c.b m))) (hb : PE X (.BoolOp .Or (b :: rest) pos) (low c (evE Φ c.b n))) : PE X (.BoolOp .Or (a :: b :: rest) pos) (low c (evE Φ c.b (.or m n))) :=
  (pe_or ha hb).weak fun σ H Q ⟨Z, P, ρ, G, τ, s, w, f⟩ => by
    rw [evE] at f
    refine ⟨Z, P, ρ, G, τ, s, w, (Fin.then (R := Rp (c.zp Z P)) f).mono fun x H1 ⟨ρ1, G1, xa, e1, s1, r1, f1⟩ => ?_⟩
    cases xa with
    | bl k =>
      cases k with
      | true => exact ⟨true, r1, by rw [if_pos rfl]; exact f1.here s1 rfl⟩
      | false => exact ⟨false, r1, by rw [if_neg (by decide)]; exact ⟨Z, P, ρ1, G1, τ, s1, w.ext e1, f1⟩⟩
    | _ => exact f1.elim
theorem se_ifx {t a b : Expr} {mt : MB} {m n : ME} (ht : PT X t (lowT c (evT Φ c.b mt))) (ha : PE X a (low c (evE Φ c.b m))) (hb : PE X b (low c (evE Φ c.b n))) : PE X (.IfExp t a b pos) (low c (evE Φ c.b (.ifx mt m n))) :=
  (pe_ifExp ht ha hb).weak fun σ H Q ⟨Z, P, ρ, G, τ, s, w, f⟩ => by
    rw [evE] at f
    refine ⟨Z, P, ρ, G, τ, s, w, (Fin.then (R := RB) f).mono fun x H1 ⟨ρ1, G1, xa, e1, s1, r1, f1⟩ => ?_⟩
    have r1 : xa = x := r1
    subst r1
    cases xa with
    | true => rw [if_pos rfl] at f1 ⊢; exact ⟨Z, P, ρ1, G1, τ, s1, w.ext e1, f1⟩
    | false => rw [if_neg (by decide)] at f1 ⊢; exact ⟨Z, P, ρ1, G1, τ, s1, w.ext e1, f1⟩
end
end U

set_option Elab.async false
set_option linter.all false
set_option maxRecDepth 100000
/-! UH: calls. -/
namespace U
open PySem L2 PyProof.Rows
section
variable {Φ : Fn} {fns : Str → Option (List Str)} {cons : Str → Option D} {X : Cx} {c : C} {pos : Pos}

theorem lowSp_of (hK : c.K = X.K) (hm : c.mg = X.mg) {F : List D → Hd → Out D} {n : Nat} {Z : List Addr} {P : Nat → Prop} {H : Hp} {ρ : List Addr} {G : Hd} {ds : List D} {vs : List V} {Q : VK} (s : SR (c.zp Z P) H ρ G) (r : Rps (c.zp Z P) H ρ ds vs) (hl : vs.length = n)
    (f : Fin (c.zp Z P) (Rp (c.zp Z P)) (F ds G) H ρ Q) : lowSp X.K X.mg n F vs H Q (exK c.mg c.EX) := by
  obtain ⟨K, mg, EX, b, P0, Z0⟩ := c
  have hK : K = X.K := hK
  have hm : mg = X.mg := hm
  subst hK hm
  exact ⟨EX, b, P, Z, ρ, G, ds, fun _ _ _ h => h, s, r, hl, f⟩

/-- no star -/
def plainE : Expr → Bool
  | .Starred .. => false
  | _ => true
theorem star_one {e : Expr} {es : List Expr} {env : Env} (h : plainE e = true) : starEach (e :: es) env = (false, eval e env) :: starEach es env := by
  cases e <;> first | rfl | cases h
theorem star_any {env : Env} : ∀ {es : List Expr}, es.all plainE = true → (backTo pos (starEach es env)).any (·.1) = false
  | [], _ => rfl
  | e :: es, h => by
    rw [List.all_cons, Bool.and_eq_true] at h
    rw [star_one h.1]
    have ih := star_any (env := env) h.2
    unfold backTo at ih ⊢
    simp only [List.map_cons, List.any_cons]
    rw [ih]
    rfl

section call
variable {x : Str} {p : Pos} {e : Expr} {es : List Expr} {kws : List Keyword} {ms : MEs} {ps : List Str}
theorem run_call (ok : XOk Φ fns cons X c) (hf : fns x = some ps) (hl : ms.length = ps.length) {σ : L2.St} {H : Hp} {Q : VK} (h : low c (evE Φ c.b (.call x ms)) σ H Q) : lowA c (evEs Φ c.b ms) σ H fun vs H1 => vs.length = ps.length ∧ lowSp X.K X.mg ps.length (Φ x) vs H1 Q (exK c.mg c.EX) := by
  obtain ⟨Z, P, ρ, G, τ, s, w, f⟩ := h
  rw [evE] at f
  refine ⟨Z, P, ρ, G, τ, s, w, ?_⟩
  cases g : evEs Φ c.b ms τ G with
  | ok ds G1 =>
    rw [g] at f
    intro xs H1 ρ1 e1 s1 r1
    have el : xs.length = ps.length := by rw [r1.length, evEs_len g, hl]
    exact ⟨el, lowSp_of ok.K ok.mg s1 r1 el (Fin.ext f e1)⟩
  | exc _ _ => rw [g] at f; exact f
  | bad => rw [g] at f; exact f
theorem binds_of {K : PySem.W.Frag} {fd : FuncData} {ps : List Str} (h : KBn K fd ps ps.length (ps.drop ps.length) (fun us ws => us ++ ws) (fun us ws => us ++ ws)) : Binds K fd ps [] := by
  intro s us hk hl
  rw [List.append_nil] at hl ⊢
  have := h.to s us [] hk hl (by rw [List.drop_length]; rfl)
  rw [List.append_nil, List.zip_nil_right] at this
  exact this
theorem se_call0 (ok : XOk Φ fns cons X c) (hg : Gl X x) (hf : fns x = some []) (hd : (x == ("__debug__" : Str)) = false) : PE X (.Call (.Name x p) [] [] pos) (low c (evE Φ c.b (.call x .nil))) := by
  obtain ⟨a, fd, k, hm, hk, hb, F, hr⟩ := ok.fn x [] hf
  refine (pe_call0 F hr hg hm hk (binds_of (hb _ (Nat.le_refl _))) .nil ok.pass hd).weak fun σ H Q h => ?_
  obtain ⟨Z, P, ρ, G, τ, s, w, f⟩ := run_call ok hf rfl h
  rw [evEs] at f
  exact (f.here s .nil).2
theorem se_call (ok : XOk Φ fns cons X c) (hg : Gl X x) (hf : fns x = some ps) (hl : ms.length = ps.length) (hd : (x == ("__debug__" : Str)) = false) (ha : PA X (e :: es) (lowA c (evEs Φ c.b ms))) (hp : (e :: es).all plainE = true) :
    PE X (.Call (.Name x p) (e :: es) [] pos) (low c (evE Φ c.b (.call x ms))) := by
  obtain ⟨a, fd, k, hm, hk, hb, F, hr⟩ := ok.fn x ps hf
  rw [List.all_cons, Bool.and_eq_true] at hp
  refine (pe_call F hr hg hm hk (binds_of (hb _ (Nat.le_refl _))) .nil ok.pass ha hd (star_one hp.1) (star_any hp.2)).weak fun σ H Q h => ?_
  obtain ⟨Z, P, ρ, G, τ, s, w, f⟩ := run_call ok hf hl h
  refine ⟨Z, P, ρ, G, τ, s, w, f.mono fun vs H1 q => ?_⟩
  show lowSp _ _ _ _ (vs ++ []) _ _ _
  rw [List.append_nil]
  exact q.2
/-- keywords, the last parameters in their order -/
theorem sk_nil : PK X [] (lowA c (evEs Φ c.b .nil)) := ⟨fun pos pins s σ H Q I ⟨Z, P, ρ, G, τ, sr, w, f⟩ => pk_nil.run pos pins s σ H Q I (by rw [evEs] at f; exact f.here sr .nil)⟩
theorem sk_cons {nm : Option Str} {kpos : Pos} {m : ME} (h : PE X e (low c (evE Φ c.b m))) (hs : PK X kws (lowA c (evEs Φ c.b ms))) : PK X (⟨nm, e, kpos⟩ :: kws) (lowA c (evEs Φ c.b (.cons m ms))) :=
  ⟨fun pos pins s σ H Q I ⟨Z, P, ρ, G, τ, sr, w, f⟩ => (pk_cons h hs).run pos pins s σ H Q I (by
    rw [evEs] at f
    refine ⟨Z, P, ρ, G, τ, sr, w, (Fin.then (R := Rp (c.zp Z P)) f).mono fun x H1 ⟨ρ1, G1, a, e1, s1, r1, f1⟩ => ?_⟩
    refine ⟨Z, P, ρ1, G1, τ, s1, w.ext e1, (Fin.then (R := Rps (c.zp Z P)) f1).mono fun y H2 ⟨ρ2, G2, d, e2, s2, r2, f2⟩ => ?_⟩
    exact f2.here s2 (.cons (Rp.mono e2 _ _ r1) r2))⟩
def MEs.app : MEs → MEs → MEs
  | .nil, r => r
  | .cons e es, r => .cons e (es.app r)
theorem MEs.app_length : ∀ (a b : MEs), (a.app b).length = a.length + b.length
  | .nil, b => by simp [MEs.app, MEs.length]
  | .cons _ a, b => by simp [MEs.app, MEs.length, MEs.app_length a b]; omega
theorem then_assoc {α β γ : Type} (o : Out α) (f : α → Hd → Out β) (g : β → Hd → Out γ) : (o.then f).then g = o.then fun a G => (f a G).then g := by
  cases o <;> rfl
theorem evEs_app {b : Nat} {τ : Tau} : ∀ (m n : MEs) (G : Hd), evEs Φ b (m.app n) τ G = (evEs Φ b m τ G).then fun ds G => (evEs Φ b n τ G).then fun es G => .ok (ds ++ es) G
  | .nil, n, G => by
    simp only [MEs.app, evEs, Out.then_ok, List.nil_append]
    cases evEs Φ b n τ G <;> rfl
  | .cons a m, n, G => by
    simp only [MEs.app, evEs, then_assoc, Out.then_ok, List.cons_append]
    congr 1
    funext d G1
    rw [evEs_app m n G1, then_assoc]
    congr 1
    funext ds G2
    rw [then_assoc]
    rfl
def kwNames : List Keyword → Option (List Str)
  | [] => some []
  | ⟨some n, _, _⟩ :: r => (kwNames r).map (n :: ·)
  | ⟨none, _, _⟩ :: _ => none
theorem kw_all {env : Env} {pos : Pos} : ∀ {kws : List Keyword} {ks : List Str}, kwNames kws = some ks → (backToKw pos (keywordEach kws env)).all (·.1.isSome) = true ∧ (backToKw pos (keywordEach kws env)).filterMap (·.1) = ks ∧ (backToKw pos (keywordEach kws env)).any (·.1.isNone) = false
  | [], ks, h => by cases h; exact ⟨rfl, rfl, rfl⟩
  | ⟨some n, e, p⟩ :: r, ks, h => by
    obtain ⟨ks', h1, rfl⟩ := map_some (show (kwNames r).map (n :: ·) = some ks from h)
    obtain ⟨a, b, d⟩ := kw_all (env := env) (pos := pos) h1
    unfold keywordEach
    unfold backToKw at a b d ⊢
    simp only [List.map_cons, List.all_cons, List.filterMap_cons, List.any_cons, Option.isSome_some, Option.isNone_some, Bool.true_and, Bool.false_or]
    exact ⟨a, by rw [b], d⟩
  | ⟨none, _, _⟩ :: _, _, h => by cases h
theorem kw_len : ∀ {kws : List Keyword} {ks : List Str}, kwNames kws = some ks → ks.length = kws.length
  | [], ks, h => by cases h; rfl
  | ⟨some n, e, p⟩ :: r, ks, h => by
    obtain ⟨ks', h1, rfl⟩ := map_some (show (kwNames r).map (n :: ·) = some ks from h)
    simp [kw_len h1]
  | ⟨none, _, _⟩ :: _, _, h => by cases h
theorem run_callk (ok : XOk Φ fns cons X c) (hf : fns x = some ps) {mk : MEs} (hl : ms.length + mk.length = ps.length) {σ : L2.St} {H : Hp} {Q : VK} (h : low c (evE Φ c.b (.call x (ms.app mk))) σ H Q) :
    lowA c (evEs Φ c.b ms) σ H fun vs H1 => lowA c (evEs Φ c.b mk) σ H1 fun zs H2 => vs.length = ms.length ∧ zs.length = mk.length ∧ lowSp X.K X.mg ps.length (Φ x) (vs ++ zs) H2 Q (exK c.mg c.EX) := by
  obtain ⟨Z, P, ρ, G, τ, s, w, f⟩ := h
  rw [evE, evEs_app, then_assoc] at f
  refine ⟨Z, P, ρ, G, τ, s, w, ?_⟩
  cases g : evEs Φ c.b ms τ G with
  | ok ds G1 =>
    rw [g] at f
    simp only [Out.then_ok, then_assoc] at f
    intro xs H1 ρ1 e1 s1 r1
    refine ⟨Z, P, ρ1, G1, τ, s1, w.ext e1, ?_⟩
    have f := Fin.ext f e1
    cases g2 : evEs Φ c.b mk τ G1 with
    | ok es G2 =>
      rw [g2] at f
      simp only [Out.then_ok] at f
      intro ys H2 ρ2 e2 s2 r2
      have l1 : xs.length = ms.length := by rw [r1.length, evEs_len g]
      have l2 : ys.length = mk.length := by rw [r2.length, evEs_len g2]
      exact ⟨l1, l2, lowSp_of ok.K ok.mg s2 ((Rps.mono e2 _ _ r1).append r2) (by rw [List.length_append, l1, l2, hl]) (Fin.ext f e2)⟩
    | exc _ _ => rw [g2] at f; exact f
    | bad => rw [g2] at f; exact f
  | exc _ _ => rw [g] at f; exact f
  | bad => rw [g] at f; exact f
theorem se_callk (ok : XOk Φ fns cons X c) (hg : Gl X x) (hf : fns x = some ps) {mk : MEs} {ks : List Str} (hks : kwNames kws = some ks) (hd : (x == ("__debug__" : Str)) = false) (ha : PA X (e :: es) (lowA c (evEs Φ c.b ms))) (hp : (e :: es).all plainE = true) (hkw : PK X kws (lowA c (evEs Φ c.b mk)))
    (hn : ms.length ≤ ps.length) (hkn : ps.drop ms.length = ks) (hml : mk.length = kws.length) : PE X (.Call (.Name x p) (e :: es) kws pos) (low c (evE Φ c.b (.call x (ms.app mk)))) := by
  obtain ⟨a, fd, k, hm, hk, hb, F, hr⟩ := ok.fn x ps hf
  have hl : ms.length + mk.length = ps.length := by
    rw [hml, ← kw_len hks, ← hkn, List.length_drop]
    omega
  have hb := hb ms.length hn
  rw [hkn] at hb
  obtain ⟨k1, k2, k3⟩ := kw_all (env := X.env) (pos := pos) hks
  have hp0 := hp
  rw [List.all_cons, Bool.and_eq_true] at hp
  refine (pe_callN F hr hg hm hk hb ok.pass ha hkw k1 k2 hd (star_one hp.1) (by rw [k3, star_any hp0]; rfl)).weak fun σ H Q h => ?_
  obtain ⟨Z, P, ρ, G, τ, s, w, f⟩ := run_callk ok hf hl h
  refine ⟨Z, P, ρ, G, τ, s, w, f.mono fun vs H1 ⟨Z1, P1, ρ1, G1, τ1, s1, w1, f1⟩ => ⟨Z1, P1, ρ1, G1, τ1, s1, w1, f1.mono fun zs H2 ⟨l1, l2, q⟩ => ⟨l1, ?_, q⟩⟩⟩
  rw [l2, hml, kw_len hks]
/-- .. without others -/
theorem se_callk0 (ok : XOk Φ fns cons X c) (hg : Gl X x) (hf : fns x = some ps) {mk : MEs} (hks : kwNames kws = some ps) (hd : (x == ("__debug__" : Str)) = false) (hkw : PK X kws (lowA c (evEs Φ c.b mk))) (hml : mk.length = kws.length) :
    PE X (.Call (.Name x p) [] kws pos) (low c (evE Φ c.b (.call x mk))) := by
  obtain ⟨a, fd, k, hm, hk, hb, F, hr⟩ := ok.fn x ps hf
  have hb := hb 0 (Nat.zero_le _)
  rw [List.drop_zero] at hb
  obtain ⟨k1, k2, k3⟩ := kw_all (env := X.env) (pos := pos) hks
  refine ⟨fun pins s σ H Q I h => ?_⟩
  obtain ⟨Z, P, ρ, G, τ, s0, w, f⟩ := run_call ok hf (by rw [hml, kw_len hks]) h
  refine wpAny_Call_Name_kw (ld_glob I hg hm ?_ hd)
  refine PySem.W.callWith_KW0 (h₀ := X.base) I.ok.mod.kin hk k1 (thn (hkw.run pos pins s σ H _ I ⟨Z, P, ρ, G, τ, s0, w, f⟩) fun ws s2 ⟨zs, H2, I2, rz, l2, q2⟩ => ⟨I2.kIn, ?_⟩) (by rw [k3]; rfl)
  rw [k2]
  exact run_fnN (n := 0) (vs := []) (us := []) F hr hb ok.pass I2 .nil rz rfl l2 q2
end call

/-! ### built-ins -/
def biName (x : Str) : Option BI := ([("len", .len), ("abs", .abs), ("isinstance", .isi), ("all", .all), ("any", .any), ("sum", .sum), ("tuple", .tuple), ("list", .list), ("dict", .dict), ("int", .int), ("str", .str), ("min", .min), ("max", .max)] : List (Str × BI)).lookup x
def biTab : List (Str × BI) := [("len", .len), ("abs", .abs), ("isinstance", .isi), ("all", .all), ("any", .any), ("sum", .sum), ("tuple", .tuple), ("list", .list), ("dict", .dict), ("int", .int), ("str", .str), ("min", .min), ("max", .max)]
theorem biTab_ok : ∀ p ∈ biTab, bootBuiltins p.1 = some (biV p.2) ∧ p.1 ∈ bltNames ∧ p.1 ≠ ("__name__" : Str) ∧ (p.1 == ("__debug__" : Str)) = false := by
  intro p hp
  unfold biTab at hp
  simp only [List.mem_cons, List.not_mem_nil, or_false] at hp
  rcases hp with rfl | rfl | rfl | rfl | rfl | rfl | rfl | rfl | rfl | rfl | rfl | rfl | rfl <;> exact ⟨by decide +kernel, by decide +kernel, by decide +kernel, by decide +kernel⟩
theorem lookup_mem {α β : Type} [BEq α] [LawfulBEq α] : ∀ {l : List (α × β)} {x : α} {y : β}, l.lookup x = some y → (x, y) ∈ l
  | [], _, _, h => by cases h
  | (a, b) :: l, x, y, h => by
    rw [List.lookup_cons] at h
    cases g : (x == a) with
    | true =>
      rw [g] at h
      cases h
      rw [eq_of_beq g]
      exact List.mem_cons_self
    | false =>
      rw [g] at h
      exact List.mem_cons_of_mem _ (lookup_mem h)
section bi
variable {x : Str} {o : BI} {p : Pos} {e : Expr} {es : List Expr} {ms : MEs}
theorem bi_facts (ok : XOk Φ fns cons X c) (h : biName x = some o) : bootBuiltins x = some (biV o) ∧ X.mg x = none ∧ x ≠ ("__name__" : Str) ∧ (x == ("__debug__" : Str)) = false := by
  have m : (x, o) ∈ biTab := lookup_mem h
  obtain ⟨a, b, d, e⟩ := biTab_ok _ m
  exact ⟨a, ok.blt _ b, d, e⟩
theorem pe_bi (ok : XOk Φ fns cons X c) (h : biName x = some o) (hg : Gl X x) {t : TA} (ha : PA X (e :: es) t) (hp : (e :: es).all plainE = true) : PE X (.Call (.Name x p) (e :: es) [] pos) (tCB (rBi X o) t) := by
  obtain ⟨a, b, d, dd⟩ := bi_facts ok h
  rw [List.all_cons, Bool.and_eq_true] at hp
  have r := bi_call (X := X) ok.calm o
  cases o with
  | tuple => exact pe_callTy r hg b a ha d dd (star_one hp.1) (star_any hp.2)
  | list => exact pe_callTy r hg b a ha d dd (star_one hp.1) (star_any hp.2)
  | dict => exact pe_callTy r hg b a ha d dd (star_one hp.1) (star_any hp.2)
  | int => exact pe_callTy r hg b a ha d dd (star_one hp.1) (star_any hp.2)
  | str => exact pe_callTy r hg b a ha d dd (star_one hp.1) (star_any hp.2)
  | _ => exact pe_callB r hg b a ha d dd (star_one hp.1) (star_any hp.2)
theorem se_bi (ok : XOk Φ fns cons X c) (h : biName x = some o) (hg : Gl X x) (ha : PA X (e :: es) (lowA c (evEs Φ c.b ms))) (hp : (e :: es).all plainE = true) : PE X (.Call (.Name x p) (e :: es) [] pos) (low c (evE Φ c.b (.bi o ms))) := by
  refine (pe_bi ok h hg ha hp).weak fun σ H Q q => lowA1 (ga := evEs Φ c.b ms) (k := fun ds G => lift (biD G o ds) G) (r := rBi X o) (fun Z P xs H ρ G as Q s ra f => ?_) σ H Q (by
    have e : evE Φ c.b (.bi o ms) = fun τ G => (evEs Φ c.b ms τ G).then fun ds G => lift (biD G o ds) G := by
      funext τ G
      rw [evE]
    rw [e] at q
    exact q)
  obtain ⟨z, e, f⟩ := f.lift
  exact bi_ok (c := c.zp Z P) ok.K s ra e f
/-- list(..), fresh -/
theorem sf_list (ok : XOk Φ fns cons X c) (h : biName x = some .list) (hg : Gl X x) (ha : PA X (e :: es) (lowA c (evEs Φ c.b ms))) (hp : (e :: es).all plainE = true) : PE X (.Call (.Name x p) (e :: es) [] pos) (lowFr c (evE Φ c.b (.bi .list ms))) := by
  refine (pe_bi ok h hg ha hp).weak fun σ H Q ⟨Z, P, ρ, G, τ, s, w, f⟩ => ?_
  rw [evE] at f
  refine ⟨Z, P, ρ, G, τ, s, w, ?_⟩
  cases g : evEs Φ c.b ms τ G with
  | ok ds G1 =>
    rw [g] at f
    simp only [Out.then_ok] at f
    intro xs H1 ρ1 e1 s1 r1
    cases g2 : biD G1 .list ds with
    | none => rw [g2] at f; exact f.elim
    | some z =>
      rw [g2] at f
      obtain ⟨o, eo, q⟩ := f
      obtain ⟨a, rfl, e2⟩ := arg1_some g2
      obtain ⟨y, r, rfl, ry, t⟩ := r1.of_cons
      obtain rfl := t.of_nil
      obtain ⟨es', g3, rfl⟩ := map_some e2
      cases eo
      obtain ⟨pp, vs, rfl, q', t⟩ := rp_seq s1 ry g3
      refine ⟨pp, vs, rfl, ?_, fun l hl => newFr (o := .lst es') s1 e1 hl ⟨vs, upd_same, Rps.and hl (s1.ext hl) _ _ t⟩ q⟩
      rcases q' with q' | q'
      · exact .inl (.inl q')
      · exact .inr ((show (c.zp Z P).K = X.K from ok.K) ▸ q')
  | exc _ _ => rw [g] at f; exact f
  | bad => rw [g] at f; exact f
theorem of_list (τ : Tau) (G : Hd) (d : D) (G' : Hd) (h : evE Φ c.b (.bi .list ms) τ G = .ok d G') : ∃ o, objOf d = some o := by
  rw [evE] at h
  cases g : evEs Φ c.b ms τ G with
  | ok ds G1 =>
    rw [g] at h
    simp only [Out.then_ok] at h
    cases g2 : biD G1 .list ds with
    | none => rw [g2] at h; cases h
    | some z =>
      rw [g2] at h
      cases h
      obtain ⟨a, rfl, e2⟩ := arg1_some g2
      obtain ⟨es', g3, rfl⟩ := map_some e2
      exact ⟨_, rfl⟩
  | exc _ _ => rw [g] at h; cases h
  | bad => rw [g] at h; cases h
end bi

/-! ### methods -/
/-- not super() -/
def notSuper : Expr → Bool
  | .Call (.Name _ _) [] [] _ => false
  | _ => true
theorem base_ok {o : Expr} {m : Str} {env : Env} (h : notSuper o = true) : attributeBase o m env (eval o env) = eval o env := by
  unfold attributeBase
  split
  · cases h
  · rfl
section meth
variable {o e f : Expr} {apos cpos : Pos} {mo me mf : ME}
theorem m2_ok {m : Str} (h1 : notSuper o = true) (h2 : plainE e = true) (h3 : plainE f = true) (h4 : (apos.endLine == cpos.line) = true) : M2 X o m apos e f cpos := by
  have s : starEach [e, f] X.env = [(false, eval e X.env), (false, eval f X.env)] := by rw [star_one h2, star_one h3]; rfl
  exact ⟨base_ok h1, by rw [s]; rfl, h4, by rw [s]; rfl⟩
theorem rdD {H : Hp} {ρ : List Addr} {G : Hd} {d : D} {v : V} {ks vs : List D} (s : SR c H ρ G) (h : Rp c H ρ d v) (e : dictOf G d = some (ks, vs)) : ∃ a, v = .ref a ∧ IsD H a := by
  obtain ⟨a, kvs, rfl, q, _⟩ := rp_dict s h e
  exact ⟨a, rfl, .inl ⟨kvs, q⟩⟩
theorem se_get (ok : XOk Φ fns cons X c) (ho : PE X o (low c (evE Φ c.b mo))) (he : PE X e (low c (evE Φ c.b me))) (hf : PE X f (low c (evE Φ c.b mf))) (h1 : notSuper o = true) (h2 : plainE e = true) (h3 : plainE f = true) (h4 : (apos.endLine == cpos.line) = true) :
    PE X (.Call (.Attribute o "get" apos) [e, f] [] cpos) (low c (evE Φ c.b (.get mo me mf))) := by
  refine (pe_dget2 (by have := ok.units; omega) ho he hf (m2_ok h1 h2 h3 h4)).weak fun σ H Q ⟨Z, P, ρ, G, τ, s, w, q⟩ => ?_
  rw [evE] at q
  refine ⟨Z, P, ρ, G, τ, s, w, (Fin.then (R := Rp (c.zp Z P)) q).mono fun x H1 ⟨ρ1, G1, xo, e1, s1, r1, f1⟩ => ?_⟩
  cases g : dictOf G1 xo with
  | none => simp only [g] at f1; exact f1.elim
  | some p =>
    obtain ⟨ks0, vs0⟩ := p
    simp only [g] at f1
    obtain ⟨a, rfl, ad⟩ := rdD s1 r1 g
    refine ⟨a, rfl, ad, Z, P, ρ1, G1, τ, s1, w.ext e1, (Fin.then (R := Rp (c.zp Z P)) f1).mono fun y H2 ⟨ρ2, G2, xk, e2, s2, r2, f2⟩ => ?_⟩
    refine ⟨Z, P, ρ2, G2, τ, s2, (w.ext e1).ext e2, (Fin.then (R := Rp (c.zp Z P)) f2).mono fun z H3 ⟨ρ3, G3, xd, e3, s3, r3, f3⟩ => ?_⟩
    obtain ⟨v, ev, f3⟩ := f3.lift
    have r1' := Rp.mono e3 _ _ (Rp.mono e2 _ _ r1)
    have r2' := Rp.mono e3 _ _ r2
    unfold getD at ev
    cases g3 : dictOf G3 xo with
    | none => rw [g3] at ev; cases ev
    | some p =>
      obtain ⟨ks, vs⟩ := p
      rw [g3] at ev
      obtain ⟨kk, rfl⟩ := ite_some ev
      obtain ⟨a', oo, ea, dg, m⟩ := rp_get s3 r1' g3 kk r2'
      cases ea
      refine ⟨oo, dg, f3.here s3 ?_⟩
      cases g4 : dictGet ks vs xk with
      | none => rw [g4] at m; rw [m]; exact r3
      | some zz => rw [g4] at m; obtain ⟨ww, m, mr⟩ := m; rw [m]; exact mr
theorem few1 {env : Env} (h2 : plainE e = true) : (((backTo cpos (starEach [e] env)).all (fun x => !x.1) && (backToKw cpos (keywordEach [] env)).all fun x => x.1.isSome) && decide (([e].length + ([] : List Keyword).length + if ([] : List Keyword).isEmpty = true then 0 else 1) < 30)) = true := by
  rw [star_one h2]
  rfl
theorem se_append (ok : XOk Φ fns cons X c) (ho : PE X o (low c (evE Φ c.b mo))) (he : PE X e (low c (evE Φ c.b me))) (h1 : notSuper o = true) (h2 : plainE e = true) (h4 : (apos.endLine == cpos.line) = true) :
    PE X (.Call (.Attribute o "append" apos) [e] [] cpos) (low c (evE Φ c.b (.append mo me))) := by
  have ha : PA X [e] (lowA c (evEs Φ c.b (.cons me .nil))) := sa_cons he sa_nil (star_one h2)
  refine (pe_bm PySem.F.plainAttrs_list PySem.F.slot_list_append PySem.F.type_list_append mt_append ho ha (base_ok h1) (few1 h2) h4 (star_one h2) rfl).weak fun σ H Q ⟨Z, P, ρ, G, τ, s, w, q⟩ => ?_
  rw [evE] at q
  refine ⟨Z, P, ρ, G, τ, s, w, (Fin.then (R := Rp (c.zp Z P)) q).mono fun x H1 ⟨ρ1, G1, xo, e1, s1, r1, f1⟩ => ?_⟩
  cases g : listD G1 xo with
  | none => simp only [g] at f1; exact f1.elim
  | some ys0 =>
    simp only [g] at f1
    refine ⟨?_, Z, P, ρ1, G1, τ, s1, w.ext e1, ?_⟩
    · obtain ⟨a, vs, rfl, qq, _⟩ := rp_list s1 r1 g
      exact .inl ⟨rfl, vs, .inl qq⟩
    · have ev : evEs Φ c.b (.cons me .nil) τ G1 = (evE Φ c.b me τ G1).then fun d G => .ok [d] G := by
        simp only [evEs, Out.then_ok]
      show Fin (c.zp Z P) (Rps (c.zp Z P)) (evEs Φ c.b (.cons me .nil) τ G1) H1 ρ1 _
      rw [ev]
      have f2 := Fin.then (R := Rp (c.zp Z P)) f1
      cases g2 : evE Φ c.b me τ G1 with
      | ok d G2 =>
        rw [g2] at f2
        intro xs H2 ρ2 e2 s2 r2
        obtain ⟨y, r, rfl, ry, t⟩ := r2.of_cons
        obtain rfl := t.of_nil
        rw [g2] at f1
        simp only [Out.then_ok] at f1
        exact append_ok (c := c.zp Z P) s2 (Rp.mono e2 _ _ r1) ry (Fin.ext f1 e2)
      | exc _ _ => rw [g2] at f2; exact f2
      | bad => rw [g2] at f2; exact f2
end meth
end
end U

set_option Elab.async false
set_option linter.all false
set_option maxRecDepth 100000
/-! UI: targets, what is walked, loops, comprehensions. -/
namespace U
open PySem L2 PyProof.Rows

/-! ### another wish about exceptions -/
section
variable {c c' : C} {H : Hp} {ρ : List Addr} {G : Hd}
mutual
theorem Rp.cx (hK : c'.K = c.K) (hm : c'.mg = c.mg) (hZ : c'.Z = c.Z) : ∀ (d : D) (v : V), Rp c H ρ d v → Rp c' H ρ d v
  | .non, _, h => h
  | .bl _, _, h => h
  | .int _, _, h => h
  | .str _, _, h => h
  | .ty _, _, h => h
  | .exc _, _, h => h
  | .ref i, v, h => h
  | .glo x, v, h => by
    unfold Rp at h ⊢
    rw [hm]
    exact h
  | .tup ds, v, h => by
    unfold Rp at h ⊢
    obtain ⟨a, vs, r, s, t⟩ := h
    exact ⟨a, vs, r, by rw [hK]; exact s, Rps.cx hK hm hZ ds vs t⟩
  | .lst ds, v, h => by
    unfold Rp at h ⊢
    obtain ⟨a, vs, r, s, m, t⟩ := h
    exact ⟨a, vs, r, s, by rw [hZ]; exact m, Rps.cx hK hm hZ ds vs t⟩
  | .dct ks ds, v, h => by
    unfold Rp at h ⊢
    obtain ⟨a, kvs, r, s, m, q, t⟩ := h
    exact ⟨a, kvs, r, s, by rw [hZ]; exact m, q, Rps.cx hK hm hZ ds _ t⟩
  | .ins nm fs ds, v, h => by
    unfold Rp at h ⊢
    obtain ⟨a, C, dx, fvs, r, q, s, m, j, t⟩ := h
    exact ⟨a, C, dx, fvs, r, by rw [hm]; exact q, s, by rw [hZ]; exact m, j, Rps.cx hK hm hZ ds _ t⟩
theorem Rps.cx (hK : c'.K = c.K) (hm : c'.mg = c.mg) (hZ : c'.Z = c.Z) : ∀ (ds : List D) (vs : List V), Rps c H ρ ds vs → Rps c' H ρ ds vs
  | [], _, h => h
  | d :: ds, vs, h => by
    unfold Rps at h ⊢
    obtain ⟨v, r, x, y, z⟩ := h
    exact ⟨v, r, x, Rp.cx hK hm hZ d v y, Rps.cx hK hm hZ ds r z⟩
end
end
/-- nothing leaves -/
abbrev C.nox (c : C) : C := { c with EX := fun _ _ => False }
section
variable {c : C} {H H' : Hp} {ρ ρ' : List Addr} {G : Hd} {σ : L2.St} {τ : Tau} {Z : List Addr} {P : Nat → Prop}
theorem SR.nox (s : SR (c.zp Z P) H ρ G) : SR (c.nox.zp Z P) H ρ G :=
  ⟨s.len, s.nd, fun i a o h1 h2 => (s.obj i a o h1 h2).map (c.zp Z P) (c.nox.zp Z P) rfl rfl fun ds vs => Rps.cx (c := c.zp Z P) (c' := c.nox.zp Z P) rfl rfl rfl ds vs, s.bnd, s.pb, s.cl, s.zs⟩
theorem SR.unx (s : SR (c.nox.zp Z P) H ρ G) : SR (c.zp Z P) H ρ G :=
  ⟨s.len, s.nd, fun i a o h1 h2 => (s.obj i a o h1 h2).map (c.nox.zp Z P) (c.zp Z P) rfl rfl fun ds vs => Rps.cx (c := c.nox.zp Z P) (c' := c.zp Z P) rfl rfl rfl ds vs, s.bnd, s.pb, s.cl, s.zs⟩
theorem EnvR.nox (h : EnvR (c.zp Z P) H ρ σ τ) : EnvR (c.nox.zp Z P) H ρ σ τ := h.map fun d v => Rp.cx (c := c.zp Z P) (c' := c.nox.zp Z P) rfl rfl rfl d v
theorem Ext.nox (e : Ext (c.zp Z P) H ρ H' ρ') : Ext (c.nox.zp Z P) H ρ H' ρ' := ⟨⟨e.more, e.keep, e.tups, e.dom⟩, e.zs⟩
theorem Ext.unx (e : Ext (c.nox.zp Z P) H ρ H' ρ') : Ext (c.zp Z P) H ρ H' ρ' := ⟨⟨e.more, e.keep, e.tups, e.dom⟩, e.zs⟩
end

/-! ### targets -/
def slotsT : MT → List Nat
  | .nam i => [i]
  | .tp0 => []
  | .tpc t r => slotsT t ++ slotsT r
structure SameOff (l : List Nat) (σ σ' : L2.St) : Prop where
  len : σ'.length = σ.length
  off : ∀ j, j ∉ l → σ'[j]? = σ[j]?
theorem SameOff.trans {l m : List Nat} {a b d : L2.St} (h : SameOff l a b) (k : SameOff m b d) : SameOff (l ++ m) a d :=
  ⟨k.len.trans h.len, fun j hj => (k.off j fun z => hj (List.mem_append_right _ z)).trans (h.off j fun z => hj (List.mem_append_left _ z))⟩
/-- d, which stands as v, is bound -/
def lowG (t : MT) : TG := fun v σ H Q => ∃ c ρ d τ τ', EnvR c H ρ σ τ ∧ Rp c H ρ d v ∧ bindT t d τ = some τ' ∧ ∀ σ', EnvR c H ρ σ' τ' → SameOff (slotsT t) σ σ' → Q σ' H
def lowGs (K : PySem.W.Frag) (t : MT) : TGs := fun vs σ H Q => ∃ c ρ ds τ τ', c.K = K ∧ EnvR c H ρ σ τ ∧ Rps c H ρ ds vs ∧ bindT t (.tup ds) τ = some τ' ∧ ∀ σ', EnvR c H ρ σ' τ' → SameOff (slotsT t) σ σ' → Q σ' H
section
variable {X : Cx} {pos : Pos}
theorem _root_.L2.PG.weak {e : Expr} {t t' : TG} (h : PG X e t) (k : ∀ v σ H Q, t' v σ H Q → t v σ H Q) : PG X e t' := ⟨fun pins s σ H v u Q I r q => h.run pins s σ H v u Q I r (k v σ H Q q)⟩
theorem _root_.L2.PGs.weak {e : List Expr} {t t' : TGs} (h : PGs X e t) (k : ∀ v σ H Q, t' v σ H Q → t v σ H Q) : PGs X e t' := ⟨fun pins s σ H v u Q I r q => h.run pins s σ H v u Q I r (k v σ H Q q)⟩
theorem sg_name {i : Nat} {x : Str} (hN : X.N.Nodup) (hi : X.N[i]? = some x) (hx : Loc X.env.scope x) (hf : X.fn x = true ∨ X.env.scope.names.lookup x = some .local) : PG X (.Name x pos) (lowG (.nam i)) :=
  (pg_name hN hi hx hf).weak fun v σ H Q ⟨c, ρ, d, τ, τ', w, r, e, q⟩ => by
    cases e
    refine q _ (w.set i r) ⟨by simp, fun j hj => ?_⟩
    rw [List.getElem?_set_ne]
    intro z
    exact hj (by rw [← z]; exact List.mem_singleton.mpr rfl)
end
/-- a target of K's own (tuples are read there) -/
def lowGK (K : PySem.W.Frag) (t : MT) : TG := fun v σ H Q => ∃ c ρ d τ τ', c.K = K ∧ EnvR c H ρ σ τ ∧ Rp c H ρ d v ∧ bindT t d τ = some τ' ∧ ∀ σ', EnvR c H ρ σ' τ' → SameOff (slotsT t) σ σ' → Q σ' H
section
variable {X : Cx} {pos : Pos}
theorem sgk_name {i : Nat} {x : Str} (hN : X.N.Nodup) (hi : X.N[i]? = some x) (hx : Loc X.env.scope x) (hf : X.fn x = true ∨ X.env.scope.names.lookup x = some .local) : PG X (.Name x pos) (lowGK X.K (.nam i)) :=
  (sg_name hN hi hx hf).weak fun v σ H Q ⟨c, ρ, d, τ, τ', _, h⟩ => ⟨c, ρ, d, τ, τ', h⟩
theorem sgs_nil : PGs X [] (lowGs X.K .tp0) := pgs_nil.weak fun vs σ H Q ⟨c, ρ, ds, τ, τ', _, w, r, e, q⟩ => by
  cases ds with
  | nil =>
    cases e
    exact ⟨r.of_nil, q _ w ⟨rfl, fun _ _ => rfl⟩⟩
  | cons _ _ => cases e
theorem sgs_cons {e : Expr} {es : List Expr} {t r : MT} (h : PG X e (lowGK X.K t)) (hs : PGs X es (lowGs X.K r)) (he : (assignEach (e :: es) X.env).map (·.2) = assign e X.env :: (assignEach es X.env).map (·.2)) : PGs X (e :: es) (lowGs X.K (.tpc t r)) :=
  (pgs_cons h hs he).weak fun vs σ H Q ⟨c, ρ, ds, τ, τ', hK, w, rr, e, q⟩ => by
    cases ds with
    | nil => cases e
    | cons d ds =>
      obtain ⟨v, vr, rfl, rv, rt⟩ := rr.of_cons
      obtain ⟨τ1, e1, e2⟩ := bind_some (show (bindT t d τ).bind (fun τ' => bindT r (.tup ds) τ') = some τ' from e)
      refine ⟨v, vr, rfl, c, ρ, d, τ, τ1, hK, w, rv, e1, fun σ1 w1 o1 => ?_⟩
      exact ⟨c, ρ, ds, τ1, τ', hK, w1, rt, e2, fun σ2 w2 o2 => q σ2 w2 (o1.trans o2)⟩
def lenT : MT → Nat
  | .tpc _ r => lenT r + 1
  | _ => 0
def isTup : MT → Bool
  | .tp0 => true
  | .tpc _ r => isTup r
  | .nam _ => false
theorem bindT_len : ∀ {t : MT} {ds : List D} {τ τ' : Tau}, isTup t = true → bindT t (.tup ds) τ = some τ' → ds.length = lenT t
  | .tp0, ds, τ, τ', _, e => by
    cases ds with
    | nil => rfl
    | cons _ _ => cases e
  | .tpc t r, ds, τ, τ', h, e => by
    cases ds with
    | nil => cases e
    | cons d ds =>
      obtain ⟨τ1, e1, e2⟩ := bind_some (show (bindT t d τ).bind (fun τ' => bindT r (.tup ds) τ') = some τ' from e)
      rw [List.length_cons, bindT_len (t := r) h e2]
      rfl
  | .nam _, _, _, _, h, _ => by cases h
theorem bindT_tup {t : MT} {d : D} {τ τ' : Tau} (h : isTup t = true) (e : bindT t d τ = some τ') : ∃ ds, d = .tup ds := by
  cases t with
  | nam _ => cases h
  | tp0 => cases d <;> first | exact ⟨_, rfl⟩ | cases e
  | tpc t r => cases d <;> first | exact ⟨_, rfl⟩ | cases e
theorem sgk_tup {es : List Expr} {k : Nat} {t : MT} (hc : X.calm = true) (h : PGs X es (lowGs X.K t)) (ht : isTup t = true) (hn : (assignEach es X.env).length = lenT t) (hst : (assignEach es X.env).findIdx? (·.1) = none) : PG X (.Tuple es k pos) (lowGK X.K t) :=
  (pg_tup hc h hn hst).weak fun v σ H Q ⟨c, ρ, d, τ, τ', hK, w, r, e, q⟩ => by
    obtain ⟨ds, rfl⟩ := bindT_tup ht e
    obtain ⟨a, vs, rfl, sq, t2⟩ := r.tup_of
    exact ⟨a, vs, rfl, hK ▸ sq, by rw [t2.length]; exact bindT_len ht e, c, ρ, ds, τ, τ', hK, w, t2, e, q⟩
end
theorem wipe_off : ∀ {l : List Nat} {σ σ' : L2.St}, SameOff l σ σ' → ∀ (vs : List Nat), (∀ i ∈ l, i ∈ vs) → wipe σ' vs = wipe σ vs := by
  intro l σ σ' h vs hs
  have key : ∀ (ρ : L2.St) (vs : List Nat) (j : Nat), (wipe ρ vs)[j]? = if j ∈ vs then (if j < ρ.length then some none else none) else ρ[j]? := by
    intro ρ vs
    induction vs with
    | nil => intro j; simp [wipe]
    | cons v vs ih =>
      intro j
      unfold wipe
      have hl : (wipe ρ vs).length = ρ.length := wipe_length ρ vs
      by_cases e : j = v
      · subst e
        by_cases hj : j < ρ.length
        · rw [List.getElem?_set_self (by omega), if_pos List.mem_cons_self, if_pos hj]
        · rw [List.getElem?_eq_none (by simp; omega), if_pos List.mem_cons_self, if_neg hj]
      · rw [List.getElem?_set_ne (Ne.symm e), ih j]
        by_cases hj : j ∈ vs
        · rw [if_pos hj, if_pos (List.mem_cons_of_mem _ hj)]
        · rw [if_neg hj, if_neg (by simp [e, hj])]
  apply List.ext_getElem?
  intro j
  rw [key, key, h.len]
  by_cases hj : j ∈ vs
  · rw [if_pos hj, if_pos hj]
  · rw [if_neg hj, if_neg hj]
    exact h.off j fun z => hj (hs j z)
theorem wipe_wipe (σ : L2.St) (vs : List Nat) : wipe (wipe σ vs) vs = wipe σ vs := by
  have h : SameOff vs σ (wipe σ vs) := ⟨wipe_length σ vs, fun j hj => wipe_out hj⟩
  exact wipe_off h vs fun i hi => hi
end U

set_option Elab.async false
set_option linter.all false
set_option maxRecDepth 100000
/-! UJ: enumerate of a tuple. -/
namespace PySem
set_option maxHeartbeats 1000000 in
/-- enumerate(v) of anything that begins: the rule of enumerate's own start at nought -/
theorem u_enum_new {v : Value} {o : Obj} {H : Heap → Prop} (B : Begins v o H) :
    Meets (Builtin.«enumerate.__new__» ⟨[.type "enumerate", v], []⟩) (fun _ R s => H s.heap ∧
      R (.ok (.ret (.ref (s.heap.push o).objs.size))) { s with heap := (s.heap.push o).push { cls := .type "enumerate", data := .fields #[.none, .bool false, .ref s.heap.objs.size, rawInt 0, .none, .none] } }) :=
  .of_wp fun prog w A R s h => by
    obtain ⟨hp, g, d, tk, os⟩ := s; obtain ⟨h1, h⟩ := h
    have hsub := sub_enumerate
    have q1 : ∀ {A' : Around} {E : Value → Shared → Prop} {Q : Value → Shared → Prop}, Q (.ref hp.objs.size) ⟨hp.push o, g, d, tk, os⟩ → wpAny (model prog w) A' (pyIter v) Q E ⟨hp, g, d, tk, os⟩ :=
      fun q => B.iter prog w _ _ ⟨hp, g, d, tk, os⟩ _ h1 q
    wp_walk using q1
    refine wpAny_stack_any fun st => wpAny_pure ?_
    split
    · rename_i c _ _ _ _ _
      cases (c == Value.type "enumerate")
      · wp_walk using q1
        exact ⟨_, rfl, h⟩
      · wp_walk using q1
        exact ⟨_, rfl, h⟩
    · wp_walk using q1
      exact ⟨_, rfl, h⟩
theorem u_enum_call {prog : Program} {w : World} {A : Around} {E : Value → Shared → Prop} {s : Shared} {v : Value} {o : Obj} {H : Heap → Prop} {Q : Value → Shared → Prop} (B : Begins v o H) (h1 : H s.heap)
    (h : ∀ h', IsEnum h' (s.heap.objs.size + 1) s.heap.objs.size 0 .none → h'.get? s.heap.objs.size = some o → h'.objs.size = s.heap.objs.size + 2 →
      (∀ b o, s.heap.get? b = some o → h'.get? b = some o) → Q (.ref (s.heap.objs.size + 1)) { s with heap := h' }) :
    wpAny (model prog w) A (call (.type "enumerate") [v]) Q E s := by
  refine callType_new F.called_enumerate (by decide) (F.typeCall_enumerate_1 _) (F.newCall_enumerate_1 _) (fun obj => F.args_object_init_2 obj _) F.entry_enumerate_new
    (u_enum_new B) ⟨h1, ?_⟩
  have hz : (s.heap.push o).objs.size = s.heap.objs.size + 1 := Heap.size_push ..
  show _ ∧ _
  rw [hz]
  have he : IsEnum ((s.heap.push o).push { cls := .type "enumerate", data := .fields #[.none, .bool false, .ref s.heap.objs.size, rawInt 0, .none, .none] }) (s.heap.objs.size + 1) s.heap.objs.size 0 .none := by
    have := Heap.get?_push_size (s.heap.push o) (o := { cls := .type "enumerate", data := .fields #[.none, .bool false, .ref s.heap.objs.size, rawInt 0, .none, .none] }) rfl
    rw [hz] at this; exact this
  refine ⟨⟨_, he, rfl⟩, h _ he (Heap.get?_push_of_some _ (Heap.get?_push_size _ B.free)) (by rw [Heap.size_push, hz]) fun b o x => Heap.get?_push_of_some _ (Heap.get?_push_of_some _ x)⟩
end PySem
namespace U
open PySem L2 PyProof.Rows
/-- the tuple at a, each item in a new pair with its place -/
def Itet (K : PySem.W.Frag) (a : Addr) : It :=
  ⟨fun i H => ∃ (xs : List V) (x : V), SqT K H a xs ∧ xs[i]? = some x, fun i H v H' => ∃ T x, v = .ref T ∧ H T = none ∧ H' = upd H T (.tup [.int (i : Nat), x]) ∧ ∀ xs, SqT K H a xs → xs[i]? = some x, fun i H => ∃ xs : List V, SqT K H a xs ∧ xs.length = i⟩
theorem turn_enumT {P : Program} {w : World} {K : PySem.W.Frag} {elts : List Expr} {kk : Nat} {tpos : Pos} (a e it : Addr) :
    Turn P w K (.Tuple elts kk tpos) (Itet K a) [e, it] e (fun i h => (∃ old, IsEnum h e it ((i : Nat) : Int) old) ∧ h.IsTupleIter it a i ∧ e ≠ it ∧ a ≠ it ∧ e ≠ a) where
  mem := by simp
  obj := fun i h st b hb => by
    obtain ⟨⟨old, he⟩, ⟨o, ho, hc, hd⟩, _⟩ := st
    have e' : b = e ∨ b = it := by simpa using hb
    rcases e' with z | z
    · rw [z]; exact ⟨_, he, fun v q => nomatch q⟩
    · rw [z]; exact ⟨o, ho, fun v q => by rw [hd] at q; cases q⟩
  keep := fun i h h' st k => let ⟨⟨old, he⟩, hi, hne⟩ := st; ⟨⟨old, k e (by simp) _ he⟩, hi.at fun o q => k it (by simp) o q, hne⟩
  item := by
    intro X hP hw hK hc i pins s σ H E I hf st hg
    subst hP hw hK
    obtain ⟨⟨old, he⟩, hit, hne, hai, hea⟩ := st
    obtain ⟨xs, x, hq, hx⟩ := hg
    obtain ⟨its, rv, p, hz⟩ := I.tuple hq
    obtain ⟨u, hu, ru⟩ := rv.get hx
    have hel : e < s.heap.objs.size := Heap.lt_size he
    have hil : it < s.heap.objs.size := by obtain ⟨_, q, _⟩ := hit; exact Heap.lt_size q
    have lt : i < its.toArray.size := by
      have := (List.getElem?_eq_some_iff.mp hu).1
      simpa using this
    refine wpAny_pyNext_enum_itemD (Draws.tuple (prog := X.prog) (w := X.w) (A := X.A.in1) (by exact I.ok.hd hc) it a hai its.toArray) he ⟨hit, p⟩ lt hne (by simp [hne, hea]) fun y h' tk hy ho hit' hT hsz hk => ?_
    have ey : y = u := by
      have : its.toArray[i]? = some u := by simpa using hu
      rw [this] at hy
      exact (Option.some.inj hy).symm
    subst ey
    refine ⟨_, rfl, wpAny_letOwnedTupleGo_enum (s := { s with heap := h', toks := tk + 1 }) ho fun h'' he' sb => ?_⟩
    have hT2 : h''.get? s.heap.objs.size = some { cls := .type "tuple", data := .seq #[.int i tk, y] } := (sb.2 _ (Nat.ne_of_gt hel)).trans hT
    have new : ObjOk X.prog X.w (upd H s.heap.objs.size (.tup [.int (i : Nat), x])) h'' s.heap.objs.size (.tup [.int (i : Nat), x]) :=
      ⟨by show 2 ≤ sizeLine; decide, [.int i tk, y], .cons ⟨_, rfl⟩ (.cons ru .nil), ⟨_, hT2, rfl, _, rfl⟩⟩
    have I1 : Inv X pins σ (upd H s.heap.objs.size (.tup [.int (i : Nat), x])) { s with heap := h'', toks := tk + 1 } :=
      I.turnedNew (ch := [e, it]) (fun b ob hb q => (sb.2 b (fun z => hb (by simp [z]))).trans (hk b ob (fun z => hb (by simp [z])) (fun z => hb (by simp [z])) q)) hf (Nat.le_refl _) new
    refine ⟨.ref s.heap.objs.size, _, I1, rfl, ⟨_, x, rfl, I.hok.fresh (Nat.le_refl _), rfl, fun ys hy => by rw [I.tuple_inj hy hq]; exact hx⟩, ⟨⟨y, ?_⟩, hit'.1.at fun o q => (sb.2 it (Ne.symm hne)).trans q, hne, hai, hea⟩, fun b hb => ?_⟩
    · have e1 : ((i + 1 : Nat) : Int) = (i : Int) + 1 := by omega
      rw [e1]; exact he'
    · have hb' : b < s.heap.objs.size := by
        have e' : b = e ∨ b = it := by simpa using hb
        rcases e' with z | z
        · rw [z]; exact hel
        · rw [z]; exact hil
      rw [upd_ne (Nat.ne_of_lt hb')]
      exact (hf b hb).1
  done := by
    intro X hP hw hK hc i pins s σ H E I hf st hg
    subst hP hw hK
    obtain ⟨⟨old, he⟩, hit, hne, hai, hea⟩ := st
    obtain ⟨xs, hq, hx⟩ := hg
    obtain ⟨its, rv, p, hz⟩ := I.tuple hq
    obtain ⟨f0, f1, f2, f3, f4, f5⟩ := hf it (by simp)
    have hl : its.toArray.size = i := by rw [← hx, rv.length]; simp
    have hit' : s.heap.IsTupleIter it a its.toArray.size := by rw [hl]; exact hit
    exact wpAny_pyNext_enum_endD (Draws.tuple (prog := X.prog) (w := X.w) (A := X.A.in1) (by exact I.ok.hd hc) it a hai its.toArray) he ⟨hit', p⟩ fun h' eb => ⟨rfl, I.turned (t' := s.toks) (fun b o hb q => eb b o hb q) f0 f1 f3 f4 f5⟩
  self := fun A i s Q E st h => let ⟨⟨_, he⟩, _⟩ := st; wpAny_pyIter_enum he h
def iEnumT (K : PySem.W.Frag) (ta : TA) : TI := fun σ H R => ta σ H fun vs H1 => ∃ a xs, vs = [.ref a] ∧ SqT K H1 a xs ∧ R (Itet K a) H1
theorem pi_enumT {X : Cx} {e : Expr} {ta : TA} {p pos tpos : Pos} {elts : List Expr} {kk : Nat} (hg : Gl X "enumerate") (hm : X.mg "enumerate" = none) (ha : PA X [e] ta) (hs : starEach [e] X.env = [(false, eval e X.env)]) :
    PI X (.Tuple elts kk tpos) (.Call (.Name "enumerate" p) [e] [] pos) (iEnumT X.K ta) := by
  refine ⟨fun pins s σ H R I h => ?_⟩
  refine Call_ (ld_blt I hg hm boot_enumerate (PyProof.Rows.callWith_type1 (thn (ha.run pos pins s σ H _ I h) fun us s1 ⟨vs, H1, I1, r1, q1⟩ => ?_) hs rfl))
  obtain ⟨a, xs, ex, hq, q⟩ := q1
  subst ex
  cases r1 with
  | cons r rr =>
    cases rr
    cases r
    obtain ⟨its, rv, p', hz⟩ := I1.tuple hq
    have pa : s1.heap.IsTuple a its.toArray := p'
    have hal : a < s1.heap.objs.size := p'.lt
    refine u_enum_call (begins_tuple a its.toArray) pa fun h' he hit hsz hk => wpAny_pyIter_enum he ?_
    have I2 : Inv X pins σ H1 { s1 with heap := h' } := I1.kept (t' := s1.toks) hk
    refine ⟨s1.heap.objs.size + 1, [s1.heap.objs.size + 1, s1.heap.objs.size], _, _, H1, rfl, I2, turn_enumT a (s1.heap.objs.size + 1) s1.heap.objs.size, ⟨⟨.none, he⟩, ⟨_, hit, rfl, rfl⟩, Nat.succ_ne_self _, Nat.ne_of_lt hal, Nat.ne_of_gt (Nat.lt_succ_of_lt hal)⟩, fun b hb => ?_, q⟩
    have e' : b = s1.heap.objs.size + 1 ∨ b = s1.heap.objs.size := by simpa using hb
    have hle : s1.heap.objs.size ≤ b := by
      rcases e' with z | z
      · rw [z]; exact Nat.le_add_right _ _
      · rw [z]; exact Nat.le_refl _
    exact I1.fpOk hle (I1.hok.fresh hle)

/-! ### what is walked, by plain data -/
/-- the walk J goes over the items ds while the sources S stand -/
def JR (K : PySem.W.Frag) (S : List (D × V)) (ds : List D) (J : It) : Prop := ∀ (c : C) (H : Hp) (ρ : List Addr), c.K = K → (∀ p ∈ S, Rp c H ρ p.1 p.2) →
  (∀ i d, ds[i]? = some d → J.go i H ∧ ∀ x H', J.yld i H x H' → (H' = H ∧ Rp c H ρ d x) ∨ ∃ T vs es, x = .ref T ∧ H T = none ∧ H' = upd H T (.tup vs) ∧ d = .tup es ∧ Rps c H ρ es vs) ∧ J.stop ds.length H
def RJ (c : C) : Hp → List Addr → DI → It → Prop := fun H ρ di J => match di with
  | .items ds => ∃ S, (∀ p ∈ S, Rp c H ρ p.1 p.2) ∧ JR c.K S ds J
  | .dyn i => ∃ a, ρ[i]? = some a ∧ J = Itl c.K a
def lowI (c : C) (f : Tau → Hd → Out DI) : TI := fun σ H R => ∃ Z P ρ G τ, SR (c.zp Z P) H ρ G ∧ EnvR (c.zp Z P) H ρ σ τ ∧ Fin (c.zp Z P) (RJ (c.zp Z P)) (f τ G) H ρ R
theorem _root_.L2.PI.weak {X : Cx} {tg e : Expr} {t t' : TI} (h : PI X tg e t) (k : ∀ σ H R, t' σ H R → t σ H R) : PI X tg e t' := ⟨fun pins s σ H R I q => h.run pins s σ H R I (k σ H R q)⟩
theorem _root_.L2.PI.or {X : Cx} {tg e : Expr} {t t' : TI} (h : PI X tg e t) (h' : PI X tg e t') : PI X tg e (fun σ H R => t σ H R ∨ t' σ H R) := ⟨fun pins s σ H R I q => q.elim (h.run pins s σ H R I) (h'.run pins s σ H R I)⟩

theorem jr_list {K : PySem.W.Frag} {ds : List D} {a : Addr} : JR K [(.lst ds, .ref a)] ds (Itl K a) := by
  intro c H ρ hK hS
  obtain ⟨a', vs, e, q, _, t⟩ := (hS _ List.mem_cons_self).lst_of
  cases e
  have sq : SqL K H a vs := .inl q
  refine ⟨fun i d hd => ?_, ⟨vs, sq, by rw [t.length]; exact Nat.le_refl _⟩⟩
  obtain ⟨v, hv, rv⟩ := t.get hd
  refine ⟨⟨vs, v, sq, hv⟩, fun x H' ⟨e, hx⟩ => .inl ⟨e, ?_⟩⟩
  have := hx vs sq
  rw [hv] at this
  cases this
  exact rv
theorem jr_tup {K : PySem.W.Frag} {ds : List D} {a : Addr} : JR K [(.tup ds, .ref a)] ds (Itt K a) := by
  intro c H ρ hK hS
  obtain ⟨a', vs, e, sq, t⟩ := (hS _ List.mem_cons_self).tup_of
  cases e
  rw [hK] at sq
  refine ⟨fun i d hd => ?_, ⟨vs, sq, by rw [t.length]; exact Nat.le_refl _⟩⟩
  obtain ⟨v, hv, rv⟩ := t.get hd
  refine ⟨⟨vs, v, sq, hv⟩, fun x H' ⟨e, hx⟩ => .inl ⟨e, ?_⟩⟩
  have := hx vs sq
  rw [hv] at this
  cases this
  exact rv
theorem jr_str {K : PySem.W.Frag} {z : Str} : JR K [] (z.cps.toList.map fun c => D.str ⟨#[c]⟩) (Its z) := by
  intro c H ρ hK hS
  refine ⟨fun i d hd => ?_, by show z.cps.size ≤ _; simp⟩
  rw [List.getElem?_map] at hd
  obtain ⟨k, hk, rfl⟩ := map_some hd
  have hk' : z.cps[i]? = some k := by simpa using hk
  refine ⟨(Array.getElem?_eq_some_iff.mp hk').1, fun x H' ⟨e, n, hn, ex⟩ => .inl ⟨e, ?_⟩⟩
  rw [hk'] at hn
  cases hn
  exact ex
theorem jr_range {K : PySem.W.Frag} {lo : Int} {n : Nat} : JR K [] ((List.range n).map fun (k : Nat) => D.int (lo + k)) (Itr lo n) := by
  intro c H ρ hK hS
  refine ⟨fun i d hd => ?_, by show n ≤ _; simp⟩
  rw [List.getElem?_map] at hd
  obtain ⟨k, hk, rfl⟩ := map_some hd
  have hi : i < n := by
    have := (List.getElem?_eq_some_iff.mp hk).1
    simpa using this
  have ek : k = i := by
    rw [List.getElem?_range hi] at hk
    exact (Option.some.inj hk).symm
  subst ek
  exact ⟨hi, fun x H' ⟨e, ex⟩ => .inl ⟨e, ex⟩⟩
theorem enum_get : ∀ (ds : List D) (n i : Nat), (enumFrom n ds)[i]? = ds[i]?.map fun d => D.tup [.int ((n + i : Nat) : Int), d]
  | [], n, i => by simp [enumFrom]
  | d :: ds, n, 0 => by simp [enumFrom]
  | d :: ds, n, i + 1 => by
    simp only [enumFrom, List.getElem?_cons_succ]
    rw [enum_get ds (n + 1) i]
    congr 1
    funext e
    have : n + 1 + i = n + (i + 1) := by omega
    rw [this]
theorem enum_len : ∀ (ds : List D) (n : Nat), (enumFrom n ds).length = ds.length
  | [], n => rfl
  | d :: ds, n => by simp [enumFrom, enum_len ds (n + 1)]
theorem jr_enumL {K : PySem.W.Frag} {ds : List D} {a : Addr} : JR K [(.lst ds, .ref a)] (enumFrom 0 ds) (Ite K a) := by
  intro c H ρ hK hS
  obtain ⟨a', vs, e, q, _, t⟩ := (hS _ List.mem_cons_self).lst_of
  cases e
  have sq : SqL K H a vs := .inl q
  refine ⟨fun i d hd => ?_, ⟨vs, sq, by rw [t.length, enum_len]; exact Nat.le_refl _⟩⟩
  rw [enum_get] at hd
  obtain ⟨d0, h0, rfl⟩ := map_some hd
  obtain ⟨v, hv, rv⟩ := t.get h0
  refine ⟨⟨vs, v, sq, hv⟩, fun x H' ⟨T, y, e1, e2, e3, hx⟩ => .inr ⟨T, [.int i, y], _, e1, e2, e3, rfl, ?_⟩⟩
  have := hx vs sq
  rw [hv] at this
  cases this
  rw [Nat.zero_add]
  exact .cons rfl (.cons rv .nil)
theorem jr_enumT {K : PySem.W.Frag} {ds : List D} {a : Addr} : JR K [(.tup ds, .ref a)] (enumFrom 0 ds) (Itet K a) := by
  intro c H ρ hK hS
  obtain ⟨a', vs, e, sq, t⟩ := (hS _ List.mem_cons_self).tup_of
  cases e
  rw [hK] at sq
  refine ⟨fun i d hd => ?_, ⟨vs, sq, by rw [t.length, enum_len]⟩⟩
  rw [enum_get] at hd
  obtain ⟨d0, h0, rfl⟩ := map_some hd
  obtain ⟨v, hv, rv⟩ := t.get h0
  refine ⟨⟨vs, v, sq, hv⟩, fun x H' ⟨T, y, e1, e2, e3, hx⟩ => .inr ⟨T, [.int i, y], _, e1, e2, e3, rfl, ?_⟩⟩
  have := hx vs sq
  rw [hv] at this
  cases this
  rw [Nat.zero_add]
  exact .cons rfl (.cons rv .nil)
theorem zip_get : ∀ (ds es : List D) (i : Nat) (d : D), (zipD ds es)[i]? = some d → ∃ a b, ds[i]? = some a ∧ es[i]? = some b ∧ d = .tup [a, b]
  | [], es, i, d, h => by simp [zipD] at h
  | _ :: _, [], i, d, h => by simp [zipD] at h
  | a :: ds, b :: es, 0, d, h => by
    simp [zipD] at h
    exact ⟨a, b, rfl, rfl, h.symm⟩
  | a :: ds, b :: es, i + 1, d, h => by
    simp only [zipD, List.getElem?_cons_succ] at h ⊢
    exact zip_get ds es i d h
theorem zip_len : ∀ (ds es : List D), (zipD ds es).length = min ds.length es.length
  | [], es => by simp [zipD]
  | _ :: _, [] => by simp [zipD]
  | a :: ds, b :: es => by simp only [zipD, List.length_cons, zip_len ds es]; omega
theorem jr_zipL {K : PySem.W.Frag} {ds es : List D} {a b : Addr} : JR K [(.lst ds, .ref a), (.lst es, .ref b)] (zipD ds es) (Itz K a b) := by
  intro c H ρ hK hS
  obtain ⟨a', vs, e, q, _, t⟩ := (hS _ List.mem_cons_self).lst_of
  cases e
  obtain ⟨b', us, e, q2, _, t2⟩ := (hS _ (List.mem_cons_of_mem _ List.mem_cons_self)).lst_of
  cases e
  have sq : SqL K H a vs := .inl q
  have sq2 : SqL K H b us := .inl q2
  refine ⟨fun i d hd => ?_, ⟨vs, us, sq, sq2, by rw [t.length, t2.length, zip_len]; omega⟩⟩
  obtain ⟨d0, d1, h0, h1, rfl⟩ := zip_get ds es i d hd
  obtain ⟨v, hv, rv⟩ := t.get h0
  obtain ⟨u, hu, ru⟩ := t2.get h1
  refine ⟨⟨vs, us, v, u, sq, sq2, hv, hu⟩, fun x H' ⟨T, y, z, e1, e2, e3, hx, hy⟩ => .inr ⟨T, [y, z], _, e1, e2, e3, rfl, ?_⟩⟩
  have h3 := hx vs sq
  rw [hv] at h3
  cases h3
  have h4 := hy us sq2
  rw [hu] at h4
  cases h4
  exact .cons rv (.cons ru .nil)
theorem jr_zipT {K : PySem.W.Frag} {ds es : List D} {a b : Addr} : JR K [(.tup ds, .ref a), (.tup es, .ref b)] (zipD ds es) (RZ.ItzT K a b) := by
  intro c H ρ hK hS
  obtain ⟨a', vs, e, sq, t⟩ := (hS _ List.mem_cons_self).tup_of
  cases e
  obtain ⟨b', us, e, sq2, t2⟩ := (hS _ (List.mem_cons_of_mem _ List.mem_cons_self)).tup_of
  cases e
  rw [hK] at sq sq2
  refine ⟨fun i d hd => ?_, ⟨vs, us, sq, sq2, by rw [t.length, t2.length, zip_len]; omega⟩⟩
  obtain ⟨d0, d1, h0, h1, rfl⟩ := zip_get ds es i d hd
  obtain ⟨v, hv, rv⟩ := t.get h0
  obtain ⟨u, hu, ru⟩ := t2.get h1
  refine ⟨⟨vs, us, v, u, sq, sq2, hv, hu⟩, fun x H' ⟨T, y, z, e1, e2, e3, hx, hy⟩ => .inr ⟨T, [y, z], _, e1, e2, e3, rfl, ?_⟩⟩
  have h3 := hx vs sq
  rw [hv] at h3
  cases h3
  have h4 := hy us sq2
  rw [hu] at h4
  cases h4
  exact .cons rv (.cons ru .nil)
end U

set_option Elab.async false
set_option linter.all false
set_option maxRecDepth 100000
/-! UK: walks, loops, comprehensions upon plain data. -/
namespace U
open PySem L2 PyProof.Rows
section
variable {Φ : Fn} {fns : Str → Option (List Str)} {cons : Str → Option D} {X : Cx} {c : C} {pos : Pos} {tg : Expr}

theorem si_val (ok : XOk Φ fns cons X c) {e : Expr} {m : ME} (h : PE X e (low c (evE Φ c.b m))) : PI X tg e (lowI c (evI Φ c.b (.val m))) := by
  refine (((pi_list h).or (pi_tup h)).or (pi_str h)).weak fun σ H R ⟨Z, P, ρ, G, τ, s, w, f⟩ => ?_
  rw [evI] at f
  have hK : (c.zp Z P).K = X.K := ok.K
  cases g : evE Φ c.b m τ G with
  | ok d G1 =>
    rw [g] at f
    simp only [Out.then_ok] at f
    obtain ⟨J, eJ, f⟩ := f.lift
    have base : ∀ {t : VK}, (∀ x H1 ρ1, Ext (c.zp Z P) H ρ H1 ρ1 → SR (c.zp Z P) H1 ρ1 G1 → Rp (c.zp Z P) H1 ρ1 d x → t x H1) → low c (evE Φ c.b m) σ H t := fun ht => ⟨Z, P, ρ, G, τ, s, w, by rw [g]; exact ht⟩
    cases d with
    | lst ds =>
      cases eJ
      refine .inl (.inl (base fun x H1 ρ1 e1 s1 r1 => ?_))
      obtain ⟨a, vs, rfl, q, _, t⟩ := r1.lst_of
      refine ⟨a, rfl, ⟨vs, .inl q⟩, f (Itl X.K a) H1 ρ1 e1 s1 ⟨[(.lst ds, .ref a)], fun p hp => ?_, by rw [hK]; exact jr_list⟩⟩
      rw [List.mem_singleton.mp hp]
      exact r1
    | tup ds =>
      cases eJ
      refine .inl (.inr (base fun x H1 ρ1 e1 s1 r1 => ?_))
      obtain ⟨a, vs, rfl, q, t⟩ := r1.tup_of
      refine ⟨a, rfl, ⟨vs, hK ▸ q⟩, f (Itt X.K a) H1 ρ1 e1 s1 ⟨[(.tup ds, .ref a)], fun p hp => ?_, by rw [hK]; exact jr_tup⟩⟩
      rw [List.mem_singleton.mp hp]
      exact r1
    | str z =>
      cases eJ
      refine .inr (base fun x H1 ρ1 e1 s1 r1 => ?_)
      exact ⟨z, r1, f (Its z) H1 ρ1 e1 s1 ⟨[], fun p hp => (nomatch hp), jr_str⟩⟩
    | ref i =>
      cases g2 : G1[i]? with
      | none => simp only [iterD, g2] at eJ; cases eJ
      | some ob =>
        cases ob with
        | lst ds =>
          simp only [iterD, g2] at eJ
          cases eJ
          refine .inl (.inl (base fun x H1 ρ1 e1 s1 r1 => ?_))
          obtain ⟨a, ha, rfl⟩ := r1.ref_of
          obtain ⟨vs, q, t⟩ := s1.obj i a _ ha g2
          exact ⟨a, rfl, ⟨vs, .inl (.inl q)⟩, f (Itl X.K a) H1 ρ1 e1 s1 ⟨a, ha, by rw [hK]⟩⟩
        | dct _ _ => simp only [iterD, g2] at eJ; cases eJ
        | ins _ _ _ => simp only [iterD, g2] at eJ; cases eJ
    | _ => cases eJ
  | exc _ _ => rw [g] at f; exact .inl (.inl ⟨Z, P, ρ, G, τ, s, w, by rw [g]; exact f⟩)
  | bad => rw [g] at f; exact .inl (.inl ⟨Z, P, ρ, G, τ, s, w, by rw [g]; exact f⟩)
theorem args1 {a : Expr} {m : ME} (ha : PE X a (low c (evE Φ c.b m))) (hp : plainE a = true) : PA X [a] (lowA c (evEs Φ c.b (.cons m .nil))) := sa_cons ha sa_nil (star_one hp)
theorem args2 {a b : Expr} {m n : ME} (ha : PE X a (low c (evE Φ c.b m))) (hb : PE X b (low c (evE Φ c.b n))) (hp : plainE a = true) (hq : plainE b = true) : PA X [a, b] (lowA c (evEs Φ c.b (.cons m (.cons n .nil)))) := sa_cons ha (args1 hb hq) (star_one hp)
theorem fin1 {m : ME} {α : Type} {β : Type} {R : Hp → List Addr → α → β → Prop} {c : C} {k : D → Hd → Out α} {τ : Tau} {G : Hd} {H : Hp} {ρ : List Addr} {Q : β → Hp → Prop} {b : Nat} (f : Fin c R ((evE Φ b m τ G).then k) H ρ Q) :
    Fin c (Rps c) (evEs Φ b (.cons m .nil) τ G) H ρ fun vs H1 => ∃ ρ1 G1 d v, vs = [v] ∧ Ext c H ρ H1 ρ1 ∧ SR c H1 ρ1 G1 ∧ Rp c H1 ρ1 d v ∧ Fin c R (k d G1) H1 ρ1 Q := by
  have e : evEs Φ b (.cons m .nil) τ G = (evE Φ b m τ G).then fun d G => .ok [d] G := by simp only [evEs, Out.then_ok]
  rw [e]
  cases g : evE Φ b m τ G with
  | ok d G1 =>
    rw [g] at f
    intro vs H1 ρ1 e1 s1 r1
    obtain ⟨v, r, rfl, rv, t⟩ := r1.of_cons
    obtain rfl := t.of_nil
    exact ⟨ρ1, G1, d, v, rfl, e1, s1, rv, Fin.ext f e1⟩
  | exc _ _ => rw [g] at f; exact f
  | bad => rw [g] at f; exact f
theorem fin2 {m n : ME} {α : Type} {β : Type} {R : Hp → List Addr → α → β → Prop} {c : C} {k : D → D → Hd → Out α} {τ : Tau} {G : Hd} {H : Hp} {ρ : List Addr} {Q : β → Hp → Prop} {b : Nat} (f : Fin c R ((evE Φ b m τ G).then fun x G => (evE Φ b n τ G).then fun y G => k x y G) H ρ Q) :
    Fin c (Rps c) (evEs Φ b (.cons m (.cons n .nil)) τ G) H ρ fun vs H1 => ∃ ρ1 G1 d v d2 v2, vs = [v, v2] ∧ Ext c H ρ H1 ρ1 ∧ SR c H1 ρ1 G1 ∧ Rp c H1 ρ1 d v ∧ Rp c H1 ρ1 d2 v2 ∧ Fin c R (k d d2 G1) H1 ρ1 Q := by
  have e : evEs Φ b (.cons m (.cons n .nil)) τ G = (evE Φ b m τ G).then fun d G => (evE Φ b n τ G).then fun d2 G => .ok [d, d2] G := by
    simp only [evEs, Out.then_ok, then_assoc]
  rw [e]
  cases g : evE Φ b m τ G with
  | ok d G1 =>
    rw [g] at f
    simp only [Out.then_ok] at f ⊢
    cases g2 : evE Φ b n τ G1 with
    | ok d2 G2 =>
      rw [g2] at f
      intro vs H1 ρ1 e1 s1 r1
      obtain ⟨v, r, rfl, rv, t⟩ := r1.of_cons
      obtain ⟨v2, r2, rfl, rv2, t2⟩ := t.of_cons
      obtain rfl := t2.of_nil
      exact ⟨ρ1, G2, d, v, d2, v2, rfl, e1, s1, rv, rv2, Fin.ext f e1⟩
    | exc _ _ => rw [g2] at f; exact f
    | bad => rw [g2] at f; exact f
  | exc _ _ => rw [g] at f; exact f
  | bad => rw [g] at f; exact f
theorem si_rng1 (ok : XOk Φ fns cons X c) {a : Expr} {m : ME} {p : Pos} (hg : Gl X "range") (ha : PE X a (low c (evE Φ c.b m))) (hp : plainE a = true) : PI X tg (.Call (.Name "range" p) [a] [] pos) (lowI c (evI Φ c.b (.rng1 m))) := by
  refine (pi_range1 hg (ok.blt _ (by decide +kernel)) (args1 ha hp) (star_one hp)).weak fun σ H R ⟨Z, P, ρ, G, τ, s, w, f⟩ => ?_
  rw [evI] at f
  refine ⟨Z, P, ρ, G, τ, s, w, (fin1 f).mono fun vs H1 ⟨ρ1, G1, d, v, ev, e1, s1, r1, f1⟩ => ?_⟩
  obtain ⟨di, eJ, f1⟩ := f1.lift
  obtain ⟨J, eJ1, rfl⟩ := map_some eJ
  obtain ⟨n, en, eJ2⟩ := bind_some eJ1
  obtain ⟨hb, rfl⟩ := ite_some eJ2
  refine ⟨n, by rw [ev, int_of en r1], hb.2.2.1, hb.2.2.2, f1 _ H1 ρ1 Ext.refl s1 ⟨[], fun p hp => (nomatch hp), ?_⟩⟩
  rw [Int.sub_zero]
  exact jr_range
theorem si_rng2 (ok : XOk Φ fns cons X c) {a b : Expr} {m n : ME} {p : Pos} (hg : Gl X "range") (ha : PE X a (low c (evE Φ c.b m))) (hb : PE X b (low c (evE Φ c.b n))) (hp : plainE a = true) (hq : plainE b = true) : PI X tg (.Call (.Name "range" p) [a, b] [] pos) (lowI c (evI Φ c.b (.rng2 m n))) := by
  refine (pi_range2 hg (ok.blt _ (by decide +kernel)) (args2 ha hb hp hq) (by rw [star_one hp, star_one hq]; rfl) (star_one hq)).weak fun σ H R ⟨Z, P, ρ, G, τ, s, w, f⟩ => ?_
  rw [evI] at f
  refine ⟨Z, P, ρ, G, τ, s, w, (fin2 f).mono fun vs H1 ⟨ρ1, G1, d, v, d2, v2, ev, e1, s1, r1, r2, f1⟩ => ?_⟩
  obtain ⟨di, eJ, f1⟩ := f1.lift
  obtain ⟨J, eJ1, rfl⟩ := map_some eJ
  obtain ⟨i, ei, eJ2⟩ := bind_some eJ1
  obtain ⟨j, ej, eJ3⟩ := bind_some eJ2
  obtain ⟨hb, rfl⟩ := ite_some eJ3
  exact ⟨i, j, by rw [ev, int_of ei r1, int_of ej r2], hb, f1 _ H1 ρ1 Ext.refl s1 ⟨[], fun p hp => (nomatch hp), jr_range⟩⟩
theorem si_enum (ok : XOk Φ fns cons X c) {a : Expr} {m : ME} {p tpos : Pos} {elts : List Expr} {kk : Nat} (hg : Gl X "enumerate") (ha : PE X a (low c (evE Φ c.b m))) (hp : plainE a = true) : PI X (.Tuple elts kk tpos) (.Call (.Name "enumerate" p) [a] [] pos) (lowI c (evI Φ c.b (.enum m))) := by
  have hm : X.mg "enumerate" = none := ok.blt _ (by decide +kernel)
  refine ((pi_enum hg hm (args1 ha hp) (star_one hp)).or (pi_enumT hg hm (args1 ha hp) (star_one hp))).weak fun σ H R ⟨Z, P, ρ, G, τ, s, w, f⟩ => ?_
  rw [evI] at f
  have hK : (c.zp Z P).K = X.K := ok.K
  have go := fin1 f
  have ev : evEs Φ c.b (.cons m .nil) τ G = (evE Φ c.b m τ G).then fun d G => .ok [d] G := by simp only [evEs, Out.then_ok]
  cases g : evE Φ c.b m τ G with
  | ok d G1 =>
    rw [g] at f
    simp only [Out.then_ok] at f
    obtain ⟨di, eJ, f⟩ := f.lift
    obtain ⟨ds, e2, rfl⟩ := map_some eJ
    cases d with
    | lst xs =>
      cases e2
      refine .inl ⟨Z, P, ρ, G, τ, s, w, ?_⟩
      rw [ev, g]
      intro vs H1 ρ1 e1 s1 r1
      obtain ⟨v, r, rfl, rv, t⟩ := r1.of_cons
      obtain rfl := t.of_nil
      obtain ⟨q, us, rfl, sq, _, t⟩ := rv.lst_of
      refine ⟨q, us, rfl, .inl sq, f _ H1 ρ1 e1 s1 ⟨[(.lst ds, .ref q)], fun p hp => ?_, by rw [hK]; exact jr_enumL⟩⟩
      rw [List.mem_singleton.mp hp]
      exact rv
    | tup xs =>
      cases e2
      refine .inr ⟨Z, P, ρ, G, τ, s, w, ?_⟩
      rw [ev, g]
      intro vs H1 ρ1 e1 s1 r1
      obtain ⟨v, r, rfl, rv, t⟩ := r1.of_cons
      obtain rfl := t.of_nil
      obtain ⟨q, us, rfl, sq, t⟩ := rv.tup_of
      refine ⟨q, us, rfl, hK ▸ sq, f _ H1 ρ1 e1 s1 ⟨[(.tup ds, .ref q)], fun p hp => ?_, by rw [hK]; exact jr_enumT⟩⟩
      rw [List.mem_singleton.mp hp]
      exact rv
    | _ => cases e2
  | exc _ _ => rw [g] at f; exact .inl ⟨Z, P, ρ, G, τ, s, w, by rw [ev, g]; exact f⟩
  | bad => rw [g] at f; exact f.elim
theorem si_zip (ok : XOk Φ fns cons X c) {a b : Expr} {m n : ME} {p tpos : Pos} {elts : List Expr} {kk : Nat} (hg : Gl X "zip") (ha : PE X a (low c (evE Φ c.b m))) (hb : PE X b (low c (evE Φ c.b n))) (hp : plainE a = true) (hq : plainE b = true) : PI X (.Tuple elts kk tpos) (.Call (.Name "zip" p) [a, b] [] pos) (lowI c (evI Φ c.b (.zip m n))) := by
  refine (RZ.pi_zipA hg (ok.blt _ (by decide +kernel)) (args2 ha hb hp hq) (star_one hp) (by rw [star_one hq]; rfl)).weak fun σ H R ⟨Z, P, ρ, G, τ, s, w, f⟩ => ?_
  rw [evI] at f
  have hK : (c.zp Z P).K = X.K := ok.K
  refine ⟨Z, P, ρ, G, τ, s, w, (fin2 f).mono fun vs H1 ⟨ρ1, G1, d, v, d2, v2, ev, e1, s1, r1, r2, f1⟩ => ?_⟩
  obtain ⟨di, eJ, f1⟩ := f1.lift
  obtain ⟨J, eJ1, rfl⟩ := map_some eJ
  cases d with
  | lst xs =>
    cases d2 with
    | lst ys =>
      cases eJ1
      obtain ⟨q, us, rfl, sq, _, t⟩ := r1.lst_of
      obtain ⟨q2, us2, rfl, sq2, _, t2⟩ := r2.lst_of
      refine ⟨q, q2, us, us2, ev, .inl ⟨.inl sq, .inl sq2, f1 _ H1 ρ1 Ext.refl s1 ⟨[(.lst xs, .ref q), (.lst ys, .ref q2)], fun p hp => ?_, by rw [hK]; exact jr_zipL⟩⟩⟩
      simp only [List.mem_cons, List.not_mem_nil, or_false] at hp
      rcases hp with rfl | rfl
      · exact r1
      · exact r2
    | _ => cases eJ1
  | tup xs =>
    cases d2 with
    | tup ys =>
      cases eJ1
      obtain ⟨q, us, rfl, sq, t⟩ := r1.tup_of
      obtain ⟨q2, us2, rfl, sq2, t2⟩ := r2.tup_of
      refine ⟨q, q2, us, us2, ev, .inr ⟨hK ▸ sq, hK ▸ sq2, f1 _ H1 ρ1 Ext.refl s1 ⟨[(.tup xs, .ref q), (.tup ys, .ref q2)], fun p hp => ?_, by rw [hK]; exact jr_zipT⟩⟩⟩
      simp only [List.mem_cons, List.not_mem_nil, or_false] at hp
      rcases hp with rfl | rfl
      · exact r1
      · exact r2
    | _ => cases eJ1
  | _ => cases eJ1
end
end U

set_option Elab.async false
set_option linter.all false
set_option maxRecDepth 100000
/-! UL: for, while, comprehensions upon plain data. -/
namespace U
open PySem L2 PyProof.Rows
section
variable {Φ : Fn} {fns : Str → Option (List Str)} {cons : Str → Option D} {X : Cx} {c : C} {pos : Pos} {tg : Expr}

/-- one item comes -/
theorem step_item {c : C} {H H' : Hp} {ρ : List Addr} {G : Hd} {d : D} {x : V} (s : SR c H ρ G) (y : (H' = H ∧ Rp c H ρ d x) ∨ ∃ T vs es, x = .ref T ∧ H T = none ∧ H' = upd H T (.tup vs) ∧ d = .tup es ∧ Rps c H ρ es vs) : Ext c H ρ H' ρ ∧ SR c H' ρ G ∧ Rp c H' ρ d x := by
  rcases y with ⟨rfl, r⟩ | ⟨T, vs, es, rfl, hT, rfl, rfl, r⟩
  · exact ⟨Ext.refl, s, r⟩
  · refine ⟨s.ext hT, s.new hT, ?_⟩
    unfold Rp
    exact ⟨T, vs, rfl, .inl (.inl upd_same), Rps.mono (s.ext hT) _ _ r⟩
theorem drop_get {α : Type} {l : List α} {i : Nat} {x : α} (h : l[i]? = some x) : l.drop i = x :: l.drop (i + 1) := by
  obtain ⟨hi, e⟩ := List.getElem?_eq_some_iff.mp h
  rw [List.drop_eq_getElem_cons hi, e]

theorem ss_for (ok : XOk Φ fns cons X c) {iter : Expr} {body : List Stmt} {mi : MI} {t : MT} {ms : MSs} (hi : PI X tg iter (lowI c (evI Φ c.b mi))) (hg : PG X tg (lowGK X.K t)) (hb : PSs X body (lowS c (evSs Φ c.b ms)))
    (hs : ∀ x, foldedSetIterable iter X.env x = pure x) : PS X (.For tg iter body [] pos) (lowS c (evS Φ c.b (.forr t mi ms))) := by
  refine (ps_for ok.own ok.calm hi hg hb hs).weak fun E σ H ⟨Z, P, ρ, G, τ, s, w, f⟩ => ?_
  rw [evS] at f
  have hK : (c.zp Z P).K = X.K := ok.K
  refine ⟨Z, P, ρ, G, τ, s, w, (Fin.then (R := RJ (c.zp Z P)) f).mono fun J H1 ⟨ρ1, G1, di, e1, s1, rj, f1⟩ => ?_⟩
  have w1 := w.ext e1
  -- what a turn is
  have turn_ok : ∀ {d : D} {x : V} {σ : L2.St} {τ : Tau} {H H' : Hp} {ρ : List Addr} {G : Hd} {N : L2.St → Hp → Prop} {k : Tau → Hd → Out Fl}, SR (c.zp Z P) H ρ G → EnvR (c.zp Z P) H ρ σ τ →
      ((H' = H ∧ Rp (c.zp Z P) H ρ d x) ∨ ∃ T vs es, x = .ref T ∧ H T = none ∧ H' = upd H T (.tup vs) ∧ d = .tup es ∧ Rps (c.zp Z P) H ρ es vs) →
      Fin (c.zp Z P) (RF (c.zp Z P)) ((match bindT t d τ with | some τ' => evSs Φ c.b ms τ' G | none => .bad).then fun f G' => match f with
        | .nx τ' => k τ' G'
        | .ct τ' => k τ' G'
        | .bk τ' => .ok (.nx τ') G'
        | .rt d => .ok (.rt d) G') H ρ (endOf E) →
      (∀ σ' H' ρ' G' τ', Ext (c.zp Z P) H ρ H' ρ' → SR (c.zp Z P) H' ρ' G' → EnvR (c.zp Z P) H' ρ' σ' τ' → Fin (c.zp Z P) (RF (c.zp Z P)) (k τ' G') H' ρ' (endOf E) → N σ' H') →
      lowGK X.K t x σ H' fun σ2 H2 => lowS c (evSs Φ c.b ms) { E with nx := N, ct := N, bk := E.nx } σ2 H2 := by
    intro d x σ τ H H' ρ G N k s w y f hN
    obtain ⟨ex, s', r⟩ := step_item s y
    cases g : bindT t d τ with
    | none => simp only [g] at f; exact f.elim
    | some τ' =>
      simp only [g] at f
      refine ⟨c.zp Z P, ρ, d, τ, τ', hK, w.ext ex, r, g, fun σ2 w2 _ => ?_⟩
      refine ⟨Z, P, ρ, G, τ', s', w2, (Fin.then (R := RF (c.zp Z P)) (f.ext ex)).mono fun fv H3 ⟨ρ3, G3, fl, e3, s3, r3, f3⟩ => ?_⟩
      cases fl with
      | nx τ3 =>
        cases fv with
        | nx σ3 => exact hN σ3 H3 ρ3 G3 τ3 (ex.trans e3) s3 r3 f3
        | _ => exact r3.elim
      | ct τ3 =>
        cases fv with
        | ct σ3 => exact hN σ3 H3 ρ3 G3 τ3 (ex.trans e3) s3 r3 f3
        | _ => exact r3.elim
      | bk τ3 =>
        cases fv with
        | bk σ3 => exact Fin.here (x := Fv.nx σ3) f3 s3 r3
        | _ => exact r3.elim
      | rt d3 =>
        cases fv with
        | rt v3 => exact Fin.here (x := Fv.rt v3) f3 s3 r3
        | _ => exact r3.elim
  cases di with
  | items ds =>
    obtain ⟨S, hS, jr⟩ := rj
    simp only at f1
    refine ⟨fun i m σ H => m + i = ds.length ∧ ∃ ρ G τ, SR (c.zp Z P) H ρ G ∧ EnvR (c.zp Z P) H ρ σ τ ∧ (∀ p ∈ S, Rp (c.zp Z P) H ρ p.1 p.2) ∧ Fin (c.zp Z P) (RF (c.zp Z P)) (forGo (fun x τ G => match bindT t x τ with | some τ' => evSs Φ c.b ms τ' G | none => .bad) (ds.drop i) τ G) H ρ (endOf E),
      ⟨ds.length, by omega, ρ1, G1, τ, s1, w1, hS, f1⟩, fun i m σ H ⟨hm, ρ, G, τ, s, w, hS, f⟩ => ?_⟩
    obtain ⟨ji, js⟩ := jr (c.zp Z P) H ρ rfl hS
    by_cases hi : i < ds.length
    · obtain ⟨jg, jy⟩ := ji i ds[i] (List.getElem?_eq_getElem hi)
      rw [drop_get (List.getElem?_eq_getElem hi)] at f
      simp only [forGo] at f
      refine .inr ⟨jg, fun σ' H' => ∃ ρ G τ, SR (c.zp Z P) H' ρ G ∧ EnvR (c.zp Z P) H' ρ σ' τ ∧ (∀ p ∈ S, Rp (c.zp Z P) H' ρ p.1 p.2) ∧ Fin (c.zp Z P) (RF (c.zp Z P)) (forGo (fun x τ G => match bindT t x τ with | some τ' => evSs Φ c.b ms τ' G | none => .bad) (ds.drop (i + 1)) τ G) H' ρ (endOf E),
        fun σ' H' h => ⟨m - 1, by omega, by omega, h⟩, fun x H' y => turn_ok s w (jy x H' y) f fun σ' H' ρ' G' τ' ex s' w' f' => ⟨ρ', G', τ', s', w', fun p hp => Rp.mono ex _ _ (hS p hp), f'⟩⟩
    · have ei : i = ds.length := by omega
      subst ei
      rw [List.drop_length] at f
      exact .inl ⟨js, Fin.here (x := Fv.nx σ) f s w⟩
  | dyn id =>
    obtain ⟨a, ha, rfl⟩ := rj
    simp only at f1
    cases g : G1[id]? with
    | none => simp only [g] at f1; exact f1.elim
    | some ob =>
      cases ob with
      | lst ds =>
        simp only [g] at f1
        refine ⟨fun i m σ H => ∃ ρ G τ, SR (c.zp Z P) H ρ G ∧ EnvR (c.zp Z P) H ρ σ τ ∧ ρ[id]? = some a ∧ Fin (c.zp Z P) (RF (c.zp Z P)) (forDyn (fun x τ G => match bindT t x τ with | some τ' => evSs Φ c.b ms τ' G | none => .bad) id m i τ G) H ρ (endOf E),
          ⟨ds.length, ρ1, G1, τ, s1, w1, ha, f1⟩, fun i m σ H ⟨ρ, G, τ, s, w, ha, f⟩ => ?_⟩
        cases m with
        | zero =>
          unfold forDyn at f
          cases g2 : G[id]? with
          | none => simp only [g2] at f; exact f.elim
          | some ob =>
            cases ob with
            | lst es =>
              simp only [g2] at f
              by_cases hl : es.length ≤ i
              · rw [if_pos hl] at f
                obtain ⟨vs, q, tt⟩ := s.obj id a _ ha g2
                exact .inl ⟨⟨vs, .inl (.inl q), by rw [tt.length]; exact hl⟩, Fin.here (x := Fv.nx σ) f s w⟩
              · rw [if_neg hl] at f
                exact f.elim
            | dct _ _ => simp only [g2] at f; exact f.elim
            | ins _ _ _ => simp only [g2] at f; exact f.elim
        | succ m =>
          unfold forDyn at f
          cases g2 : G[id]? with
          | none => simp only [g2] at f; exact f.elim
          | some ob =>
            cases ob with
            | lst es =>
              simp only [g2] at f
              cases g3 : es[i]? with
              | none => simp only [g3] at f; exact f.elim
              | some d =>
                simp only [g3] at f
                obtain ⟨vs, q, tt⟩ := s.obj id a _ ha g2
                obtain ⟨v, hv, rv⟩ := tt.get g3
                refine .inr ⟨⟨vs, v, .inl (.inl q), hv⟩, fun σ' H' => ∃ ρ G τ, SR (c.zp Z P) H' ρ G ∧ EnvR (c.zp Z P) H' ρ σ' τ ∧ ρ[id]? = some a ∧ Fin (c.zp Z P) (RF (c.zp Z P)) (forDyn (fun x τ G => match bindT t x τ with | some τ' => evSs Φ c.b ms τ' G | none => .bad) id m (i + 1) τ G) H' ρ (endOf E),
                  fun σ' H' h => ⟨m, by omega, h⟩, fun x H' ⟨e1, y⟩ => turn_ok s w (.inl ⟨e1, ?_⟩) f fun σ' H' ρ' G' τ' ex s' w' f' => ⟨ρ', G', τ', s', w', ex.get ha, f'⟩⟩
                have := y vs (.inl (.inl q))
                rw [hv] at this
                cases this
                exact rv
            | dct _ _ => simp only [g2] at f; exact f.elim
            | ins _ _ _ => simp only [g2] at f; exact f.elim
      | dct _ _ => simp only [g] at f1; exact f1.elim
      | ins _ _ _ => simp only [g] at f1; exact f1.elim

theorem ss_while (ok : XOk Φ fns cons X c) {t : Expr} {body : List Stmt} {mt : MB} {ms : MSs} (ht : PT X t (lowT c (evT Φ c.b mt))) (hb : PSs X body (lowS c (evSs Φ c.b ms))) : PS X (.While t body [] pos) (lowS c (evS Φ c.b (.whl mt ms))) := by
  refine (ps_while ok.own ht hb).weak fun E σ H ⟨Z, P, ρ, G, τ, s, w, f⟩ => ?_
  rw [evS] at f
  refine ⟨fun m σ H => ∃ ρ G τ, SR (c.zp Z P) H ρ G ∧ EnvR (c.zp Z P) H ρ σ τ ∧ Fin (c.zp Z P) (RF (c.zp Z P)) (whileGo (fun τ G => evT Φ c.b mt τ G) (fun τ G => evSs Φ c.b ms τ G) m τ G) H ρ (endOf E), ⟨wFuel, ρ, G, τ, s, w, f⟩, fun m σ H ⟨ρ, G, τ, s, w, f⟩ => ?_⟩
  cases m with
  | zero => unfold whileGo at f; exact f.elim
  | succ m =>
    unfold whileGo at f
    refine ⟨Z, P, ρ, G, τ, s, w, (Fin.then (R := RB) f).mono fun b H1 ⟨ρ1, G1, k, e1, s1, r1, f1⟩ => ?_⟩
    have r1 : k = b := r1
    subst r1
    cases k with
    | false => rw [if_neg (by decide)] at f1 ⊢; exact Fin.here (x := Fv.nx σ) f1 s1 (w.ext e1)
    | true =>
      rw [if_pos rfl] at f1 ⊢
      refine ⟨fun σ' H' => ∃ ρ G τ, SR (c.zp Z P) H' ρ G ∧ EnvR (c.zp Z P) H' ρ σ' τ ∧ Fin (c.zp Z P) (RF (c.zp Z P)) (whileGo (fun τ G => evT Φ c.b mt τ G) (fun τ G => evSs Φ c.b ms τ G) m τ G) H' ρ (endOf E), fun σ' H' h => ⟨m, by omega, h⟩, ?_⟩
      refine ⟨Z, P, ρ1, G1, τ, s1, w.ext e1, (Fin.then (R := RF (c.zp Z P)) f1).mono fun fv H3 ⟨ρ3, G3, fl, e3, s3, r3, f3⟩ => ?_⟩
      cases fl with
      | nx τ3 =>
        cases fv with
        | nx σ3 => exact ⟨ρ3, G3, τ3, s3, r3, f3⟩
        | _ => exact r3.elim
      | ct τ3 =>
        cases fv with
        | ct σ3 => exact ⟨ρ3, G3, τ3, s3, r3, f3⟩
        | _ => exact r3.elim
      | bk τ3 =>
        cases fv with
        | bk σ3 => exact Fin.here (x := Fv.nx σ3) f3 s3 r3
        | _ => exact r3.elim
      | rt d3 =>
        cases fv with
        | rt v3 => exact Fin.here (x := Fv.rt v3) f3 s3 r3
        | _ => exact r3.elim
end
end U

set_option Elab.async false
set_option linter.all false
set_option maxRecDepth 100000
/-! UM: list comprehensions upon plain data. -/
namespace U
open PySem L2 PyProof.Rows
/-- what a fresh thing is wanted for, from the start H ρ on -/
def Fr (c : C) (o : Out D) (H : Hp) (ρ : List Addr) (Q : VK) : Prop := match o with
  | .ok d G' => ∃ o, objOf d = some o ∧ ∀ p H' ρ', Ext c H ρ H' ρ' → H p = none → SR (c.and p) H' ρ' G' → RepO (c.and p) H' ρ' p o → Q (.ref p) H'
  | .exc e G' => ∀ H' ρ', Ext c H ρ H' ρ' → SR c H' ρ' G' → c.EX e H'
  | .bad => False
section
variable {Φ : Fn} {fns : Str → Option (List Str)} {cons : Str → Option D} {X : Cx} {c : C} {pos : Pos} {tg : Expr}

/-- the state within a comprehension whose new list stands at L: what was made, as the list stands -/
structure LcAt (c : C) (Z : List Addr) (P : Nat → Prop) (L : Addr) (H1 : Hp) (ρ1 : List Addr) (σ : L2.St) (τ : Tau) (S : List (D × V)) (acc : List D) (H : Hp) (ρ : List Addr) (G : Hd) : Prop where
  s : SR ((c.zp Z P).and L) H ρ G
  l : ∃ vs, H L = some (.lst vs) ∧ Rps ((c.zp Z P).and L) H ρ acc vs
  w : EnvR ((c.zp Z P).and L) H ρ σ τ
  src : ∀ p ∈ S, Rp ((c.zp Z P).and L) H ρ p.1 p.2
  ext : Ext0 ((c.zp Z P).and L) (upd H1 L (.lst [])) ρ1 H ρ
  zs : ∀ a ∈ Z, H a = H1 a

def lcTurn (Φ : Fn) (b : Nat) (e : ME) (t : MT) (mc : MB) (own : List Nat) (τ : Tau) : D → Hd → Out (Option D) := fun x G => match bindT t x (wipeD τ own) with
  | some τ' => noexc ((evT Φ b mc τ' G).then fun k G => if k then (evE Φ b e τ' G).then fun y G => .ok (some y) G else .ok none G)
  | none => .bad

theorem LcAt.go {Z : List Addr} {P : Nat → Prop} {L : Addr} {H1 H H' : Hp} {ρ1 ρ ρ' : List Addr} {σ : L2.St} {τ : Tau} {S : List (D × V)} {acc : List D} {G G' : Hd} (a : LcAt c Z P L H1 ρ1 σ τ S acc H ρ G) (e : Ext ((c.zp Z P).and L) H ρ H' ρ') (s : SR ((c.zp Z P).and L) H' ρ' G') : LcAt c Z P L H1 ρ1 σ τ S acc H' ρ' G' := by
  obtain ⟨vs, h, r⟩ := a.l
  exact ⟨s, ⟨vs, (e.zs L List.mem_cons_self).trans h, Rps.mono e _ _ r⟩, a.w.ext e, fun p hp => Rp.mono e _ _ (a.src p hp), a.ext.trans e.toExt0, fun b hb => (e.zs b (List.mem_cons_of_mem _ hb)).trans (a.zs b hb)⟩
theorem LcAt.push {Z : List Addr} {P : Nat → Prop} {L : Addr} {H1 H : Hp} {ρ1 ρ : List Addr} {σ : L2.St} {τ : Tau} {S : List (D × V)} {acc : List D} {G : Hd} {y : D} {v : V} {vs : List V} (a : LcAt c Z P L H1 ρ1 σ τ S acc H ρ G) (hL : H L = some (.lst vs)) (hz : L ∉ Z) (ry : Rp ((c.zp Z P).and L) H ρ y v) : LcAt c Z P L H1 ρ1 σ τ S (acc ++ [y]) (upd H L (.lst (vs ++ [v]))) ρ G := by
  obtain ⟨vs', h, r⟩ := a.l
  rw [hL] at h
  cases h
  have nt : ∀ xs, ¬ Rd H L (.tup xs) := fun xs z => by rcases z with z | ⟨_, z⟩ <;> (rw [hL] at z; cases z)
  have e := Ext.setZ (c := c.zp Z P) (ρ := ρ) (o' := .lst (vs ++ [v])) hL nt
  refine ⟨a.s.setZ hL nt, ⟨vs ++ [v], upd_same, (Rps.mono0 e _ _ r).append (.cons (Rp.mono0 e _ _ ry) .nil)⟩, a.w.map fun d u => Rp.mono0 e d u, fun p hp => Rp.mono0 e _ _ (a.src p hp), a.ext.trans e, fun b hb => ?_⟩
  rw [upd_ne (fun z : b = L => hz (z ▸ hb))]
  exact a.zs b hb

theorem lc_imp {K : PySem.W.Frag} (hK : c.K = K) {os : List Nat} {mi : MI} {t : MT} {mc : MB} {me : ME} (hsub : ∀ i ∈ slotsT t, i ∈ os) (σ : L2.St) (H0 : Hp) (Q : VK) (h : lowFr c (evE Φ c.b (.lc me t mi mc os)) σ H0 Q) :
    tLc (lowI c (evI Φ c.b mi)) (lowGK K t) (lowT c.nox (evT Φ c.b mc)) (low c.nox (evE Φ c.b me)) os σ H0 Q := by
  obtain ⟨Z, P, ρ0, G0, τ, s0, w0, f⟩ := h
  have hK : (c.zp Z P).K = K := hK
  have f : Fr (c.zp Z P) (evE Φ c.b (.lc me t mi mc (os)) τ G0) H0 ρ0 Q := f
  rw [evE] at f
  refine ⟨Z, P, ρ0, G0, τ, s0, w0, ?_⟩
  cases gi : evI Φ c.b mi τ G0 with
  | exc _ _ => rw [gi] at f; exact f
  | bad => rw [gi] at f; exact f
  | ok di G1 =>
    rw [gi] at f
    simp only [Out.then_ok] at f
    intro J H1 ρ1 e1 s1 rj L hL
    have w1 := w0.ext e1
    have hLZ : L ∉ Z := fun z => (s1.zs L z).2 hL
    have start : ∀ {S : List (D × V)}, (∀ p ∈ S, Rp (c.zp Z P) H1 ρ1 p.1 p.2) → LcAt c Z P L H1 ρ1 σ τ S [] (upd H1 L (.lst [])) ρ1 G1 := fun hS =>
      ⟨s1.and hL, ⟨[], upd_same, .nil⟩, w1.map fun d v => Rp.and hL (s1.ext hL) d v, fun p hp => Rp.and hL (s1.ext hL) _ _ (hS p hp), Ext0.refl, fun a ha => upd_ne fun z => hLZ (z ▸ ha)⟩
    -- the end
    have done : ∀ {S : List (D × V)} {acc : List D} {H : Hp} {ρ : List Addr} {G : Hd}, LcAt c Z P L H1 ρ1 σ τ S acc H ρ G → Fr (c.zp Z P) (.ok (.lst acc) G) H0 ρ0 Q → Q (.ref L) H := by
      intro S acc H ρ G a f
      obtain ⟨o, eo, f⟩ := f
      cases eo
      obtain ⟨vs, hv, rv⟩ := a.l
      have nt : ∀ xs, ¬ Rd H L (.tup xs) := fun xs z => by rcases z with z | ⟨_, z⟩ <;> (rw [hv] at z; cases z)
      have e2 : Ext (c.zp Z P) H1 ρ1 (upd H L (.lst vs)) ρ := Ext.apart hL (fun b hb => (s1.zs b hb).2) nt a.ext a.zs
      have eH : upd H L (.lst vs) = H := by
        funext b
        by_cases hb : b = L
        · rw [hb, upd_same, hv]
        · rw [upd_ne hb]
      rw [eH] at e2
      exact f L H ρ (e1.trans e2) (Classical.byContradiction fun z => e1.dom L z hL) a.s ⟨vs, hv, rv⟩
    -- one turn
    have turn_ok : ∀ {S : List (D × V)} {acc : List D} {H H' : Hp} {ρ : List Addr} {G : Hd} {d : D} {x : V} {k : List D → Hd → Out (List D)} {Nx : Hp → Prop}, LcAt c Z P L H1 ρ1 σ τ S acc H ρ G → acc.length < line →
        ((H' = H ∧ Rp ((c.zp Z P).and L) H ρ d x) ∨ ∃ T vs es, x = .ref T ∧ H T = none ∧ H' = upd H T (.tup vs) ∧ d = .tup es ∧ Rps ((c.zp Z P).and L) H ρ es vs) →
        Fr (c.zp Z P) (((lcTurn Φ c.b me t mc (os) τ d G).then fun r G' => match r with
          | some y => k (acc ++ [y]) G'
          | none => k acc G').then fun ds G => .ok (.lst ds) G) H0 ρ0 Q →
        (∀ acc' H' ρ' G', LcAt c Z P L H1 ρ1 σ τ S acc' H' ρ' G' → acc'.length ≤ acc.length + 1 → Fr (c.zp Z P) ((k acc' G').then fun ds G => .ok (.lst ds) G) H0 ρ0 Q → Nx H') →
        lowGK K t x (wipe σ (os)) H' fun σ2 H2 => wipe σ2 (os) = wipe σ (os) ∧ lowT c.nox (evT Φ c.b mc) σ2 H2 fun b H3 =>
          if b = true then low c.nox (evE Φ c.b me) σ2 H3 fun y H4 => ∃ acc, H4 L = some (.lst acc) ∧ acc.length < sizeLine ∧ Nx (upd H4 L (.lst (acc ++ [y]))) else Nx H3 := by
      intro S acc H H' ρ G d x k Nx a hlen y f hN
      obtain ⟨ex, s', r⟩ := step_item a.s y
      have a' := a.go ex s'
      unfold lcTurn at f
      cases g : bindT t d (wipeD τ (os)) with
      | none => simp only [g] at f; exact f.elim
      | some τ' =>
        simp only [g] at f
        refine ⟨(c.zp Z P).and L, ρ, d, _, τ', hK, a'.w.wipe _, r, g, fun σ2 w2 off => ⟨?_, ?_⟩⟩
        · rw [wipe_off off _ hsub, wipe_wipe]
        · refine ⟨L :: Z, P, ρ, G, τ', SR.nox (c := c) (Z := L :: Z) (P := P) s', EnvR.nox (c := c) (Z := L :: Z) (P := P) w2, ?_⟩
          cases g2 : evT Φ c.b mc τ' G with
          | exc _ _ => rw [g2] at f; exact f.elim
          | bad => rw [g2] at f; exact f.elim
          | ok kb G2 =>
            rw [g2] at f
            intro b H3 ρ3 e3 s3 rb
            have rb : kb = b := rb
            subst rb
            have e3 : Ext ((c.zp Z P).and L) H' ρ H3 ρ3 := Ext.unx (c := c) (Z := L :: Z) (P := P) e3
            have s3' : SR ((c.zp Z P).and L) H3 ρ3 G2 := SR.unx (c := c) (Z := L :: Z) (P := P) s3
            have a3 := a'.go e3 s3'
            cases kb with
            | false =>
              rw [if_neg (by decide)]
              exact hN acc H3 ρ3 G2 a3 (by omega) f
            | true =>
              rw [if_pos rfl]
              refine ⟨L :: Z, P, ρ3, G2, τ', s3, EnvR.nox (c := c) (Z := L :: Z) (P := P) (EnvR.ext (c := (c.zp Z P).and L) w2 e3), ?_⟩
              simp only [Out.then_ok, if_true] at f
              cases g4 : evE Φ c.b me τ' G2 with
              | exc _ _ => rw [g4] at f; exact f.elim
              | bad => rw [g4] at f; exact f.elim
              | ok yd G4 =>
                rw [g4] at f
                intro yv H4 ρ4 e4 s4 r4
                have e4 : Ext ((c.zp Z P).and L) H3 ρ3 H4 ρ4 := Ext.unx (c := c) (Z := L :: Z) (P := P) e4
                have s4' : SR ((c.zp Z P).and L) H4 ρ4 G4 := SR.unx (c := c) (Z := L :: Z) (P := P) s4
                have a4 := a3.go e4 s4'
                obtain ⟨vs, hv, rv⟩ := a4.l
                have r4' : Rp ((c.zp Z P).and L) H4 ρ4 yd yv := Rp.cx (c := c.nox.zp (L :: Z) P) (c' := (c.zp Z P).and L) rfl rfl rfl _ _ r4
                refine ⟨vs, hv, by rw [rv.length, line_eq]; exact hlen, hN (acc ++ [yd]) _ ρ4 G4 (a4.push hv hLZ r4') (by rw [List.length_append]; exact Nat.le_refl _) f⟩
    cases di with
    | items ds =>
      obtain ⟨S, hS, jr⟩ := rj
      simp only at f
      by_cases hl : ds.length ≤ line
      · rw [if_pos hl] at f
        refine ⟨fun i m H => m + i = ds.length ∧ ∃ acc ρ G, LcAt c Z P L H1 ρ1 σ τ S acc H ρ G ∧ acc.length ≤ i ∧ Fr (c.zp Z P) ((lcGo (lcTurn Φ c.b me t mc (os) τ) (ds.drop i) acc G).then fun ds G => .ok (.lst ds) G) H0 ρ0 Q,
          ⟨ds.length, by omega, [], ρ1, G1, start hS, Nat.le_refl _, f⟩, fun i m H ⟨hm, acc, ρ, G, a, hacc, f⟩ => ?_⟩
        obtain ⟨ji, js⟩ := jr ((c.zp Z P).and L) H ρ rfl a.src
        by_cases hi : i < ds.length
        · obtain ⟨jg, jy⟩ := ji i ds[i] (List.getElem?_eq_getElem hi)
          rw [drop_get (List.getElem?_eq_getElem hi)] at f
          simp only [lcGo] at f
          refine .inr ⟨jg, fun H => ∃ acc ρ G, LcAt c Z P L H1 ρ1 σ τ S acc H ρ G ∧ acc.length ≤ i + 1 ∧ Fr (c.zp Z P) ((lcGo (lcTurn Φ c.b me t mc (os) τ) (ds.drop (i + 1)) acc G).then fun ds G => .ok (.lst ds) G) H0 ρ0 Q,
            fun H' h => ⟨m - 1, by omega, by omega, h⟩, fun x H' y => turn_ok a (by omega) (jy x H' y) (k := fun acc G => lcGo (lcTurn Φ c.b me t mc (os) τ) (ds.drop (i + 1)) acc G) f fun acc' H' ρ' G' a' ha' f' => ⟨acc', ρ', G', a', by omega, f'⟩⟩
        · have ei : i = ds.length := by omega
          subst ei
          rw [List.drop_length] at f
          exact .inl ⟨js, done a f⟩
      · rw [if_neg hl] at f
        exact f.elim
    | dyn id =>
      obtain ⟨a0, ha0, rfl⟩ := rj
      simp only at f
      cases g : G1[id]? with
      | none => simp only [g] at f; exact f.elim
      | some ob =>
        cases ob with
        | lst ds =>
          simp only [g] at f
          by_cases hl : ds.length ≤ line
          · rw [if_pos hl] at f
            refine ⟨fun i m H => ∃ acc ρ G, LcAt c Z P L H1 ρ1 σ τ [] acc H ρ G ∧ acc.length ≤ i ∧ m + i = ds.length ∧ Fr (c.zp Z P) ((lcDyn (lcTurn Φ c.b me t mc (os) τ) id m i acc G).then fun ds G => .ok (.lst ds) G) H0 ρ0 Q,
              ⟨ds.length, [], ρ1, G1, start (fun p hp => (nomatch hp)), Nat.le_refl _, by omega, f⟩, fun i m H ⟨acc, ρ, G, a, hacc, hm, f⟩ => ?_⟩
            have ha : ρ[id]? = some a0 := a.ext.get ha0
            cases m with
            | zero =>
              unfold lcDyn at f
              cases g2 : G[id]? with
              | none => simp only [g2] at f; exact f.elim
              | some ob =>
                cases ob with
                | lst es =>
                  simp only [g2] at f
                  by_cases hl : es.length ≤ i
                  · rw [if_pos hl] at f
                    obtain ⟨vs, q, tt⟩ := a.s.obj id a0 _ ha g2
                    exact .inl ⟨⟨vs, .inl (.inl q), by rw [tt.length]; exact hl⟩, done a f⟩
                  · rw [if_neg hl] at f
                    exact f.elim
                | dct _ _ => simp only [g2] at f; exact f.elim
                | ins _ _ _ => simp only [g2] at f; exact f.elim
            | succ m =>
              unfold lcDyn at f
              cases g2 : G[id]? with
              | none => simp only [g2] at f; exact f.elim
              | some ob =>
                cases ob with
                | lst es =>
                  simp only [g2] at f
                  cases g3 : es[i]? with
                  | none => simp only [g3] at f; exact f.elim
                  | some d =>
                    simp only [g3] at f
                    obtain ⟨vs, q, tt⟩ := a.s.obj id a0 _ ha g2
                    obtain ⟨v, hv, rv⟩ := tt.get g3
                    refine .inr ⟨⟨vs, v, .inl (.inl q), hv⟩, fun H => ∃ acc ρ G, LcAt c Z P L H1 ρ1 σ τ [] acc H ρ G ∧ acc.length ≤ i + 1 ∧ m + (i + 1) = ds.length ∧ Fr (c.zp Z P) ((lcDyn (lcTurn Φ c.b me t mc (os) τ) id m (i + 1) acc G).then fun ds G => .ok (.lst ds) G) H0 ρ0 Q,
                      fun H' h => ⟨m, by omega, h⟩, fun x H' ⟨e1, y⟩ => turn_ok a (by omega) (.inl ⟨e1, ?_⟩) (k := fun acc G => lcDyn (lcTurn Φ c.b me t mc (os) τ) id m (i + 1) acc G) f fun acc' H' ρ' G' a' ha' f' => ⟨acc', ρ', G', a', by omega, by omega, f'⟩⟩
                    have := y vs (.inl (.inl q))
                    rw [hv] at this
                    cases this
                    exact rv
                | dct _ _ => simp only [g2] at f; exact f.elim
                | ins _ _ _ => simp only [g2] at f; exact f.elim
          · rw [if_neg hl] at f
            exact f.elim
        | dct _ _ => simp only [g] at f; exact f.elim
        | ins _ _ _ => simp only [g] at f; exact f.elim
theorem sf_lc (ok : XOk Φ fns cons X c) {elt iter : Expr} {ifs : List Expr} {scope : Scope} {own : List (Str × Nat)} {os : List Nat} (hos : own.map (·.2) = os) {mi : MI} {t : MT} {mc : MB} {me : ME} (hi : PI X tg iter (lowI c (evI Φ c.b mi))) (bk : BlkOk X.N X.env.scope scope own)
    (hg : ∀ (s : Shared) (H : Hp) (C : Addr) (cl : List (Str × Addr)) (fp : List Addr), PG (X.blk s H scope (compEnvC scope cl C X.env) fp) tg (lowGK X.K t))
    (ht : ∀ (s : Shared) (H : Hp) (C : Addr) (cl : List (Str × Addr)) (fp : List Addr), PTs (X.blk s H scope (compEnvC scope cl C X.env) fp) ifs (lowT c.nox (evT Φ c.b mc)))
    (he : ∀ (s : Shared) (H : Hp) (C : Addr) (cl : List (Str × Addr)) (fp : List Addr), PE (X.blk s H scope (compEnvC scope cl C X.env) fp) elt (low c.nox (evE Φ c.b me)))
    (hs : ∀ x, foldedSetIterable iter X.env x = pure x) (hsub : ∀ i ∈ slotsT t, i ∈ os) :
    PE X (.ListComp elt [⟨tg, iter, ifs, 0⟩] scope pos) (lowFr c (evE Φ c.b (.lc me t mi mc os))) := by
  have pl := pe_lc (pos := pos) ok.calm ok.nd hi bk hg ht he hs
  rw [hos] at pl
  exact pl.weak fun σ H0 Q h => lc_imp ok.K hsub σ H0 Q h
theorem then_lst {o : Out (List D)} {d : D} {G' : Hd} (h : (o.then fun ds G => .ok (.lst ds) G) = .ok d G') : ∃ ob, objOf d = some ob := by
  cases o with
  | ok ds G2 => cases h; exact ⟨_, rfl⟩
  | exc _ _ => cases h
  | bad => cases h
theorem of_lc {os : List Nat} {mi : MI} {t : MT} {mc : MB} {me : ME} (τ : Tau) (G : Hd) (d : D) (G' : Hd) (h : evE Φ c.b (.lc me t mi mc os) τ G = .ok d G') : ∃ o, objOf d = some o := by
  rw [evE] at h
  cases g : evI Φ c.b mi τ G with
  | exc _ _ => rw [g] at h; cases h
  | bad => rw [g] at h; cases h
  | ok di G1 =>
    rw [g] at h
    simp only [Out.then_ok] at h
    exact then_lst h
end
end U

set_option Elab.async false
set_option linter.all false
set_option maxRecDepth 100000
/-! UN: statements. -/
namespace U
open PySem L2 PyProof.Rows
section
variable {Φ : Fn} {fns : Str → Option (List Str)} {cons : Str → Option D} {X : Cx} {c : C} {pos : Pos} {tg : Expr}

theorem ss_pass : PS X (.Pass pos) (lowS c (evS Φ c.b .pass)) := ps_pass.weak fun E σ H ⟨Z, P, ρ, G, τ, s, w, f⟩ => by
  rw [evS] at f
  exact Fin.here (x := Fv.nx σ) f s w
theorem ss_never {st : Stmt} : PS X st (lowS c (evS Φ c.b .never)) := ps_never.weak fun E σ H ⟨Z, P, ρ, G, τ, s, w, f⟩ => by
  rw [evS] at f
  exact f
theorem ss_ret {e : Expr} {m : ME} (h : PE X e (low c (evE Φ c.b m))) : PS X (.Return (some e) pos) (lowS c (evS Φ c.b (.ret m))) := (ps_ret h).weak fun E σ H ⟨Z, P, ρ, G, τ, s, w, f⟩ => by
  rw [evS] at f
  exact ⟨Z, P, ρ, G, τ, s, w, (Fin.then (R := Rp (c.zp Z P)) f).mono fun x H1 ⟨ρ1, G1, a, e1, s1, r1, f1⟩ => Fin.here (x := Fv.rt x) f1 s1 r1⟩
theorem ss_exp {e : Expr} {m : ME} (h : PE X e (low c (evE Φ c.b m))) (hs : swapsWith e none pos.line X.env = pure false) : PS X (.Expr e pos) (lowS c (evS Φ c.b (.exp m))) := (ps_expr h hs).weak fun E σ H ⟨Z, P, ρ, G, τ, s, w, f⟩ => by
  rw [evS] at f
  exact ⟨Z, P, ρ, G, τ, s, w, (Fin.then (R := Rp (c.zp Z P)) f).mono fun x H1 ⟨ρ1, G1, a, e1, s1, r1, f1⟩ => Fin.here (x := Fv.nx σ) f1 s1 (w.ext e1)⟩
theorem ss_if {t : Expr} {a b : List Stmt} {mt : MB} {m n : MSs} (ht : PT X t (lowT c (evT Φ c.b mt))) (ha : PSs X a (lowS c (evSs Φ c.b m))) (hb : PSs X b (lowS c (evSs Φ c.b n))) : PS X (.If t a b pos) (lowS c (evS Φ c.b (.iff mt m n))) :=
  (ps_if ht ha hb).weak fun E σ H ⟨Z, P, ρ, G, τ, s, w, f⟩ => by
    rw [evS] at f
    refine ⟨Z, P, ρ, G, τ, s, w, (Fin.then (R := RB) f).mono fun x H1 ⟨ρ1, G1, k, e1, s1, r1, f1⟩ => ?_⟩
    have r1 : k = x := r1
    subst r1
    cases k with
    | true => rw [if_pos rfl] at f1 ⊢; exact ⟨Z, P, ρ1, G1, τ, s1, w.ext e1, f1⟩
    | false => rw [if_neg (by decide)] at f1 ⊢; exact ⟨Z, P, ρ1, G1, τ, s1, w.ext e1, f1⟩
theorem sss_nil : PSs X [] (lowS c (evSs Φ c.b .nil)) := pss_nil.weak fun E σ H ⟨Z, P, ρ, G, τ, s, w, f⟩ => by
  rw [evSs] at f
  exact Fin.here (x := Fv.nx σ) f s w
theorem sss_cons {st : Stmt} {sts : List Stmt} {m : MS} {ms : MSs} (h : PS X st (lowS c (evS Φ c.b m))) (hs : PSs X sts (lowS c (evSs Φ c.b ms))) : PSs X (st :: sts) (lowS c (evSs Φ c.b (.cons m ms))) := (pss_cons h hs).weak fun E σ H ⟨Z, P, ρ, G, τ, s, w, f⟩ => by
  rw [evSs] at f
  refine ⟨Z, P, ρ, G, τ, s, w, (Fin.then (R := RF (c.zp Z P)) f).mono fun fv H1 ⟨ρ1, G1, fl, e1, s1, r1, f1⟩ => ?_⟩
  cases fl with
  | nx τ1 =>
    cases fv with
    | nx σ1 => exact ⟨Z, P, ρ1, G1, τ1, s1, r1, f1⟩
    | _ => exact r1.elim
  | rt d =>
    cases fv with
    | rt v => exact Fin.here (x := Fv.rt v) f1 s1 r1
    | _ => exact r1.elim
  | bk τ1 =>
    cases fv with
    | bk σ1 => exact Fin.here (x := Fv.bk σ1) f1 s1 r1
    | _ => exact r1.elim
  | ct τ1 =>
    cases fv with
    | ct σ1 => exact Fin.here (x := Fv.ct σ1) f1 s1 r1
    | _ => exact r1.elim
theorem asg_imp {K : PySem.W.Frag} (hK : c.K = K) {t : MT} {m : ME} (E : Ends) (σ : L2.St) (H : Hp) (h : lowS c (evS Φ c.b (.set t m)) E σ H) : low c (evE Φ c.b m) σ H fun x H1 => lowGK K t x σ H1 E.nx := by
  obtain ⟨Z, P, ρ, G, τ, s, w, f⟩ := h
  rw [evS] at f
  refine ⟨Z, P, ρ, G, τ, s, w, (Fin.then (R := Rp (c.zp Z P)) f).mono fun x H1 ⟨ρ1, G1, d, e1, s1, r1, f1⟩ => ?_⟩
  obtain ⟨fl, ef, f1⟩ := f1.lift
  obtain ⟨τ', e2, rfl⟩ := map_some ef
  exact ⟨c.zp Z P, ρ1, d, τ, τ', hK, w.ext e1, r1, e2, fun σ' w' _ => Fin.here (x := Fv.nx σ') f1 s1 w'⟩
theorem ss_set (ok : XOk Φ fns cons X c) {e : Expr} {t : MT} {m : ME} (h : PE X e (low c (evE Φ c.b m))) (hg : PG X tg (lowGK X.K t)) (hs : swapsWithSole [tg] e pos.line X.env = pure false) (hw : swappedStores [tg] e X.env = pure none)
    (h1 : (assignEach [tg] X.env).map (·.2) = [assign tg X.env]) : PS X (.Assign [tg] e pos) (lowS c (evS Φ c.b (.set t m))) := (ps_asg h hg hs hw h1).weak fun E σ H q => asg_imp ok.K E σ H q
/-- name = [..], exchanged stores -/
theorem ss_setLc (ok : XOk Φ fns cons X c) {elt iter : Expr} {ifs : List Expr} {scope : Scope} {own : List (Str × Nat)} {os : List Nat} (hos : own.map (·.2) = os) {mi : MI} {t : MT} {mc : MB} {me m : ME} {i : Nat} {y : Str} {py lpos spos : Pos}
    (hm : m = .lc me t mi mc os ∨ m = .alloc (.lc me t mi mc os)) (hy : X.N[i]? = some y) (hyl : X.env.scope.names.lookup y = some .local) (hsw : swapsWith (.ListComp elt [⟨tg, iter, ifs, 0⟩] scope lpos) (some (.Name y py)) spos.line X.env = pure true)
    (hi : PI X tg iter (lowI c (evI Φ c.b mi))) (bk : BlkOk X.N X.env.scope scope own)
    (hg : ∀ (s : Shared) (H : Hp) (C : Addr) (cl : List (Str × Addr)) (fp : List Addr), PG (X.blk s H scope (compEnvC scope cl C X.env) fp) tg (lowGK X.K t))
    (ht : ∀ (s : Shared) (H : Hp) (C : Addr) (cl : List (Str × Addr)) (fp : List Addr), PTs (X.blk s H scope (compEnvC scope cl C X.env) fp) ifs (lowT c.nox (evT Φ c.b mc)))
    (he : ∀ (s : Shared) (H : Hp) (C : Addr) (cl : List (Str × Addr)) (fp : List Addr), PE (X.blk s H scope (compEnvC scope cl C X.env) fp) elt (low c.nox (evE Φ c.b me)))
    (hs : ∀ x, foldedSetIterable iter X.env x = pure x) (hsub : ∀ i ∈ slotsT t, i ∈ os) :
    PS X (.Assign [.Name y py] (.ListComp elt [⟨tg, iter, ifs, 0⟩] scope lpos) spos) (lowS c (evS Φ c.b (.set (.nam i) m))) := by
  have pl := ps_setLc (spos := spos) ok.calm ok.nd hy hyl hsw hi bk hg ht he hs
  rw [hos] at pl
  refine pl.weak fun E σ H q => ?_
  have q := asg_imp (K := c.K) rfl E σ H q
  have fin : ∀ x H1, lowGK c.K (.nam i) x σ H1 E.nx → gName i x σ H1 E.nx := fun x H1 ⟨c', ρ, d, τ, τ', _, w, r, e, q⟩ => by
    cases e
    refine q _ (w.set i r) ⟨by simp, fun j hj => ?_⟩
    rw [List.getElem?_set_ne]
    intro z
    exact hj (by rw [← z]; exact List.mem_singleton.mpr rfl)
  have q : low c (evE Φ c.b m) σ H fun x H1 => gName i x σ H1 E.nx := by
    obtain ⟨Z, P, ρ, G, τ, s, w, f⟩ := q
    exact ⟨Z, P, ρ, G, τ, s, w, f.mono fin⟩
  refine lc_imp (Φ := Φ) ok.K hsub σ H _ ?_
  rcases hm with rfl | rfl
  · exact fr_low_imp of_lc σ H _ q
  · refine fr_alloc_imp σ H _ ?_
    have e : evE Φ c.b (.alloc (.lc me t mi mc os)) = fun τ G => (evE Φ c.b (.lc me t mi mc os) τ G).then allocD := by
      funext τ G
      rw [evE]
    rw [e] at q
    exact q
theorem ss_par2 (ok : XOk Φ fns cons X c) {i j : Nat} {x y : Str} {a b : Expr} {ma mb : ME} {px py pt : Pos} {kt k2 pt2} (hi : X.N[i]? = some x) (hj : X.N[j]? = some y) (hij : i ≠ j) (hx : X.env.scope.names.lookup x = some .local) (hy : X.env.scope.names.lookup y = some .local)
    (ha : PE X a (low c (evE Φ c.b ma))) (hb : PE X b (low c (evE Φ c.b mb))) (pa : plainE a = true) (pb : plainE b = true)
    (hw : swappedStores [.Tuple [.Name x px, .Name y py] kt pt] (.Tuple [a, b] k2 pt2) X.env = pure (some [x, y])) : PS X (.Assign [.Tuple [.Name x px, .Name y py] kt pt] (.Tuple [a, b] k2 pt2) pos) (lowS c (evS Φ c.b (.par [i, j] (.cons ma (.cons mb .nil))))) :=
  (ps_par ok.calm ok.nd hi hj hij hx hy (args2 ha hb pa pb) hw rfl).weak fun E σ H ⟨Z, P, ρ, G, τ, s, w, f⟩ => by
    rw [evS] at f
    refine ⟨Z, P, ρ, G, τ, s, w, ?_⟩
    have e : evEs Φ c.b (.cons ma (.cons mb .nil)) τ G = (evE Φ c.b ma τ G).then fun d G => (evE Φ c.b mb τ G).then fun d2 G => .ok [d, d2] G := by
      simp only [evEs, Out.then_ok, then_assoc]
    rw [e] at f ⊢
    cases g : evE Φ c.b ma τ G with
    | exc _ _ => rw [g] at f; exact f
    | bad => rw [g] at f; exact f
    | ok d G1 =>
      rw [g] at f
      simp only [Out.then_ok] at f ⊢
      cases g2 : evE Φ c.b mb τ G1 with
      | exc _ _ => rw [g2] at f; exact f
      | bad => rw [g2] at f; exact f
      | ok d2 G2 =>
        rw [g2] at f
        simp only [Out.then_ok] at f ⊢
        intro vs H1 ρ1 e1 s1 r1
        obtain ⟨v, r, rfl, rv, t⟩ := r1.of_cons
        obtain ⟨v2, r2, rfl, rv2, t2⟩ := t.of_cons
        obtain rfl := t2.of_nil
        refine ⟨v, v2, rfl, ?_⟩
        obtain ⟨fl, ef, f⟩ := f.lift
        obtain ⟨τ', e2, rfl⟩ := map_some ef
        cases e2
        exact f (Fv.nx _) H1 ρ1 e1 s1 (((w.ext e1).set i rv).set j rv2)
theorem ss_setix (ok : XOk Φ fns cons X c) {o i e : Expr} {mo mi me : ME} {p : Pos} (ho : PE X o (low c (evE Φ c.b mo))) (hi : PE X i (low c (evE Φ c.b mi))) (he : PE X e (low c (evE Φ c.b me)))
    (hs : swapsWithSole [.Subscript o i p] e pos.line X.env = pure false) (hw : swappedStores [.Subscript o i p] e X.env = pure none) (h1 : (assignEach [.Subscript o i p] X.env).map (·.2) = [assign (.Subscript o i p) X.env])
    (ha : ∀ v, assign (.Subscript o i p) X.env v = (do
      let ov ← holding [v] (eval o X.env)
      let iv ← holding [v, ov] (eval i X.env)
      standAt p
      holding [v, ov, iv] (setItem ov iv v)
      release [v, ov, iv] [])) : PS X (.Assign [.Subscript o i p] e pos) (lowS c (evS Φ c.b (.setix mo mi me))) :=
  (ps_asg he (pg_sub ho hi (set_any ok.units) ha) hs hw h1).weak fun E σ H ⟨Z, P, ρ, G, τ, s, w, f⟩ => by
    rw [evS] at f
    refine ⟨Z, P, ρ, G, τ, s, w, (Fin.then (R := Rp (c.zp Z P)) f).mono fun x H1 ⟨ρ1, G1, d, e1, s1, r1, f1⟩ => ?_⟩
    refine ⟨Z, P, ρ1, G1, τ, s1, w.ext e1, (Fin.then (R := Rp (c.zp Z P)) f1).mono fun y H2 ⟨ρ2, G2, xo, e2, s2, r2, f2⟩ => ?_⟩
    refine ⟨Z, P, ρ2, G2, τ, s2, (w.ext e1).ext e2, (Fin.then (R := Rp (c.zp Z P)) f2).mono fun z H3 ⟨ρ3, G3, xi, e3, s3, r3, f3⟩ => ?_⟩
    have w3 := ((w.ext e1).ext e2).ext e3
    have fp := Fin.then (R := fun _ _ (_ : Unit) (_ : Unit) => True) f3
    have q := put_ok (c := c.zp Z P) s3 (Rp.mono e3 _ _ r2) r3 (Rp.mono e3 _ _ (Rp.mono e2 _ _ r1)) fp
    have fin : ∀ H4, (∃ (ρ4 : List Addr) (G4 : Hd) (u : Unit), Ext (c.zp Z P) H3 ρ3 H4 ρ4 ∧ SR (c.zp Z P) H4 ρ4 G4 ∧ True ∧ Fin (c.zp Z P) (RF (c.zp Z P)) (.ok (.nx τ) G4) H4 ρ4 (endOf E)) → E.nx σ H4 := fun H4 ⟨ρ4, G4, u, e4, s4, _, f4⟩ => Fin.here (x := Fv.nx σ) f4 s4 (w3.ext e4)
    rcases q with ⟨p, xs, k, j, a1, a2, a3, a4, a5⟩ | ⟨a, H4, a1, a2, a3⟩
    · exact .inl ⟨p, xs, k, j, a1, a2, a3, a4, fin _ a5⟩
    · exact .inr ⟨a, H4, a1, a2, fin _ a3⟩
theorem ss_aug (ok : XOk Φ fns cons X c) {i : Nat} {x : Str} {e : Expr} {m : ME} {p : Pos} (o : BOp) (ho : o = .add ∨ o = .sub ∨ o = .mul) (hi : X.N[i]? = some x) (hx : Loc X.env.scope x) (hf : X.fn x = true ∨ X.env.scope.names.lookup x = some .local) (h : PE X e (low c (evE Φ c.b m))) :
    PS X (.AugAssign (.Name x p) (opPy o) e pos) (lowS c (evS Φ c.b (.aug i o m))) := by
  have hop : PIp X (opPy o) (fun x y H Q => ∃ i j, x = .int i ∧ y = .int j ∧ (match o with
    | .add => Q (.int (i + j)) H
    | .sub => Q (.int (i - j)) H
    | .mul => mulOk i j = true ∧ Q (.int (i * j)) H
    | _ => False)) := by
    rcases ho with rfl | rfl | rfl
    · exact ip_add
    · exact ip_sub
    · intro pins s σ H x y v u Q I r1 r2 ⟨i, j, e1, e2, hm, q⟩
      subst e1; subst e2
      obtain ⟨t, rfl⟩ := r1
      obtain ⟨t', rfl⟩ := r2
      exact imul_int ⟨.int _, H, I.tok _, ⟨_, rfl⟩, q⟩ (mulOk_ok hm)
  refine (ps_aug ok.nd hi hx h hop hf).weak fun E σ H ⟨Z, P, ρ, G, τ, s, w, f⟩ => ?_
  rw [evS] at f
  cases g : τ[i]? with
  | none => simp only [g] at f; exact f.elim
  | some o1 =>
    cases o1 with
    | none => simp only [g] at f; exact f.elim
    | some d =>
      cases d with
      | int a =>
        simp only [g] at f
        obtain ⟨v, hv, rv⟩ := w.val i _ g
        have rv : v = .int a := rv
        subst rv
        refine ⟨.int a, hv, Z, P, ρ, G, τ, s, w, (Fin.then (R := Rp (c.zp Z P)) f).mono fun y H1 ⟨ρ1, G1, d, e1, s1, r1, f1⟩ => ?_⟩
        cases d with
        | int b =>
          simp only at f1
          obtain ⟨fl, ef, f1⟩ := f1.lift
          obtain ⟨z, e2, rfl⟩ := map_some ef
          refine ⟨a, b, rfl, r1, ?_⟩
          rcases ho with rfl | rfl | rfl
          · cases e2
            exact Fin.here (x := Fv.nx _) f1 s1 ((w.ext e1).set i (d := .int (a + b)) rfl)
          · cases e2
            exact Fin.here (x := Fv.nx _) f1 s1 ((w.ext e1).set i (d := .int (a - b)) rfl)
          · obtain ⟨hm, rfl⟩ := ite_some e2
            exact ⟨hm, Fin.here (x := Fv.nx _) f1 s1 ((w.ext e1).set i (d := .int (a * b)) rfl)⟩
        | _ => exact f1.elim
      | _ => simp only [g] at f; exact f.elim

/-! ### dict displays -/
theorem sf_dct0 : PE X (.Dict [] [] pos) (lowFr c (evE Φ c.b (.dct .nil))) := pe_dnewK.weak fun σ H Q ⟨Z, P, ρ, G, τ, s, w, f⟩ => by
  rw [evE, evEs] at f
  obtain ⟨o, eo, f⟩ := f
  cases eo
  intro p hp
  exact newFr (o := .dct [] []) s Ext.refl hp ⟨[], upd_same, rfl, .nil⟩ f
/-- keys and values in turn -/
inductive KVs (Φ : Fn) (X : Cx) (c : C) : List (Option Expr) → List Expr → MEs → Prop where
  | nil : KVs Φ X c [] [] .nil
  | cons {k v : Expr} {ks : List (Option Expr)} {vs : List Expr} {mk mv : ME} {ms : MEs} (hk : PE X k (low c (evE Φ c.b mk))) (hv : PE X v (low c (evE Φ c.b mv))) (r : KVs Φ X c ks vs ms) : KVs Φ X c (some k :: ks) (v :: vs) (.cons mk (.cons mv ms))
def trsOf (Φ : Fn) (c : C) : MEs → List (TE × TE)
  | .cons k (.cons v r) => (low c (evE Φ c.b k), low c (evE Φ c.b v)) :: trsOf Φ c r
  | _ => []
theorem KVs.pps {ks : List (Option Expr)} {vs : List Expr} {ms : MEs} (h : KVs Φ X c ks vs ms) : PPs X pos ks vs (trsOf Φ c ms) := by
  induction h with
  | nil => exact pps_nil
  | cons hk hv _ ih => exact pps_cons hk hv ih
theorem KVs.lens {ks : List (Option Expr)} {vs : List Expr} {ms : MEs} (h : KVs Φ X c ks vs ms) : ks.length = vs.length ∧ (ks.all fun x => x.isSome) = true := by
  induction h with
  | nil => exact ⟨rfl, rfl⟩
  | cons hk hv _ ih => exact ⟨by simp [ih.1], by simp only [List.all_cons, Option.isSome_some, Bool.true_and]; exact ih.2⟩
/-- the pairs of a display -/
def pairsD : List D → Option (List (D × D))
  | k :: v :: r => if keyD k then (pairsD r).map ((k, v) :: ·) else none
  | [] => some []
  | _ => none
theorem dispD_pairs : ∀ (ds : List D) (acc : List D × List D), dispD ds acc = (pairsD ds).map fun ps => ps.foldl (fun a p => dictPut a.1 a.2 p.1 p.2) acc
  | [], acc => rfl
  | [_], acc => rfl
  | k :: v :: r, acc => by
    unfold dispD pairsD
    split
    · rw [dispD_pairs r]
      cases pairsD r <;> rfl
    · rfl
theorem tPairs_ok {Z : List Addr} {P : Nat → Prop} {σ : L2.St} {τ : Tau} : ∀ {ms : MEs} {ks : List (Option Expr)} {vs : List Expr}, KVs Φ X c ks vs ms → ∀ {H : Hp} {ρ : List Addr} {G : Hd} {Q : List (V × V) → Hp → Prop}, SR (c.zp Z P) H ρ G → EnvR (c.zp Z P) H ρ σ τ →
    Fin (c.zp Z P) (Rps (c.zp Z P)) (evEs Φ c.b ms τ G) H ρ (fun us H' => ∀ ps, us = ps.flatMap (fun p => [p.1, p.2]) → Q ps H') → tPairs (trsOf Φ c ms) σ H Q := by
  intro ms ks vs h
  induction h with
  | nil =>
    intro H ρ G Q s w f
    rw [evEs] at f
    exact f.here s .nil [] rfl
  | @cons k v ks vs mk mv ms hk hv _ ih =>
    intro H ρ G Q s w f
    rw [evEs] at f
    refine ⟨Z, P, ρ, G, τ, s, w, (Fin.then (R := Rp (c.zp Z P)) f).mono fun x H1 ⟨ρ1, G1, d, e1, s1, r1, f1⟩ => ?_⟩
    rw [evEs, then_assoc] at f1
    refine ⟨Z, P, ρ1, G1, τ, s1, w.ext e1, (Fin.then (R := Rp (c.zp Z P)) f1).mono fun y H2 ⟨ρ2, G2, d2, e2, s2, r2, f2⟩ => ?_⟩
    refine ih s2 ((w.ext e1).ext e2) ?_
    rw [then_assoc] at f2
    refine (Fin.then (R := Rps (c.zp Z P)) f2).mono fun us H3 ⟨ρ3, G3, ds, e3, s3, r3, f3⟩ => ?_
    intro ps hps
    simp only [Out.then_ok] at f3
    exact f3.here s3 (.cons (Rp.mono e3 _ _ (Rp.mono e2 _ _ r1)) (.cons (Rp.mono e3 _ _ r2) r3)) ((x, y) :: ps) (by rw [hps]; rfl)
theorem flat_pairs {c : C} {H : Hp} {ρ : List Addr} : ∀ {ds : List D} {us : List V} {qs : List (D × D)}, Rps c H ρ ds us → pairsD ds = some qs → ∃ kvs : List (Key × V), us = (kvs.map fun kv => (kV kv.1, kv.2)).flatMap (fun p => [p.1, p.2]) ∧ qs.map (·.1) = kvs.map (fun p => kD p.1) ∧ Rps c H ρ (qs.map (·.2)) (kvs.map (·.2)) ∧ qs.length = kvs.length
  | [], us, qs, r, e => by
    cases e
    exact ⟨[], r.of_nil, rfl, .nil, rfl⟩
  | [_], us, qs, r, e => by cases e
  | k :: v :: ds, us, qs, r, e => by
    have e : (if keyD k then (pairsD ds).map ((k, v) :: ·) else none) = some qs := by rw [pairsD] at e; exact e
    by_cases hk : keyD k = true
    · rw [if_pos hk] at e
      obtain ⟨q2, e2, rfl⟩ := map_some e
      obtain ⟨x, r1, rfl, rk, t⟩ := r.of_cons
      obtain ⟨y, r2, rfl, rv, t2⟩ := t.of_cons
      obtain ⟨kvs, h1, h2, h3, h4⟩ := flat_pairs t2 e2
      obtain ⟨kk, rfl, rfl⟩ := key_of hk rk
      refine ⟨(kk, y) :: kvs, ?_, ?_, ?_, ?_⟩
      · rw [h1]; rfl
      · rw [List.map_cons, List.map_cons, h2]
      · exact .cons rv h3
      · rw [List.length_cons, List.length_cons, h4]
    · rw [if_neg hk] at e
      cases e
theorem merge_of {c : C} {H : Hp} {ρ : List Addr} : ∀ {qs : List (D × D)} {kvs : List (Key × V)} {acc : List D × List D} {kacc : List (Key × V)}, qs.map (·.1) = kvs.map (fun p => kD p.1) → Rps c H ρ (qs.map (·.2)) (kvs.map (·.2)) → acc.1 = kacc.map (fun p => kD p.1) → Rps c H ρ acc.2 (kacc.map (·.2)) →
    (qs.foldl (fun a p => dictPut a.1 a.2 p.1 p.2) acc).1 = (mergeK kacc kvs).map (fun p => kD p.1) ∧ Rps c H ρ (qs.foldl (fun a p => dictPut a.1 a.2 p.1 p.2) acc).2 ((mergeK kacc kvs).map (·.2))
  | [], [], acc, kacc, _, _, h1, h2 => ⟨h1, h2⟩
  | [], _ :: _, acc, kacc, h, _, _, _ => by simp at h
  | _ :: _, [], acc, kacc, h, _, _, _ => by simp at h
  | (k, v) :: qs, (kk, w) :: kvs, (a1, a2), kacc, h, r, h1, h2 => by
    simp only [List.map_cons, List.cons.injEq] at h
    obtain ⟨rfl, h⟩ := h
    obtain ⟨w', r', e, rv, rt⟩ := r.of_cons
    simp only [List.map_cons, List.cons.injEq] at e
    obtain ⟨rfl, rfl⟩ := e
    have h1 : a1 = kacc.map (fun p => kD p.1) := h1
    subst h1
    have p := put_of (k := kk) rv h2
    exact merge_of (acc := dictPut (kacc.map fun p => kD p.1) a2 (kD kk) v) (kacc := putK kacc kk w) h rt p.1 p.2
theorem apart_same {c : C} {H H2 : Hp} {ρ ρ2 : List Addr} {G : Hd} {p : Addr} {o o2 : HO} (s : SR c H ρ G) (hp : H p = none) (hz : p ∉ c.Z) (e : Ext (c.and p) (upd H p o) ρ H2 ρ2) (h2 : H2 p = some o2) (nt : ∀ xs, ¬ Rd H2 p (.tup xs)) : Ext c H ρ H2 ρ2 := by
  have e2 : Ext c H ρ (upd H2 p o2) ρ2 := Ext.apart hp (fun b hb => (s.zs b hb).2) nt e.toExt0 fun b hb => (e.zs b (List.mem_cons_of_mem _ hb)).trans (upd_ne (fun z : b = p => hz (z ▸ hb)))
  have eH : upd H2 p o2 = H2 := by
    funext b
    by_cases hb : b = p
    · rw [hb, upd_same, h2]
    · rw [upd_ne hb]
  rw [eH] at e2
  exact e2
theorem flat_inj : ∀ {ps qs : List (V × V)}, ps.flatMap (fun p => [p.1, p.2]) = qs.flatMap (fun p => [p.1, p.2]) → ps = qs
  | [], [], _ => rfl
  | [], (_, _) :: _, h => by simp at h
  | (_, _) :: _, [], h => by simp at h
  | (a, b) :: ps, (a', b') :: qs, h => by
    simp only [List.flatMap_cons, List.cons_append, List.nil_append, List.cons.injEq] at h
    obtain ⟨rfl, rfl, h⟩ := h
    rw [flat_inj h]
theorem pairs_len : ∀ {ds : List D} {qs : List (D × D)}, pairsD ds = some qs → ds.length = 2 * qs.length
  | [], qs, e => by cases e; rfl
  | [_], qs, e => by cases e
  | k :: v :: ds, qs, e => by
    have e : (if keyD k then (pairsD ds).map ((k, v) :: ·) else none) = some qs := by rw [pairsD] at e; exact e
    by_cases hk : keyD k = true
    · rw [if_pos hk] at e
      obtain ⟨q2, e2, rfl⟩ := map_some e
      have := pairs_len e2
      simp only [List.length_cons]
      omega
    · rw [if_neg hk] at e
      cases e
theorem KVs.lens2 {ks : List (Option Expr)} {vs : List Expr} {ms : MEs} (h : KVs Φ X c ks vs ms) : ms.length = 2 * ks.length := by
  induction h with
  | nil => rfl
  | cons hk hv _ ih => simp only [MEs.length, List.length_cons]; omega
theorem of_dct {ms : MEs} (τ : Tau) (G : Hd) (d : D) (G' : Hd) (h : evE Φ c.b (.dct ms) τ G = .ok d G') : ∃ o, objOf d = some o := by
  rw [evE] at h
  cases g : evEs Φ c.b ms τ G with
  | exc _ _ => rw [g] at h; cases h
  | bad => rw [g] at h; cases h
  | ok ds G1 =>
    rw [g] at h
    simp only [Out.then_ok] at h
    cases g2 : dispD ds ([], []) with
    | none => rw [g2] at h; cases h
    | some q => rw [g2] at h; cases h; exact ⟨_, rfl⟩
theorem sf_dct {ks : List (Option Expr)} {vs : List Expr} {ms : MEs} (h : KVs Φ X c ks vs ms) (hne : ks ≠ []) (hl : ks.length ≤ 15) : PE X (.Dict ks vs pos) (lowFr c (evE Φ c.b (.dct ms))) := by
  refine (pe_disp (KVs.pps h) (KVs.lens h).2 (KVs.lens h).1 hne hl).weak fun σ H0 Q ⟨Z, P, ρ0, G0, τ, s0, w0, f⟩ => ?_
  have f : Fr (c.zp Z P) (evE Φ c.b (.dct ms) τ G0) H0 ρ0 Q := f
  rw [evE] at f
  intro p hp
  have hpZ : p ∉ Z := fun z => (s0.zs p z).2 hp
  have sp := s0.and (o := .dK []) hp
  have wp : EnvR ((c.zp Z P).and p) (upd H0 p (.dK [])) ρ0 σ τ := w0.map fun d v => Rp.and hp (s0.ext hp) d v
  refine tPairs_ok (Z := p :: Z) (P := P) h sp wp ?_
  cases g : evEs Φ c.b ms τ G0 with
  | exc e G' =>
    rw [g] at f
    intro H' ρ' e' s'
    have e' : Ext ((c.zp Z P).and p) (upd H0 p (.dK [])) ρ0 H' ρ' := e'
    have hp1 : H' p = some (.dK []) := (e'.zs p List.mem_cons_self).trans upd_same
    have s' : SR ((c.zp Z P).and p) H' ρ' G' := s'
    exact f H' ρ' (apart_same s0 hp hpZ e' hp1 fun xs z => by rcases z with z | ⟨_, z⟩ <;> (rw [hp1] at z; cases z)) s'.off
  | bad => rw [g] at f; exact f
  | ok ds G1 =>
    rw [g] at f
    simp only [Out.then_ok] at f
    intro us H1 ρ1 e1 s1 r1 ps hps
    have e1 : Ext ((c.zp Z P).and p) (upd H0 p (.dK [])) ρ0 H1 ρ1 := e1
    have hp1 : H1 p = some (.dK []) := (e1.zs p List.mem_cons_self).trans upd_same
    refine ⟨hp1, ?_⟩
    rw [dispD_pairs] at f
    cases g2 : pairsD ds with
    | none => rw [g2] at f; exact f.elim
    | some qs =>
      rw [g2] at f
      obtain ⟨o, eo, f⟩ := f
      cases eo
      obtain ⟨kvs, h1, h2, h3, h4⟩ := flat_pairs r1 g2
      have eps : ps = kvs.map fun kv => (kV kv.1, kv.2) := flat_inj (hps.symm.trans h1)
      have nt : ∀ xs, ¬ Rd H1 p (.tup xs) := fun xs z => by rcases z with z | ⟨_, z⟩ <;> (rw [hp1] at z; cases z)
      have hlen : kvs.length ≤ 15 := by
        have a1 := evEs_len g
        have a2 := KVs.lens2 h
        have a3 := pairs_len g2
        omega
      refine ⟨kvs, eps, hlen, f p _ ρ1 (Ext.apart hp (fun b hb => (s0.zs b hb).2) nt e1.toExt0 fun b hb => ?_) hp (SR.setZ (c := c.zp Z P) s1 hp1 nt) ⟨mergeK [] kvs, upd_same, ?_⟩⟩
      · exact (e1.zs b (List.mem_cons_of_mem _ hb)).trans (upd_ne (fun z : b = p => hpZ (z ▸ hb)))
      · have ex := Ext.setZ (c := c.zp Z P) (ρ := ρ1) (o' := .dK (mergeK [] kvs)) hp1 nt
        have h3' : Rps ((c.zp Z P).and p) (upd H1 p (.dK (mergeK [] kvs))) ρ1 (qs.map (·.2)) (kvs.map (·.2)) := Rps.mono0 ex _ _ h3
        exact merge_of (acc := ([], [])) (kacc := []) h2 h3' rfl .nil
end
end U

set_option Elab.async false
set_option linter.all false
set_option maxRecDepth 100000
/-! UO: from the text's expressions to the small language. -/
namespace U
open PySem L2 PyProof.Rows

structure Sg where
  fns : List (Str × List Str)
  cons : List (Str × D)
  hints : List (Nat × Nat)

/-- the place of a name -/
def ixOf : List Str → Str → Option Nat
  | [], _ => none
  | y :: r, x => if y = x then some 0 else (ixOf r x).map (· + 1)
theorem ixOf_get : ∀ {N : List Str} {x : Str} {i : Nat}, ixOf N x = some i → N[i]? = some x
  | [], _, _, h => by cases h
  | y :: r, x, i, h => by
    unfold ixOf at h
    split at h
    · rename_i e
      cases h
      rw [e]
      rfl
    · obtain ⟨j, h1, rfl⟩ := map_some h
      have ih := ixOf_get h1
      simpa using ih

def okName (x : Str) : Bool := !(x == ("__debug__" : Str)) && !(x == ("__classdict__" : Str)) && !(x == ("__name__" : Str))
theorem okName_of {x : Str} (h : okName x = true) : (x == ("__debug__" : Str)) = false ∧ (x == ("__classdict__" : Str)) = false ∧ x ≠ ("__name__" : Str) := by
  unfold okName at h
  simp only [Bool.and_eq_true, Bool.not_eq_true'] at h
  exact ⟨h.1.1, h.1.2, beq_eq_false_iff_ne.mp h.2⟩
def isVis (nm : List (Str × NameKind)) (x : Str) : Bool := match nm.lookup x with
  | some .local => true
  | some .cell => true
  | some .free => true
  | _ => false
def isGl (nm : List (Str × NameKind)) (x : Str) : Bool := match nm.lookup x with
  | some .globalImplicit => true
  | _ => false
theorem vis_of {sc : Scope} {x : Str} (h : isVis sc.names x = true) : Vis sc x := by
  unfold isVis at h
  unfold Vis
  split at h
  · rename_i e; exact .inl e
  · rename_i e; exact .inr (.inl e)
  · rename_i e; exact .inr (.inr e)
  · cases h
theorem gl_of {X : Cx} {x : Str} (h : isGl X.env.scope.names x = true) : Gl X x := by
  unfold isGl at h
  unfold Gl Env.kindOf
  split at h
  · assumption
  · cases h
def tyName (x : Str) : Option String := ([("int", "int"), ("bool", "bool"), ("str", "str"), ("tuple", "tuple"), ("list", "list")] : List (Str × String)).lookup x
theorem tyName_ok {x : Str} {n : String} (h : tyName x = some n) : bootBuiltins x = some (.type n) ∧ x ∈ bltNames := by
  have m := lookup_mem h
  simp only [List.mem_cons, Prod.mk.injEq, List.not_mem_nil, or_false] at m
  rcases m with ⟨rfl, rfl⟩ | ⟨rfl, rfl⟩ | ⟨rfl, rfl⟩ | ⟨rfl, rfl⟩ | ⟨rfl, rfl⟩ <;> exact ⟨by decide +kernel, by decide +kernel⟩

def bopOf : Operator → Option BOp
  | .Add => some .add
  | .Sub => some .sub
  | .Mult => some .mul
  | .FloorDiv => some .fdiv
  | .Mod => some .mod
  | .Pow => some .pow
  | _ => none
theorem bopOf_ok {op : Operator} {o : BOp} (h : bopOf op = some o) : op = opPy o := by
  cases op <;> cases h <;> rfl
def copOf : CmpOp → COp
  | .Eq => .eq
  | .NotEq => .ne
  | .Lt => .lt
  | .LtE => .le
  | .Gt => .gt
  | .GtE => .ge
  | .Is => .isn
  | .IsNot => .notn
  | .In => .isin
  | .NotIn => .nin
theorem copOf_ok (op : CmpOp) : op = cmpPy (copOf op) := by cases op <;> rfl
/-- no display of a set behind in -/
def notSet : Expr → Bool
  | .Set .. => false
  | _ => true
theorem marks_of {op : CmpOp} {e : Expr} (h : notSet e = true) : behindInMarks op e = false := by
  cases e <;> first | rfl | cases h
theorem folded_of {e : Expr} {env : Env} (h : notSet e = true) (x : Value) : foldedSetIterable e env x = pure x := by
  cases e <;> first | rfl | cases h

structure OkE (Φ : Fn) (X : Cx) (c : C) (E : Expr → Option ME) (T : Expr → Option MB) : Prop where
  e : ∀ e m, E e = some m → PE X e (low c (evE Φ c.b m))
  t : ∀ e m, T e = some m → PT X e (lowT c (evT Φ c.b m))

def nameE (sg : Sg) (N : List Str) (nm : List (Str × NameKind)) (x : Str) : Option ME :=
  if okName x then
    if isVis nm x then (ixOf N x).map .var
    else if isGl nm x then match sg.cons.lookup x with
      | some d => some (.con d)
      | none => (tyName x).map fun n => .con (.ty n)
    else none
  else none
def constE : Const → Option ME
  | .int i => some (.con (.int i))
  | .bool b => some (.con (.bl b))
  | .none => some (.con .non)
  | .str x => some (.con (.str x))
  | _ => none
def cEs (E : Expr → Option ME) : List Expr → Option MEs
  | [] => some .nil
  | e :: es => if plainE e then (E e).bind fun m => (cEs E es).map fun ms => .cons m ms else none
def cKs (E : Expr → Option ME) : List Keyword → Option MEs
  | [] => some .nil
  | ⟨_, e, _⟩ :: r => (E e).bind fun m => (cKs E r).map fun ms => .cons m ms
def cKVs (E : Expr → Option ME) : List (Option Expr) → List Expr → Option MEs
  | [], [] => some .nil
  | some k :: ks, v :: vs => (E k).bind fun mk => (E v).bind fun mv => (cKVs E ks vs).map fun ms => .cons mk (.cons mv ms)
  | _, _ => none
def cO (E : Expr → Option ME) : Option Expr → Option MO
  | none => some .no
  | some e => (E e).map .yes
/-- and, or with more than two -/
def cBool (E : Expr → Option ME) (op : BoolOp) : List Expr → Option ME
  | [] => none
  | [a] => E a
  | a :: r => (E a).bind fun m => (cBool E op r).map fun n => match op with
    | .And => .and m n
    | .Or => .or m n
def cBoolT (T : Expr → Option MB) (op : BoolOp) : List Expr → Option MB
  | [] => none
  | [a] => T a
  | a :: r => (T a).bind fun m => (cBoolT T op r).map fun n => match op with
    | .And => .and m n
    | .Or => .or m n
def hinted (sg : Sg) (p : Pos) (m : ME) : ME := if sg.hints.contains (p.line, p.col) then .alloc m else m

section
variable {Φ : Fn} {sg : Sg} {N : List Str} {X : Cx} {c : C} {pos : Pos} {tg : Expr} {E : Expr → Option ME} {T : Expr → Option MB}
abbrev XO (Φ : Fn) (sg : Sg) (X : Cx) (c : C) : Prop := XOk Φ (fun x => sg.fns.lookup x) (fun x => sg.cons.lookup x) X c

theorem nameE_ok (ok : XO Φ sg X c) {x : Str} {m : ME} (h : nameE sg X.N X.env.scope.names x = some m) : PE X (.Name x pos) (low c (evE Φ c.b m)) := by
  unfold nameE at h
  by_cases hn : okName x = true
  · rw [if_pos hn] at h
    obtain ⟨n1, n2, n3⟩ := okName_of hn
    by_cases hv : isVis X.env.scope.names x = true
    · rw [if_pos hv] at h
      obtain ⟨i, hi, rfl⟩ := map_some h
      exact se_var (ixOf_get hi) (vis_of hv) n1 n2
    · rw [if_neg hv] at h
      by_cases hg : isGl X.env.scope.names x = true
      · rw [if_pos hg] at h
        cases e : sg.cons.lookup x with
        | some d =>
          rw [e] at h
          cases h
          exact se_glob ok (gl_of hg) e n1
        | none =>
          rw [e] at h
          obtain ⟨n, hn, rfl⟩ := map_some h
          obtain ⟨h1, h2⟩ := tyName_ok hn
          exact se_ty (gl_of hg) (ok.blt _ h2) h1 n3 n1
      · rw [if_neg hg] at h
        cases h
  · rw [if_neg hn] at h
    cases h
theorem constE_ok {k : Const} {j : Nat} {m : ME} (h : constE k = some m) : PE X (.Constant k j pos) (low c (evE Φ c.b m)) := by
  cases k with
  | int i => cases h; exact se_lit pe_int fun _ _ _ => rfl
  | bool i => cases h; exact se_lit pe_bl fun _ _ _ => rfl
  | none => cases h; exact se_lit pe_non fun _ _ _ => rfl
  | str i => cases h; exact se_lit pe_str fun _ _ _ => rfl
  | _ => cases h
theorem cEs_ok (o : OkE Φ X c E T) : ∀ {es : List Expr} {ms : MEs}, cEs E es = some ms → PA X es (lowA c (evEs Φ c.b ms)) ∧ es.all plainE = true ∧ ms.length = es.length
  | [], ms, h => by cases h; exact ⟨sa_nil, rfl, rfl⟩
  | e :: es, ms, h => by
    unfold cEs at h
    by_cases hp : plainE e = true
    · rw [if_pos hp] at h
      obtain ⟨m, h1, h2⟩ := bind_some h
      obtain ⟨ms', h3, rfl⟩ := map_some h2
      obtain ⟨a, b, d⟩ := cEs_ok o h3
      exact ⟨sa_cons (o.e e m h1) a (star_one hp), by rw [List.all_cons, hp, b]; rfl, by simp [MEs.length, d]⟩
    · rw [if_neg hp] at h
      cases h
theorem cKs_ok (o : OkE Φ X c E T) : ∀ {ks : List Keyword} {ms : MEs}, cKs E ks = some ms → PK X ks (lowA c (evEs Φ c.b ms)) ∧ ms.length = ks.length
  | [], ms, h => by cases h; exact ⟨sk_nil, rfl⟩
  | ⟨n, e, p⟩ :: es, ms, h => by
    unfold cKs at h
    obtain ⟨m, h1, h2⟩ := bind_some h
    obtain ⟨ms', h3, rfl⟩ := map_some h2
    obtain ⟨a, d⟩ := cKs_ok o h3
    exact ⟨sk_cons (o.e e m h1) a, by simp [MEs.length, d]⟩
theorem cKVs_ok (o : OkE Φ X c E T) : ∀ {ks : List (Option Expr)} {vs : List Expr} {ms : MEs}, cKVs E ks vs = some ms → KVs Φ X c ks vs ms
  | [], [], ms, h => by cases h; exact .nil
  | some k :: ks, v :: vs, ms, h => by
    unfold cKVs at h
    obtain ⟨mk, h1, h⟩ := bind_some h
    obtain ⟨mv, h2, h⟩ := bind_some h
    obtain ⟨ms', h3, rfl⟩ := map_some h
    exact .cons (o.e k mk h1) (o.e v mv h2) (cKVs_ok o h3)
  | [], _ :: _, _, h => by cases h
  | none :: _, [], _, h => by cases h
  | none :: _, _ :: _, _, h => by cases h
  | some _ :: _, [], _, h => by cases h
theorem cO_ok (o : OkE Φ X c E T) {e : Option Expr} {m : MO} (h : cO E e = some m) : PO X e (lowO c (evO Φ c.b m)) := by
  cases e with
  | none => cases h; exact so_no
  | some e =>
    obtain ⟨m', h1, rfl⟩ := map_some (show (E e).map MO.yes = some m from h)
    exact so_yes (o.e e m' h1)
theorem cBool_ok (o : OkE Φ X c E T) {op : BoolOp} : ∀ {es : List Expr} {m : ME}, cBool E op es = some m → PE X (.BoolOp op es pos) (low c (evE Φ c.b m))
  | [], m, h => by cases h
  | [a], m, h => pe_one (o.e a m h)
  | a :: b :: r, m, h => by
    unfold cBool at h
    obtain ⟨m1, h1, h⟩ := bind_some h
    obtain ⟨m2, h2, rfl⟩ := map_some h
    cases op with
    | And => exact se_and (o.e a m1 h1) (cBool_ok o h2)
    | Or => exact se_or (o.e a m1 h1) (cBool_ok o h2)
theorem cBoolT_ok (o : OkE Φ X c E T) {op : BoolOp} : ∀ {es : List Expr} {m : MB}, cBoolT T op es = some m → PW X (.BoolOp op es pos) (lowT c (evT Φ c.b m))
  | [], m, h => by cases h
  | [a], m, h => sw_one (o.t a m h)
  | a :: b :: r, m, h => by
    unfold cBoolT at h
    obtain ⟨m1, h1, h⟩ := bind_some h
    obtain ⟨m2, h2, rfl⟩ := map_some h
    cases op with
    | And => exact sw_and (o.t a m1 h1) (cBoolT_ok o h2)
    | Or => exact sw_or (o.t a m1 h1) (cBoolT_ok o h2)
theorem hinted_ok {e : Expr} {m : ME} {p : Pos} (h : PE X e (lowFr c (evE Φ c.b m))) (hf : ∀ τ G d G', evE Φ c.b m τ G = .ok d G' → ∃ o, objOf d = some o) : PE X e (low c (evE Φ c.b (hinted sg p m))) := by
  unfold hinted
  split
  · exact fr_alloc h
  · exact fr_low h hf
end

/-! ### targets -/
def cG (N : List Str) (nm : List (Str × NameKind)) : Nat → Expr → Option MT
  | _, .Name x _ => match nm.lookup x with
    | some .local => (ixOf N x).map .nam
    | some .cell => (ixOf N x).map .nam
    | _ => none
  | n + 1, .Tuple es _ _ => cGs (cG N nm n) es
  | _, _ => none
where cGs (f : Expr → Option MT) : List Expr → Option MT
  | [] => some .tp0
  | e :: es => if plainE e then (f e).bind fun m => (cGs f es).map fun r => .tpc m r else none
theorem asg_one {e : Expr} {es : List Expr} {env : Env} (h : plainE e = true) : assignEach (e :: es) env = (false, assign e env) :: assignEach es env := by
  cases e <;> first | rfl | cases h
section
variable {X : Cx} {N : List Str} {nm : List (Str × NameKind)}
theorem cGs_ok {f : Expr → Option MT} (hf : ∀ e m, f e = some m → PG X e (lowGK X.K m)) : ∀ {es : List Expr} {m : MT}, cG.cGs f es = some m → PGs X es (lowGs X.K m) ∧ isTup m = true ∧ (assignEach es X.env).length = lenT m ∧ (assignEach es X.env).findIdx? (·.1) = none
  | [], m, h => by cases h; exact ⟨sgs_nil, rfl, rfl, rfl⟩
  | e :: es, m, h => by
    unfold cG.cGs at h
    by_cases hp : plainE e = true
    · rw [if_pos hp] at h
      obtain ⟨m1, h1, h⟩ := bind_some h
      obtain ⟨m2, h2, rfl⟩ := map_some h
      obtain ⟨a, b, d, e'⟩ := cGs_ok hf h2
      refine ⟨sgs_cons (hf e m1 h1) a (by rw [asg_one hp]; rfl), b, ?_, ?_⟩
      · rw [asg_one hp, List.length_cons, d]; rfl
      · rw [asg_one hp, List.findIdx?_cons]
        simp only [Bool.false_eq_true, if_false]
        rw [e']
        rfl
    · rw [if_neg hp] at h
      cases h
theorem cG_ok (hc : X.calm = true) (nd : X.N.Nodup) (hN : X.N = N) (hst : ∀ x, (nm.lookup x = some .local ∨ nm.lookup x = some .cell) → Loc X.env.scope x ∧ (X.fn x = true ∨ X.env.scope.names.lookup x = some .local)) : ∀ {n : Nat} {e : Expr} {m : MT}, cG N nm n e = some m → PG X e (lowGK X.K m) := by
  intro n
  induction n with
  | zero =>
    intro e m h
    cases e with
    | Name x p =>
      unfold cG at h
      split at h
      · rename_i hl
        obtain ⟨i, hi, rfl⟩ := map_some h
        obtain ⟨a, b⟩ := hst x (.inl hl)
        exact sgk_name nd (hN ▸ ixOf_get hi) a b
      · rename_i hl
        obtain ⟨i, hi, rfl⟩ := map_some h
        obtain ⟨a, b⟩ := hst x (.inr hl)
        exact sgk_name nd (hN ▸ ixOf_get hi) a b
      · cases h
    | _ => cases h
  | succ n ih =>
    intro e m h
    cases e with
    | Name x p =>
      unfold cG at h
      split at h
      · rename_i hl
        obtain ⟨i, hi, rfl⟩ := map_some h
        obtain ⟨a, b⟩ := hst x (.inl hl)
        exact sgk_name nd (hN ▸ ixOf_get hi) a b
      · rename_i hl
        obtain ⟨i, hi, rfl⟩ := map_some h
        obtain ⟨a, b⟩ := hst x (.inr hl)
        exact sgk_name nd (hN ▸ ixOf_get hi) a b
      · cases h
    | Tuple es k p =>
      have h : cG.cGs (cG N nm n) es = some m := h
      obtain ⟨a, b, d, e'⟩ := cGs_ok (fun e m h => ih h) h
      exact sgk_tup hc a b d e'
    | _ => cases h
end
end U

set_option Elab.async false
set_option linter.all false
set_option maxRecDepth 100000
/-! UP: the compiler of expressions, and that it is right. -/
namespace U
open PySem L2 PyProof.Rows

def isTupE : Expr → Bool
  | .Tuple .. => true
  | _ => false
/-- what is walked -/
def cI (E : Expr → Option ME) (nm : List (Str × NameKind)) (tg : Expr) (it : Expr) : Option MI := match it with
  | .Call (.Name f _) [a] [] _ =>
    if f = ("range" : Str) then (if isGl nm f && plainE a then (E a).map .rng1 else none)
    else if f = ("enumerate" : Str) then (if isGl nm f && plainE a && isTupE tg then (E a).map .enum else none)
    else (E it).map .val
  | .Call (.Name f _) [a, b] [] _ =>
    if f = ("range" : Str) then (if isGl nm f && plainE a && plainE b then (E a).bind fun m => (E b).map fun n => .rng2 m n else none)
    else if f = ("zip" : Str) then (if isGl nm f && plainE a && plainE b && isTupE tg then (E a).bind fun m => (E b).map fun n => .zip m n else none)
    else (E it).map .val
  | _ => (E it).map .val

/-- own names of a block, with their places -/
def ownOf (N : List Str) : List (Str × NameKind) → List (Str × Nat)
  | [] => []
  | (n, k) :: r => match k with
    | .local => (match ixOf N n with | some i => (n, i) :: ownOf N r | none => ownOf N r)
    | .cell => (match ixOf N n with | some i => (n, i) :: ownOf N r | none => ownOf N r)
    | _ => ownOf N r
/-- a comprehension -/
def cLc (E : Expr → Option ME) (B : Scope → (Expr → Option ME) × (Expr → Option MB)) (N : List Str) (sc : Scope) (elt : Expr) (gs : List Comprehension) (scope : Scope) : Option ME := match gs with
  | [⟨tg, it, ifs, 0⟩] =>
    if notSet it && blkC N sc scope (ownOf N scope.names) then
      (cI E sc.names tg it).bind fun mi => (cG N scope.names 4 tg).bind fun t => ((B (relS scope sc)).1 elt).bind fun me =>
        let os := (ownOf N scope.names).map (·.2)
        if (slotsT t).all (fun i => os.contains i) then (match ifs with
          | [] => some (.lc me t mi .yes os)
          | [q] => ((B (relS scope sc)).2 q).map fun mc => .lc me t mi mc os
          | _ => none) else none
    else none
  | _ => none
/-- a call by a name -/
def cCall (sg : Sg) (E : Expr → Option ME) (nm : List (Str × NameKind)) (f : Str) (es : List Expr) (kws : List Keyword) (p : Pos) : Option ME :=
  if okName f && isGl nm f then match sg.fns.lookup f with
    | some ps => (cEs E es).bind fun ms => (cKs E kws).bind fun mk => (kwNames kws).bind fun ks =>
      if ms.length + mk.length = ps.length ∧ ps.drop ms.length = ks then some (.call f (ms.app mk)) else none
    | none => match kws with
      | [] => (biName f).bind fun o => match es with
        | [] => none
        | _ => (cEs E es).map fun ms => match o with
          | .list => hinted sg p (.bi .list ms)
          | o => .bi o ms
      | _ => none
  else none
def cMeth (E : Expr → Option ME) (o : Expr) (m : Str) (apos : Pos) (es : List Expr) (pos : Pos) : Option ME :=
  if notSuper o && (apos.endLine == pos.line) then match es with
    | [a] => if m = ("append" : Str) then (if plainE a then (E o).bind fun mo => (E a).map fun ma => .append mo ma else none) else none
    | [a, b] => if m = ("get" : Str) then (if plainE a && plainE b then (E o).bind fun mo => (E a).bind fun ma => (E b).map fun mb => .get mo ma mb else none) else none
    | _ => none
  else none
def isSlice : Expr → Bool
  | .Slice .. => true
  | _ => false
def cSub (E : Expr → Option ME) (a i : Expr) : Option ME := match i with
  | .Slice lo hi none _ => (E a).bind fun ma => (cO E lo).bind fun ml => (cO E hi).map fun mh => .sl ma ml mh
  | i => if isSlice i then none else (E a).bind fun ma => (E i).map fun mi => .ix ma mi
def cCmp (E : Expr → Option ME) (a : Expr) : List CmpOp → List Expr → Option ME
  | [o], [b] => if notSet b then (E a).bind fun ma => (E b).map fun mb => .cmp (copOf o) ma mb else none
  | [o, p], [b, d] => if notSet b && notSet d then (E a).bind fun ma => (E b).bind fun mb => (E d).map fun md => .chain (copOf o) (copOf p) ma mb md else none
  | _, _ => none
def stepE (sg : Sg) (N : List Str) (sc : Scope) (E : Expr → Option ME) (T : Expr → Option MB) (B : Scope → (Expr → Option ME) × (Expr → Option MB)) : Expr → Option ME
  | .Constant k _ _ => constE k
  | .Name x _ => nameE sg N sc.names x
  | .Tuple es _ _ => (cEs E es).bind fun ms => if ms.length ≤ 1000 then some (.tup ms) else none
  | .List es p => (cEs E es).bind fun ms => if ms.length ≤ 1000 then some (hinted sg p (.lst ms)) else none
  | .Dict ks vs p => if ks.length ≤ 15 then (cKVs E ks vs).map fun ms => hinted sg p (.dct ms) else none
  | .BinOp a o b _ => (bopOf o).bind fun o => (E a).bind fun m => (E b).map fun n => .bin o m n
  | .UnaryOp .USub a _ => (E a).map .neg
  | .UnaryOp .Not a _ => (E a).map .not
  | .BoolOp o es _ => cBool E o es
  | .IfExp t a b _ => (T t).bind fun mt => (E a).bind fun m => (E b).map fun n => .ifx mt m n
  | .Compare a os bs _ => cCmp E a os bs
  | .Subscript a i _ => cSub E a i
  | .Call (.Name f _) es kws p => cCall sg E sc.names f es kws p
  | .Call (.Attribute o m apos) es [] p => cMeth E o m apos es p
  | .ListComp elt gs scope p => (cLc E B N sc elt gs scope).map (hinted sg p)
  | _ => none
def stepT (E : Expr → Option ME) (T : Expr → Option MB) : Expr → Option MB
  | .UnaryOp .Not a _ => (T a).map .not
  | .BoolOp o es _ => cBoolT T o es
  | .IfExp .. => none
  | .Compare a os bs _ => (cCmp E a os bs).map .val
  | e => (E e).map .val
/-- n deep -/
def cmp (sg : Sg) (N : List Str) : Nat → Scope → (Expr → Option ME) × (Expr → Option MB)
  | 0, _ => (fun _ => none, fun _ => none)
  | n + 1, sc => (stepE sg N sc (cmp sg N n sc).1 (cmp sg N n sc).2 (cmp sg N n), stepT (stepE sg N sc (cmp sg N n sc).1 (cmp sg N n sc).2 (cmp sg N n)) (cmp sg N n sc).2)

section
variable {Φ : Fn} {sg : Sg} {N : List Str} {X : Cx} {c : C} {pos : Pos} {tg : Expr} {E : Expr → Option ME} {T : Expr → Option MB}

theorem cI_ok (ok : XO Φ sg X c) (o : OkE Φ X c E T) {it : Expr} {mi : MI} (h : cI E X.env.scope.names tg it = some mi) : PI X tg it (lowI c (evI Φ c.b mi)) := by
  have dflt : ∀ {mi : MI}, (E it).map MI.val = some mi → PI X tg it (lowI c (evI Φ c.b mi)) := fun h => by
    obtain ⟨m, h1, rfl⟩ := map_some h
    exact si_val ok (o.e it m h1)
  unfold cI at h
  split at h
  · rename_i f p a p2
    by_cases hf : f = ("range" : Str)
    · rw [if_pos hf] at h
      obtain ⟨hp, h⟩ : (isGl X.env.scope.names f && plainE a) = true ∧ (E a).map MI.rng1 = some mi := by
        split at h
        · exact ⟨by assumption, h⟩
        · cases h
      rw [Bool.and_eq_true] at hp
      obtain ⟨m, h1, rfl⟩ := map_some h
      subst hf
      exact si_rng1 ok (gl_of hp.1) (o.e a m h1) hp.2
    · rw [if_neg hf] at h
      by_cases hf : f = ("enumerate" : Str)
      · rw [if_pos hf] at h
        obtain ⟨hp, h⟩ : (isGl X.env.scope.names f && plainE a && isTupE tg) = true ∧ (E a).map MI.enum = some mi := by
          split at h
          · exact ⟨by assumption, h⟩
          · cases h
        rw [Bool.and_eq_true, Bool.and_eq_true] at hp
        obtain ⟨m, h1, rfl⟩ := map_some h
        subst hf
        cases tg with
        | Tuple es k tp => exact si_enum ok (gl_of hp.1.1) (o.e a m h1) hp.1.2
        | _ => cases hp.2
      · rw [if_neg hf] at h
        exact dflt h
  · rename_i f p a b p2
    by_cases hf : f = ("range" : Str)
    · rw [if_pos hf] at h
      obtain ⟨hp, h⟩ : (isGl X.env.scope.names f && plainE a && plainE b) = true ∧ ((E a).bind fun m => (E b).map fun n => MI.rng2 m n) = some mi := by
        split at h
        · exact ⟨by assumption, h⟩
        · cases h
      rw [Bool.and_eq_true, Bool.and_eq_true] at hp
      obtain ⟨m, h1, h⟩ := bind_some h
      obtain ⟨n, h2, rfl⟩ := map_some h
      subst hf
      exact si_rng2 ok (gl_of hp.1.1) (o.e a m h1) (o.e b n h2) hp.1.2 hp.2
    · rw [if_neg hf] at h
      by_cases hf : f = ("zip" : Str)
      · rw [if_pos hf] at h
        obtain ⟨hp, h⟩ : (isGl X.env.scope.names f && plainE a && plainE b && isTupE tg) = true ∧ ((E a).bind fun m => (E b).map fun n => MI.zip m n) = some mi := by
          split at h
          · exact ⟨by assumption, h⟩
          · cases h
        rw [Bool.and_eq_true, Bool.and_eq_true, Bool.and_eq_true] at hp
        obtain ⟨m, h1, h⟩ := bind_some h
        obtain ⟨n, h2, rfl⟩ := map_some h
        subst hf
        cases tg with
        | Tuple es k tp => exact si_zip ok (gl_of hp.1.1.1) (o.e a m h1) (o.e b n h2) hp.1.1.2 hp.1.2
        | _ => cases hp.2
      · rw [if_neg hf] at h
        exact dflt h
  · exact dflt h
theorem cCmp_ok (ok : XO Φ sg X c) (o : OkE Φ X c E T) {a : Expr} {os : List CmpOp} {bs : List Expr} {m : ME} (h : cCmp E a os bs = some m) : PE X (.Compare a os bs pos) (low c (evE Φ c.b m)) ∧ PT X (.Compare a os bs pos) (lowT c (evT Φ c.b (.val m))) := by
  unfold cCmp at h
  split at h
  · rename_i op b
    split at h
    · rename_i hs
      obtain ⟨ma, h1, h⟩ := bind_some h
      obtain ⟨mb, h2, rfl⟩ := map_some h
      rw [show [op] = [cmpPy (copOf op)] by rw [← copOf_ok]]
      exact ⟨se_cmp ok (o.e a ma h1) (o.e b mb h2) (marks_of hs), st_cmp ok (o.e a ma h1) (o.e b mb h2) (marks_of hs)⟩
    · cases h
  · rename_i op op2 b d
    split at h
    · rename_i hs
      rw [Bool.and_eq_true] at hs
      obtain ⟨ma, h1, h⟩ := bind_some h
      obtain ⟨mb, h2, h⟩ := bind_some h
      obtain ⟨md, h3, rfl⟩ := map_some h
      rw [show [op, op2] = [cmpPy (copOf op), cmpPy (copOf op2)] by rw [← copOf_ok, ← copOf_ok]]
      have hm : lastMarks [cmpPy (copOf op), cmpPy (copOf op2)] [b, d] = false := by
        unfold lastMarks lastMarks
        exact marks_of hs.2
      exact ⟨se_chain ok (o.e a ma h1) (o.e b mb h2) (o.e d md h3) hm, st_chain ok (o.e a ma h1) (o.e b mb h2) (o.e d md h3) hm⟩
    · cases h
  · cases h
theorem plainIx {i : Expr} (h : isSlice i = false) : PlainIx i := by
  intro o j
  cases i <;> first | rfl | cases h
theorem cSub_ok (ok : XO Φ sg X c) (o : OkE Φ X c E T) {a i : Expr} {m : ME} (h : cSub E a i = some m) : PE X (.Subscript a i pos) (low c (evE Φ c.b m)) := by
  unfold cSub at h
  split at h
  · obtain ⟨ma, h1, h⟩ := bind_some h
    obtain ⟨ml, h2, h⟩ := bind_some h
    obtain ⟨mh, h3, rfl⟩ := map_some h
    exact se_sl ok (o.e a ma h1) (cO_ok o h2) (cO_ok o h3)
  · split at h
    · cases h
    · rename_i hs
      obtain ⟨ma, h1, h⟩ := bind_some h
      obtain ⟨mi, h2, rfl⟩ := map_some h
      exact se_ix ok (o.e a ma h1) (o.e i mi h2) (plainIx (by simpa using hs))
theorem cMeth_ok (ok : XO Φ sg X c) (o : OkE Φ X c E T) {ob : Expr} {mn : Str} {apos : Pos} {es : List Expr} {m : ME} (h : cMeth E ob mn apos es pos = some m) : PE X (.Call (.Attribute ob mn apos) es [] pos) (low c (evE Φ c.b m)) := by
  unfold cMeth at h
  split at h
  · rename_i hs
    rw [Bool.and_eq_true] at hs
    split at h
    · rename_i a
      split at h
      · rename_i e
        subst e
        split at h
        · rename_i hp
          obtain ⟨mo, h1, h⟩ := bind_some h
          obtain ⟨ma, h2, rfl⟩ := map_some h
          exact se_append ok (o.e ob mo h1) (o.e a ma h2) hs.1 hp hs.2
        · cases h
      · cases h
    · rename_i a b
      split at h
      · rename_i e
        subst e
        split at h
        · rename_i hp
          rw [Bool.and_eq_true] at hp
          obtain ⟨mo, h1, h⟩ := bind_some h
          obtain ⟨ma, h2, h⟩ := bind_some h
          obtain ⟨mb, h3, rfl⟩ := map_some h
          exact se_get ok (o.e ob mo h1) (o.e a ma h2) (o.e b mb h3) hs.1 hp.1 hp.2 hs.2
        · cases h
      · cases h
    · cases h
  · cases h
theorem app_nil : ∀ ms : MEs, ms.app .nil = ms
  | .nil => rfl
  | .cons e r => by simp [MEs.app, app_nil r]
theorem cCall_ok (ok : XO Φ sg X c) (o : OkE Φ X c E T) {f : Str} {p : Pos} {es : List Expr} {kws : List Keyword} {m : ME} (h : cCall sg E X.env.scope.names f es kws pos = some m) : PE X (.Call (.Name f p) es kws pos) (low c (evE Φ c.b m)) := by
  unfold cCall at h
  split at h
  · rename_i hs
    rw [Bool.and_eq_true] at hs
    obtain ⟨n1, n2, n3⟩ := okName_of hs.1
    have hg := gl_of hs.2
    split at h
    · rename_i ps hps
      obtain ⟨ms, h1, h⟩ := bind_some h
      obtain ⟨mk, h2, h⟩ := bind_some h
      obtain ⟨ks, h3, h⟩ := bind_some h
      obtain ⟨⟨hl, hd⟩, rfl⟩ := ite_some h
      obtain ⟨a1, a2, a3⟩ := cEs_ok o h1
      obtain ⟨b1, b2⟩ := cKs_ok o h2
      have hf : (fun x => sg.fns.lookup x) f = some ps := hps
      cases kws with
      | nil =>
        cases h2
        have el : ms.length = ps.length := by simpa [MEs.length] using hl
        rw [app_nil]
        cases es with
        | nil =>
          cases h1
          have e0 : ps = [] := List.eq_nil_of_length_eq_zero el.symm
          subst e0
          exact se_call0 ok hg hf n1
        | cons e es => exact se_call ok hg hf el n1 a1 a2
      | cons k kws =>
        cases es with
        | nil =>
          cases h1
          have e0 : ps = ks := by simpa [MEs.length] using hd
          subst e0
          show PE X _ (low c (evE Φ c.b (.call f mk)))
          exact se_callk0 ok hg hf h3 n1 b1 b2
        | cons e es => exact se_callk ok hg hf h3 n1 a1 a2 b1 (by omega) hd b2
    · rename_i hps
      split at h
      · obtain ⟨bo, h1, h⟩ := bind_some h
        split at h
        · cases h
        · rename_i hne
          obtain ⟨ms, h2, rfl⟩ := map_some h
          obtain ⟨a1, a2, a3⟩ := cEs_ok o h2
          cases es with
          | nil => exact absurd rfl (hne)
          | cons e es =>
            cases bo with
            | list => exact hinted_ok (sf_list ok h1 hg a1 a2) of_list
            | _ => exact se_bi ok h1 hg a1 a2
      · cases h
  · cases h
end
end U

set_option Elab.async false
set_option linter.all false
set_option maxRecDepth 100000
/-! UQ: that the compiler of expressions is right. -/
namespace U
open PySem L2 PyProof.Rows
section
variable {Φ : Fn} {sg : Sg} {N : List Str} {X : Cx} {c : C} {pos : Pos} {tg : Expr} {E : Expr → Option ME} {T : Expr → Option MB}

theorem XO.blk (ok : XO Φ sg X c) {scope : Scope} (hk : scope.kind = .function) (s : Shared) (H : Hp) (C : Addr) (cl : List (Str × Addr)) (fp : List Addr) : XO Φ sg (X.blk s H scope (compEnvC scope cl C X.env) fp) c.nox where
  K := ok.K
  mg := ok.mg
  calm := ok.calm
  units := ok.units
  nd := ok.nd
  kind := hk
  con := ok.con
  blt := ok.blt
  fn := ok.fn
  tk := fun u s' ⟨a, B, sI, pins, σ, H, cls, d, e, I, nb, up, sky, na, os, ag, w⟩ => by
    obtain ⟨_, _, _, _, _, z⟩ := w
    exact z.elim
  own := PassesOwn.never
theorem blk_scope {scope : Scope} (s : Shared) (H : Hp) (C : Addr) (cl : List (Str × Addr)) (fp : List Addr) : (X.blk s H scope (compEnvC scope cl C X.env) fp).env.scope = relS scope X.env.scope := rfl

theorem pts_nil_low {c : C} : PTs X [] (lowT c (evT Φ c.b .yes)) := ⟨fun pins s σ H Q I h => pts_nil.run pins s σ H Q I (by
  obtain ⟨Z, P, ρ, G, τ, s, w, f⟩ := h
  rw [evT] at f
  exact f.here s rfl)⟩
structure LcOk (Φ : Fn) (X : Cx) (c : C) (elt tg iter : Expr) (ifs : List Expr) (scope : Scope) (own : List (Str × Nat)) (os : List Nat) (me : ME) (t : MT) (mi : MI) (mc : MB) : Prop where
  hos : own.map (·.2) = os
  hi : PI X tg iter (lowI c (evI Φ c.b mi))
  bk : BlkOk X.N X.env.scope scope own
  hg : ∀ (s : Shared) (H : Hp) (C : Addr) (cl : List (Str × Addr)) (fp : List Addr), PG (X.blk s H scope (compEnvC scope cl C X.env) fp) tg (lowGK X.K t)
  ht : ∀ (s : Shared) (H : Hp) (C : Addr) (cl : List (Str × Addr)) (fp : List Addr), PTs (X.blk s H scope (compEnvC scope cl C X.env) fp) ifs (lowT c.nox (evT Φ c.b mc))
  he : ∀ (s : Shared) (H : Hp) (C : Addr) (cl : List (Str × Addr)) (fp : List Addr), PE (X.blk s H scope (compEnvC scope cl C X.env) fp) elt (low c.nox (evE Φ c.b me))
  hs : ∀ x, foldedSetIterable iter X.env x = pure x
  hsub : ∀ i ∈ slotsT t, i ∈ os

theorem cLc_ok {B : Scope → (Expr → Option ME) × (Expr → Option MB)} (ok : XO Φ sg X c) (hN : X.N = N) (o : OkE Φ X c E T)
    (hB : ∀ (Y : Cx) (d : C) , XO Φ sg Y d → Y.N = N → OkE Φ Y d (B Y.env.scope).1 (B Y.env.scope).2) {elt : Expr} {gs : List Comprehension} {scope : Scope} {m : ME} (h : cLc E B N X.env.scope elt gs scope = some m) :
    ∃ tg iter ifs own os me t mi mc, gs = [⟨tg, iter, ifs, 0⟩] ∧ own = ownOf N scope.names ∧ m = .lc me t mi mc os ∧ LcOk Φ X c elt tg iter ifs scope own os me t mi mc := by
  unfold cLc at h
  split at h
  · rename_i tg it ifs
    split at h
    · rename_i hb
      rw [Bool.and_eq_true] at hb
      obtain ⟨mi, h1, h⟩ := bind_some h
      obtain ⟨t, h2, h⟩ := bind_some h
      obtain ⟨me, h3, h⟩ := bind_some h
      have bk := blkOk_by hb.2
      have okB := fun s H C cl fp => XO.blk ok bk.kind s H C cl fp
      have oB := fun (s : Shared) (H : Hp) (C : Addr) (cl : List (Str × Addr)) (fp : List Addr) => hB (X.blk s H scope (compEnvC scope cl C X.env) fp) c.nox (okB s H C cl fp) hN
      have hg : ∀ (s : Shared) (H : Hp) (C : Addr) (cl : List (Str × Addr)) (fp : List Addr), PG (X.blk s H scope (compEnvC scope cl C X.env) fp) tg (lowGK X.K t) := fun s H C cl fp =>
        cG_ok (X := X.blk s H scope (compEnvC scope cl C X.env) fp) ok.calm ok.nd hN (fun x hx => by
          rcases hx with hx | hx
          · have q : (relS scope X.env.scope).names.lookup x = some .local := lookup_relS_keep (by decide) hx
            exact ⟨.inl q, .inr q⟩
          · have q : (relS scope X.env.scope).names.lookup x = some .cell := lookup_relS_keep (by decide) hx
            refine ⟨.inr q, .inl ?_⟩
            show (scope.names.lookup x == some .cell) = true
            rw [hx]
            rfl) h2
      have he : ∀ (s : Shared) (H : Hp) (C : Addr) (cl : List (Str × Addr)) (fp : List Addr), PE (X.blk s H scope (compEnvC scope cl C X.env) fp) elt (low c.nox (evE Φ c.b me)) := fun s H C cl fp => (oB s H C cl fp).e elt me h3
      simp only at h
      by_cases hs : (slotsT t).all (fun i => ((ownOf N scope.names).map (·.2)).contains i) = true
      · rw [if_pos hs] at h
        have hsub : ∀ i ∈ slotsT t, i ∈ (ownOf N scope.names).map (·.2) := fun i hi => by
          have := List.all_eq_true.mp hs i hi
          simpa using this
        split at h
        · cases h
          exact ⟨tg, it, [], _, _, me, t, mi, .yes, rfl, rfl, rfl, rfl, cI_ok ok o h1, hN ▸ bk, hg, fun s H C cl fp => pts_nil_low, he, fun x => folded_of hb.1 x, hsub⟩
        · obtain ⟨mc, h4, rfl⟩ := map_some h
          exact ⟨tg, it, _, _, _, me, t, mi, mc, rfl, rfl, rfl, rfl, cI_ok ok o h1, hN ▸ bk, hg, fun s H C cl fp => pts_one ((oB s H C cl fp).t _ mc h4), he, fun x => folded_of hb.1 x, hsub⟩
        · cases h
      · rw [if_neg hs] at h
        cases h
    · cases h
  · cases h
theorem isTrue_val {e : Expr} {env : Env} (h : match e with | .UnaryOp .Not .. => False | .BoolOp .. => False | .IfExp .. => False | .Compare .. => False | _ => True) : ∀ whole, isTrue e env whole = (do let v ← whole; standAt e.pos; holding [v] (truthy v)) := by
  intro whole
  cases e with
  | UnaryOp o a p => cases o <;> first | rfl | exact h.elim
  | BoolOp => exact h.elim
  | IfExp => exact h.elim
  | Compare => exact h.elim
  | _ => rfl
theorem stepE_ok {B : Scope → (Expr → Option ME) × (Expr → Option MB)} (ok : XO Φ sg X c) (hN : X.N = N) (o : OkE Φ X c E T)
    (hB : ∀ (Y : Cx) (d : C) , XO Φ sg Y d → Y.N = N → OkE Φ Y d (B Y.env.scope).1 (B Y.env.scope).2) {e : Expr} {m : ME} (h : stepE sg N X.env.scope E T B e = some m) : PE X e (low c (evE Φ c.b m)) := by
  unfold stepE at h
  split at h
  · exact constE_ok h
  · exact nameE_ok ok (hN ▸ h)
  · obtain ⟨ms, h1, h⟩ := bind_some h
    obtain ⟨hl, rfl⟩ := ite_some h
    exact se_tup (cEs_ok o h1).1 hl
  · obtain ⟨ms, h1, h⟩ := bind_some h
    obtain ⟨hl, rfl⟩ := ite_some h
    exact hinted_ok (sf_lst (cEs_ok o h1).1 hl) of_lst
  · split at h
    · rename_i ks vs p hl
      obtain ⟨ms, h1, rfl⟩ := map_some h
      cases ks with
      | nil =>
        cases vs with
        | nil =>
          cases h1
          exact hinted_ok sf_dct0 of_dct
        | cons => cases h1
      | cons k ks => exact hinted_ok (sf_dct (cKVs_ok o h1) (by simp) hl) of_dct
    · cases h
  · obtain ⟨bo, h0, h⟩ := bind_some h
    obtain ⟨ma, h1, h⟩ := bind_some h
    obtain ⟨mb, h2, rfl⟩ := map_some h
    rw [bopOf_ok h0]
    exact se_bin ok (o.e _ ma h1) (o.e _ mb h2)
  · obtain ⟨ma, h1, rfl⟩ := map_some h
    exact se_neg (o.e _ ma h1)
  · obtain ⟨ma, h1, rfl⟩ := map_some h
    exact se_not ok (o.e _ ma h1)
  · exact cBool_ok o h
  · obtain ⟨mt, h0, h⟩ := bind_some h
    obtain ⟨ma, h1, h⟩ := bind_some h
    obtain ⟨mb, h2, rfl⟩ := map_some h
    exact se_ifx (o.t _ mt h0) (o.e _ ma h1) (o.e _ mb h2)
  · exact (cCmp_ok ok o h).1
  · exact cSub_ok ok o h
  · exact cCall_ok ok o h
  · exact cMeth_ok ok o h
  · obtain ⟨m', h1, rfl⟩ := map_some h
    obtain ⟨tg, it, ifs, own, os, me, t, mi, mc, rfl, rfl, rfl, L⟩ := cLc_ok ok hN o hB h1
    exact hinted_ok (sf_lc ok L.hos L.hi L.bk L.hg L.ht L.he L.hs L.hsub) of_lc
  · cases h
theorem stepT_ok (ok : XO Φ sg X c) (o : OkE Φ X c E T) (hE : ∀ e m, E e = some m → PE X e (low c (evE Φ c.b m))) {E' : Expr → Option ME} (hE' : ∀ e m, E' e = some m → PE X e (low c (evE Φ c.b m))) {e : Expr} {m : MB} (h : stepT E' T e = some m) : PT X e (lowT c (evT Φ c.b m)) := by
  have o' : OkE Φ X c E' T := ⟨hE', o.t⟩
  unfold stepT at h
  split at h
  · obtain ⟨m', h1, rfl⟩ := map_some h
    exact st_not (o.t _ m' h1)
  · exact (cBoolT_ok o h).pt
  · cases h
  · obtain ⟨m', h1, rfl⟩ := map_some h
    exact (cCmp_ok ok o' h1).2
  · rename_i h1 h2 h3 h4
    obtain ⟨m', h5, rfl⟩ := map_some h
    refine st_val ok (hE' _ m' h5) (isTrue_val ?_)
    split
    · exact h1 _ _ rfl
    · exact h2 _ _ _ rfl
    · exact h3 _ _ _ _ rfl
    · exact h4 _ _ _ _ rfl
    · trivial
theorem cmpl_ok : ∀ (n : Nat) (X : Cx) (c : C), XO Φ sg X c → X.N = N → OkE Φ X c (cmp sg N n X.env.scope).1 (cmp sg N n X.env.scope).2
  | 0, X, c, _, _ => ⟨fun e m h => (nomatch h), fun e m h => (nomatch h)⟩
  | n + 1, X, c, ok, hN => by
    have o := cmpl_ok n X c ok hN
    have he : ∀ e m, (cmp sg N (n + 1) X.env.scope).1 e = some m → PE X e (low c (evE Φ c.b m)) := fun e m h => stepE_ok ok hN o (fun Y d oY hY => cmpl_ok n Y d oY hY) h
    exact ⟨he, fun e m h => stepT_ok ok o o.e he h⟩
end
end U

set_option Elab.async false
set_option linter.all false
set_option maxRecDepth 100000
/-! UR: the compiler of statements, and that it is right. -/
namespace U
open PySem L2 PyProof.Rows

/-- how a tuple's stores go: none, exchanged, or not known -/
def swNames (nm : List (Str × NameKind)) (ts : List Expr) : List Str :=
  ts.filterMap fun
    | .Name id pos => if nm.lookup id == some .local && pos.line == (ts.head?.map (·.pos.line)).getD 0 then some id else none
    | _ => none
def swB (nm : List (Str × NameKind)) (ts vs : List Expr) : Option (Option (List Str)) :=
  if !(ts.length == 2 || ts.length == 3) || vs.length != ts.length then some none
  else if !(vs.all plainE) then some none
  else if (swNames nm ts).length != ts.length || (swNames nm ts).eraseDups.length != (swNames nm ts).length then some none
  else if vs.all (foldedForSure 8) then some none
  else if vs.all (constantsAlone 8) then none
  else some (some (swNames nm ts))
theorem any_star {vs : List Expr} : (vs.any fun | .Starred .. => true | _ => false) = !(vs.all plainE) := by
  induction vs with
  | nil => rfl
  | cons e r ih =>
    rw [List.any_cons, List.all_cons, ih, Bool.not_and]
    cases e <;> rfl
theorem swB_ok {env : Env} (hk : env.scope.kind = .function) {ts vs : List Expr} {k k2 : Nat} {p p2 : Pos} {r : Option (List Str)} (h : swB env.scope.names ts vs = some r) : swappedStores [.Tuple ts k p] (.Tuple vs k2 p2) env = pure r := by
  have hb : env.blockKind = .function := by
    unfold Env.blockKind
    rw [hk]
    rfl
  have hne : (env.blockKind != .function) = false := by rw [hb]; rfl
  have key : swappedStores [.Tuple ts k p] (.Tuple vs k2 p2) env = (if (!(ts.length == 2 || ts.length == 3) || vs.length != ts.length || env.blockKind != .function) = true then pure none
      else if (vs.any fun | .Starred .. => true | _ => false) = true then pure none
      else if ((swNames env.scope.names ts).length != ts.length || (swNames env.scope.names ts).eraseDups.length != (swNames env.scope.names ts).length) = true then pure none
      else if vs.all (foldedForSure 8) = true then pure none
      else if vs.all (constantsAlone 8) = true then (do unsupported "assign.tuple-of-constant-expressions:order-of-the-stores"; return some (swNames env.scope.names ts))
      else pure (some (swNames env.scope.names ts))) := by
    rfl
  rw [key, hne, Bool.or_false, any_star]
  unfold swB at h
  split at h
  · rename_i q
    cases h
    rw [if_pos q]
  · rename_i q
    rw [if_neg q]
    split at h
    · rename_i q
      cases h
      rw [if_pos q]
    · rename_i q
      rw [if_neg q]
      split at h
      · rename_i q
        cases h
        rw [if_pos q]
      · rename_i q
        rw [if_neg q]
        split at h
        · rename_i q
          cases h
          rw [if_pos q]
        · rename_i q
          rw [if_neg q]
          split at h
          · cases h
          · rename_i q
            cases h
            rw [if_neg q]
def isComp : Expr → Bool
  | .ListComp .. => true
  | .SetComp .. => true
  | .DictComp .. => true
  | _ => false
theorem sw_no {e : Expr} {t : Option Expr} {l : Nat} {env : Env} (h : isComp e = false) : swapsWith e t l env = pure false := by
  cases e <;> first | rfl | cases h
def isNm : Expr → Bool
  | .Name .. => true
  | _ => false
theorem sw_tg {e t : Expr} {l : Nat} {env : Env} (h : isNm t = false) : swapsWith e (some t) l env = pure false := by
  cases e <;> first | rfl | (cases t <;> first | rfl | cases h)
/-- the stores of name = [..] exchanged -/
def swLc (nm : List (Str × NameKind)) (y : Str) (py lpos : Pos) (scope : Scope) : Bool :=
  (nm.lookup y == some .local) && py.line == lpos.line && !(scope.names.any fun (n, k) => n == y && (k == .local || k == .cell))
theorem swLc_ok {env : Env} (hk : env.scope.kind = .function) {y : Str} {py lpos : Pos} {scope : Scope} {elt : Expr} {gs : List Comprehension} {l : Nat} : swapsWith (.ListComp elt gs scope lpos) (some (.Name y py)) l env = pure (swLc env.scope.names y py lpos scope) := by
  have hb : env.blockKind = .function := by
    unfold Env.blockKind
    rw [hk]
    rfl
  have e : (env.blockKind == .function) = true := by rw [hb]; rfl
  unfold swapsWith swLc
  simp only [e, Bool.true_and]
  rfl
theorem noSw {t e : Expr} {env : Env} (h : (match t, e with | .Tuple .., .Tuple .. => false | .List .., .Tuple .. => false | _, _ => true) = true) : swappedStores [t] e env = pure none := by
  cases t <;> first | rfl | (cases e <;> first | rfl | cases h)

/-- one assignment -/
def cAsg (sg : Sg) (E : Expr → Option ME) (B : Scope → (Expr → Option ME) × (Expr → Option MB)) (N : List Str) (sc : Scope) (tg e : Expr) : Option MS :=
  match tg with
  | .Name y py => match e with
    | .ListComp elt gs scope lpos =>
      if swLc sc.names y py lpos scope then (ixOf N y).bind fun i => (cLc E B N sc elt gs scope).map fun m => .set (.nam i) (hinted sg lpos m)
      else (cG N sc.names 4 tg).bind fun t => (E e).map fun m => .set t m
    | _ => if isComp e then none else (cG N sc.names 4 tg).bind fun t => (E e).map fun m => .set t m
  | .Tuple ts _ _ => match e with
    | .Tuple vs _ _ => (swB sc.names ts vs).bind fun r => match r with
      | none => (cG N sc.names 4 tg).bind fun t => (E e).map fun m => .set t m
      | some [x, y] => (match ts, vs with
        | [.Name x' _, .Name y' _], [a, b] =>
          if x = x' ∧ y = y' ∧ sc.names.lookup x = some .local ∧ sc.names.lookup y = some .local ∧ plainE a ∧ plainE b then (ixOf N x).bind fun i => (ixOf N y).bind fun j => if i ≠ j then (E a).bind fun ma => (E b).map fun mb => .par [i, j] (.cons ma (.cons mb .nil)) else none
          else none
        | _, _ => none)
      | _ => none
    | _ => (cG N sc.names 4 tg).bind fun t => (E e).map fun m => .set t m
  | .Subscript o i _ => if isSlice i then none else (E o).bind fun mo => (E i).bind fun mi => (E e).map fun me => .setix mo mi me
  | _ => none
def augOp : Operator → Option BOp
  | .Add => some .add
  | .Sub => some .sub
  | .Mult => some .mul
  | _ => none
def stepS (sg : Sg) (E : Expr → Option ME) (T : Expr → Option MB) (B : Scope → (Expr → Option ME) × (Expr → Option MB)) (N : List Str) (sc : Scope) (S : List Stmt → Option MSs) : Stmt → Option MS
  | .Pass _ => some .pass
  | .Return (some e) _ => (E e).map .ret
  | .Expr e _ => if isComp e then none else (E e).map .exp
  | .If t a b _ => (T t).bind fun mt => (S a).bind fun ma => (S b).map fun mb => .iff mt ma mb
  | .For tg it body [] _ => if notSet it then (cI E sc.names tg it).bind fun mi => (cG N sc.names 4 tg).bind fun t => (S body).map fun mb => .forr t mi mb else none
  | .While t body [] _ => (T t).bind fun mt => (S body).map fun mb => .whl mt mb
  | .Assign [tg] e _ => cAsg sg E B N sc tg e
  | .AugAssign (.Name x _) o e _ => match sc.names.lookup x with
    | some .local => (augOp o).bind fun o => (ixOf N x).bind fun i => (E e).map fun m => .aug i o m
    | _ => none
  | .Raise .. => some .never
  | _ => none
def cmpS (sg : Sg) (N : List Str) (sc : Scope) (d : Nat) : Nat → List Stmt → Option MSs
  | _, [] => some .nil
  | 0, _ => none
  | n + 1, s :: ss => (stepS sg (cmp sg N d sc).1 (cmp sg N d sc).2 (cmp sg N d) N sc (cmpS sg N sc d n) s).bind fun m => (cmpS sg N sc d n ss).map fun ms => .cons m ms

section
variable {Φ : Fn} {sg : Sg} {N : List Str} {X : Cx} {c : C} {pos : Pos} {tg : Expr} {E : Expr → Option ME} {T : Expr → Option MB}

theorem hinted_or {m : ME} {p : Pos} : hinted sg p m = m ∨ hinted sg p m = .alloc m := by
  unfold hinted
  split
  · exact .inr rfl
  · exact .inl rfl
theorem cAsg_ok {B : Scope → (Expr → Option ME) × (Expr → Option MB)} (ok : XO Φ sg X c) (hN : X.N = N) (o : OkE Φ X c E T)
    (hB : ∀ (Y : Cx) (d : C) , XO Φ sg Y d → Y.N = N → OkE Φ Y d (B Y.env.scope).1 (B Y.env.scope).2) (hcell : ∀ x, X.env.scope.names.lookup x = some .cell → X.fn x = true)
    {e : Expr} {m : MS} (h : cAsg sg E B N X.env.scope tg e = some m) : PS X (.Assign [tg] e pos) (lowS c (evS Φ c.b m)) := by
  have hst : ∀ x, (X.env.scope.names.lookup x = some .local ∨ X.env.scope.names.lookup x = some .cell) → Loc X.env.scope x ∧ (X.fn x = true ∨ X.env.scope.names.lookup x = some .local) := fun x hx => ⟨hx, hx.elim .inr fun q => .inl (hcell x q)⟩
  have std : ∀ {m : MS}, ((cG N X.env.scope.names 4 tg).bind fun t => (E e).map fun m => MS.set t m) = some m → swapsWith e (some tg) pos.line X.env = pure false → swappedStores [tg] e X.env = pure none → plainE tg = true → PS X (.Assign [tg] e pos) (lowS c (evS Φ c.b m)) := by
    intro m h h1 h2 h3
    obtain ⟨t, h4, h⟩ := bind_some h
    obtain ⟨me, h5, rfl⟩ := map_some h
    exact ss_set ok (o.e e me h5) (cG_ok ok.calm ok.nd hN hst h4) h1 h2 (by rw [asg_one h3]; rfl)
  unfold cAsg at h
  split at h
  · rename_i y py
    split at h
    · rename_i elt gs scope lpos
      split at h
      · rename_i hs
        obtain ⟨i, h1, h⟩ := bind_some h
        obtain ⟨m', h2, rfl⟩ := map_some h
        obtain ⟨tg, it, ifs, own, os, me, t, mi, mc, rfl, rfl, rfl, L⟩ := cLc_ok ok hN o hB h2
        have hl : X.env.scope.names.lookup y = some .local := by
          unfold swLc at hs
          simp only [Bool.and_eq_true] at hs
          exact eq_of_beq hs.1.1
        exact ss_setLc ok L.hos hinted_or (hN ▸ ixOf_get h1) hl (by rw [swLc_ok ok.kind, hs]) L.hi L.bk L.hg L.ht L.he L.hs L.hsub
      · rename_i hs
        exact std h (by rw [swLc_ok ok.kind]; simp [hs]) rfl rfl
    · split at h
      · cases h
      · rename_i hc
        exact std h (sw_no (by simpa using hc)) rfl rfl
  · rename_i ts k p
    split at h
    · rename_i vs k2 p2
      obtain ⟨r, h1, h⟩ := bind_some h
      have hw := swB_ok (k := k) (k2 := k2) (p := p) (p2 := p2) ok.kind h1
      split at h
      · exact std h rfl hw rfl
      · split at h
        · rename_i x y x' px y' py a b
          split at h
          · rename_i q
            obtain ⟨rfl, rfl, q1, q2, q3, q4⟩ := q
            obtain ⟨i, h2, h⟩ := bind_some h
            obtain ⟨j, h3, h⟩ := bind_some h
            split at h
            · rename_i hij
              obtain ⟨ma, h4, h⟩ := bind_some h
              obtain ⟨mb, h5, rfl⟩ := map_some h
              exact ss_par2 ok (hN ▸ ixOf_get h2) (hN ▸ ixOf_get h3) hij q1 q2 (o.e _ ma h4) (o.e _ mb h5) q3 q4 hw
            · cases h
          · cases h
        · cases h
      · cases h
    · rename_i hne
      refine std h (sw_tg rfl) (noSw ?_) rfl
      cases e <;> first | rfl | exact absurd rfl (hne _ _ _)
  · rename_i ob i p
    split at h
    · cases h
    · rename_i hi
      obtain ⟨mo, h1, h⟩ := bind_some h
      obtain ⟨mi, h2, h⟩ := bind_some h
      obtain ⟨me, h3, rfl⟩ := map_some h
      refine ss_setix ok (o.e _ mo h1) (o.e _ mi h2) (o.e _ me h3) (show swapsWith e (some (.Subscript ob i p)) pos.line X.env = pure false from sw_tg rfl) rfl rfl ?_
      intro v
      have hi : isSlice i = false := by simpa using hi
      cases i <;> first | rfl | cases hi
  · cases h
theorem stepS_ok {B : Scope → (Expr → Option ME) × (Expr → Option MB)} {S : List Stmt → Option MSs} (ok : XO Φ sg X c) (hN : X.N = N) (o : OkE Φ X c E T)
    (hB : ∀ (Y : Cx) (d : C) , XO Φ sg Y d → Y.N = N → OkE Φ Y d (B Y.env.scope).1 (B Y.env.scope).2) (hcell : ∀ x, X.env.scope.names.lookup x = some .cell → X.fn x = true)
    (hS : ∀ ss ms, S ss = some ms → PSs X ss (lowS c (evSs Φ c.b ms))) {st : Stmt} {m : MS} (h : stepS sg E T B N X.env.scope S st = some m) : PS X st (lowS c (evS Φ c.b m)) := by
  have hst : ∀ x, (X.env.scope.names.lookup x = some .local ∨ X.env.scope.names.lookup x = some .cell) → Loc X.env.scope x ∧ (X.fn x = true ∨ X.env.scope.names.lookup x = some .local) := fun x hx => ⟨hx, hx.elim .inr fun q => .inl (hcell x q)⟩
  unfold stepS at h
  split at h
  · cases h; exact ss_pass
  · obtain ⟨me, h1, rfl⟩ := map_some h
    exact ss_ret (o.e _ me h1)
  · split at h
    · cases h
    · rename_i hc
      obtain ⟨me, h1, rfl⟩ := map_some h
      exact ss_exp (o.e _ me h1) (sw_no (by simpa using hc))
  · obtain ⟨mt, h1, h⟩ := bind_some h
    obtain ⟨ma, h2, h⟩ := bind_some h
    obtain ⟨mb, h3, rfl⟩ := map_some h
    exact ss_if (o.t _ mt h1) (hS _ ma h2) (hS _ mb h3)
  · split at h
    · rename_i hs
      obtain ⟨mi, h1, h⟩ := bind_some h
      obtain ⟨t, h2, h⟩ := bind_some h
      obtain ⟨mb, h3, rfl⟩ := map_some h
      exact ss_for ok (cI_ok ok o h1) (cG_ok ok.calm ok.nd hN hst h2) (hS _ mb h3) fun x => folded_of hs x
    · cases h
  · obtain ⟨mt, h1, h⟩ := bind_some h
    obtain ⟨mb, h3, rfl⟩ := map_some h
    exact ss_while ok (o.t _ mt h1) (hS _ mb h3)
  · exact cAsg_ok ok hN o hB hcell h
  · split at h
    · rename_i hl
      obtain ⟨bo, h1, h⟩ := bind_some h
      obtain ⟨i, h2, h⟩ := bind_some h
      obtain ⟨me, h3, rfl⟩ := map_some h
      have e : ∀ {op : Operator}, augOp op = some bo → op = opPy bo ∧ (bo = .add ∨ bo = .sub ∨ bo = .mul) := fun {op} q => by
        cases op <;> cases q <;> exact ⟨rfl, by simp⟩
      obtain ⟨e1, e2⟩ := e h1
      rw [e1]
      exact ss_aug ok bo e2 (hN ▸ ixOf_get h2) (.inl hl) (.inr hl) (o.e _ me h3)
    · cases h
  · cases h; exact ss_never
  · cases h
theorem cmpS_ok (ok : XO Φ sg X c) (hN : X.N = N) (hcell : ∀ x, X.env.scope.names.lookup x = some .cell → X.fn x = true) {d : Nat} : ∀ {n : Nat} {ss : List Stmt} {ms : MSs}, cmpS sg N X.env.scope d n ss = some ms → PSs X ss (lowS c (evSs Φ c.b ms))
  | 0, [], ms, h => by cases h; exact sss_nil
  | n + 1, [], ms, h => by cases h; exact sss_nil
  | 0, s :: ss, ms, h => by cases h
  | n + 1, s :: ss, ms, h => by
    unfold cmpS at h
    obtain ⟨m, h1, h⟩ := bind_some h
    obtain ⟨ms', h2, rfl⟩ := map_some h
    exact sss_cons (stepS_ok ok hN (cmpl_ok d X c ok hN) (fun Y d oY hY => cmpl_ok _ Y d oY hY) hcell (fun ss ms h => cmpS_ok ok hN hcell h) h1) (cmpS_ok ok hN hcell h2)
end
end U

set_option Elab.async false
set_option linter.all false
set_option maxRecDepth 100000
/-! US: functions. -/
namespace U
open PySem L2 PyProof.Rows

/-! ### binding -/
theorem lookup_app {α : Type} {k : Str} : ∀ {S T : List (Str × α)}, S.lookup k = none → (S ++ T).lookup k = T.lookup k
  | [], T, _ => rfl
  | (a, b) :: S, T, h => by
    rw [List.cons_append]
    rw [List.lookup_cons] at h ⊢
    cases e : k == a with
    | true => rw [e] at h; cases h
    | false => rw [e] at h; exact lookup_app h
theorem lookup_none {α : Type} {k : Str} : ∀ {S : List (Str × α)}, k ∉ S.map (·.1) → S.lookup k = none
  | [], _ => rfl
  | (a, b) :: S, h => by
    rw [List.lookup_cons]
    rw [List.map_cons, List.mem_cons, not_or] at h
    rw [beq_eq_false_iff_ne.mpr h.1]
    exact lookup_none h.2
theorem kws_go {normal : List Str} {γ : Type} {g : Str × Value → γ → Sem (ForInStep γ)} {flip : List (Str × Value) → γ}
    (hg : ∀ k v S, k ∈ normal → S.lookup k = none → g (k, v) (flip S) = pure (.yield (flip (S ++ [(k, v)])))) :
    ∀ (l S : List (Str × Value)), (∀ q ∈ l, q.1 ∈ normal) → ((S ++ l).map (·.1)).Nodup → forIn l (flip S) g = pure (flip (S ++ l))
  | [], S, _, _ => by rw [List.append_nil]; rfl
  | (k, v) :: l, S, h, nd => by
    have hk : k ∉ S.map (·.1) := by
      rw [List.map_append, List.nodup_append] at nd
      intro z
      exact nd.2.2 k z k (by simp) rfl
    rw [List.forIn_cons, hg k v S (h _ List.mem_cons_self) (lookup_none hk)]
    have q := kws_go hg l (S ++ [(k, v)]) (fun q hq => h q (List.mem_cons_of_mem _ hq)) (by rw [List.append_assoc]; exact nd)
    rw [List.append_assoc] at q
    exact q
theorem zip_split {α β : Type} : ∀ {ps : List α} {us ws : List β}, us.length + ws.length = ps.length → ps.zip us ++ (ps.drop us.length).zip ws = ps.zip (us ++ ws)
  | ps, [], ws, _ => by simp
  | [], u :: us, ws, h => by simp at h
  | p :: ps, u :: us, ws, h => by
    have ih := zip_split (ps := ps) (us := us) (ws := ws) (by simp at h; omega)
    simpa using ih
theorem zip_keys {α β : Type} : ∀ {ps : List α} {us : List β}, us.length = ps.length → (ps.zip us).map (·.1) = ps
  | [], [], _ => rfl
  | p :: ps, u :: us, h => by
    simp only [List.zip_cons_cons, List.map_cons]
    rw [zip_keys (by simpa using h)]
theorem fm_congr {α β : Type} {f g : α → Option β} : ∀ {l : List α}, (∀ x ∈ l, f x = g x) → l.filterMap f = l.filterMap g
  | [], _ => rfl
  | a :: l, h => by
    rw [List.filterMap_cons, List.filterMap_cons, h a List.mem_cons_self, fm_congr fun x hx => h x (List.mem_cons_of_mem _ hx)]
theorem fm_zip : ∀ {ps : List Str} {us : List Value}, ps.Nodup → us.length = ps.length → (ps.filterMap fun n => ((ps.zip us).lookup n).map (n, ·)) = ps.zip us
  | [], _, _, _ => rfl
  | p :: ps, [], _, h => by simp at h
  | p :: ps, u :: us, nd, h => by
    have nd' := List.nodup_cons.mp nd
    have ih := fm_zip (ps := ps) (us := us) nd'.2 (by simpa using h)
    rw [List.filterMap_cons]
    simp only [List.zip_cons_cons, List.lookup_cons, beq_self_eq_true, Option.map_some]
    congr 1
    refine Eq.trans (fm_congr fun n hn => ?_) ih
    have : (n == p) = false := beq_eq_false_iff_ne.mpr fun e => nd'.1 (e ▸ hn)
    simp only [this]
theorem zip_some : ∀ {ps : List Str} {us : List Value} {n : Str}, us.length = ps.length → n ∈ ps → ((ps.zip us).lookup n).isNone = false
  | [], _, _, _, hn => by cases hn
  | p :: ps, [], _, h, _ => by simp at h
  | p :: ps, u :: us, n, h, hn => by
    simp only [List.zip_cons_cons, List.lookup_cons]
    cases e : n == p with
    | true => rfl
    | false =>
      rcases List.mem_cons.mp hn with z | z
      · rw [z] at e; simp at e
      · exact zip_some (by simpa using h) z
structure PlainPs (p : Arguments) (ps : List Str) : Prop where
  po : p.posonlyargs = []
  ar : p.args.map (·.arg) = ps
  va : p.vararg = none
  ko : p.kwonlyargs = []
  kw : p.kwarg = none
def plainPs (p : Arguments) : Bool := p.posonlyargs.isEmpty && p.vararg.isNone && p.kwonlyargs.isEmpty && p.kwarg.isNone
theorem plainPs_of {p : Arguments} (h : plainPs p = true) : PlainPs p (p.args.map (·.arg)) := by
  unfold plainPs at h
  simp only [Bool.and_eq_true, List.isEmpty_iff, Option.isNone_iff_eq_none] at h
  exact ⟨h.1.1.1, rfl, h.1.1.2, h.1.2, h.2⟩
theorem binds_plain {fd : FuncData} {ps : List Str} {us ws : List Value} (hp : PlainPs fd.params ps) (hd : fd.defaults = .none) (nd : ps.Nodup) (hl : us.length + ws.length = ps.length) :
    bindArgs fd ⟨us, (ps.drop us.length).zip ws⟩ = pure (ps.zip (us ++ ws)) := by
  have e1 := zip_split hl
  have hl2 : (us ++ ws).length = ps.length := by simpa using hl
  unfold bindArgs
  simp only [hp.po, hp.ar, hp.va, hp.ko, hp.kw, hd, List.map_nil, List.nil_append, List.append_nil]
  have hk : ∀ q ∈ (ps.drop us.length).zip ws, q.1 ∈ ps := fun q hq => List.mem_of_mem_drop (List.of_mem_zip hq).1
  have hn : ((ps.zip us ++ (ps.drop us.length).zip ws).map (·.1)).Nodup := by rw [e1, zip_keys hl2]; exact nd
  rw [kws_go (normal := ps) (flip := fun S => (S, [])) (fun k v S hk hS => by
    have c1 : (ps.contains k || ([] : List Str).contains k) = true := by simp [hk]
    have c2 : ¬ (List.lookup k S).isSome = true := by rw [hS]; decide
    simp only [c1, if_true]
    rw [if_neg c2]) _ _ hk hn, e1]
  have c3 : ((ps.take (ps.length - 0)).filter fun n => ((ps.zip (us ++ ws)).lookup n).isNone) = [] := by
    rw [List.filter_eq_nil_iff]
    intro n hn
    rw [zip_some hl2 (List.mem_of_mem_take hn)]
    decide
  have c4 : ¬ (us.length > ps.length) := by omega
  have c5 : seqItems? .none = pure none := rfl
  rw [c5]
  simp only [pure_bind, Option.getD_none, Option.isNone_none]
  simp [c4, fm_zip nd hl2]
  intro x hx hall
  have z := zip_some (n := x) hl2 hx
  cases e : (ps.zip (us ++ ws)).lookup x with
  | none => rw [e] at z; cases z
  | some v => exact absurd (lookup_mem e) (hall v)
theorem kbn_plain {K : PySem.W.Frag} {fd : FuncData} {ps : List Str} (hp : PlainPs fd.params ps) (hd : fd.defaults = .none) (nd : ps.Nodup) (n : Nat) (hn : n ≤ ps.length) :
    KBn K fd ps n (ps.drop n) (fun us ws => us ++ ws) (fun us ws => us ++ ws) := by
  refine ⟨fun s us ws _ h1 h2 => ?_, fun r1 r2 => r1.append r2⟩
  subst h1
  exact BindsTo.of_eq (binds_plain hp hd nd (by rw [h2, List.length_drop]; omega))

/-! ### the way out -/
section
variable {c c' : C} {H H' : Hp} {ρ ρ' : List Addr} {G G' : Hd}
theorem mapM_some {α β : Type} {f : α → Option β} : ∀ {l : List α} {r : List β}, l.mapM f = some r → (l = [] ∧ r = []) ∨ ∃ a t b u, l = a :: t ∧ r = b :: u ∧ f a = some b ∧ t.mapM f = some u
  | [], r, h => by
    simp at h
    exact .inl ⟨rfl, h⟩
  | a :: t, r, h => by
    rw [List.mapM_cons] at h
    obtain ⟨b, h1, h⟩ := bind_some (show (f a).bind _ = some r from h)
    obtain ⟨u, h2, h⟩ := bind_some (show (t.mapM f).bind _ = some r from h)
    cases h
    exact .inr ⟨a, t, b, u, rfl, rfl, h1, h2⟩
theorem frzs_ok {n : Nat} {f : D → Option D} (hf : ∀ d d' v, f d = some d' → Rp c H ρ d v → Rp c H (ρ.take n) d' v) : ∀ {ds es : List D} {vs : List V}, ds.mapM f = some es → Rps c H ρ ds vs → Rps c H (ρ.take n) es vs
  | [], es, vs, h, r => by
    rcases mapM_some h with ⟨_, rfl⟩ | ⟨_, _, _, _, z, _⟩
    · rw [r.of_nil]; exact .nil
    · cases z
  | d :: ds, es, vs, h, r => by
    rcases mapM_some h with ⟨z, _⟩ | ⟨a, t, b, u, z, rfl, h1, h2⟩
    · cases z
    · cases z
      obtain ⟨v, q, rfl, r1, r2⟩ := r.of_cons
      exact .cons (hf _ _ _ h1 r1) (frzs_ok hf h2 r2)
theorem notTake {n i : Nat} {a : Addr} (nd : ρ.Nodup) (h : ρ[i]? = some a) (hi : n ≤ i) : a ∉ ρ.take n := by
  intro z
  obtain ⟨j, hj, e⟩ := List.mem_iff_getElem.mp z
  rw [List.length_take] at hj
  rw [List.getElem_take] at e
  obtain ⟨q1, e1⟩ := List.getElem?_eq_some_iff.mp h
  have := (List.getElem_inj nd).mp (e.trans e1.symm)
  omega
theorem frz_ok (s : SR c H ρ G) {n : Nat} : ∀ (k : Nat) (d d' : D) (v : V), frz k n G d = some d' → Rp c H ρ d v → Rp c H (ρ.take n) d' v
  | 0, d, d', v, h, r => by
    unfold frz at h
    obtain ⟨h1, rfl⟩ := ite_some h
    exact Rp.cut d v h1 r
  | k + 1, d, d', v, h, r => by
    have ih := frz_ok s (n := n) k
    unfold frz at h
    split at h
    · rename_i i
      split at h
      · rename_i hi
        cases h
        exact Rp.cut (.ref i) v (decide_eq_true hi) r
      · rename_i hi
        unfold Rp at r
        obtain ⟨a, ha, rfl⟩ := r
        have na := notTake s.nd ha (Nat.le_of_not_lt hi)
        have nz : a ∉ c.Z := fun z => (s.zs a z).1 (List.mem_of_getElem? ha)
        split at h
        · rename_i ds hg
          obtain ⟨es, h1, rfl⟩ := map_some h
          obtain ⟨vs, x, y⟩ := s.obj i a _ ha hg
          unfold Rp
          exact ⟨a, vs, rfl, .inl x, ⟨na, nz⟩, frzs_ok (fun d d' v => ih d d' v) h1 y⟩
        · rename_i ks ds hg
          obtain ⟨es, h1, rfl⟩ := map_some h
          obtain ⟨kvs, x, k, y⟩ := s.obj i a _ ha hg
          unfold Rp
          exact ⟨a, kvs, rfl, .inl x, ⟨na, nz⟩, k, frzs_ok (fun d d' v => ih d d' v) h1 y⟩
        · rename_i cn fs ds hg
          obtain ⟨es, h1, rfl⟩ := map_some h
          obtain ⟨C, dx, fvs, m, x, k, y⟩ := s.obj i a _ ha hg
          unfold Rp
          exact ⟨a, C, dx, fvs, rfl, m, .inl x, ⟨na, nz⟩, k, frzs_ok (fun d d' v => ih d d' v) h1 y⟩
        · cases h
    · rename_i ds
      obtain ⟨es, h1, rfl⟩ := map_some h
      unfold Rp at r
      obtain ⟨a, vs, rfl, x, y⟩ := r
      unfold Rp
      exact ⟨a, vs, rfl, x, frzs_ok (fun d d' v => ih d d' v) h1 y⟩
    · obtain ⟨h1, rfl⟩ := ite_some h
      exact Rp.cut d v h1 r
/-- the callee's context -/
abbrev C.inn (c : C) (n : Nat) : C := { c with b := n, P := fun m => c.P m ∨ m = n }
theorem RepO.closedO {a : Addr} {o : DO} (h : RepO c H ρ a o) : closedO ρ.length o = true := by
  cases o with
  | lst ds => obtain ⟨vs, x, y⟩ := h; exact Rps.closed _ _ y
  | dct ks ds => obtain ⟨kvs, x, k, y⟩ := h; exact Rps.closed _ _ y
  | ins n fs ds => obtain ⟨C, dx, fvs, m, x, k, y⟩ := h; exact Rps.closed _ _ y
theorem SR.inn (s : SR c H ρ G) : SR (c.inn G.length) H ρ G := by
  refine ⟨s.len, s.nd, fun i a o h1 h2 => (s.obj i a o h1 h2).map c (c.inn G.length) rfl rfl fun ds vs => Rps.cx (c := c) (c' := c.inn G.length) rfl rfl rfl ds vs, Nat.le_refl _, fun n hn => ?_, fun n i o hn hi h2 => ?_, s.zs⟩
  · rcases hn with hn | hn
    · exact Nat.le_trans (s.pb n hn) s.bnd
    · exact Nat.le_of_eq hn
  · rcases hn with hn | hn
    · exact s.cl n i o hn hi h2
    · subst hn
      have hi' : i < ρ.length := by rw [s.len]; exact hi
      have q := (s.obj i _ o (List.getElem?_eq_getElem hi') h2).closedO
      rw [s.len] at q
      exact q
theorem Ext.take (s : SR c H ρ G) (e : Ext (c.inn G.length) H ρ H' ρ') : ρ'.take G.length = ρ ∧ Ext c H ρ H' ρ := by
  obtain ⟨new, e1, e2⟩ := e.more
  refine ⟨by rw [e1, ← s.len, List.take_left'] ; rfl, ⟨⟨⟨[], by simp, by simp⟩, e.keep, e.tups, e.dom⟩, e.zs⟩⟩
theorem SR.out (s : SR c H ρ G) (e : Ext (c.inn G.length) H ρ H' ρ') (s' : SR (c.inn G.length) H' ρ' G') : SR c H' ρ (G'.take G.length) := by
  obtain ⟨e1, e2⟩ := Ext.take s e
  have b' : G.length ≤ G'.length := s'.bnd
  have hl : (G'.take G.length).length = G.length := by rw [List.length_take]; omega
  refine ⟨by rw [hl]; exact s.len, s.nd, fun i a o h1 h2 => ?_, by rw [hl]; exact s.bnd, s.pb, fun n i o hn hi h2 => ?_, fun a ha => ⟨(s.zs a ha).1, (s'.zs a ha).2⟩⟩
  · have hi : i < G.length := by
      have := (List.getElem?_eq_some_iff.mp h2).1
      omega
    rw [take_get hi] at h2
    have h1' : ρ'[i]? = some a := e.get h1
    have q := s'.obj i a o h1' h2
    have k := s'.cl G.length i o (.inr rfl) hi h2
    have cutt : ∀ ds vs, closed.closeds G.length ds = true → Rps (c.inn G.length) H' ρ' ds vs → Rps c H' ρ ds vs := fun ds vs kk r => by
      have := Rps.cut ds vs kk r
      rw [e1] at this
      exact Rps.cx (c := c.inn G.length) (c' := c) rfl rfl rfl _ _ this
    cases o with
    | lst ds => obtain ⟨vs, x, y⟩ := q; exact ⟨vs, x, cutt _ _ k y⟩
    | dct ks ds => obtain ⟨kvs, x, kk, y⟩ := q; exact ⟨kvs, x, kk, cutt _ _ k y⟩
    | ins n fs ds => obtain ⟨C, dx, fvs, m, x, kk, y⟩ := q; exact ⟨C, dx, fvs, m, x, kk, cutt _ _ k y⟩
  · have hm : n ≤ c.b := s.pb n hn
    have hb := s.bnd
    rw [take_get (by omega)] at h2
    exact s'.cl n i o (.inl hn) hi h2
theorem SR.kept (s : SR c H ρ G) (s' : SR (c.inn G.length) H' ρ' G') : SR c H' ρ' G' := by
  have b' : G.length ≤ G'.length := s'.bnd
  exact ⟨s'.len, s'.nd, fun i a o h1 h2 => (s'.obj i a o h1 h2).map (c.inn G.length) c rfl rfl fun ds vs => Rps.cx (c := c.inn G.length) (c' := c) rfl rfl rfl ds vs, Nat.le_trans s.bnd b', s.pb, fun n i o hn => s'.cl n i o (.inl hn), s'.zs⟩
end
/-- one call upon plain data gives what is wanted of the body -/
theorem callF_fin {Φ : Fn} {fd : FDef} {c : C} {H : Hp} {ρ : List Addr} {G : Hd} {ds : List D} {Q : VK} (s : SR c H ρ G) (h : Fin c (Rp c) (callF Φ fd ds G) H ρ Q) :
    ds.length = fd.n ∧ Fin (c.inn G.length) (RF (c.inn G.length)) (evSs Φ G.length fd.body (ds.map some ++ List.replicate (fd.slots - ds.length) none) G) H ρ (endOf { nx := fun _ H' => Q .non H', rt := Q }) := by
  unfold callF at h
  by_cases hl : ds.length = fd.n
  · rw [if_pos hl] at h
    refine ⟨hl, ?_⟩
    cases g : evSs Φ G.length fd.body (ds.map some ++ List.replicate (fd.slots - ds.length) none) G with
    | bad => rw [g] at h; exact h
    | exc e G' =>
      rw [g] at h
      exact fun H' ρ' e' s' => h H' ρ (Ext.take s e').2 (SR.out s e' s')
    | ok fl G' =>
      rw [g] at h
      cases fl with
      | nx τ =>
        intro x H' ρ' e' s' r
        cases x with
        | nx σ => exact h .non H' ρ (Ext.take s e').2 (SR.out s e' s') rfl
        | _ => exact r.elim
      | rt d =>
        simp only at h
        intro x H' ρ' e' s' r
        cases x with
        | rt v =>
          have r : Rp (c.inn G.length) H' ρ' d v := r
          by_cases hk : fd.keep = true
          · rw [if_pos hk] at h
            exact h v H' ρ' ⟨⟨e'.more, e'.keep, e'.tups, e'.dom⟩, e'.zs⟩ (SR.kept s s') (Rp.cx (c := c.inn G.length) (c' := c) rfl rfl rfl _ _ r)
          · rw [if_neg hk] at h
            cases g2 : frz 4 G.length G' d with
            | none => rw [g2] at h; exact h.elim
            | some d' =>
              rw [g2] at h
              have q := frz_ok s' 4 d d' v g2 r
              rw [(Ext.take s e').1] at q
              exact h v H' ρ (Ext.take s e').2 (SR.out s e' s') (Rp.cx (c := c.inn G.length) (c' := c) rfl rfl rfl _ _ q)
        | _ => exact r.elim
      | bk τ => exact h.elim
      | ct τ => exact h.elim
  · rw [if_neg hl] at h
    exact h.elim
end U

set_option Elab.async false
set_option linter.all false
set_option maxRecDepth 100000
/-! UT: the program's functions, all at once. -/
namespace U
open PySem L2 PyProof.Rows

structure DefOk (K : PySem.W.Frag) (mg : Str → Option Value) (sg : Sg) (f : Str) (ps : List Str) (fd : FDef) : Prop where
  ex : ∃ (x qual : Str) (params : Arguments) (body : List Stmt) (scope : Scope) (a : Addr) (fdt : FuncData) (N : List Str) (d m : Nat), FunD K x qual params body scope [] [] a fdt ∧ mg f = some (.ref a) ∧ PlainPs params ps ∧ FnScope N ps scope ∧
    cmpS sg N scope d m body = some fd.body ∧ fd.slots = N.length
  n : fd.n = ps.length
/-- what is called at a level -/
structure FnAt (P : Program) (w : World) (K : PySem.W.Frag) (mg : Str → Option Value) (base : Heap) (n : Nat) (f : Str) (ps : List Str) (F : List D → Hd → Out D) : Prop where
  ex : ∃ a fdt, mg f = some (.ref a) ∧ PySem.W.keepIn K (.ref a) = true ∧ (∃ oc od osl, K.lookup a = some ⟨oc, od, .func fdt, osl⟩) ∧ (∀ n, n ≤ ps.length → KBn K fdt ps n (ps.drop n) (fun us ws => us ++ ws) (fun us ws => us ++ ws)) ∧ FnOk P w K mg base (L2.CX P w) n a fdt ps (lowSp K mg ps.length F)
theorem funD_at {K : PySem.W.Frag} {x qual : Str} {params : Arguments} {body : List Stmt} {scope : Scope} {a : Addr} {fdt : FuncData} (F : FunD K x qual params body scope [] [] a fdt) : ∃ oc od osl, K.lookup a = some ⟨oc, od, .func fdt, osl⟩ := by
  obtain ⟨oc, od, _, _, _, _, _, _, _, osl, e1, lk, _⟩ := F.ex
  exact ⟨oc, od, osl, lk⟩
theorem env_start {c : C} {H : Hp} {ρ : List Addr} {N : List Str} {n : Nat} (hN : n = N.length) : ∀ {ds : List D} {vs : List V}, Rps c H ρ ds vs → EnvR c H ρ (L2.start N vs) (ds.map some ++ List.replicate (n - ds.length) none) := by
  intro ds vs r
  have hl := r.length
  refine ⟨by unfold L2.start; simp [hl, hN], fun i d h => ?_⟩
  unfold L2.start
  by_cases hi : i < ds.length
  · rw [List.getElem?_append_left (by simpa using hi), List.getElem?_map] at h
    obtain ⟨d', h1, h2⟩ := map_some h
    cases h2
    obtain ⟨v, hv, rv⟩ := r.get h1
    refine ⟨v, ?_, rv⟩
    rw [List.getElem?_append_left (by simpa [hl] using hi), List.getElem?_map, hv]
    rfl
  · rw [List.getElem?_append_right (by simpa using hi)] at h
    have := List.mem_of_getElem? h
    rw [List.mem_replicate] at this
    cases this.2
section
variable {P : Program} {w : World} {K : PySem.W.Frag} {mg : Str → Option Value} {base : Heap} {sg : Sg} {tbl : List (Str × FDef)}
/-- the module's plain names -/
structure ModOk (K : PySem.W.Frag) (mg : Str → Option Value) (sg : Sg) : Prop where
  con : ∀ x d, sg.cons.lookup x = some d → ∃ u v, mg x = some u ∧ RelV v u ∧ ∀ c' : C, c'.K = K → c'.mg = mg → ∀ H ρ, Rp c' H ρ d v
  blt : ∀ x ∈ bltNames, mg x = none
theorem def_ok {Φ : Fn} {f : Str} {ps : List Str} {fd : FDef} {n : Nat} (M : ModOk K mg sg) (D : DefOk K mg sg f ps fd) (ih : ∀ g qs, sg.fns.lookup g = some qs → FnAt P w K mg base n g qs (Φ g)) :
    FnAt P w K mg base (n + 1) f ps (callF Φ fd) := by
  obtain ⟨x, qual, params, body, scope, a, fdt, N, d, m, F, hm, pp, S, hc, hs⟩ := D.ex
  have e : fdt.params = params ∧ fdt.defaults = .none := by
    obtain ⟨oc, od, dV, kV, doc, pm, an, cdv, ct, osl, rfl, lk, hcd, hD, hK⟩ := F.ex
    rcases hD with ⟨_, rfl⟩ | ⟨e, _⟩
    · exact ⟨rfl, rfl⟩
    · exact absurd rfl e
  have ndp : ps.Nodup := by
    rw [← S.pre]
    exact (List.take_sublist _ _).nodup S.nd
  refine ⟨a, fdt, hm, F.kp, funD_at F, fun n hn => kbn_plain (e.1 ▸ pp) e.2 ndp n hn, F.ok S (fun vs H Q E h => ?_) fun cdv A outer s H vs Q E hr hsp => ?_⟩
  · obtain ⟨_, _, _, _, _, _, _, _, _, _, h, _⟩ := h
    exact h
  · obtain ⟨EX, b, Pb, Z, ρ, G, ds, hE, sr, rs, hl, fin⟩ := hsp
    obtain ⟨h1, h2⟩ := callF_fin sr fin
    refine ⟨lowS (C.inn ⟨K, mg, EX, b, Pb, Z⟩ G.length) (evSs Φ G.length fd.body), ?_, ?_⟩
    · refine cmpS_ok (X := cxOf (L2.CX P w) P w K mg base N qual scope a cdv A outer s H E) (c := C.inn ⟨K, mg, EX, b, Pb, Z⟩ G.length) ?_ rfl (fun _ _ => rfl) hc
      refine ⟨rfl, rfl, rfl, ?_, S.nd, S.kind, M.con, M.blt, fun g qs hg => ?_, ?_, ?_⟩
      · have := hr.un
        show (A.deeper (envOfC qual scope s.heap.objs.size a cdv)).units + 64 < cLine
        omega
      · obtain ⟨a', fdt', q1, q2, _, q3, q4⟩ := ih g qs hg
        exact ⟨a', fdt', n, q1, q2, q3, q4, hr⟩
      · exact (takes_of (E := E) rfl rfl rfl rfl).imp fun cls d σ H h => hE cls d H h
      · exact passes_of (K := fun e s'' => L2.CX P w outer H s E e s'') rfl
    · exact ⟨Z, fun m => Pb m ∨ m = G.length, ρ, G, _, SR.inn sr, env_start hs (Rps.cx (c := ⟨K, mg, EX, b, Pb, Z⟩) (c' := C.inn ⟨K, mg, EX, b, Pb, Z⟩ G.length) rfl rfl rfl _ _ rs), h2⟩
theorem fns_ok (M : ModOk K mg sg) (hall : ∀ f ps, sg.fns.lookup f = some ps → ∃ fd, tbl.lookup f = some fd ∧ DefOk K mg sg f ps fd) : ∀ (n : Nat) (f : Str) (ps : List Str), sg.fns.lookup f = some ps → FnAt P w K mg base n f ps (run tbl n f)
  | 0, f, ps, h => by
    obtain ⟨fd, h1, D⟩ := hall f ps h
    obtain ⟨x, qual, params, body, scope, a, fdt, N, d, m, F, hm, pp, S, hc, hs⟩ := D.ex
    have e : fdt.params = params ∧ fdt.defaults = .none := by
      obtain ⟨oc, od, dV, kV, doc, pm, an, cdv, ct, osl, rfl, lk, hcd, hD, hK⟩ := F.ex
      rcases hD with ⟨_, rfl⟩ | ⟨e, _⟩
      · exact ⟨rfl, rfl⟩
      · exact absurd rfl e
    have ndp : ps.Nodup := by
      rw [← S.pre]
      exact (List.take_sublist _ _).nodup S.nd
    have no : ∀ vs H Q E, ¬ lowSp K mg ps.length (run tbl 0 f) vs H Q E := fun vs H Q E h => by
      obtain ⟨_, _, _, _, _, _, _, _, _, _, _, h⟩ := h
      exact h
    exact ⟨a, fdt, hm, F.kp, funD_at F, fun n hn => kbn_plain (e.1 ▸ pp) e.2 ndp n hn, fun vs H Q E h => absurd h (no _ _ _ _), fun A outer s H args us vs Q E _ _ _ _ h => absurd h (no _ _ _ _)⟩
  | n + 1, f, ps, h => by
    obtain ⟨fd, h1, D⟩ := hall f ps h
    have e : run tbl (n + 1) f = callF (run tbl n) fd := by
      funext ds G
      show (match tbl.lookup f with
        | some fd => callF (run tbl n) fd ds G
        | none => .bad) = _
      rw [h1]
    rw [e]
    exact def_ok M D fun g qs hg => fns_ok M hall n g qs hg
end
end U

set_option Elab.async false
set_option linter.all false
set_option maxRecDepth 100000
/-! UU: from the rows of a program to its law. -/
namespace U
open PySem L2 PyProof.Rows

/-- one def of the top -/
structure Row where
  f : Str
  st : Stmt
  N : List Str
  keep : Bool
  body : MSs
def Row.ps (r : Row) : List Str := (defArgs r.st).args.map (·.arg)
def Row.fd (r : Row) : FDef := ⟨r.ps.length, r.N.length, r.keep, r.body⟩
def Row.d (r : Row) : He.DefD := ⟨(r.f, none), r.f, r.f, defArgs r.st, defBody r.st, defScope r.st, [], []⟩
def fnScopeB (N P : List Str) (sc : Scope) : Bool :=
  (match sc.kind with | .function => true | _ => false) && !sc.isCoroutine && !sc.isGenerator && decide N.Nodup && decide (N.take P.length = P) &&
    (P.all fun x => match sc.names.lookup x with | some .local => true | some .cell => true | _ => false) && (sc.names.all fun y => match y.2 with | .free => false | _ => true)
theorem fnScopeB_ok {N P : List Str} {sc : Scope} (h : fnScopeB N P sc = true) : FnScope N P sc := by
  unfold fnScopeB at h
  simp only [Bool.and_eq_true, List.all_eq_true, decide_eq_true_eq, Bool.not_eq_true'] at h
  obtain ⟨⟨⟨⟨⟨⟨h1, h2⟩, h3⟩, h4⟩, h5⟩, h6⟩, h7⟩ := h
  refine ⟨?_, h2, h3, h4, h5, fun x hx => ?_, fun y hy e => ?_⟩
  · split at h1
    · assumption
    · cases h1
  · have q := h6 x hx
    split at q
    · exact .inl (by assumption)
    · exact .inr (by assumption)
    · cases q
  · have q := h7 y hy
    rw [e] at q
    cases q
def tblOf (rows : List Row) : List (Str × FDef) := rows.map fun r => (r.f, r.fd)
def fnsOf (rows : List Row) : List (Str × List Str) := rows.map fun r => (r.f, r.ps)
structure RowOk (sg : Sg) (r : Row) : Prop where
  pp : plainPs (defArgs r.st) = true
  sc : fnScopeB r.N r.ps (defScope r.st) = true
  cc : ∃ d m, cmpS sg r.N (defScope r.st) d m (defBody r.st) = some r.body
theorem rows_look {rows : List Row} {f : Str} {ps : List Str} (h : (fnsOf rows).lookup f = some ps) : ∃ r ∈ rows, r.f = f ∧ r.ps = ps ∧ (tblOf rows).lookup f = some r.fd := by
  induction rows with
  | nil => cases h
  | cons r rows ih =>
    unfold fnsOf at h
    rw [List.map_cons, List.lookup_cons] at h
    unfold tblOf
    rw [List.map_cons, List.lookup_cons]
    cases e : f == r.f with
    | true =>
      rw [e] at h
      cases h
      exact ⟨r, List.mem_cons_self, (eq_of_beq e).symm, rfl, rfl⟩
    | false =>
      rw [e] at h
      obtain ⟨r', h1, h2⟩ := ih h
      exact ⟨r', List.mem_cons_of_mem _ h1, h2⟩

/-! ### facts -/
def conFa : Str × D → He.Fa
  | (x, .int i) => .int x i
  | (x, .str z) => .str x z
  | (x, _) => .glo x
def conOk : Str × D → Bool
  | (_, .int _) => true
  | (_, .str _) => true
  | _ => false
def faOf (rows : List Row) (cons : List (Str × D)) : List He.Fa := rows.map (fun r => .glo r.f) ++ (cons.map conFa ++ bltNames.map .free)
def fnOf (rows : List Row) : List He.DefD := rows.map Row.d
/-- no list is written -/
def noL (o : Obj) : Bool := match o.cls with
  | .type c => !(c == "list")
  | _ => true
def obsU (rows : List Row) (cons : List (Str × D)) (K : PySem.W.Frag) : He.AlD × Bool := (He.obsD (faOf rows cons) (fnOf rows) K, K.all fun p => noL p.2)
def obsUG (n : Nat) (rows : List Row) (cons : List (Str × D)) (g : Addr → Option Obj) : He.AlD × Bool := obsU rows cons (He.frG g (He.asD g n))
def hookU (n : Nat) (rows : List Row) (cons : List (Str × D)) : PySem.W.Hook where
  α := He.AlD × Bool
  obs := fun s => obsUG n rows cons s.heap.get?
  val := fun _ => (He.valD (fnOf rows), true)
  says := fun _ h => ∃ K : PySem.W.Frag, K.In h ∧ obsU rows cons K = (He.valD (fnOf rows), true)
  of := fun _ _ e => ⟨_, He.frG_in, e⟩
  keeps := fun _ _ _ ⟨K, hK, c⟩ k => ⟨K, PySem.W.Frag.In.keeps hK k, c⟩
theorem obsUG_eq {n : Nat} {rows : List Row} {cons : List (Str × D)} {g : Addr → Option Obj} {s : Shared} (h : ∀ a, g a = s.heap.get? a) : obsUG n rows cons g = (hookU n rows cons).obs s := by
  have e : g = s.heap.get? := funext h
  rw [e]
  rfl
section
variable {rows : List Row} {cons : List (Str × D)} {K : PySem.W.Frag} {h : Heap} {mg : Str → Option Value} {hints : List (Nat × Nat)}
theorem frag_mem {a : Addr} {o : Obj} : ∀ {K : PySem.W.Frag}, K.lookup a = some o → (a, o) ∈ K
  | [], h => nomatch (show (none : Option Obj) = some o from h)
  | (b, p) :: K, h => by
    have h : (match a == b with | true => some p | false => List.lookup a K) = some o := h
    cases e : a == b with
    | true =>
      rw [e] at h
      cases h
      rw [eq_of_beq e]
      exact List.mem_cons_self
    | false =>
      rw [e] at h
      exact List.mem_cons_of_mem _ (frag_mem h)
theorem says_fact (c : obsU rows cons K = (He.valD (fnOf rows), true)) {f : He.Fa} (h : f ∈ faOf rows cons) : f.ok K = true := by
  have c1 : He.SaysD (faOf rows cons) (fnOf rows) K := congrArg (fun z : He.AlD × Bool => z.1) c
  obtain ⟨i, hi, e⟩ := List.mem_iff_getElem.mp h
  exact c1.fact i (by rw [List.getElem?_eq_getElem hi, e])
theorem says_def (c : obsU rows cons K = (He.valD (fnOf rows), true)) {r : Row} (h : r ∈ rows) : ∃ fd, FunD K r.f r.f (defArgs r.st) (defBody r.st) (defScope r.st) [] [] (He.ga K r.f) fd := by
  have c1 : He.SaysD (faOf rows cons) (fnOf rows) K := congrArg (fun z : He.AlD × Bool => z.1) c
  obtain ⟨i, hi, e⟩ := List.mem_iff_getElem.mp (show r.d ∈ fnOf rows from List.mem_map_of_mem h)
  exact c1.def_ i (d := r.d) (by rw [List.getElem?_eq_getElem hi, e])
theorem says_nol (c : obsU rows cons K = (He.valD (fnOf rows), true)) {a : Addr} {o : Obj} (h : K.lookup a = some o) : o.cls ≠ .type "list" := by
  have c1 : (K.all fun p => noL p.2) = true := congrArg (fun z : He.AlD × Bool => z.2) c
  have q : noL o = true := List.all_eq_true.mp c1 _ (frag_mem h)
  intro e
  unfold noL at q
  rw [e] at q
  cases q
theorem mod_ok (X : K.In h) (G : h.Ns mainGlobals mg) (c : obsU rows cons K = (He.valD (fnOf rows), true)) (hc : cons.all conOk = true) : ModOk K mg ⟨fnsOf rows, cons, hints⟩ := by
  refine ⟨fun x d hl => ?_, fun x hx => ?_⟩
  · have m := lookup_mem hl
    have q := List.all_eq_true.mp hc _ m
    have f := says_fact c (f := conFa (x, d)) (List.mem_append_right _ (List.mem_append_left _ (List.mem_map_of_mem m)))
    cases d with
    | int i =>
      obtain ⟨t, e⟩ := He.int_ok X G f
      exact ⟨_, .int i, e, ⟨t, rfl⟩, fun _ _ _ _ _ => rfl⟩
    | str z =>
      obtain ⟨t, e⟩ := He.str_ok X G f
      exact ⟨_, .str z, e, ⟨t, rfl⟩, fun _ _ _ _ _ => rfl⟩
    | _ => cases q
  · exact He.free_ok X G (says_fact c (List.mem_append_right _ (List.mem_append_right _ (List.mem_map_of_mem hx))))
theorem defs_ok (X : K.In h) (G : h.Ns mainGlobals mg) (c : obsU rows cons K = (He.valD (fnOf rows), true)) (hr : ∀ r ∈ rows, RowOk ⟨fnsOf rows, cons, hints⟩ r) (f : Str) (ps : List Str) (hl : (fnsOf rows).lookup f = some ps) :
    ∃ fd, (tblOf rows).lookup f = some fd ∧ DefOk K mg ⟨fnsOf rows, cons, hints⟩ f ps fd := by
  obtain ⟨r, hm, rfl, rfl, h2⟩ := rows_look hl
  obtain ⟨fdt, F⟩ := says_def c hm
  have R := hr r hm
  obtain ⟨d, m, hc⟩ := R.cc
  exact ⟨r.fd, h2, ⟨_, _, _, _, _, _, fdt, r.N, d, m, F, He.glo_ok X G (says_fact c (List.mem_append_left _ (List.mem_map_of_mem hm))), plainPs_of R.pp, fnScopeB_ok R.sc, hc, rfl⟩, rfl⟩
end
/-- what any world's call may let out -/
def CXA (P : Program) : CXT := fun outer H s E e s' => ∃ w, L2.CX P w outer H s E e s'
theorem fnok_any {P : Program} {w : World} {K : PySem.W.Frag} {mg : Str → Option Value} {base : Heap} {k : Nat} {f : Addr} {fd : FuncData} {ps : List Str} {sp : Sp} (F : FnOk P w K mg base (L2.CX P w) k f fd ps sp) : FnOk P w K mg base (CXA P) k f fd ps sp :=
  ⟨F.len, fun A outer s H args us vs Q E hr he hb hv hs => codeAny_mono (F.run A outer s H args us vs Q E hr he hb hv hs) fun r s' z => by
    cases r with
    | error e => exact ⟨w, z⟩
    | ok fl => cases fl <;> exact z⟩
theorem cxa_no {P : Program} (H : Hp) (s : Shared) (e : Value) (s' : Shared) (h : CXA P [] H s (fun _ _ _ => False) e s') : False := by
  obtain ⟨_, _, _, _, _, _, _, _, _, _, _, _, _, z⟩ := h
  exact z
theorem ints_rp {c : C} {H : Hp} {ρ : List Addr} : ∀ ns : List Int, Rps c H ρ (ns.map D.int) (ns.map V.int)
  | [] => .nil
  | n :: ns => .cons rfl (ints_rp ns)
/-- THE END: the program's rows, the law's run upon plain data -/
theorem law_facts {P : Program} {rows : List Row} {cons : List (Str × D)} {hints : List (Nat × Nat)} {n m : Nat} {law x : Str} (hc : cons.all conOk = true) (hr : ∀ r ∈ rows, RowOk ⟨fnsOf rows, cons, hints⟩ r) (hl : (fnsOf rows).lookup law = some [x])
    (hrun : ∀ ns : List Int, ns.length ≤ m → ∃ G, run (tblOf rows) n law [.lst (ns.map D.int)] [] = .ok (.bl true) G)
    {w : World} {mg : Str → Option Value} {fa : Addr} {h : Heap} (Y : ∃ K : PySem.W.Frag, K.In h ∧ obsU rows cons K = (He.valD (fnOf rows), true)) (G : h.Ns mainGlobals mg) (hmg : mg law = some (.ref fa)) :
    ∃ (K : PySem.W.Frag) (fd : FuncData) (sp : Sp), K.In h ∧ (∀ (s : Shared) (u : Value), BindsTo s fd ⟨[u], []⟩ [(x, u)]) ∧
      (∀ (H : Hp) (a : Addr) (ns : List Int), ns.length ≤ m → Only H → SqL K H a (ns.map V.int) → sp [.ref a] H (fun v _ => v = .bl true) fun _ _ _ => False) ∧
      ∀ base : Heap, K.In base → base.Ns mainGlobals mg → FnOk P w K mg base (CXA P) n fa fd [x] sp := by
  obtain ⟨K, X, c⟩ := Y
  have M : ModOk K mg ⟨fnsOf rows, cons, hints⟩ := mod_ok X G c hc
  obtain ⟨fd, h1, D0⟩ := defs_ok (hints := hints) X G c hr law [x] hl
  obtain ⟨nm, qual, params, body, scope, a0, fdt, N, d, k, F, hm, pp, S, hcc, hs⟩ := D0.ex
  have e : fdt.params = params ∧ fdt.defaults = .none := by
    obtain ⟨_, _, dV, _, _, _, _, _, _, _, e1, _, _, hD, _⟩ := F.ex
    subst e1
    rcases hD with ⟨_, rfl⟩ | ⟨e, _⟩
    · exact ⟨rfl, rfl⟩
    · exact absurd rfl e
  have ea : a0 = fa := by
    rw [hm] at hmg
    cases hmg
    rfl
  subst ea
  refine ⟨K, fdt, lowSp K mg 1 (run (tblOf rows) n law), X, fun s u => ?_, fun H a ns hle _ hS => ?_, fun base _ _ => ?_⟩
  · have q := BindsTo.of_eq (s := s) (binds_plain (us := [u]) (ws := []) (e.1 ▸ pp) e.2 (by simp) rfl)
    exact q
  · obtain ⟨G', hg⟩ := hrun ns hle
    have r : Rd H a (.lst (ns.map V.int)) := by
      rcases hS with hS | ⟨o, _, _, h1, h2, _⟩
      · exact hS
      · exact absurd h2 (says_nol c h1)
    refine ⟨fun _ _ => False, 0, fun _ => False, [], [], [], [.lst (ns.map D.int)], fun cls d H' ⟨_, _, _, _, _, z⟩ => z, ⟨rfl, .nil, fun i a o h1 => (nomatch (show (none : Option Addr) = some a from by simpa using h1)), Nat.le_refl _, fun _ z => z.elim, fun _ _ _ z => z.elim, fun _ z => (nomatch z)⟩, .cons ?_ .nil, rfl, ?_⟩
    · unfold Rp
      exact ⟨a, _, rfl, r, ⟨fun z => (nomatch z), fun z => (nomatch z)⟩, ints_rp ns⟩
    · rw [hg]
      intro v H' ρ' _ _ rv
      exact rv
  · obtain ⟨a', fdt', q1, q2, ⟨oc, od, osl, q5⟩, q3, q4⟩ := (fns_ok (P := P) (w := w) (base := base) M (fun f ps hl => defs_ok (hints := hints) X G c hr f ps hl) n law [x] hl).ex
    rw [hm] at q1
    cases q1
    obtain ⟨oc2, od2, osl2, q6⟩ := funD_at F
    rw [q6] at q5
    cases q5
    exact fnok_any q4
end U

set_option Elab.async false
set_option linter.all false
set_option maxRecDepth 100000
/-! UV: to reckon with the small language. -/
namespace U
open PySem L2
@[simp] theorem bin_addI {G : Hd} {i j : Int} : binD G .add (.int i) (.int j) = some (.int (i + j)) := rfl
@[simp] theorem bin_subI {G : Hd} {i j : Int} : binD G .sub (.int i) (.int j) = some (.int (i - j)) := rfl
theorem bin_mulI {G : Hd} {i j : Int} (h : mulOk i j = true) : binD G .mul (.int i) (.int j) = some (.int (i * j)) := by
  show (if mulOk i j = true then _ else _) = _
  rw [if_pos h]
theorem bin_fdivI {G : Hd} {i j : Int} (h : divOk j = true) : binD G .fdiv (.int i) (.int j) = some (.int (i.fdiv j)) := by
  show (if divOk j = true then _ else _) = _
  rw [if_pos h]
theorem bin_modI {G : Hd} {i j : Int} (h : j ≠ 0) : binD G .mod (.int i) (.int j) = some (.int (i.fmod j)) := by
  show (if j ≠ 0 then _ else _) = _
  rw [if_pos h]
theorem bin_powI {G : Hd} {i j : Int} (h : powOk i j = true) : binD G .pow (.int i) (.int j) = some (.int (i ^ j.toNat)) := by
  show (if powOk i j = true then _ else _) = _
  rw [if_pos h]
@[simp] theorem cmp_geI {G : Hd} {i j : Int} : cmpD G .ge (.int i) (.int j) = some (decide (j ≤ i)) := rfl
@[simp] theorem cmp_leI {G : Hd} {i j : Int} : cmpD G .le (.int i) (.int j) = some (decide (i ≤ j)) := rfl
@[simp] theorem cmp_ltI {G : Hd} {i j : Int} : cmpD G .lt (.int i) (.int j) = some (decide (i < j)) := rfl
@[simp] theorem cmp_gtI {G : Hd} {i j : Int} : cmpD G .gt (.int i) (.int j) = some (decide (j < i)) := rfl
@[simp] theorem tru_bl {G : Hd} {b : Bool} : truD G (.bl b) = some b := rfl
@[simp] theorem tru_lst {G : Hd} {xs : List D} : truD G (.lst xs) = some (!xs.isEmpty) := rfl
@[simp] theorem tru_int {G : Hd} {i : Int} : truD G (.int i) = some (i != 0) := rfl
@[simp] theorem len_lst {G : Hd} {xs : List D} : lenD G (.lst xs) = some xs.length := rfl
@[simp] theorem len_tup {G : Hd} {xs : List D} : lenD G (.tup xs) = some xs.length := rfl
@[simp] theorem bi_len {G : Hd} {x : D} : biD G .len [x] = (lenD G x).map fun (n : Nat) => .int (n : Int) := rfl
@[simp] theorem dictOf_ref {G : Hd} {i : Nat} : dictOf G (.ref i) = (match G[i]? with | some (.dct ks vs) => some (ks, vs) | _ => none) := rfl
theorem ix_ref {G : Hd} {i : Nat} {k : D} {ks vs : List D} (h : G[i]? = some (.dct ks vs)) (hk : keyD k = true) : ixD G (.ref i) k = U.dictGet ks vs k := by
  show (match dictOf G (.ref i) with
    | some (ks, vs) => if keyD k then U.dictGet ks vs k else none
    | none => _) = _
  simp only [dictOf_ref, h, hk, if_true]
theorem ix_lst {G : Hd} {xs : List D} {i : D} : ixD G (.lst xs) i = ixSeq xs i := rfl
theorem ix_tup {G : Hd} {xs : List D} {i : D} : ixD G (.tup xs) i = ixSeq xs i := rfl
theorem get_ref {G : Hd} {i : Nat} {k d : D} {ks vs : List D} (h : G[i]? = some (.dct ks vs)) (hk : keyD k = true) : getD G (.ref i) k d = some ((U.dictGet ks vs k).getD d) := by
  show (match dictOf G (.ref i) with
    | some (ks, vs) => if keyD k then some ((U.dictGet ks vs k).getD d) else none
    | none => none) = _
  simp only [dictOf_ref, h, hk, if_true]
theorem put_ref {b : Nat} {G : Hd} {i : Nat} {k x : D} {ks vs : List D} (h : G[i]? = some (.dct ks vs)) (hk : keyD k = true) (hs : storeOk b i x = true) (hl : ks.length < line) : putD b (.ref i) k x G = .ok () (G.set i (.dct (U.dictPut ks vs k x).1 (U.dictPut ks vs k x).2)) := by
  unfold putD
  simp only [h, hk, hs, hl, decide_true, Bool.and_self, if_true]
section
variable {Φ : Fn} {b : Nat} {s : MS} {ss x y : MSs} {τ τ1 : Tau} {G G1 : Hd} {d : D} {c : MB}
theorem seq_nx (h : evS Φ b s τ G = .ok (.nx τ1) G1) : evSs Φ b (.cons s ss) τ G = evSs Φ b ss τ1 G1 := by rw [evSs, h]; rfl
theorem seq_rt (h : evS Φ b s τ G = .ok (.rt d) G1) : evSs Φ b (.cons s ss) τ G = .ok (.rt d) G1 := by rw [evSs, h]; rfl
theorem if_yes (h : evT Φ b c τ G = .ok true G1) : evS Φ b (.iff c x y) τ G = evSs Φ b x τ G1 := by rw [evS, h]; rfl
theorem if_no (h : evT Φ b c τ G = .ok false G1) : evS Φ b (.iff c x y) τ G = evSs Φ b y τ G1 := by rw [evS, h]; rfl
theorem skip (h : evT Φ b c τ G = .ok false G1) : evSs Φ b (.cons (.iff c x .nil) ss) τ G = evSs Φ b ss τ G1 := seq_nx (by rw [if_no h, evSs])
theorem ret_ok {e : ME} (h : evE Φ b e τ G = .ok d G1) : evSs Φ b (.cons (.ret e) ss) τ G = .ok (.rt d) G1 := seq_rt (by rw [evS, h]; rfl)
theorem set_ok {e : ME} {i : Nat} (h : evE Φ b e τ G = .ok d G1) : evSs Φ b (.cons (.set (.nam i) e) ss) τ G = evSs Φ b ss (τ.set i (some d)) G1 := seq_nx (by rw [evS, h]; rfl)
theorem get_ok {o k e : ME} {od kd : D} {q : List D × List D} {G2 G3 : Hd} (ho : evE Φ b o τ G = .ok od G1) (hq : dictOf G1 od = some q) (hk : evE Φ b k τ G1 = .ok kd G2) (hd : evE Φ b e τ G2 = .ok d G3) : evE Φ b (.get o k e) τ G = lift (getD G3 od kd d) G3 := by
  rw [evE, ho]
  simp only [Out.then_ok, hq, hk, hd]
end
theorem run_succ {tbl : List (Str × FDef)} {f : Str} {fd : FDef} (h : tbl.lookup f = some fd) (n : Nat) (ds : List D) (G : Hd) : run tbl (n + 1) f ds G = callF (run tbl n) fd ds G := by
  show (match tbl.lookup f with
    | some fd => callF (run tbl n) fd ds G
    | none => .bad) = _
  rw [h]
/-- a body that returned -/
theorem callF_rt {Φ : Fn} {fd : FDef} {ds : List D} {G G' : Hd} {d d' : D} (hn : ds.length = fd.n) (hk : fd.keep = false) (he : evSs Φ G.length fd.body (ds.map some ++ List.replicate (fd.slots - ds.length) none) G = .ok (.rt d) G') (hf : frz 4 G.length G' d = some d') : callF Φ fd ds G = .ok d' (G'.take G.length) := by
  unfold callF
  rw [if_pos hn, he]
  simp only [hk, Bool.false_eq_true, if_false, hf]
theorem callF_rtG {Φ : Fn} {fd : FDef} {ds : List D} {G : Hd} {d : D} (hn : ds.length = fd.n) (hk : fd.keep = false) (he : evSs Φ G.length fd.body (ds.map some ++ List.replicate (fd.slots - ds.length) none) G = .ok (.rt d) G) (hf : frz 4 G.length G d = some d) : callF Φ fd ds G = .ok d G := by
  rw [callF_rt hn hk he hf, List.take_length]
theorem frz_bl {n : Nat} {G : Hd} {b : Bool} : frz 4 n G (.bl b) = some (.bl b) := rfl
theorem frz_int {n : Nat} {G : Hd} {b : Int} : frz 4 n G (.int b) = some (.int b) := rfl
theorem frz_str {n : Nat} {G : Hd} {b : Str} : frz 4 n G (.str b) = some (.str b) := rfl
theorem frz_non {n : Nat} {G : Hd} : frz 4 n G .non = some .non := rfl
end U

set_option Elab.async false
set_option linter.all false
set_option maxRecDepth 100000
/-! UW: how the laws draw. -/
namespace U
open PySem L2
def bDraw : MSs := (.cons (.setix (.var 1) (.con (.str "count")) (.bin .add (.ix (.var 1) (.con (.str "count"))) (.con (.int (1)))))
  (.cons (.set (.nam 3) (.ifx (.val (.var 0)) (.bin .mod (.ix (.var 1) (.con (.str "count"))) (.bi .len (.cons (.var 0) .nil))) (.con (.int (0)))))
  (.cons (.set (.nam 4) (.get (.ix (.var 1) (.con (.str "rests"))) (.var 3) (.ifx (.val (.var 0)) (.ix (.var 0) (.var 3)) (.con (.int (0))))))
  (.cons (.iff (.val (.cmp .ge (.var 4) (.bin .pow (.con (.int (10))) (.con (.int (18))))))
    (.cons (.setix (.ix (.var 1) (.con (.str "rests"))) (.var 3) (.bin .fdiv (.var 4) (.var 2)))
  (.cons (.ret (.bin .mod (.var 4) (.var 2)))
  .nil))
    .nil)
  (.cons (.set (.nam 5) (.bin .mod (.bin .add (.var 4) (.bin .mul (.con (.int (104729))) (.ix (.var 1) (.con (.str "count"))))) (.con (.int (4294967291)))))
  (.cons (.set (.nam 5) (.bin .mod (.bin .pow (.var 5) (.con (.int (5)))) (.con (.int (4294967279)))))
  (.cons (.ret (.bin .mod (.bin .fdiv (.bin .mod (.bin .add (.bin .mul (.bin .fdiv (.var 5) (.con (.int (64)))) (.con (.int (69621)))) (.var 5)) (.con (.int (4294967231)))) (.con (.int (8)))) (.var 2)))
  .nil)))))))
def bBegun : MSs := (.cons (.ret (.alloc (.dct (.cons (.con (.str "count")) (.cons (.con (.int (0))) (.cons (.con (.str "rests")) (.cons (.alloc (.dct .nil)) .nil)))))))
  .nil)
def fdDraw : FDef := ⟨3, 6, false, bDraw⟩
def fdBegun : FDef := ⟨0, 0, true, bBegun⟩
/-- what is left of the script's numbers -/
structure Rests (ks vs : List D) : Prop where
  len : ks.length = vs.length
  vals : ∀ k v, U.dictGet ks vs k = some v → ∃ i, v = D.int i
  keys : ∀ k ∈ ks, ∃ i : Nat, i < 63 ∧ k = .int i
  nd : ks.Nodup
def Town (o0 o1 : DO) : Prop := ∃ ks vs c, o0 = .dct ks vs ∧ o1 = .dct [.str "count", .str "rests"] [.int c, .ref 0] ∧ Rests ks vs
section
variable {ks vs : List D} {c : Int} {G : Hd} {b : Nat}
abbrev tw (c : Int) : DO := .dct [.str "count", .str "rests"] [.int c, .ref 0]
theorem tw_count {o : DO} : ixD (o :: tw c :: G) (.ref 1) (.str "count") = some (.int c) := by kernel_rfl
theorem tw_rests {o : DO} : ixD (o :: tw c :: G) (.ref 1) (.str "rests") = some (.ref 0) := by kernel_rfl
theorem tw_put {o : DO} {d : Int} : putD b (.ref 1) (.str "count") (.int d) (o :: tw c :: G) = .ok () (o :: tw d :: G) := by
  rw [put_ref (ks := [.str "count", .str "rests"]) (vs := [.int c, .ref 0]) rfl rfl (by simp [storeOk, closed]) (by decide)]
  kernel_rfl
theorem tw_get {o : DO} {k d : D} (hk : keyD k = true) : getD (.dct ks vs :: o :: G) (.ref 0) k d = some ((U.dictGet ks vs k).getD d) := get_ref rfl hk
theorem tw_dict {o : DO} : dictOf (.dct ks vs :: o :: G) (.ref 0) = some (ks, vs) := rfl
theorem tw_set {o : DO} {i z : Int} (hl : ks.length < line) : putD b (.ref 0) (.int i) (.int z) (.dct ks vs :: o :: G) = .ok () (.dct (U.dictPut ks vs (.int i) (.int z)).1 (U.dictPut ks vs (.int i) (.int z)).2 :: o :: G) := by
  rw [put_ref (ks := ks) (vs := vs) rfl rfl (by simp [storeOk, closed]) hl]
  rfl
end
theorem nodup_map {α β : Type} {f : α → β} : ∀ {l : List α}, l.Nodup → (∀ a ∈ l, ∀ b ∈ l, f a = f b → a = b) → (l.map f).Nodup
  | [], _, _ => by simp
  | a :: l, h, hf => by
    rw [List.nodup_cons] at h
    rw [List.map_cons, List.nodup_cons]
    refine ⟨fun z => ?_, nodup_map h.2 fun x hx y hy => hf x (List.mem_cons_of_mem _ hx) y (List.mem_cons_of_mem _ hy)⟩
    obtain ⟨b, hb, e⟩ := List.mem_map.mp z
    have := hf b (List.mem_cons_of_mem _ hb) a List.mem_cons_self e
    exact h.1 (this ▸ hb)
theorem nodup_le {l : List Nat} (h : l.Nodup) {n : Nat} (hl : ∀ x ∈ l, x < n) : l.length ≤ n := by
  have : l ⊆ List.range n := fun x hx => List.mem_range.mpr (hl x hx)
  have := h.length_le_of_subset this
  simpa using this
def keyN : D → Nat
  | .int i => i.toNat
  | _ => 0
theorem rests_len {ks vs : List D} (h : Rests ks vs) : ks.length ≤ 63 := by
  have : (ks.map keyN).Nodup := nodup_map h.nd fun a ha b hb e => by
    obtain ⟨i, _, rfl⟩ := h.keys a ha
    obtain ⟨j, _, rfl⟩ := h.keys b hb
    simp [keyN] at e
    rw [e]
  have := nodup_le this (n := 63) fun x hx => by
    obtain ⟨k, hk, rfl⟩ := List.mem_map.mp hx
    obtain ⟨i, hi, rfl⟩ := h.keys k hk
    simpa [keyN] using hi
  simpa using this
theorem get_swap {x y : D} {z : D} {v : D} : ∀ {ks vs : List D}, U.dictGet ks (swapV x y ks vs) z = some v → v = y ∨ U.dictGet ks vs z = some v
  | [], vs, h => by cases vs <;> simp [swapV, U.dictGet] at h
  | k :: ks, [], h => by simp [swapV, U.dictGet] at h
  | k :: ks, w :: vs, h => by
    simp only [swapV, U.dictGet] at h ⊢
    by_cases e : keyEq k z = true
    · rw [if_pos e] at h ⊢
      by_cases e2 : keyEq k x = true
      · rw [if_pos e2] at h
        exact .inl (Option.some.inj h).symm
      · rw [if_neg e2] at h
        exact .inr h
    · rw [if_neg e] at h ⊢
      exact get_swap h
theorem get_app {y : D} {x z v : D} : ∀ {ks vs : List D}, U.dictGet (ks ++ [x]) (vs ++ [y]) z = some v → v = y ∨ U.dictGet ks vs z = some v ∨ ks.length ≠ vs.length
  | [], [], h => by
    simp only [List.nil_append, U.dictGet] at h
    split at h
    · exact .inl (Option.some.inj h).symm
    · cases h
  | [], w :: vs, h => .inr (.inr (by simp))
  | k :: ks, [], h => .inr (.inr (by simp))
  | k :: ks, w :: vs, h => by
    simp only [List.cons_append, U.dictGet] at h ⊢
    by_cases e : keyEq k z = true
    · rw [if_pos e] at h ⊢
      exact .inr (.inl h)
    · rw [if_neg e] at h ⊢
      rcases get_app h with h | h | h
      · exact .inl h
      · exact .inr (.inl h)
      · exact .inr (.inr (by simpa using h))
theorem swap_len {x y : D} : ∀ {ks vs : List D}, ks.length = vs.length → (swapV x y ks vs).length = ks.length
  | [], [], _ => rfl
  | k :: ks, v :: vs, h => by
    simp only [swapV, List.length_cons]
    rw [swap_len (by simpa using h)]
theorem rests_put {ks vs : List D} (h : Rests ks vs) {i : Nat} (hi : i < 63) (z : Int) : Rests (U.dictPut ks vs (.int i) (.int z)).1 (U.dictPut ks vs (.int i) (.int z)).2 := by
  unfold U.dictPut
  by_cases e : (ks.any fun k => keyEq k (.int i)) = true
  · rw [if_pos e]
    refine ⟨?_, fun k v hv => ?_, h.keys, h.nd⟩
    · exact (swap_len h.len).symm
    · rcases get_swap hv with rfl | hv
      · exact ⟨z, rfl⟩
      · exact h.vals k v hv
  · rw [if_neg e]
    refine ⟨by simp [h.len], fun k v hv => ?_, fun k hk => ?_, ?_⟩
    · rcases get_app hv with rfl | hv | hv
      · exact ⟨z, rfl⟩
      · exact h.vals k v hv
      · exact absurd h.len hv
    · rcases List.mem_append.mp hk with hk | hk
      · exact h.keys k hk
      · exact ⟨i, hi, List.mem_singleton.mp hk⟩
    · rw [List.nodup_append]
      refine ⟨h.nd, by simp, fun a ha b hb q => ?_⟩
      rw [List.mem_singleton.mp hb] at q
      subst q
      exact e (List.any_eq_true.mpr ⟨_, ha, by simp [keyEq]⟩)
theorem draw {T : List (Str × FDef)} (L_draw : T.lookup ("_law_draw" : Str) = some fdDraw) {ns : List Int} (hns : ns.length ≤ 63) {o0 o1 : DO} (ht : Town o0 o1) (m : Nat) (hm : 0 < m) (hm2 : m < 1000) (n : Nat) (G : Hd) :
    ∃ (k : Nat) (p0 p1 : DO), k < m ∧ Town p0 p1 ∧ U.run T (n + 1) "_law_draw" [.lst (ns.map D.int), .ref 1, .int m] (o0 :: o1 :: G) = .ok (.int k) (p0 :: p1 :: G) := by
  obtain ⟨ks, vs, c, rfl, rfl, hr⟩ := ht
  rw [run_succ L_draw]
  have hdv : divOk (m : Int) = true := by
    unfold divOk
    have : m.log2 < 9000 := Nat.lt_of_le_of_lt (Nat.log2_le_self m) (by omega)
    simp [this]
    omega
  have hm0 : (m : Int) ≠ 0 := by omega
  -- the number's place
  obtain ⟨at_, hat, hat2, hat3⟩ : ∃ k : Nat, k < 63 ∧ (ns ≠ [] → k < ns.length) ∧ evE (U.run T n) (G.length + 2) (.ifx (.val (.var 0)) (.bin .mod (.ix (.var 1) (.con (.str "count"))) (.bi .len (.cons (.var 0) .nil))) (.con (.int (0)))) [some (.lst (ns.map D.int)), some (.ref 1), some (.int m), none, none, none] (DO.dct ks vs :: tw (c + 1) :: G) = .ok (.int k) (DO.dct ks vs :: tw (c + 1) :: G) := by
    cases ns with
    | nil => exact ⟨0, by decide, fun z => absurd rfl z, by simp [evE, evT]⟩
    | cons n0 r =>
      have hp : (0 : Int) < ((n0 :: r).length : Int) := by simp
      have h1 := Int.fmod_lt_of_pos (c + 1) hp
      have h2 := Int.fmod_nonneg_of_pos (c + 1) hp
      refine ⟨((c + 1).fmod ((n0 :: r).length : Int)).toNat, ?_, fun _ => ?_, ?_⟩
      · simp only [List.length_cons] at h1 h2 hns ⊢
        omega
      · simp only [List.length_cons] at h1 h2 hns ⊢
        omega
      · have h3 : ((n0 :: r).length : Int) ≠ 0 := by omega
        rw [Int.toNat_of_nonneg h2]
        simp [evE, evT, evEs, tw_count]
        rw [bin_modI (by simpa using h3)]
        simp
  have hit : ∃ z : Int, evE (U.run T n) (G.length + 2) (.get (.ix (.var 1) (.con (.str "rests"))) (.var 3) (.ifx (.val (.var 0)) (.ix (.var 0) (.var 3)) (.con (.int (0))))) [some (.lst (ns.map D.int)), some (.ref 1), some (.int m), some (.int at_), none, none] (DO.dct ks vs :: tw (c + 1) :: G) = .ok (.int z) (DO.dct ks vs :: tw (c + 1) :: G) := by
    have hd : ∃ z : Int, evE (U.run T n) (G.length + 2) (.ifx (.val (.var 0)) (.ix (.var 0) (.var 3)) (.con (.int (0)))) [some (.lst (ns.map D.int)), some (.ref 1), some (.int m), some (.int at_), none, none] (DO.dct ks vs :: tw (c + 1) :: G) = .ok (.int z) (DO.dct ks vs :: tw (c + 1) :: G) := by
      cases ns with
      | nil => exact ⟨0, by simp [evE, evT]⟩
      | cons n0 r =>
        have h := hat2 (by simp)
        refine ⟨(n0 :: r)[at_], ?_⟩
        have e : ixSeq ((n0 :: r).map D.int) (.int at_) = some (.int (n0 :: r)[at_]) := by
          show (ixN _ _).bind _ = _
          have : ixN ((n0 :: r).map D.int).length (at_ : Int) = some at_ := by
            unfold ixN
            simp at h ⊢
            omega
          rw [this]
          show ((n0 :: r).map D.int)[at_]? = _
          rw [List.getElem?_map, List.getElem?_eq_getElem h]
          rfl
        rw [evE]
        simp only [evT, evE, List.getElem?_cons_zero, List.getElem?_cons_succ, Out.then_ok, tru_lst, lift_some]
        simp only [List.map_cons, List.isEmpty_cons, Bool.not_false, if_true]
        rw [ix_lst]
        rw [List.map_cons] at e
        rw [e]
        rfl
    obtain ⟨z, hz⟩ := hd
    cases e : U.dictGet ks vs (.int at_) with
    | none => exact ⟨z, by
        rw [get_ok (od := .ref 0) (kd := .int at_) (q := (ks, vs)) (G1 := DO.dct ks vs :: tw (c + 1) :: G) (G2 := DO.dct ks vs :: tw (c + 1) :: G) (by simp [evE, tw_rests]) tw_dict (by simp [evE]) hz, tw_get rfl, e]
        rfl⟩
    | some v =>
      obtain ⟨i, rfl⟩ := hr.vals _ _ e
      exact ⟨i, by
        rw [get_ok (od := .ref 0) (kd := .int at_) (q := (ks, vs)) (G1 := DO.dct ks vs :: tw (c + 1) :: G) (G2 := DO.dct ks vs :: tw (c + 1) :: G) (by simp [evE, tw_rests]) tw_dict (by simp [evE]) hz, tw_get rfl, e]
        rfl⟩
  obtain ⟨z, hz⟩ := hit
  have hlen : (DO.dct ks vs :: tw c :: G).length = G.length + 2 := rfl
  have st1 : evS (U.run T n) (G.length + 2) (.setix (.var 1) (.con (.str "count")) (.bin .add (.ix (.var 1) (.con (.str "count"))) (.con (.int (1))))) [some (.lst (ns.map D.int)), some (.ref 1), some (.int m), none, none, none] (DO.dct ks vs :: tw c :: G) = .ok (.nx [some (.lst (ns.map D.int)), some (.ref 1), some (.int m), none, none, none]) (DO.dct ks vs :: tw (c + 1) :: G) := by
    simp [evS, evE, tw_count, tw_put]
  by_cases hbig : (10 ^ 18 : Int) ≤ z
  · refine ⟨(z.fmod m).toNat, DO.dct (U.dictPut ks vs (.int at_) (.int (z.fdiv m))).1 (U.dictPut ks vs (.int at_) (.int (z.fdiv m))).2, tw (c + 1), ?_, ⟨_, _, c + 1, rfl, rfl, rests_put hr hat _⟩, ?_⟩
    · have h1 := Int.fmod_lt_of_pos z (show (0 : Int) < m by omega)
      have h2 := Int.fmod_nonneg_of_pos z (show (0 : Int) < m by omega)
      omega
    · have h2 := Int.fmod_nonneg_of_pos z (show (0 : Int) < m by omega)
      rw [Int.toNat_of_nonneg h2]
      refine (callF_rt (d := .int (z.fmod m)) (d' := .int (z.fmod m)) (G' := DO.dct (U.dictPut ks vs (.int at_) (.int (z.fdiv m))).1 (U.dictPut ks vs (.int at_) (.int (z.fdiv m))).2 :: tw (c + 1) :: G) rfl rfl ?_ frz_int).trans ?_
      · show evSs _ (G.length + 2) bDraw [some (.lst (ns.map D.int)), some (.ref 1), some (.int m), none, none, none] _ = _
        unfold bDraw
        refine (seq_nx st1).trans ((set_ok hat3).trans ((set_ok hz).trans (seq_rt ?_)))
        rw [if_yes (G1 := DO.dct ks vs :: tw (c + 1) :: G)]
        · rw [seq_nx (τ1 := [some (.lst (ns.map D.int)), some (.ref 1), some (.int m), some (.int at_), some (.int z), none]) (G1 := DO.dct (U.dictPut ks vs (.int at_) (.int (z.fdiv m))).1 (U.dictPut ks vs (.int at_) (.int (z.fdiv m))).2 :: tw (c + 1) :: G)]
          · refine ret_ok ?_
            simp [evE, bin_modI hm0]
          · have hl := rests_len hr
            simp [evS, evE, bin_fdivI hdv, tw_rests, tw_set (show ks.length < line from Nat.lt_of_le_of_lt hl (by decide))]
        · have : binD (DO.dct ks vs :: tw (c + 1) :: G) .pow (.int 10) (.int 18) = some (.int (10 ^ 18)) := bin_powI (by decide)
          simp [evT, evE, this]
          simpa using hbig
      · simp
  · have hnum : ∃ k : Int, 0 ≤ k ∧ k < 4294967279 ∧ ∀ Q : Int, evSs (U.run T n) (G.length + 2) (.cons (.set (.nam 5) (.bin .mod (.bin .add (.var 4) (.bin .mul (.con (.int (104729))) (.ix (.var 1) (.con (.str "count"))))) (.con (.int (4294967291)))))
  (.cons (.set (.nam 5) (.bin .mod (.bin .pow (.var 5) (.con (.int (5)))) (.con (.int (4294967279)))))
  (.cons (.ret (.bin .mod (.bin .fdiv (.bin .mod (.bin .add (.bin .mul (.bin .fdiv (.var 5) (.con (.int (64)))) (.con (.int (69621)))) (.var 5)) (.con (.int (4294967231)))) (.con (.int (8)))) (.var 2)))
  .nil))) [some (.lst (ns.map D.int)), some (.ref 1), some (.int m), some (.int at_), some (.int z), none] (DO.dct ks vs :: tw (c + 1) :: G) = evSs (U.run T n) (G.length + 2) (.cons (.ret (.bin .mod (.bin .fdiv (.bin .mod (.bin .add (.bin .mul (.bin .fdiv (.var 5) (.con (.int (64)))) (.con (.int (69621)))) (.var 5)) (.con (.int (4294967231)))) (.con (.int (8)))) (.var 2)))
  .nil) [some (.lst (ns.map D.int)), some (.ref 1), some (.int m), some (.int at_), some (.int z), some (.int k)] (DO.dct ks vs :: tw (c + 1) :: G) := by
      have p1 : (0 : Int) < 4294967291 := by decide
      have a1 := Int.fmod_lt_of_pos (z + 104729 * (c + 1)) p1
      have a2 := Int.fmod_nonneg_of_pos (z + 104729 * (c + 1)) p1
      generalize hk1 : (z + 104729 * (c + 1)).fmod 4294967291 = k1 at a1 a2
      have p2 : (0 : Int) < 4294967279 := by decide
      refine ⟨(k1 ^ 5).fmod 4294967279, Int.fmod_nonneg_of_pos _ p2, Int.fmod_lt_of_pos _ p2, fun _ => ?_⟩
      rw [set_ok (d := .int k1) (G1 := DO.dct ks vs :: tw (c + 1) :: G), set_ok (d := .int ((k1 ^ 5).fmod 4294967279)) (G1 := DO.dct ks vs :: tw (c + 1) :: G)]
      · rfl
      · have hp : powOk k1 5 = true := by
          unfold powOk
          simp
          omega
        simp [evE, bin_powI hp, bin_modI]
      · have hm : mulOk 104729 (c + 1) = true := by
          unfold mulOk
          simp
        simp [evE, tw_count, bin_mulI hm, bin_modI, hk1]
    obtain ⟨k, hk0, hk1, hnum⟩ := hnum
    have p3 : (0 : Int) < 4294967231 := by decide
    generalize hx : ((((k.fdiv 64) * 69621 + k).fmod 4294967231).fdiv 8).fmod m = x
    have hx0 : 0 ≤ x := hx ▸ Int.fmod_nonneg_of_pos _ (by omega)
    have hx1 : x < m := hx ▸ Int.fmod_lt_of_pos _ (by omega)
    refine ⟨x.toNat, DO.dct ks vs, tw (c + 1), by omega, ⟨_, _, c + 1, rfl, rfl, hr⟩, ?_⟩
    rw [Int.toNat_of_nonneg hx0]
    refine (callF_rt (d := .int x) (d' := .int x) (G' := DO.dct ks vs :: tw (c + 1) :: G) rfl rfl ?_ frz_int).trans (by simp)
    show evSs _ (G.length + 2) bDraw [some (.lst (ns.map D.int)), some (.ref 1), some (.int m), none, none, none] _ = _
    unfold bDraw
    refine (seq_nx st1).trans ((set_ok hat3).trans ((set_ok hz).trans ((skip (G1 := DO.dct ks vs :: tw (c + 1) :: G) ?_).trans ?_)))
    rotate_left
    · refine (hnum 0).trans (ret_ok ?_)
      have hm : mulOk (k.fdiv 64) 69621 = true := by
        unfold mulOk
        simp
      have d1 : divOk 64 = true := by decide
      have d2 : divOk 8 = true := by decide
      simp [evE, bin_fdivI d1, bin_fdivI d2, bin_mulI hm, bin_modI, bin_modI hm0, hx]
    · have : binD (DO.dct ks vs :: tw (c + 1) :: G) .pow (.int 10) (.int 18) = some (.int (10 ^ 18)) := bin_powI (by decide)
      simp [evT, evE, this]
      simpa using hbig
theorem town0 : Town (.dct [] []) (tw 0) := ⟨[], [], 0, rfl, rfl, rfl, fun k v h => by simp [U.dictGet] at h, fun k h => (nomatch h), .nil⟩
theorem begun {T : List (Str × FDef)} (L : T.lookup ("_law_begun" : Str) = some fdBegun) (n : Nat) : U.run T (n + 1) "_law_begun" [] [] = .ok (.ref 1) [.dct [] [], tw 0] := by
  rw [run_succ L]
  kernel_rfl
end U

set_option Elab.async false
set_option linter.all false
set_option maxRecDepth 100000
/-! UX: comprehensions, loops, plain values. -/
namespace U
open PySem L2
def plain : D → Bool
  | .non => true
  | .bl _ => true
  | .int _ => true
  | .str _ => true
  | .tup _ => true
  | .lst _ => true
  | _ => false
def isI : D → Bool
  | .int _ => true
  | _ => false
def isS : D → Bool
  | .str _ => true
  | _ => false
def isT : D → Bool
  | .tup _ => true
  | _ => false
def isL : D → Bool
  | .lst _ => true
  | _ => false
def isB : D → Bool
  | .bl _ => true
  | _ => false
section
variable {G : Hd} {d : D}
theorem isi_tuple (h : plain d = true) : biD G .isi [d, .ty "tuple"] = some (.bl (isT d)) := by cases d <;> first | rfl | cases h
theorem isi_str (h : plain d = true) : biD G .isi [d, .ty "str"] = some (.bl (isS d)) := by cases d <;> first | rfl | cases h
theorem isi_list (h : plain d = true) : biD G .isi [d, .ty "list"] = some (.bl (isL d)) := by cases d <;> first | rfl | cases h
theorem isi_bool (h : plain d = true) : biD G .isi [d, .ty "bool"] = some (.bl (isB d)) := by cases d <;> first | rfl | cases h
theorem isi_int (h : plain d = true) : biD G .isi [d, .ty "int"] = some (.bl (isI d || isB d)) := by cases d <;> first | rfl | cases h
end
theorem cmp_eqI {G : Hd} {i j : Int} : cmpD G .eq (.int i) (.int j) = some (i == j) := rfl
theorem cmp_neI {G : Hd} {i j : Int} : cmpD G .ne (.int i) (.int j) = some (!(i == j)) := rfl
theorem cmp_eqB {G : Hd} {i j : Bool} : cmpD G .eq (.bl i) (.bl j) = some (i == j) := rfl
theorem cmp_neL {G : Hd} : cmpD G .ne (.lst []) (.lst []) = some false := rfl
theorem ix0 {G : Hd} {x : D} {xs : List D} : ixD G (.tup (x :: xs)) (.int 0) = some x := by
  show (ixN (x :: xs).length 0).bind _ = _
  have : ixN (x :: xs).length 0 = some 0 := by
    unfold ixN
    simp
  rw [this]
  rfl
theorem ix1 {G : Hd} {x y : D} {xs : List D} : ixD G (.tup (x :: y :: xs)) (.int 1) = some y := by
  show (ixN (x :: y :: xs).length 1).bind _ = _
  have : ixN (x :: y :: xs).length 1 = some 1 := by
    unfold ixN
    simp
    omega
  rw [this]
  rfl
theorem ix2 {G : Hd} {x y z : D} {xs : List D} : ixD G (.tup (x :: y :: z :: xs)) (.int 2) = some z := by
  show (ixN (x :: y :: z :: xs).length 2).bind _ = _
  have : ixN (x :: y :: z :: xs).length 2 = some 2 := by
    unfold ixN
    simp
    omega
  rw [this]
  rfl
section
variable {Φ : Fn} {b : Nat} {τ : Tau} {G G1 G2 : Hd} {d : D}
theorem val_ok {e : ME} {k : Bool} (h : evE Φ b e τ G = .ok (.bl k) G1) : evT Φ b (.val e) τ G = .ok k G1 := by rw [evT, h]; rfl
theorem not_ok {t : MB} {k : Bool} (h : evT Φ b t τ G = .ok k G1) : evT Φ b (.not t) τ G = .ok (!k) G1 := by rw [evT, h]; rfl
theorem or_ok {x y : MB} {k : Bool} (h : evT Φ b x τ G = .ok k G1) : evT Φ b (.or x y) τ G = if k then .ok true G1 else evT Φ b y τ G1 := by rw [evT, h]; rfl
theorem tand_ok {x y : MB} {k : Bool} (h : evT Φ b x τ G = .ok k G1) : evT Φ b (.and x y) τ G = if k then evT Φ b y τ G1 else .ok false G1 := by rw [evT, h]; rfl
theorem call_ok {f : Str} {es : MEs} {ds : List D} (h : evEs Φ b es τ G = .ok ds G1) (h2 : Φ f ds G1 = .ok d G2) : evE Φ b (.call f es) τ G = .ok d G2 := by rw [evE, h]; exact h2
theorem and_ok {x y : ME} {k : Bool} (h : evE Φ b x τ G = .ok (.bl k) G1) : evE Φ b (.and x y) τ G = if k then evE Φ b y τ G1 else .ok (.bl false) G1 := by
  rw [evE, h]
  cases k <;> rfl
theorem lcGo_pure {turn : D → Hd → Out (Option D)} {f : D → Option D} : ∀ {xs acc : List D}, (∀ x ∈ xs, turn x G = .ok (f x) G) → lcGo turn xs acc G = .ok (acc ++ xs.filterMap f) G
  | [], acc, _ => by simp [lcGo]
  | x :: xs, acc, h => by
    have ih := fun acc => lcGo_pure (turn := turn) (f := f) (xs := xs) (acc := acc) fun y hy => h y (List.mem_cons_of_mem _ hy)
    simp only [lcGo, h x List.mem_cons_self, Out.then_ok]
    cases e : f x with
    | none => simp only [ih, List.filterMap_cons, e]
    | some y => simp only [ih, List.filterMap_cons, e, List.append_assoc, List.cons_append, List.nil_append]
theorem lc_pure {e : ME} {t : MT} {it : MI} {c : MB} {own : List Nat} {ds : List D} {f : D → Option D} (hi : evI Φ b it τ G = .ok (.items ds) G) (hl : ds.length ≤ line) (h : ∀ x ∈ ds, lcTurn Φ b e t c own τ x G = .ok (f x) G) : evE Φ b (.lc e t it c own) τ G = .ok (.lst (ds.filterMap f)) G := by
  rw [evE, hi]
  simp only [Out.then_ok]
  rw [if_pos hl]
  have q := lcGo_pure (turn := lcTurn Φ b e t c own τ) (f := f) (xs := ds) (acc := []) h
  show ((lcGo (lcTurn Φ b e t c own τ) ds [] G).then fun ds G => Out.ok (D.lst ds) G) = _
  rw [q]
  rfl
theorem fm_some {α β : Type} (g : α → β) : ∀ l : List α, l.filterMap (fun x => some (g x)) = l.map g
  | [] => rfl
  | a :: l => by rw [List.filterMap_cons, fm_some g l]; rfl
theorem lc_map {e : ME} {i : Nat} {it : MI} {own : List Nat} {ds : List D} {g : D → D} (hi : evI Φ b it τ G = .ok (.items ds) G) (hl : ds.length ≤ line) (h : ∀ x ∈ ds, evE Φ b e ((wipeD τ own).set i (some x)) G = .ok (g x) G) : evE Φ b (.lc e (.nam i) it .yes own) τ G = .ok (.lst (ds.map g)) G := by
  rw [lc_pure (f := fun x => some (g x)) hi hl, fm_some]
  intro x hx
  unfold lcTurn
  simp only [bindT, evT, Out.then_ok, if_true, h x hx, noexc_ok]
theorem bools_map {α : Type} {p : α → Bool} : ∀ l : List α, boolsD (l.map fun x => D.bl (p x)) = some (l.map p)
  | [] => rfl
  | a :: l => by
    simp only [List.map_cons, boolsD, bools_map l, Option.map_some]
theorem all_ok {e : ME} {ds : List D} {p : D → Bool} (h : evE Φ b e τ G = .ok (.lst (ds.map fun x => .bl (p x))) G) : evE Φ b (.bi .all (.cons e .nil)) τ G = .ok (.bl (ds.all p)) G := by
  have hb : biD G .all [.lst (ds.map fun x => .bl (p x))] = some (.bl (ds.all p)) := by
    show (((listD G (.lst (ds.map fun x => .bl (p x)))).bind boolsD).map fun bs => D.bl (bs.all id)) = _
    show ((boolsD (ds.map fun x => .bl (p x))).map fun bs => D.bl (bs.all id)) = _
    rw [bools_map]
    simp [List.all_map]
  rw [evE]
  simp only [evEs, h, Out.then_ok, hb, lift_some]
end
end U

set_option Elab.async false
set_option linter.all false
set_option maxRecDepth 100000
/-! UY: loops by an invariant; plain values of a depth. -/
namespace U
open PySem L2
theorem forGo_inv {turn : D → Tau → Hd → Out Fl} {I : Nat → Tau → Hd → Prop} : ∀ (xs : List D) (k : Nat), (∀ i x τ G, xs[i]? = some x → I (k + i) τ G → ∃ τ' G', turn x τ G = .ok (.nx τ') G' ∧ I (k + i + 1) τ' G') → ∀ τ G, I k τ G → ∃ τ' G', forGo turn xs τ G = .ok (.nx τ') G' ∧ I (k + xs.length) τ' G'
  | [], k, _, τ, G, h => ⟨τ, G, rfl, h⟩
  | x :: xs, k, hs, τ, G, h => by
    obtain ⟨τ1, G1, e1, h1⟩ := hs 0 x τ G rfl h
    obtain ⟨τ2, G2, e2, h2⟩ := forGo_inv (turn := turn) (I := I) xs (k + 1) (fun i y τ G hy hi => by
      have := hs (i + 1) y τ G (by simpa using hy) (by rw [show k + (i + 1) = k + 1 + i by omega]; exact hi)
      rw [show k + (i + 1) = k + 1 + i by omega] at this
      exact this) τ1 G1 h1
    refine ⟨τ2, G2, ?_, ?_⟩
    · simp only [forGo, e1, Out.then_ok]
      exact e2
    · rw [List.length_cons, show k + (xs.length + 1) = k + 1 + xs.length by omega]
      exact h2
section
variable {Φ : Fn} {b : Nat} {τ : Tau} {G G1 : Hd} {t : MT} {it : MI} {s : MSs} {ds : List D}
def forTurn (Φ : Fn) (b : Nat) (t : MT) (s : MSs) : D → Tau → Hd → Out Fl := fun x τ G => match bindT t x τ with
  | some τ' => evSs Φ b s τ' G
  | none => .bad
theorem for_ok (hi : evI Φ b it τ G = .ok (.items ds) G1) : evS Φ b (.forr t it s) τ G = forGo (forTurn Φ b t s) ds τ G1 := by
  rw [evS, hi]
  rfl
theorem for_inv {I : Nat → Tau → Hd → Prop} (hi : evI Φ b it τ G = .ok (.items ds) G1) (h0 : I 0 τ G1) (hs : ∀ i x τ G, ds[i]? = some x → I i τ G → ∃ τ' G', forTurn Φ b t s x τ G = .ok (.nx τ') G' ∧ I (i + 1) τ' G') : ∃ τ' G', evS Φ b (.forr t it s) τ G = .ok (.nx τ') G' ∧ I ds.length τ' G' := by
  rw [for_ok hi]
  have := forGo_inv (turn := forTurn Φ b t s) (I := I) ds 0 (fun i x τ G hx hI => by rw [Nat.zero_add] at hI ⊢; exact hs i x τ G hx hI) τ G1 h0
  rwa [Nat.zero_add] at this
end
/-! ### plain values of a depth -/
def Sh (j : Nat) (d : D) : Prop := ∃ x, toPy d = some x ∧ x.canLay0 = true ∧ x.depth ≤ j
theorem Sh.mono {j k : Nat} {d : D} (h : Sh j d) (hk : j ≤ k) : Sh k d := by
  obtain ⟨x, h1, h2, h3⟩ := h
  exact ⟨x, h1, h2, Nat.le_trans h3 hk⟩
theorem shs {j : Nat} : ∀ {xs : List D}, (∀ x ∈ xs, Sh j x) → ∃ ys, toPys xs = some ys ∧ PyData.canLayAll0 ys = true ∧ PyData.depthAll ys ≤ j
  | [], _ => ⟨[], rfl, rfl, Nat.zero_le _⟩
  | x :: xs, h => by
    obtain ⟨y, h1, h2, h3⟩ := h x List.mem_cons_self
    obtain ⟨ys, k1, k2, k3⟩ := shs fun z hz => h z (List.mem_cons_of_mem _ hz)
    refine ⟨y :: ys, ?_, ?_, ?_⟩
    · simp only [toPys, h1, k1]
    · simp only [PyData.canLayAll0, h2, k2, Bool.and_self]
    · simp only [PyData.depthAll]
      omega
theorem Sh.tup {j : Nat} {xs : List D} (h : ∀ x ∈ xs, Sh j x) : Sh (j + 1) (.tup xs) := by
  obtain ⟨ys, k1, k2, k3⟩ := shs h
  refine ⟨.tuple ys, by simp only [toPy, k1, Option.map_some], by simpa only [PyData.canLay0] using k2, ?_⟩
  simp only [PyData.depth]
  omega
theorem Sh.lst {j : Nat} {xs : List D} (h : ∀ x ∈ xs, Sh j x) : Sh (j + 1) (.lst xs) := by
  obtain ⟨ys, k1, k2, k3⟩ := shs h
  refine ⟨.list ys, by simp only [toPy, k1, Option.map_some], by simpa only [PyData.canLay0] using k2, ?_⟩
  simp only [PyData.depth]
  omega
theorem Sh.non {j : Nat} : Sh j .non := ⟨_, rfl, rfl, Nat.zero_le _⟩
theorem Sh.bl {j : Nat} {b : Bool} : Sh j (.bl b) := ⟨_, rfl, rfl, Nat.zero_le _⟩
theorem Sh.int {j : Nat} {i : Int} : Sh j (.int i) := ⟨_, rfl, rfl, Nat.zero_le _⟩
theorem Sh.str {j : Nat} {s : Str} (h : PyData.canLay0 (.str s) = true) : Sh j (.str s) := ⟨_, rfl, h, Nat.zero_le _⟩
theorem Sh.plain {j : Nat} {d : D} (h : Sh j d) : plain d = true := by
  obtain ⟨x, h1, _⟩ := h
  cases d <;> first | rfl | cases h1
theorem eq_sh {j : Nat} {a c : D} {G : Hd} (ha : Sh j a) (hc : Sh j c) (hj : j ≤ 64) : ∃ r, eqD G a c = some r := by
  have pa := ha.plain
  have pc := hc.plain
  obtain ⟨x, h1, h2, h3⟩ := ha
  obtain ⟨y, k1, k2, k3⟩ := hc
  have e1 : toPyG G a = some x := by cases a <;> first | exact h1 | cases pa
  have e2 : toPyG G c = some y := by cases c <;> first | exact k1 | cases pc
  have s1 : SeqAt.shaped x = true := by
    unfold SeqAt.shaped
    rw [h2]
    exact decide_eq_true (Nat.le_trans h3 hj)
  have s2 : SeqAt.shaped y = true := by
    unfold SeqAt.shaped
    rw [k2]
    exact decide_eq_true (Nat.le_trans k3 hj)
  refine ⟨PyData.eqv x y, ?_⟩
  unfold eqD
  rw [e1, e2]
  simp only [s1, s2, Bool.and_self, if_true]
mutual
theorem py_closed {n : Nat} : ∀ (d : D) {x : PyData}, toPy d = some x → closed n d = true
  | .non, _, _ => rfl
  | .bl _, _, _ => rfl
  | .int _, _, _ => rfl
  | .str _, _, _ => rfl
  | .tup xs, _, h => by
    obtain ⟨ys, h1, _⟩ := map_some (show (toPys xs).map PyData.tuple = _ from h)
    exact pys_closed xs h1
  | .lst xs, _, h => by
    obtain ⟨ys, h1, _⟩ := map_some (show (toPys xs).map PyData.list = _ from h)
    exact pys_closed xs h1
  | .dct _ _, _, h => by cases h
  | .ins _ _ _, _, h => by cases h
  | .ref _, _, h => by cases h
  | .ty _, _, h => by cases h
  | .glo _, _, h => by cases h
  | .exc _, _, h => by cases h
theorem pys_closed {n : Nat} : ∀ (ds : List D) {xs : List PyData}, toPys ds = some xs → closed.closeds n ds = true
  | [], _, _ => rfl
  | d :: ds, _, h => by
    unfold toPys at h
    cases e1 : toPy d with
    | none => rw [e1] at h; cases h
    | some x =>
      cases e2 : toPys ds with
      | none => rw [e1, e2] at h; cases h
      | some xs => exact Bool.and_eq_true_iff.mpr ⟨py_closed d e1, pys_closed ds e2⟩
end
theorem Sh.closed {j n : Nat} {d : D} (h : Sh j d) : closed n d = true := by
  obtain ⟨x, h1, _⟩ := h
  exact py_closed d h1
theorem frz_sh {j n : Nat} {G : Hd} {xs : List D} (h : ∀ x ∈ xs, Sh j x) : frz 4 n G (.lst xs) = some (.lst xs) := by
  show (if U.closed n (.lst xs) then some (D.lst xs) else none) = _
  rw [if_pos (Sh.lst h).closed]
/-! ### slices -/
theorem cut_to {xs : List D} {j : Nat} (h : j ≤ xs.length) : cutD xs none (some (j : Int)) = xs.take j := by
  unfold cutD
  rw [HT.sIx_none, HT.sIx_nat, Nat.min_eq_left h]
  simp
theorem cut_from {xs : List D} {j : Nat} (h : j ≤ xs.length) : cutD xs (some (j : Int)) none = xs.drop j := by
  unfold cutD
  rw [HT.sIx_none, HT.sIx_nat, Nat.min_eq_left h, List.take_of_length_le (by simp)]
theorem enumGet : ∀ {xs : List D} {k i : Nat} {x : D}, (enumFrom k xs)[i]? = some x → ∃ y, xs[i]? = some y ∧ x = .tup [.int ((k + i : Nat) : Int), y]
  | [], _, _, _, h => by simp [enumFrom] at h
  | y :: xs, k, 0, x, h => by
    simp [enumFrom] at h
    exact ⟨y, rfl, h.symm⟩
  | y :: xs, k, i + 1, x, h => by
    obtain ⟨z, h1, h2⟩ := enumGet (xs := xs) (k := k + 1) (i := i) (by simpa [enumFrom] using h)
    exact ⟨z, by simpa using h1, by rw [h2, show k + 1 + i = k + (i + 1) by omega]⟩
theorem enumLen : ∀ {xs : List D} {k : Nat}, (enumFrom k xs).length = xs.length
  | [], _ => rfl
  | x :: xs, k => by simp [enumFrom, enumLen (xs := xs)]
theorem split_at {xs : List D} {i : Nat} {x : D} (h : xs[i]? = some x) : xs = xs.take i ++ x :: xs.drop (i + 1) := by
  have hi := (List.getElem?_eq_some_iff.mp h)
  obtain ⟨h1, h2⟩ := hi
  rw [← h2, List.getElem_cons_drop, List.take_append_drop]
theorem set_last {G : Hd} {a c : DO} : (G ++ [a]).set G.length c = G ++ [c] := by
  rw [List.set_append_right _ _ (Nat.le_refl _)]
  simp
theorem get_last {G : Hd} {a : DO} : (G ++ [a])[G.length]? = some a := by simp
end U

set_option Elab.async false
set_option linter.all false
set_option maxRecDepth 100000
namespace K01
open PySem L2 PyProof.Rows U
def top (i : Nat) : Stmt := PySem.Challenge.pw_unitlogic_k01_not_models.main.body.getD i (.Pass ⟨0, 0, 0, 0⟩)
def cons : List (Str × D) := [("LETTERS", .str "abcdefghijklmnopqrstuvwxyz"), ("DEPTH", .int 6), ("MOST", .int 8)]
def hints : List (Nat × Nat) := [(77, 11), (77, 33), (79, 16), (100, 17), (107, 12)]
def fns : List (Str × List Str) := [("is_integer", (defArgs (top 2)).args.map (·.arg)),
  ("is_name", (defArgs (top 3)).args.map (·.arg)),
  ("is_ascending", (defArgs (top 4)).args.map (·.arg)),
  ("are_names", (defArgs (top 5)).args.map (·.arg)),
  ("fraction", (defArgs (top 6)).args.map (·.arg)),
  ("is_fraction", (defArgs (top 7)).args.map (·.arg)),
  ("are_fractions", (defArgs (top 8)).args.map (·.arg)),
  ("is_unit", (defArgs (top 9)).args.map (·.arg)),
  ("is_nested", (defArgs (top 12)).args.map (·.arg)),
  ("is_expression", (defArgs (top 13)).args.map (·.arg)),
  ("is_statement", (defArgs (top 16)).args.map (·.arg)),
  ("are_headings", (defArgs (top 17)).args.map (·.arg)),
  ("is_model", (defArgs (top 18)).args.map (·.arg)),
  ("_law_is", (defArgs (top 20)).args.map (·.arg)),
  ("_law_draw", (defArgs (top 21)).args.map (·.arg)),
  ("_law_begun", (defArgs (top 22)).args.map (·.arg)),
  ("_law_unit", (defArgs (top 23)).args.map (·.arg)),
  ("_law_expression", (defArgs (top 24)).args.map (·.arg)),
  ("_law_model", (defArgs (top 25)).args.map (·.arg)),
  ("_law_spoilt", (defArgs (top 26)).args.map (·.arg)),
  ("_law_nested", (defArgs (top 27)).args.map (·.arg)),
  ("_law_expressions", (defArgs (top 28)).args.map (·.arg)),
  ("_law_models", (defArgs (top 29)).args.map (·.arg)),
  ("law", (defArgs (top 30)).args.map (·.arg))]
def sg : Sg := ⟨fns, cons, hints⟩
def N_is_integer : List Str := ["value"]
def N_is_name : List Str := ["value", "sign"]
def N_is_ascending : List Str := ["values", "one", "other"]
def N_are_names : List Str := ["value", "most", "one"]
def N_fraction : List Str := ["numerator", "denominator", "one", "other"]
def N_is_fraction : List Str := ["value", "one"]
def N_are_fractions : List Str := ["value", "many", "one"]
def N_is_unit : List Str := ["bases", "value"]
def N_is_nested : List Str := ["bases", "variables", "value", "depth", "kind"]
def N_is_expression : List Str := ["bases", "variables", "value"]
def N_is_statement : List Str := ["bases", "variables", "value", "side"]
def N_are_headings : List Str := ["bases", "variables"]
def N_is_model : List Str := ["value", "one"]
def N__law_is : List Str := ["result", "expected"]
def N__law_draw : List Str := ["script", "town", "many", "at", "rest", "number"]
def N__law_begun : List Str := []
def N__law_unit : List Str := ["script", "town", "bases", "exponents", "name", "top"]
def N__law_expression : List Str := ["script", "town", "bases", "variables", "depth", "turn", "unit", "name", "one", "other"]
def N__law_model : List Str := ["script", "town", "most", "bases", "variables", "statements", "k", "left", "right"]
def N__law_spoilt : List Str := ["value_here", "found", "place", "one", "odd"]
def N__law_nested : List Str := ["depth", "found", "k"]
def N__law_expressions : List Str := ["bases", "variables", "var", "good", "bad", "one"]
def N__law_models : List Str := ["same", "good", "bad", "one"]
def N_law : List Str := ["script", "town", "k", "model", "odd", "expression", "unit"]
def b_is_integer : MSs := (.cons (.ret (.and (.bi .isi (.cons (.var 0) (.cons (.con (.ty "int")) .nil))) (.not (.bi .isi (.cons (.var 0) (.cons (.con (.ty "bool")) .nil))))))
  .nil)
def b_is_name : MSs := (.cons (.ret (.and (.bi .isi (.cons (.var 0) (.cons (.con (.ty "str")) .nil))) (.and (.chain .le .le (.con (.int (1))) (.bi .len (.cons (.var 0) .nil)) (.con (.int (6)))) (.bi .all (.cons (.lc (.cmp .isin (.var 1) (.con (.str "abcdefghijklmnopqrstuvwxyz"))) (.nam 1) (.val (.var 0)) .yes [1]) .nil)))))
  .nil)
def b_is_ascending : MSs := (.cons (.ret (.bi .all (.cons (.lc (.cmp .lt (.var 1) (.var 2)) (.tpc (.nam 1) (.tpc (.nam 2) .tp0)) (.zip (.var 0) (.sl (.var 0) (.yes (.con (.int (1)))) .no)) .yes [1, 2]) .nil)))
  .nil)
def b_are_names : MSs := (.cons (.iff (.or (.not (.val (.bi .isi (.cons (.var 0) (.cons (.con (.ty "tuple")) .nil))))) (.or (.not (.val (.chain .le .le (.con (.int (1))) (.bi .len (.cons (.var 0) .nil)) (.var 1)))) (.not (.val (.bi .all (.cons (.lc (.call "is_name" (.cons (.var 2) .nil)) (.nam 2) (.val (.var 0)) .yes [2]) .nil))))))
    (.cons (.ret (.con (.bl false)))
  .nil)
    .nil)
  (.cons (.ret (.call "is_ascending" (.cons (.var 0) .nil)))
  .nil))
def b_fraction : MSs := (.cons (.par [2, 3] (.cons (.bi .abs (.cons (.var 0) .nil)) (.cons (.bi .abs (.cons (.var 1) .nil)) .nil)))
  (.cons (.whl (.val (.var 3))
    (.cons (.par [2, 3] (.cons (.var 3) (.cons (.bin .mod (.var 2) (.var 3)) .nil)))
  .nil))
  (.cons (.iff (.val (.cmp .lt (.var 1) (.con (.int (0)))))
    (.cons (.set (.nam 2) (.neg (.var 2)))
  .nil)
    .nil)
  (.cons (.ret (.tup (.cons (.bin .fdiv (.var 0) (.var 2)) (.cons (.bin .fdiv (.var 1) (.var 2)) .nil))))
  .nil))))
def b_is_fraction : MSs := (.cons (.iff (.or (.not (.val (.bi .isi (.cons (.var 0) (.cons (.con (.ty "tuple")) .nil))))) (.or (.val (.cmp .ne (.bi .len (.cons (.var 0) .nil)) (.con (.int (2))))) (.not (.val (.bi .all (.cons (.lc (.call "is_integer" (.cons (.var 1) .nil)) (.nam 1) (.val (.var 0)) .yes [1]) .nil))))))
    (.cons (.ret (.con (.bl false)))
  .nil)
    .nil)
  (.cons (.ret (.and (.cmp .gt (.ix (.var 0) (.con (.int (1)))) (.con (.int (0)))) (.cmp .eq (.call "fraction" (.cons (.ix (.var 0) (.con (.int (0)))) (.cons (.ix (.var 0) (.con (.int (1)))) .nil))) (.var 0))))
  .nil))
def b_are_fractions : MSs := (.cons (.ret (.and (.bi .isi (.cons (.var 0) (.cons (.con (.ty "tuple")) .nil))) (.and (.cmp .eq (.bi .len (.cons (.var 0) .nil)) (.var 1)) (.bi .all (.cons (.lc (.call "is_fraction" (.cons (.var 2) .nil)) (.nam 2) (.val (.var 0)) .yes [2]) .nil)))))
  .nil)
def b_is_unit : MSs := (.cons (.ret (.call "are_fractions" (.cons (.var 1) (.cons (.bi .len (.cons (.var 0) .nil)) .nil))))
  .nil)
def b_is_nested : MSs := (.cons (.iff (.or (.val (.cmp .eq (.var 3) (.con (.int (0))))) (.or (.not (.val (.bi .isi (.cons (.var 2) (.cons (.con (.ty "tuple")) .nil))))) (.or (.val (.cmp .nin (.bi .len (.cons (.var 2) .nil)) (.tup (.cons (.con (.int (2))) (.cons (.con (.int (3))) .nil))))) (.not (.val (.bi .isi (.cons (.ix (.var 2) (.con (.int (0)))) (.cons (.con (.ty "str")) .nil))))))))
    (.cons (.ret (.con (.bl false)))
  .nil)
    .nil)
  (.cons (.set (.nam 4) (.ix (.var 2) (.con (.int (0)))))
  (.cons (.iff (.val (.cmp .eq (.var 4) (.con (.str "var"))))
    (.cons (.ret (.and (.cmp .eq (.bi .len (.cons (.var 2) .nil)) (.con (.int (2)))) (.and (.bi .isi (.cons (.ix (.var 2) (.con (.int (1)))) (.cons (.con (.ty "str")) .nil))) (.cmp .isin (.ix (.var 2) (.con (.int (1)))) (.var 1)))))
  .nil)
    .nil)
  (.cons (.iff (.val (.cmp .eq (.var 4) (.con (.str "unit"))))
    (.cons (.ret (.and (.cmp .eq (.bi .len (.cons (.var 2) .nil)) (.con (.int (2)))) (.call "is_unit" (.cons (.var 0) (.cons (.ix (.var 2) (.con (.int (1)))) .nil)))))
  .nil)
    .nil)
  (.cons (.iff (.or (.val (.cmp .nin (.var 4) (.tup (.cons (.con (.str "mul")) (.cons (.con (.str "div")) (.cons (.con (.str "add")) (.cons (.con (.str "pow")) (.cons (.con (.str "root")) .nil)))))))) (.val (.cmp .ne (.bi .len (.cons (.var 2) .nil)) (.con (.int (3))))))
    (.cons (.ret (.con (.bl false)))
  .nil)
    .nil)
  (.cons (.iff (.not (.val (.call "is_nested" (.cons (.var 0) (.cons (.var 1) (.cons (.ix (.var 2) (.con (.int (1)))) (.cons (.bin .sub (.var 3) (.con (.int (1)))) .nil)))))))
    (.cons (.ret (.con (.bl false)))
  .nil)
    .nil)
  (.cons (.iff (.val (.cmp .eq (.var 4) (.con (.str "pow"))))
    (.cons (.ret (.and (.call "is_integer" (.cons (.ix (.var 2) (.con (.int (2)))) .nil)) (.chain .le .le (.neg (.con (.int (4)))) (.ix (.var 2) (.con (.int (2)))) (.con (.int (4))))))
  .nil)
    .nil)
  (.cons (.iff (.val (.cmp .eq (.var 4) (.con (.str "root"))))
    (.cons (.ret (.and (.call "is_integer" (.cons (.ix (.var 2) (.con (.int (2)))) .nil)) (.chain .le .le (.con (.int (2))) (.ix (.var 2) (.con (.int (2)))) (.con (.int (4))))))
  .nil)
    .nil)
  (.cons (.ret (.call "is_nested" (.cons (.var 0) (.cons (.var 1) (.cons (.ix (.var 2) (.con (.int (2)))) (.cons (.bin .sub (.var 3) (.con (.int (1)))) .nil))))))
  .nil)))))))))
def b_is_expression : MSs := (.cons (.ret (.call "is_nested" (.cons (.var 0) (.cons (.var 1) (.cons (.var 2) (.cons (.con (.int (6))) .nil))))))
  .nil)
def b_is_statement : MSs := (.cons (.iff (.or (.not (.val (.bi .isi (.cons (.var 2) (.cons (.con (.ty "tuple")) .nil))))) (.val (.cmp .ne (.bi .len (.cons (.var 2) .nil)) (.con (.int (2))))))
    (.cons (.ret (.con (.bl false)))
  .nil)
    .nil)
  (.cons (.ret (.bi .all (.cons (.lc (.call "is_expression" (.cons (.var 0) (.cons (.var 1) (.cons (.var 3) .nil)))) (.nam 3) (.val (.var 2)) .yes [3]) .nil)))
  .nil))
def b_are_headings : MSs := (.cons (.ret (.and (.call "are_names" (.cons (.var 0) (.cons (.con (.int (3))) .nil))) (.call "are_names" (.cons (.var 1) (.cons (.con (.int (6))) .nil)))))
  .nil)
def b_is_model : MSs := (.cons (.iff (.or (.not (.val (.bi .isi (.cons (.var 0) (.cons (.con (.ty "tuple")) .nil))))) (.or (.val (.cmp .ne (.bi .len (.cons (.var 0) .nil)) (.con (.int (3))))) (.not (.val (.call "are_headings" (.cons (.ix (.var 0) (.con (.int (0)))) (.cons (.ix (.var 0) (.con (.int (1)))) .nil)))))))
    (.cons (.ret (.con (.bl false)))
  .nil)
    .nil)
  (.cons (.iff (.or (.not (.val (.bi .isi (.cons (.ix (.var 0) (.con (.int (2)))) (.cons (.con (.ty "tuple")) .nil))))) (.val (.cmp .gt (.bi .len (.cons (.ix (.var 0) (.con (.int (2)))) .nil)) (.con (.int (8))))))
    (.cons (.ret (.con (.bl false)))
  .nil)
    .nil)
  (.cons (.ret (.bi .all (.cons (.lc (.call "is_statement" (.cons (.ix (.var 0) (.con (.int (0)))) (.cons (.ix (.var 0) (.con (.int (1)))) (.cons (.var 1) .nil)))) (.nam 1) (.val (.ix (.var 0) (.con (.int (2))))) .yes [1]) .nil)))
  .nil)))
def b__law_is : MSs := (.cons (.ret (.and (.bi .isi (.cons (.var 0) (.cons (.con (.ty "bool")) .nil))) (.cmp .eq (.var 0) (.var 1))))
  .nil)
def b__law_draw : MSs := (.cons (.setix (.var 1) (.con (.str "count")) (.bin .add (.ix (.var 1) (.con (.str "count"))) (.con (.int (1)))))
  (.cons (.set (.nam 3) (.ifx (.val (.var 0)) (.bin .mod (.ix (.var 1) (.con (.str "count"))) (.bi .len (.cons (.var 0) .nil))) (.con (.int (0)))))
  (.cons (.set (.nam 4) (.get (.ix (.var 1) (.con (.str "rests"))) (.var 3) (.ifx (.val (.var 0)) (.ix (.var 0) (.var 3)) (.con (.int (0))))))
  (.cons (.iff (.val (.cmp .ge (.var 4) (.bin .pow (.con (.int (10))) (.con (.int (18))))))
    (.cons (.setix (.ix (.var 1) (.con (.str "rests"))) (.var 3) (.bin .fdiv (.var 4) (.var 2)))
  (.cons (.ret (.bin .mod (.var 4) (.var 2)))
  .nil))
    .nil)
  (.cons (.set (.nam 5) (.bin .mod (.bin .add (.var 4) (.bin .mul (.con (.int (104729))) (.ix (.var 1) (.con (.str "count"))))) (.con (.int (4294967291)))))
  (.cons (.set (.nam 5) (.bin .mod (.bin .pow (.var 5) (.con (.int (5)))) (.con (.int (4294967279)))))
  (.cons (.ret (.bin .mod (.bin .fdiv (.bin .mod (.bin .add (.bin .mul (.bin .fdiv (.var 5) (.con (.int (64)))) (.con (.int (69621)))) (.var 5)) (.con (.int (4294967231)))) (.con (.int (8)))) (.var 2)))
  .nil)))))))
def b__law_begun : MSs := (.cons (.ret (.alloc (.dct (.cons (.con (.str "count")) (.cons (.con (.int (0))) (.cons (.con (.str "rests")) (.cons (.alloc (.dct .nil)) .nil)))))))
  .nil)
def b__law_unit : MSs := (.cons (.set (.nam 3) (.alloc (.lst .nil)))
  (.cons (.forr (.nam 4) (.val (.var 2))
    (.cons (.set (.nam 5) (.bin .sub (.call "_law_draw" (.cons (.var 0) (.cons (.var 1) (.cons (.con (.int (7))) .nil)))) (.con (.int (3)))))
  (.cons (.exp (.append (.var 3) (.ifx (.and (.val (.cmp .eq (.call "_law_draw" (.cons (.var 0) (.cons (.var 1) (.cons (.con (.int (4))) .nil)))) (.con (.int (0))))) (.val (.cmp .ne (.bin .mod (.var 5) (.con (.int (2)))) (.con (.int (0)))))) (.tup (.cons (.var 5) (.cons (.con (.int (2))) .nil))) (.tup (.cons (.var 5) (.cons (.con (.int (1))) .nil))))))
  .nil)))
  (.cons (.ret (.bi .tuple (.cons (.var 3) .nil)))
  .nil)))
def b__law_expression : MSs := (.cons (.set (.nam 5) (.call "_law_draw" (.cons (.var 0) (.cons (.var 1) (.cons (.con (.int (8))) .nil)))))
  (.cons (.iff (.or (.val (.cmp .eq (.var 4) (.con (.int (1))))) (.val (.cmp .lt (.var 5) (.con (.int (2))))))
    (.cons (.set (.nam 6) (.call "_law_unit" (.cons (.var 0) (.cons (.var 1) (.cons (.var 2) .nil)))))
  (.cons (.set (.nam 7) (.ix (.var 3) (.call "_law_draw" (.cons (.var 0) (.cons (.var 1) (.cons (.bi .len (.cons (.var 3) .nil)) .nil))))))
  (.cons (.ret (.ifx (.val (.cmp .gt (.call "_law_draw" (.cons (.var 0) (.cons (.var 1) (.cons (.con (.int (4))) .nil)))) (.con (.int (0))))) (.tup (.cons (.con (.str "var")) (.cons (.var 7) .nil))) (.tup (.cons (.con (.str "unit")) (.cons (.var 6) .nil)))))
  .nil)))
    .nil)
  (.cons (.set (.nam 8) (.call "_law_expression" (.cons (.var 0) (.cons (.var 1) (.cons (.var 2) (.cons (.var 3) (.cons (.bin .sub (.var 4) (.con (.int (1)))) .nil)))))))
  (.cons (.iff (.val (.cmp .eq (.var 5) (.con (.int (2)))))
    (.cons (.ret (.tup (.cons (.con (.str "pow")) (.cons (.var 8) (.cons (.bin .sub (.call "_law_draw" (.cons (.var 0) (.cons (.var 1) (.cons (.con (.int (9))) .nil)))) (.con (.int (4)))) .nil)))))
  .nil)
    .nil)
  (.cons (.iff (.val (.cmp .eq (.var 5) (.con (.int (3)))))
    (.cons (.ret (.tup (.cons (.con (.str "root")) (.cons (.var 8) (.cons (.bin .add (.con (.int (2))) (.call "_law_draw" (.cons (.var 0) (.cons (.var 1) (.cons (.con (.int (3))) .nil))))) .nil)))))
  .nil)
    .nil)
  (.cons (.set (.nam 9) (.call "_law_expression" (.cons (.var 0) (.cons (.var 1) (.cons (.var 2) (.cons (.var 3) (.cons (.bin .sub (.var 4) (.con (.int (1)))) .nil)))))))
  (.cons (.ret (.tup (.cons (.ix (.lst (.cons (.con (.str "mul")) (.cons (.con (.str "div")) (.cons (.con (.str "add")) (.cons (.con (.str "mul")) .nil))))) (.bin .sub (.var 5) (.con (.int (4))))) (.cons (.var 8) (.cons (.var 9) .nil)))))
  .nil)))))))
def b__law_model : MSs := (.cons (.set (.nam 3) (.sl (.sl (.tup (.cons (.con (.str "kg")) (.cons (.con (.str "m")) (.cons (.con (.str "s")) .nil)))) (.yes (.call "_law_draw" (.cons (.var 0) (.cons (.var 1) (.cons (.con (.int (2))) .nil))))) .no) .no (.yes (.bin .add (.con (.int (1))) (.call "_law_draw" (.cons (.var 0) (.cons (.var 1) (.cons (.con (.int (2))) .nil))))))))
  (.cons (.set (.nam 4) (.sl (.tup (.cons (.con (.str "a")) (.cons (.con (.str "f")) (.cons (.con (.str "mass")) (.cons (.con (.str "t")) (.cons (.con (.str "v")) .nil)))))) .no (.yes (.bin .add (.con (.int (1))) (.call "_law_draw" (.cons (.var 0) (.cons (.var 1) (.cons (.con (.int (4))) .nil))))))))
  (.cons (.set (.nam 5) (.alloc (.lst .nil)))
  (.cons (.forr (.nam 6) (.rng1 (.call "_law_draw" (.cons (.var 0) (.cons (.var 1) (.cons (.bin .add (.var 2) (.con (.int (1)))) .nil)))))
    (.cons (.set (.nam 7) (.call "_law_expression" (.cons (.var 0) (.cons (.var 1) (.cons (.var 3) (.cons (.var 4) (.cons (.con (.int (2))) .nil)))))))
  (.cons (.set (.nam 8) (.call "_law_expression" (.cons (.var 0) (.cons (.var 1) (.cons (.var 3) (.cons (.var 4) (.cons (.bin .add (.con (.int (1))) (.call "_law_draw" (.cons (.var 0) (.cons (.var 1) (.cons (.con (.int (3))) .nil))))) .nil)))))))
  (.cons (.exp (.append (.var 5) (.tup (.cons (.var 7) (.cons (.var 8) .nil)))))
  .nil))))
  (.cons (.ret (.tup (.cons (.var 3) (.cons (.var 4) (.cons (.bi .tuple (.cons (.var 5) .nil)) .nil)))))
  .nil)))))
def b__law_spoilt : MSs := (.cons (.set (.nam 1) (.alloc (.lst .nil)))
  (.cons (.iff (.not (.val (.bi .isi (.cons (.var 0) (.cons (.con (.ty "tuple")) .nil)))))
    (.cons (.ret (.var 1))
  .nil)
    .nil)
  (.cons (.forr (.tpc (.nam 2) (.tpc (.nam 3) .tp0)) (.enum (.var 0))
    (.cons (.forr (.nam 4) (.val (.bin .add (.lst (.cons (.con .non) (.cons (.tup (.cons (.con (.str "x")) .nil)) (.cons (.con (.bl true)) (.cons (.lst .nil) .nil))))) (.call "_law_spoilt" (.cons (.var 3) .nil))))
    (.cons (.iff (.or (.val (.cmp .ne (.var 4) (.var 3))) (.val (.bi .isi (.cons (.var 4) (.cons (.con (.ty "list")) .nil)))))
    (.cons (.exp (.append (.var 1) (.bin .add (.bin .add (.sl (.var 0) .no (.yes (.var 2))) (.tup (.cons (.var 4) .nil))) (.sl (.var 0) (.yes (.bin .add (.var 2) (.con (.int (1))))) .no))))
  .nil)
    .nil)
  .nil))
  .nil))
  (.cons (.ret (.bin .add (.var 1) (.lst (.cons (.bi .list (.cons (.var 0) .nil)) (.cons (.bin .add (.var 0) (.tup (.cons (.con .non) .nil))) .nil)))))
  .nil))))
def b__law_nested : MSs := (.cons (.set (.nam 1) (.tup (.cons (.con (.str "var")) (.cons (.con (.str "a")) .nil))))
  (.cons (.forr (.nam 2) (.rng1 (.bin .sub (.var 0) (.con (.int (1)))))
    (.cons (.set (.nam 1) (.ifx (.val (.cmp .eq (.bin .mod (.var 2) (.con (.int (2)))) (.con (.int (0))))) (.tup (.cons (.con (.str "pow")) (.cons (.var 1) (.cons (.con (.int (2))) .nil)))) (.tup (.cons (.con (.str "mul")) (.cons (.tup (.cons (.con (.str "var")) (.cons (.con (.str "a")) .nil))) (.cons (.var 1) .nil))))))
  .nil))
  (.cons (.ret (.var 1))
  .nil)))
def b__law_expressions : MSs := (.cons (.set (.tpc (.nam 0) (.tpc (.nam 1) (.tpc (.nam 2) .tp0))) (.tup (.cons (.tup (.cons (.con (.str "m")) .nil)) (.cons (.tup (.cons (.con (.str "a")) (.cons (.con (.str "b")) .nil))) (.cons (.tup (.cons (.con (.str "var")) (.cons (.con (.str "a")) .nil))) .nil)))))
  (.cons (.set (.nam 3) (.lst (.cons (.var 2) (.cons (.tup (.cons (.con (.str "unit")) (.cons (.tup (.cons (.tup (.cons (.con (.int (1))) (.cons (.con (.int (2))) .nil))) .nil)) .nil))) (.cons (.tup (.cons (.con (.str "pow")) (.cons (.var 2) (.cons (.neg (.con (.int (4)))) .nil)))) (.cons (.tup (.cons (.con (.str "pow")) (.cons (.var 2) (.cons (.con (.int (4))) .nil)))) (.cons (.tup (.cons (.con (.str "pow")) (.cons (.var 2) (.cons (.con (.int (0))) .nil)))) (.cons (.tup (.cons (.con (.str "root")) (.cons (.var 2) (.cons (.con (.int (4))) .nil)))) .nil))))))))
  (.cons (.set (.nam 4) (.lst (.cons (.tup (.cons (.con (.str "var")) (.cons (.con (.str "c")) .nil))) (.cons (.tup (.cons (.con (.str "var")) .nil)) (.cons (.tup (.cons (.con (.str "unit")) (.cons (.tup (.cons (.tup (.cons (.con (.int (2))) (.cons (.con (.int (2))) .nil))) .nil)) .nil))) (.cons (.tup (.cons (.con (.str "unit")) (.cons (.tup (.cons (.tup (.cons (.con (.int (1))) (.cons (.neg (.con (.int (1)))) .nil))) .nil)) .nil))) (.cons (.tup (.cons (.con (.str "unit")) (.cons (.tup (.cons (.tup (.cons (.con (.int (0))) (.cons (.con (.int (2))) .nil))) .nil)) .nil))) (.cons (.tup (.cons (.con (.str "unit")) (.cons (.tup .nil) .nil))) (.cons (.con .non) .nil)))))))))
  (.cons (.set (.nam 4) (.bin .add (.var 4) (.lst (.cons (.tup (.cons (.con (.str "pow")) (.cons (.var 2) (.cons (.con (.int (5))) .nil)))) (.cons (.tup (.cons (.con (.str "pow")) (.cons (.var 2) (.cons (.neg (.con (.int (5)))) .nil)))) (.cons (.tup (.cons (.con (.str "pow")) (.cons (.var 2) (.cons (.con (.bl true)) .nil)))) (.cons (.tup (.cons (.con (.str "root")) (.cons (.var 2) (.cons (.con (.int (1))) .nil)))) (.cons (.tup (.cons (.con (.str "root")) (.cons (.var 2) (.cons (.con (.int (5))) .nil)))) (.cons (.con (.str "a")) .nil)))))))))
  (.cons (.set (.nam 4) (.bin .add (.var 4) (.lst (.cons (.tup (.cons (.con (.str "mul")) (.cons (.var 2) .nil))) (.cons (.tup (.cons (.con (.str "mul")) (.cons (.var 2) (.cons (.var 2) (.cons (.var 2) .nil))))) (.cons (.tup (.cons (.con (.str "sub")) (.cons (.var 2) (.cons (.var 2) .nil)))) (.cons (.tup (.cons (.con (.str "add")) (.cons (.var 2) (.cons (.con (.str "a")) .nil)))) (.cons (.tup (.cons (.con (.str "root")) (.cons (.var 2) (.cons (.tup (.cons (.con (.int (1))) (.cons (.con (.int (2))) .nil))) .nil)))) (.cons (.tup .nil) .nil)))))))))
  (.cons (.par [3, 4] (.cons (.bin .add (.var 3) (.lst (.cons (.call "_law_nested" (.cons (.con (.int (6))) .nil)) .nil))) (.cons (.bin .add (.var 4) (.lst (.cons (.call "_law_nested" (.cons (.con (.int (7))) .nil)) .nil))) .nil)))
  (.cons (.iff (.val (.cmp .ne (.lc (.var 5) (.nam 5) (.val (.var 3)) (.not (.val (.call "_law_is" (.cons (.call "is_expression" (.cons (.var 0) (.cons (.var 1) (.cons (.var 5) .nil)))) (.cons (.con (.bl true)) .nil))))) [5]) (.lst .nil)))
    (.cons (.ret (.con (.bl false)))
  .nil)
    .nil)
  (.cons (.ret (.cmp .eq (.lc (.var 5) (.nam 5) (.val (.var 4)) (.not (.val (.call "_law_is" (.cons (.call "is_expression" (.cons (.var 0) (.cons (.var 1) (.cons (.var 5) .nil)))) (.cons (.con (.bl false)) .nil))))) [5]) (.lst .nil)))
  .nil))))))))
def b__law_models : MSs := (.cons (.set (.nam 0) (.tup (.cons (.tup (.cons (.con (.str "var")) (.cons (.con (.str "a")) .nil))) (.cons (.tup (.cons (.con (.str "var")) (.cons (.con (.str "a")) .nil))) .nil))))
  (.cons (.set (.nam 1) (.lst (.cons (.tup (.cons (.tup (.cons (.con (.str "m")) .nil)) (.cons (.tup (.cons (.con (.str "a")) .nil)) (.cons (.bin .mul (.tup (.cons (.var 0) .nil)) (.con (.int (8)))) .nil)))) (.cons (.tup (.cons (.tup (.cons (.con (.str "a")) (.cons (.con (.str "b")) (.cons (.con (.str "c")) .nil)))) (.cons (.tup (.cons (.con (.str "a")) (.cons (.con (.str "b")) (.cons (.con (.str "c")) (.cons (.con (.str "d")) (.cons (.con (.str "e")) (.cons (.con (.str "f")) .nil))))))) (.cons (.tup .nil) .nil)))) .nil))))
  (.cons (.set (.nam 2) (.lst (.cons (.tup (.cons (.tup (.cons (.con (.str "m")) .nil)) (.cons (.tup (.cons (.con (.str "a")) .nil)) (.cons (.bin .mul (.tup (.cons (.var 0) .nil)) (.con (.int (9)))) .nil)))) (.cons (.tup (.cons (.tup (.cons (.con (.str "a")) (.cons (.con (.str "b")) (.cons (.con (.str "c")) (.cons (.con (.str "d")) .nil))))) (.cons (.tup (.cons (.con (.str "a")) .nil)) (.cons (.tup .nil) .nil)))) (.cons (.tup (.cons (.tup .nil) (.cons (.tup (.cons (.con (.str "a")) .nil)) (.cons (.tup .nil) .nil)))) (.cons (.tup (.cons (.tup (.cons (.con (.str "m")) .nil)) (.cons (.tup .nil) (.cons (.tup .nil) .nil)))) (.cons (.con .non) .nil)))))))
  (.cons (.set (.nam 2) (.bin .add (.var 2) (.lst (.cons (.tup (.cons (.tup (.cons (.con (.str "m")) .nil)) (.cons (.tup (.cons (.con (.str "a")) (.cons (.con (.str "b")) (.cons (.con (.str "c")) (.cons (.con (.str "d")) (.cons (.con (.str "e")) (.cons (.con (.str "f")) (.cons (.con (.str "g")) .nil)))))))) (.cons (.tup .nil) .nil)))) (.cons (.tup (.cons (.tup (.cons (.con (.str "m")) (.cons (.con (.str "m")) .nil))) (.cons (.tup (.cons (.con (.str "a")) .nil)) (.cons (.tup .nil) .nil)))) (.cons (.tup (.cons (.tup (.cons (.con (.str "m")) .nil)) (.cons (.tup (.cons (.con (.str "b")) (.cons (.con (.str "a")) .nil))) (.cons (.tup .nil) .nil)))) .nil))))))
  (.cons (.set (.nam 2) (.bin .add (.var 2) (.lst (.cons (.tup (.cons (.tup (.cons (.con (.str "M")) .nil)) (.cons (.tup (.cons (.con (.str "a")) .nil)) (.cons (.tup .nil) .nil)))) (.cons (.tup (.cons (.tup (.cons (.con (.str "abcdefg")) .nil)) (.cons (.tup (.cons (.con (.str "a")) .nil)) (.cons (.tup .nil) .nil)))) (.cons (.tup (.cons (.tup (.cons (.con (.str "")) .nil)) (.cons (.tup (.cons (.con (.str "a")) .nil)) (.cons (.tup .nil) .nil)))) (.cons (.tup (.cons (.tup (.cons (.con (.str "m")) .nil)) (.cons (.tup (.cons (.con (.str "a")) .nil)) (.cons (.tup (.cons (.ix (.var 0) (.con (.int (0)))) .nil)) .nil)))) .nil)))))))
  (.cons (.iff (.val (.cmp .ne (.lc (.var 3) (.nam 3) (.val (.var 1)) (.not (.val (.call "_law_is" (.cons (.call "is_model" (.cons (.var 3) .nil)) (.cons (.con (.bl true)) .nil))))) [3]) (.lst .nil)))
    (.cons (.ret (.con (.bl false)))
  .nil)
    .nil)
  (.cons (.ret (.cmp .eq (.lc (.var 3) (.nam 3) (.val (.var 2)) (.not (.val (.call "_law_is" (.cons (.call "is_model" (.cons (.var 3) .nil)) (.cons (.con (.bl false)) .nil))))) [3]) (.lst .nil)))
  .nil)))))))
def b_law : MSs := (.cons (.set (.nam 1) (.call "_law_begun" .nil))
  (.cons (.forr (.nam 2) (.rng1 (.con (.int (2))))
    (.cons (.set (.nam 3) (.call "_law_model" (.cons (.var 0) (.cons (.var 1) (.cons (.con (.int (3))) .nil)))))
  (.cons (.iff (.not (.val (.call "_law_is" (.cons (.call "is_model" (.cons (.var 3) .nil)) (.cons (.con (.bl true)) .nil)))))
    (.cons (.ret (.con (.bl false)))
  .nil)
    .nil)
  (.cons (.iff (.val (.cmp .ne (.lc (.var 4) (.nam 4) (.val (.call "_law_spoilt" (.cons (.ix (.var 3) (.con (.int (2)))) .nil))) (.not (.val (.call "_law_is" (.cons (.call "is_model" (.cons (.tup (.cons (.ix (.var 3) (.con (.int (0)))) (.cons (.ix (.var 3) (.con (.int (1)))) (.cons (.var 4) .nil)))) .nil)) (.cons (.con (.bl false)) .nil))))) [4]) (.lst .nil)))
    (.cons (.ret (.con (.bl false)))
  .nil)
    .nil)
  (.cons (.set (.nam 5) (.call "_law_expression" (.cons (.var 0) (.cons (.var 1) (.cons (.ix (.var 3) (.con (.int (0)))) (.cons (.ix (.var 3) (.con (.int (1)))) (.cons (.con (.int (4))) .nil)))))))
  (.cons (.iff (.not (.val (.call "_law_is" (.cons (.call "is_expression" (.cons (.ix (.var 3) (.con (.int (0)))) (.cons (.ix (.var 3) (.con (.int (1)))) (.cons (.var 5) .nil)))) (.cons (.con (.bl true)) .nil)))))
    (.cons (.ret (.con (.bl false)))
  .nil)
    .nil)
  (.cons (.set (.nam 6) (.call "_law_unit" (.cons (.var 0) (.cons (.var 1) (.cons (.ix (.var 3) (.con (.int (0)))) .nil)))))
  (.cons (.iff (.not (.val (.call "_law_is" (.cons (.call "is_unit" (.cons (.ix (.var 3) (.con (.int (0)))) (.cons (.var 6) .nil))) (.cons (.con (.bl true)) .nil)))))
    (.cons (.ret (.con (.bl false)))
  .nil)
    .nil)
  (.cons (.forr (.nam 4) (.val (.bin .add (.call "_law_spoilt" (.cons (.var 6) .nil)) (.lst (.cons (.sl (.var 6) (.yes (.con (.int (1)))) .no) (.cons (.bin .add (.var 6) (.tup (.cons (.tup (.cons (.con (.int (0))) (.cons (.con (.int (1))) .nil))) .nil))) .nil)))))
    (.cons (.iff (.not (.val (.call "_law_is" (.cons (.call "is_unit" (.cons (.ix (.var 3) (.con (.int (0)))) (.cons (.var 4) .nil))) (.cons (.con (.bl false)) .nil)))))
    (.cons (.ret (.con (.bl false)))
  .nil)
    .nil)
  .nil))
  .nil)))))))))
  (.cons (.ret (.and (.call "_law_expressions" .nil) (.call "_law_models" .nil)))
  .nil)))
def r_is_integer : Row := ⟨"is_integer", top 2, N_is_integer, false, b_is_integer⟩
def r_is_name : Row := ⟨"is_name", top 3, N_is_name, false, b_is_name⟩
def r_is_ascending : Row := ⟨"is_ascending", top 4, N_is_ascending, false, b_is_ascending⟩
def r_are_names : Row := ⟨"are_names", top 5, N_are_names, false, b_are_names⟩
def r_fraction : Row := ⟨"fraction", top 6, N_fraction, false, b_fraction⟩
def r_is_fraction : Row := ⟨"is_fraction", top 7, N_is_fraction, false, b_is_fraction⟩
def r_are_fractions : Row := ⟨"are_fractions", top 8, N_are_fractions, false, b_are_fractions⟩
def r_is_unit : Row := ⟨"is_unit", top 9, N_is_unit, false, b_is_unit⟩
def r_is_nested : Row := ⟨"is_nested", top 12, N_is_nested, false, b_is_nested⟩
def r_is_expression : Row := ⟨"is_expression", top 13, N_is_expression, false, b_is_expression⟩
def r_is_statement : Row := ⟨"is_statement", top 16, N_is_statement, false, b_is_statement⟩
def r_are_headings : Row := ⟨"are_headings", top 17, N_are_headings, false, b_are_headings⟩
def r_is_model : Row := ⟨"is_model", top 18, N_is_model, false, b_is_model⟩
def r__law_is : Row := ⟨"_law_is", top 20, N__law_is, false, b__law_is⟩
def r__law_draw : Row := ⟨"_law_draw", top 21, N__law_draw, false, b__law_draw⟩
def r__law_begun : Row := ⟨"_law_begun", top 22, N__law_begun, true, b__law_begun⟩
def r__law_unit : Row := ⟨"_law_unit", top 23, N__law_unit, false, b__law_unit⟩
def r__law_expression : Row := ⟨"_law_expression", top 24, N__law_expression, false, b__law_expression⟩
def r__law_model : Row := ⟨"_law_model", top 25, N__law_model, false, b__law_model⟩
def r__law_spoilt : Row := ⟨"_law_spoilt", top 26, N__law_spoilt, false, b__law_spoilt⟩
def r__law_nested : Row := ⟨"_law_nested", top 27, N__law_nested, false, b__law_nested⟩
def r__law_expressions : Row := ⟨"_law_expressions", top 28, N__law_expressions, false, b__law_expressions⟩
def r__law_models : Row := ⟨"_law_models", top 29, N__law_models, false, b__law_models⟩
def r_law : Row := ⟨"law", top 30, N_law, false, b_law⟩
def rows : List Row := [r_is_integer, r_is_name, r_is_ascending, r_are_names, r_fraction, r_is_fraction, r_are_fractions, r_is_unit, r_is_nested, r_is_expression, r_is_statement, r_are_headings, r_is_model, r__law_is, r__law_draw, r__law_begun, r__law_unit, r__law_expression, r__law_model, r__law_spoilt, r__law_nested, r__law_expressions, r__law_models, r_law]
theorem fns_eq : fnsOf rows = fns := rfl
theorem c_is_integer : cmpS sg N_is_integer (defScope (top 2)) 30 60 (defBody (top 2)) = some b_is_integer := by kernel_rfl
theorem c_is_name : cmpS sg N_is_name (defScope (top 3)) 30 60 (defBody (top 3)) = some b_is_name := by kernel_rfl
theorem c_is_ascending : cmpS sg N_is_ascending (defScope (top 4)) 30 60 (defBody (top 4)) = some b_is_ascending := by kernel_rfl
theorem c_are_names : cmpS sg N_are_names (defScope (top 5)) 30 60 (defBody (top 5)) = some b_are_names := by kernel_rfl
theorem c_fraction : cmpS sg N_fraction (defScope (top 6)) 30 60 (defBody (top 6)) = some b_fraction := by kernel_rfl
theorem c_is_fraction : cmpS sg N_is_fraction (defScope (top 7)) 30 60 (defBody (top 7)) = some b_is_fraction := by kernel_rfl
theorem c_are_fractions : cmpS sg N_are_fractions (defScope (top 8)) 30 60 (defBody (top 8)) = some b_are_fractions := by kernel_rfl
theorem c_is_unit : cmpS sg N_is_unit (defScope (top 9)) 30 60 (defBody (top 9)) = some b_is_unit := by kernel_rfl
theorem c_is_nested : cmpS sg N_is_nested (defScope (top 12)) 30 60 (defBody (top 12)) = some b_is_nested := by kernel_rfl
theorem c_is_expression : cmpS sg N_is_expression (defScope (top 13)) 30 60 (defBody (top 13)) = some b_is_expression := by kernel_rfl
theorem c_is_statement : cmpS sg N_is_statement (defScope (top 16)) 30 60 (defBody (top 16)) = some b_is_statement := by kernel_rfl
theorem c_are_headings : cmpS sg N_are_headings (defScope (top 17)) 30 60 (defBody (top 17)) = some b_are_headings := by kernel_rfl
theorem c_is_model : cmpS sg N_is_model (defScope (top 18)) 30 60 (defBody (top 18)) = some b_is_model := by kernel_rfl
theorem c__law_is : cmpS sg N__law_is (defScope (top 20)) 30 60 (defBody (top 20)) = some b__law_is := by kernel_rfl
theorem c__law_draw : cmpS sg N__law_draw (defScope (top 21)) 30 60 (defBody (top 21)) = some b__law_draw := by kernel_rfl
theorem c__law_begun : cmpS sg N__law_begun (defScope (top 22)) 30 60 (defBody (top 22)) = some b__law_begun := by kernel_rfl
theorem c__law_unit : cmpS sg N__law_unit (defScope (top 23)) 30 60 (defBody (top 23)) = some b__law_unit := by kernel_rfl
theorem c__law_expression : cmpS sg N__law_expression (defScope (top 24)) 30 60 (defBody (top 24)) = some b__law_expression := by kernel_rfl
theorem c__law_model : cmpS sg N__law_model (defScope (top 25)) 30 60 (defBody (top 25)) = some b__law_model := by kernel_rfl
theorem c__law_spoilt : cmpS sg N__law_spoilt (defScope (top 26)) 30 60 (defBody (top 26)) = some b__law_spoilt := by kernel_rfl
theorem c__law_nested : cmpS sg N__law_nested (defScope (top 27)) 30 60 (defBody (top 27)) = some b__law_nested := by kernel_rfl
theorem c__law_expressions : cmpS sg N__law_expressions (defScope (top 28)) 30 60 (defBody (top 28)) = some b__law_expressions := by kernel_rfl
theorem c__law_models : cmpS sg N__law_models (defScope (top 29)) 30 60 (defBody (top 29)) = some b__law_models := by kernel_rfl
theorem c_law : cmpS sg N_law (defScope (top 30)) 30 60 (defBody (top 30)) = some b_law := by kernel_rfl
theorem k_is_integer : RowOk sg r_is_integer := ⟨by decide +kernel, by decide +kernel, 30, 60, c_is_integer⟩
theorem k_is_name : RowOk sg r_is_name := ⟨by decide +kernel, by decide +kernel, 30, 60, c_is_name⟩
theorem k_is_ascending : RowOk sg r_is_ascending := ⟨by decide +kernel, by decide +kernel, 30, 60, c_is_ascending⟩
theorem k_are_names : RowOk sg r_are_names := ⟨by decide +kernel, by decide +kernel, 30, 60, c_are_names⟩
theorem k_fraction : RowOk sg r_fraction := ⟨by decide +kernel, by decide +kernel, 30, 60, c_fraction⟩
theorem k_is_fraction : RowOk sg r_is_fraction := ⟨by decide +kernel, by decide +kernel, 30, 60, c_is_fraction⟩
theorem k_are_fractions : RowOk sg r_are_fractions := ⟨by decide +kernel, by decide +kernel, 30, 60, c_are_fractions⟩
theorem k_is_unit : RowOk sg r_is_unit := ⟨by decide +kernel, by decide +kernel, 30, 60, c_is_unit⟩
theorem k_is_nested : RowOk sg r_is_nested := ⟨by decide +kernel, by decide +kernel, 30, 60, c_is_nested⟩
theorem k_is_expression : RowOk sg r_is_expression := ⟨by decide +kernel, by decide +kernel, 30, 60, c_is_expression⟩
theorem k_is_statement : RowOk sg r_is_statement := ⟨by decide +kernel, by decide +kernel, 30, 60, c_is_statement⟩
theorem k_are_headings : RowOk sg r_are_headings := ⟨by decide +kernel, by decide +kernel, 30, 60, c_are_headings⟩
theorem k_is_model : RowOk sg r_is_model := ⟨by decide +kernel, by decide +kernel, 30, 60, c_is_model⟩
theorem k__law_is : RowOk sg r__law_is := ⟨by decide +kernel, by decide +kernel, 30, 60, c__law_is⟩
theorem k__law_draw : RowOk sg r__law_draw := ⟨by decide +kernel, by decide +kernel, 30, 60, c__law_draw⟩
theorem k__law_begun : RowOk sg r__law_begun := ⟨by decide +kernel, by decide +kernel, 30, 60, c__law_begun⟩
theorem k__law_unit : RowOk sg r__law_unit := ⟨by decide +kernel, by decide +kernel, 30, 60, c__law_unit⟩
theorem k__law_expression : RowOk sg r__law_expression := ⟨by decide +kernel, by decide +kernel, 30, 60, c__law_expression⟩
theorem k__law_model : RowOk sg r__law_model := ⟨by decide +kernel, by decide +kernel, 30, 60, c__law_model⟩
theorem k__law_spoilt : RowOk sg r__law_spoilt := ⟨by decide +kernel, by decide +kernel, 30, 60, c__law_spoilt⟩
theorem k__law_nested : RowOk sg r__law_nested := ⟨by decide +kernel, by decide +kernel, 30, 60, c__law_nested⟩
theorem k__law_expressions : RowOk sg r__law_expressions := ⟨by decide +kernel, by decide +kernel, 30, 60, c__law_expressions⟩
theorem k__law_models : RowOk sg r__law_models := ⟨by decide +kernel, by decide +kernel, 30, 60, c__law_models⟩
theorem k_law : RowOk sg r_law := ⟨by decide +kernel, by decide +kernel, 30, 60, c_law⟩
theorem rows_ok : ∀ r ∈ rows, RowOk ⟨fnsOf rows, cons, hints⟩ r := by
  rw [fns_eq]
  intro r h
  simp only [rows, List.mem_cons, List.not_mem_nil, or_false] at h
  rcases h with rfl | rfl | rfl | rfl | rfl | rfl | rfl | rfl | rfl | rfl | rfl | rfl | rfl | rfl | rfl | rfl | rfl | rfl | rfl | rfl | rfl | rfl | rfl | rfl
  · exact k_is_integer
  · exact k_is_name
  · exact k_is_ascending
  · exact k_are_names
  · exact k_fraction
  · exact k_is_fraction
  · exact k_are_fractions
  · exact k_is_unit
  · exact k_is_nested
  · exact k_is_expression
  · exact k_is_statement
  · exact k_are_headings
  · exact k_is_model
  · exact k__law_is
  · exact k__law_draw
  · exact k__law_begun
  · exact k__law_unit
  · exact k__law_expression
  · exact k__law_model
  · exact k__law_spoilt
  · exact k__law_nested
  · exact k__law_expressions
  · exact k__law_models
  · exact k_law
end K01

set_option Elab.async false
set_option linter.all false
set_option maxRecDepth 100000
set_option maxHeartbeats 0
namespace K01
open PySem L2 PyProof.Rows U
abbrev R : PySem.W.OpenRow := PySem.W.OpenLaw.row PySem.Challenge.rw_unitlogic_k01_not_models
def ob (s : PySem.W.SharedT) : He.AlD × Bool := obsUG 4 rows cons (HandSHeadRun.getT s)
theorem ob_eq (s : PySem.W.SharedT) : ob s = (hookU 4 rows cons).obs s.abs := obsUG_eq (HandSHeadRun.getT_eq s)
def loose : List Str := ["LETTERS", "DEPTH", "MOST", "is_integer", "is_name", "is_ascending", "are_names", "fraction", "is_fraction", "are_fractions", "is_unit", "is_nested", "is_expression", "is_statement", "are_headings", "is_model", "_law_is", "_law_draw", "_law_begun", "_law_unit", "_law_expression", "_law_model", "_law_spoilt", "_law_nested", "_law_expressions", "_law_models", "__name__"]
theorem headRun (w : World) : HandSHeadRun.RunEq R (PySem.W.view R.prog [30]) (hookU 4 rows cons) ob 2000 loose w := by
  intro os
  kernel_rfl
end K01

set_option Elab.async false
set_option linter.all false
set_option maxRecDepth 100000
namespace K01
open PySem L2 U
abbrev T := tblOf rows
theorem expressions_true (o0 o1 : DO) : U.run T 20 "_law_expressions" [] [o0, o1] = .ok (.bl true) [o0, o1] := by kernel_rfl
theorem models_true (o0 o1 : DO) : U.run T 20 "_law_models" [] [o0, o1] = .ok (.bl true) [o0, o1] := by kernel_rfl
end K01

set_option Elab.async false
set_option linter.all false
set_option maxRecDepth 100000
namespace K01
open PySem L2 U
theorem L_is_integer : T.lookup ("is_integer" : Str) = some r_is_integer.fd := by kernel_rfl
theorem L_is_fraction : T.lookup ("is_fraction" : Str) = some r_is_fraction.fd := by kernel_rfl
theorem L_are_fractions : T.lookup ("are_fractions" : Str) = some r_are_fractions.fd := by kernel_rfl
theorem L_is_unit : T.lookup ("is_unit" : Str) = some r_is_unit.fd := by kernel_rfl
theorem L_is_nested : T.lookup ("is_nested" : Str) = some r_is_nested.fd := by kernel_rfl
theorem L_is_expression : T.lookup ("is_expression" : Str) = some r_is_expression.fd := by kernel_rfl
theorem L_is_statement : T.lookup ("is_statement" : Str) = some r_is_statement.fd := by kernel_rfl
theorem L_is_model : T.lookup ("is_model" : Str) = some r_is_model.fd := by kernel_rfl
variable {n : Nat} {G : Hd} {d : D}
theorem E_is_integer (h : plain d = true) : run T (n + 1) "is_integer" [d] G = .ok (.bl (isI d)) G := by
  rw [run_succ L_is_integer]
  refine callF_rtG rfl rfl ?_ frz_bl
  show evSs _ _ b_is_integer [some d] G = _
  unfold b_is_integer
  refine ret_ok ?_
  rw [and_ok (k := isI d || isB d) (G1 := G) (by simp [evE, evEs, isi_int h])]
  simp [evE, evEs, isi_bool h]
  cases d <;> first | rfl | cases h
/-- pairs of whole numbers fail no test of kinds; all else fails -/
def pairI : D → Bool
  | .tup [a, c] => isI a && isI c
  | _ => false
theorem fr_bad (h : plain d = true) (he : ∀ xs, d = .tup xs → (∀ x ∈ xs, plain x = true) ∧ xs.length ≤ line) (hb : pairI d = false) : run T (n + 2) "is_fraction" [d] G = .ok (.bl false) G := by
  rw [run_succ L_is_fraction]
  refine callF_rtG rfl rfl ?_ frz_bl
  show evSs _ _ b_is_fraction [some d, none] G = _
  unfold b_is_fraction
  refine seq_rt ?_
  rw [if_yes (G1 := G)]
  · exact ret_ok (by rw [evE])
  cases d with
  | tup xs =>
    obtain ⟨h1, h2⟩ := he xs rfl
    have ha : evE (run T (n + 1)) G.length (.bi .all (.cons (.lc (.call "is_integer" (.cons (.var 1) .nil)) (.nam 1) (.val (.var 0)) .yes [1]) .nil)) [some (.tup xs), none] G = .ok (.bl (xs.all isI)) G := by
      refine all_ok (lc_map (g := fun x => .bl (isI x)) ?_ h2 ?_)
      · simp [evI, evE, iterD, stillD]
      · intro x hx
        exact call_ok (ds := [x]) (G1 := G) (by simp [evEs, evE, wipeD]) (E_is_integer (h1 x hx))
    rw [or_ok (k := false) (G1 := G) (by simp [evT, evE, evEs, isi_tuple h, isT]), if_neg (by decide)]
    by_cases hl : xs.length = 2
    · rw [or_ok (k := false) (G1 := G) (by simp [evT, evE, evEs, cmp_neI, hl]), if_neg (by decide), not_ok (val_ok ha)]
      match xs, hl with
      | [a, c], _ =>
        have : (isI a && isI c) = false := hb
        simp only [List.all_cons, List.all_nil, Bool.and_true, this, Bool.not_false]
    · rw [or_ok (k := true) (G1 := G), if_pos rfl]
      have : ((xs.length : Int) == 2) = false := by
        rw [beq_eq_false_iff_ne]
        omega
      simp [evT, evE, evEs, cmp_neI, this]
  | _ => first | (simp [evT, evE, evEs, isi_tuple h, isT]) | cases h
/-- the units that are drawn -/
def frGood : D → Prop := fun d => ∃ (t : Int) (q : Int), d = .tup [.int t, .int q] ∧ -3 ≤ t ∧ t ≤ 3 ∧ (q = 1 ∨ (q = 2 ∧ t % 2 ≠ 0))
theorem fr_good {o0 o1 : DO} (h : frGood d) : run T (n + 3) "is_fraction" [d] [o0, o1] = .ok (.bl true) [o0, o1] := by
  obtain ⟨t, q, rfl, h1, h2, h3⟩ := h
  have ht : t = -3 ∨ t = -2 ∨ t = -1 ∨ t = 0 ∨ t = 1 ∨ t = 2 ∨ t = 3 := by omega
  rcases h3 with rfl | ⟨rfl, h3⟩
  · rcases ht with rfl | rfl | rfl | rfl | rfl | rfl | rfl <;> kernel_rfl
  · rcases ht with rfl | rfl | rfl | rfl | rfl | rfl | rfl <;> first | exact absurd (by decide) h3 | kernel_rfl
end K01

set_option Elab.async false
set_option linter.all false
set_option maxRecDepth 100000
/-! K01D: which expressions the program takes. -/
namespace K01
open PySem L2 U
variable {n : Nat} {G : Hd} {d : D} {o0 o1 : DO}
/-- what is no fraction by its kinds alone -/
structure FrBad (d : D) : Prop where
  pl : plain d = true
  el : ∀ xs, d = .tup xs → (∀ x ∈ xs, plain x = true) ∧ xs.length ≤ line
  no : pairI d = false
theorem good_pair (h : frGood d) : pairI d = true := by
  obtain ⟨t, q, rfl, _⟩ := h
  rfl
theorem E_fr (h : frGood d ∨ FrBad d) : run T (n + 3) "is_fraction" [d] [o0, o1] = .ok (.bl (pairI d)) [o0, o1] := by
  rcases h with h | h
  · rw [fr_good h, good_pair h]
  · rw [fr_bad h.pl h.el h.no, h.no]
theorem E_frs {xs : List D} {m : Int} (hx : ∀ x ∈ xs, frGood x ∨ FrBad x) (hl : xs.length ≤ line) : run T (n + 4) "are_fractions" [.tup xs, .int m] [o0, o1] = .ok (.bl (((xs.length : Int) == m) && xs.all pairI)) [o0, o1] := by
  rw [run_succ L_are_fractions]
  refine callF_rtG rfl rfl ?_ frz_bl
  show evSs _ _ b_are_fractions [some (.tup xs), some (.int m), none] _ = _
  unfold b_are_fractions
  refine ret_ok ?_
  rw [and_ok (k := true) (G1 := [o0, o1]) (by simp [evE, evEs, isi_tuple (d := .tup xs) rfl, isT]), if_pos rfl]
  rw [and_ok (k := (xs.length : Int) == m) (G1 := [o0, o1]) (by simp [evE, evEs, cmp_eqI])]
  have ha : evE (run T (n + 3)) 2 (.bi .all (.cons (.lc (.call "is_fraction" (.cons (.var 2) .nil)) (.nam 2) (.val (.var 0)) .yes [2]) .nil)) [some (.tup xs), some (.int m), none] [o0, o1] = .ok (.bl (xs.all pairI)) [o0, o1] := by
    refine all_ok (lc_map (g := fun x => .bl (pairI x)) ?_ hl ?_)
    · simp [evI, evE, iterD, stillD]
    · intro x hh
      exact call_ok (ds := [x]) (G1 := [o0, o1]) (by simp [evEs, evE, wipeD]) (E_fr (hx x hh))
  cases e : (xs.length : Int) == m with
  | true => rw [if_pos rfl]; exact ha
  | false => rw [if_neg (by decide)]; rfl
theorem E_frs0 {m : Int} (h : plain d = true) (h2 : isT d = false) : run T (n + 4) "are_fractions" [d, .int m] [o0, o1] = .ok (.bl false) [o0, o1] := by
  rw [run_succ L_are_fractions]
  refine callF_rtG rfl rfl ?_ frz_bl
  show evSs _ _ b_are_fractions [some d, some (.int m), none] _ = _
  unfold b_are_fractions
  refine ret_ok ?_
  rw [and_ok (k := false) (G1 := [o0, o1]) (by simp [evE, evEs, isi_tuple h, h2]), if_neg (by decide)]
theorem E_unit {bs : List D} {k : Bool} (h : run T (n + 4) "are_fractions" [d, .int bs.length] [o0, o1] = .ok (.bl k) [o0, o1]) : run T (n + 5) "is_unit" [.tup bs, d] [o0, o1] = .ok (.bl k) [o0, o1] := by
  rw [run_succ L_is_unit]
  refine callF_rtG rfl rfl ?_ frz_bl
  show evSs _ _ b_is_unit [some (.tup bs), some d] _ = _
  unfold b_is_unit
  exact ret_ok (call_ok (ds := [d, .int bs.length]) (G1 := [o0, o1]) (by simp [evEs, evE]) h)
/-! ### kinds -/
theorem q_var_var : cmpD G .eq (.str "var") (.str "var") = some true := by kernel_rfl
theorem q_var_unit : cmpD G .eq (.str "var") (.str "unit") = some false := by kernel_rfl
theorem q_var_pow : cmpD G .eq (.str "var") (.str "pow") = some false := by kernel_rfl
theorem q_var_root : cmpD G .eq (.str "var") (.str "root") = some false := by kernel_rfl
theorem q_unit_var : cmpD G .eq (.str "unit") (.str "var") = some false := by kernel_rfl
theorem q_unit_unit : cmpD G .eq (.str "unit") (.str "unit") = some true := by kernel_rfl
theorem q_unit_pow : cmpD G .eq (.str "unit") (.str "pow") = some false := by kernel_rfl
theorem q_unit_root : cmpD G .eq (.str "unit") (.str "root") = some false := by kernel_rfl
theorem q_pow_var : cmpD G .eq (.str "pow") (.str "var") = some false := by kernel_rfl
theorem q_pow_unit : cmpD G .eq (.str "pow") (.str "unit") = some false := by kernel_rfl
theorem q_pow_pow : cmpD G .eq (.str "pow") (.str "pow") = some true := by kernel_rfl
theorem q_pow_root : cmpD G .eq (.str "pow") (.str "root") = some false := by kernel_rfl
theorem q_root_var : cmpD G .eq (.str "root") (.str "var") = some false := by kernel_rfl
theorem q_root_unit : cmpD G .eq (.str "root") (.str "unit") = some false := by kernel_rfl
theorem q_root_pow : cmpD G .eq (.str "root") (.str "pow") = some false := by kernel_rfl
theorem q_root_root : cmpD G .eq (.str "root") (.str "root") = some true := by kernel_rfl
theorem q_mul_var : cmpD G .eq (.str "mul") (.str "var") = some false := by kernel_rfl
theorem q_mul_unit : cmpD G .eq (.str "mul") (.str "unit") = some false := by kernel_rfl
theorem q_mul_pow : cmpD G .eq (.str "mul") (.str "pow") = some false := by kernel_rfl
theorem q_mul_root : cmpD G .eq (.str "mul") (.str "root") = some false := by kernel_rfl
theorem q_div_var : cmpD G .eq (.str "div") (.str "var") = some false := by kernel_rfl
theorem q_div_unit : cmpD G .eq (.str "div") (.str "unit") = some false := by kernel_rfl
theorem q_div_pow : cmpD G .eq (.str "div") (.str "pow") = some false := by kernel_rfl
theorem q_div_root : cmpD G .eq (.str "div") (.str "root") = some false := by kernel_rfl
theorem q_add_var : cmpD G .eq (.str "add") (.str "var") = some false := by kernel_rfl
theorem q_add_unit : cmpD G .eq (.str "add") (.str "unit") = some false := by kernel_rfl
theorem q_add_pow : cmpD G .eq (.str "add") (.str "pow") = some false := by kernel_rfl
theorem q_add_root : cmpD G .eq (.str "add") (.str "root") = some false := by kernel_rfl
theorem n_pow : cmpD G .nin (.str "pow") (.tup [.str "mul", .str "div", .str "add", .str "pow", .str "root"]) = some false := by kernel_rfl
theorem n_root : cmpD G .nin (.str "root") (.tup [.str "mul", .str "div", .str "add", .str "pow", .str "root"]) = some false := by kernel_rfl
theorem n_mul : cmpD G .nin (.str "mul") (.tup [.str "mul", .str "div", .str "add", .str "pow", .str "root"]) = some false := by kernel_rfl
theorem n_div : cmpD G .nin (.str "div") (.tup [.str "mul", .str "div", .str "add", .str "pow", .str "root"]) = some false := by kernel_rfl
theorem n_add : cmpD G .nin (.str "add") (.tup [.str "mul", .str "div", .str "add", .str "pow", .str "root"]) = some false := by kernel_rfl
theorem n_len {i : Int} : cmpD G .nin (.int i) (.tup [.int 2, .int 3]) = some (!((2 == i) || ((3 == i) || false))) := rfl
section
variable {Φ : Fn} {b : Nat} {bs vs xs : List D} {k : Int} {s : Str}
def guard : MB := (.or (.val (.cmp .eq (.var 3) (.con (.int (0))))) (.or (.not (.val (.bi .isi (.cons (.var 2) (.cons (.con (.ty "tuple")) .nil))))) (.or (.val (.cmp .nin (.bi .len (.cons (.var 2) .nil)) (.tup (.cons (.con (.int (2))) (.cons (.con (.int (3))) .nil))))) (.not (.val (.bi .isi (.cons (.ix (.var 2) (.con (.int (0)))) (.cons (.con (.ty "str")) .nil))))))))
abbrev tau (bs vs : List D) (d : D) (k : Int) : Tau := [some (.tup bs), some (.tup vs), some d, some (.int k), none]
theorem g_no (hk : k ≠ 0) (hl : xs.length = 1 ∨ xs.length = 2) : evT Φ b guard (tau bs vs (.tup (.str s :: xs)) k) G = .ok false G := by
  unfold guard
  have h0 : (k == 0) = false := beq_eq_false_iff_ne.mpr hk
  rw [or_ok (k := false) (G1 := G) (by simp [evT, evE, cmp_eqI, h0]), if_neg (by decide)]
  rw [or_ok (k := false) (G1 := G) (by simp [evT, evE, evEs, isi_tuple (d := .tup (.str s :: xs)) rfl, isT]), if_neg (by decide)]
  rw [or_ok (k := false) (G1 := G), if_neg (by decide)]
  · simp [evT, evE, evEs, ix0, isi_str (d := .str s) rfl, isS]
  · rcases hl with hl | hl <;> simp [evT, evE, evEs, n_len, hl]
theorem g_yes (h : plain d = true) (hd : isT d = false) : evT Φ b guard (tau bs vs d k) G = .ok true G := by
  unfold guard
  by_cases h0 : k = 0
  · rw [or_ok (k := true) (G1 := G) (by simp [evT, evE, cmp_eqI, h0]), if_pos rfl]
  · have h0 : (k == 0) = false := beq_eq_false_iff_ne.mpr h0
    rw [or_ok (k := false) (G1 := G) (by simp [evT, evE, cmp_eqI, h0]), if_neg (by decide)]
    rw [or_ok (k := true) (G1 := G) (by simp [evT, evE, evEs, isi_tuple h, hd]), if_pos rfl]
theorem g_len (h2 : xs.length ≠ 2) (h3 : xs.length ≠ 3) : evT Φ b guard (tau bs vs (.tup xs) k) G = .ok true G := by
  unfold guard
  by_cases h0 : k = 0
  · rw [or_ok (k := true) (G1 := G) (by simp [evT, evE, cmp_eqI, h0]), if_pos rfl]
  · have h0 : (k == 0) = false := beq_eq_false_iff_ne.mpr h0
    rw [or_ok (k := false) (G1 := G) (by simp [evT, evE, cmp_eqI, h0]), if_neg (by decide)]
    rw [or_ok (k := false) (G1 := G) (by simp [evT, evE, evEs, isi_tuple (d := .tup xs) rfl, isT]), if_neg (by decide)]
    rw [or_ok (k := true) (G1 := G), if_pos rfl]
    have e2 : ((2 : Int) == (xs.length : Int)) = false := beq_eq_false_iff_ne.mpr (by omega)
    have e3 : ((3 : Int) == (xs.length : Int)) = false := beq_eq_false_iff_ne.mpr (by omega)
    simp [evT, evE, evEs, n_len, e2, e3]
theorem g_head (h : plain d = true) (hd : isS d = false) (hl : xs.length = 1 ∨ xs.length = 2) : evT Φ b guard (tau bs vs (.tup (d :: xs)) k) G = .ok true G := by
  unfold guard
  by_cases h0 : k = 0
  · rw [or_ok (k := true) (G1 := G) (by simp [evT, evE, cmp_eqI, h0]), if_pos rfl]
  · have h0 : (k == 0) = false := beq_eq_false_iff_ne.mpr h0
    rw [or_ok (k := false) (G1 := G) (by simp [evT, evE, cmp_eqI, h0]), if_neg (by decide)]
    rw [or_ok (k := false) (G1 := G) (by simp [evT, evE, evEs, isi_tuple (d := .tup (d :: xs)) rfl, isT]), if_neg (by decide)]
    rw [or_ok (k := false) (G1 := G), if_neg (by decide)]
    · simp [evT, evE, evEs, ix0, isi_str h, hd]
    · rcases hl with hl | hl <;> simp [evT, evE, evEs, n_len, hl]
theorem g_zero : evT Φ b guard (tau bs vs d 0) G = .ok true G := by
  unfold guard
  rw [or_ok (k := true) (G1 := G) (by simp [evT, evE, cmp_eqI]), if_pos rfl]
end
/-- a guard that bites -/
theorem nest_out {bs vs : List D} {k : Int} (h : evT (run T n) G.length guard (tau bs vs d k) G = .ok true G) : run T (n + 1) "is_nested" [.tup bs, .tup vs, d, .int k] G = .ok (.bl false) G := by
  rw [run_succ L_is_nested]
  refine callF_rtG rfl rfl ?_ frz_bl
  show evSs _ _ b_is_nested (tau bs vs d k) G = _
  unfold b_is_nested
  exact seq_rt ((if_yes h).trans (ret_ok (by rw [evE])))
end K01

set_option Elab.async false
set_option linter.all false
set_option maxRecDepth 100000
/-! K01E: which expressions the program takes, on. -/
namespace K01
open PySem L2 U
variable {n : Nat} {G : Hd} {d : D} {o0 o1 : DO}
def tailOf : MSs → MSs
  | .cons _ t => t
  | .nil => .nil
abbrev tau2 (bs vs : List D) (d : D) (k : Int) (s : Str) : Tau := [some (.tup bs), some (.tup vs), some d, some (.int k), some (.str s)]
theorem nest_in {bs vs xs : List D} {k : Int} {s : Str} {r : Bool} (hk : k ≠ 0) (hl : xs.length = 1 ∨ xs.length = 2) (h : evSs (run T n) G.length (tailOf (tailOf b_is_nested)) (tau2 bs vs (.tup (.str s :: xs)) k s) G = .ok (.rt (.bl r)) G) :
    run T (n + 1) "is_nested" [.tup bs, .tup vs, .tup (.str s :: xs), .int k] G = .ok (.bl r) G := by
  rw [run_succ L_is_nested]
  refine callF_rtG rfl rfl ?_ frz_bl
  show evSs _ _ b_is_nested (tau bs vs (.tup (.str s :: xs)) k) G = _
  unfold b_is_nested at h ⊢
  exact (skip (g_no hk hl)).trans ((set_ok (d := .str s) (G1 := G) (by simp [evE, ix0])).trans h)
section
variable {bs vs : List D} {k : Int} {a c : D}
theorem len2 {x y : D} : ((List.length [x, y] : Nat) : Int) = 2 := rfl
theorem len3 {x y z : D} : ((List.length [x, y, z] : Nat) : Int) = 3 := rfl
/-- ("var", a) -/
theorem nest_var (hk : k ≠ 0) (h : plain a = true) {r : Bool} (hr : isS a = true → cmpD G .isin a (.tup vs) = some r) (h0 : isS a = false → r = false) : run T (n + 1) "is_nested" [.tup bs, .tup vs, .tup [.str "var", a], .int k] G = .ok (.bl r) G := by
  refine nest_in hk (.inl rfl) ?_
  unfold b_is_nested
  simp only [tailOf]
  refine seq_rt ((if_yes (G1 := G) (by simp [evT, evE, q_var_var])).trans (ret_ok ?_))
  rw [and_ok (k := true) (G1 := G) (by simp [evE, evEs, cmp_eqI]), if_pos rfl]
  rw [and_ok (k := isS a) (G1 := G) (by simp [evE, evEs, ix1, isi_str h])]
  cases e : isS a with
  | true => simp [evE, ix1, hr e]
  | false => simp [h0 e]
theorem nest_var3 (hk : k ≠ 0) : run T (n + 1) "is_nested" [.tup bs, .tup vs, .tup [.str "var", a, c], .int k] G = .ok (.bl false) G := by
  refine nest_in hk (.inr rfl) ?_
  unfold b_is_nested
  simp only [tailOf]
  refine seq_rt ((if_yes (G1 := G) (by simp [evT, evE, q_var_var])).trans (ret_ok ?_))
  rw [and_ok (k := false) (G1 := G) (by simp [evE, evEs, cmp_eqI]), if_neg (by decide)]
/-- ("unit", a) -/
theorem nest_unit (hk : k ≠ 0) {r : Bool} (h : run T n "is_unit" [.tup bs, a] G = .ok (.bl r) G) : run T (n + 1) "is_nested" [.tup bs, .tup vs, .tup [.str "unit", a], .int k] G = .ok (.bl r) G := by
  refine nest_in hk (.inl rfl) ?_
  unfold b_is_nested
  simp only [tailOf]
  refine (skip (G1 := G) (by simp [evT, evE, q_unit_var])).trans (seq_rt ((if_yes (G1 := G) (by simp [evT, evE, q_unit_unit])).trans (ret_ok ?_)))
  rw [and_ok (k := true) (G1 := G) (by simp [evE, evEs, cmp_eqI]), if_pos rfl]
  exact call_ok (ds := [.tup bs, a]) (G1 := G) (by simp [evEs, evE, ix1]) h
theorem nest_unit3 (hk : k ≠ 0) : run T (n + 1) "is_nested" [.tup bs, .tup vs, .tup [.str "unit", a, c], .int k] G = .ok (.bl false) G := by
  refine nest_in hk (.inr rfl) ?_
  unfold b_is_nested
  simp only [tailOf]
  refine (skip (G1 := G) (by simp [evT, evE, q_unit_var])).trans (seq_rt ((if_yes (G1 := G) (by simp [evT, evE, q_unit_unit])).trans (ret_ok ?_)))
  rw [and_ok (k := false) (G1 := G) (by simp [evE, evEs, cmp_eqI]), if_neg (by decide)]
/-- one of the other kinds -/
structure Kind (s : Str) : Prop where
  v : ∀ G, cmpD G .eq (.str s) (.str "var") = some false
  u : ∀ G, cmpD G .eq (.str s) (.str "unit") = some false
  n : ∀ G, cmpD G .nin (.str s) (.tup [.str "mul", .str "div", .str "add", .str "pow", .str "root"]) = some false
theorem kPow : Kind "pow" := ⟨fun _ => q_pow_var, fun _ => q_pow_unit, fun _ => n_pow⟩
theorem kRoot : Kind "root" := ⟨fun _ => q_root_var, fun _ => q_root_unit, fun _ => n_root⟩
theorem kMul : Kind "mul" := ⟨fun _ => q_mul_var, fun _ => q_mul_unit, fun _ => n_mul⟩
theorem kDiv : Kind "div" := ⟨fun _ => q_div_var, fun _ => q_div_unit, fun _ => n_div⟩
theorem kAdd : Kind "add" := ⟨fun _ => q_add_var, fun _ => q_add_unit, fun _ => n_add⟩
def tl3 : MSs := tailOf (tailOf (tailOf (tailOf (tailOf (tailOf b_is_nested)))))
theorem nest_kind {s : Str} (K : Kind s) (hk : k ≠ 0) {r1 r : Bool} (h1 : run T n "is_nested" [.tup bs, .tup vs, a, .int (k - 1)] G = .ok (.bl r1) G) (h0 : r1 = false → r = false)
    (h : r1 = true → evSs (run T n) G.length tl3 (tau2 bs vs (.tup [.str s, a, c]) k s) G = .ok (.rt (.bl r)) G) : run T (n + 1) "is_nested" [.tup bs, .tup vs, .tup [.str s, a, c], .int k] G = .ok (.bl r) G := by
  refine nest_in hk (.inr rfl) ?_
  unfold tl3 at h
  unfold b_is_nested at h ⊢
  simp only [tailOf] at h ⊢
  refine (skip (G1 := G) (by simp [evT, evE, K.v])).trans ((skip (G1 := G) (by simp [evT, evE, K.u])).trans ((skip (G1 := G) ?_).trans ?_))
  · rw [or_ok (k := false) (G1 := G) (by simp [evT, evE, evEs, K.n]), if_neg (by decide)]
    simp [evT, evE, evEs, cmp_neI]
  · have hc : evT (run T n) G.length (.not (.val (.call "is_nested" (.cons (.var 0) (.cons (.var 1) (.cons (.ix (.var 2) (.con (.int (1)))) (.cons (.bin .sub (.var 3) (.con (.int (1)))) .nil))))))) (tau2 bs vs (.tup [.str s, a, c]) k s) G = .ok (!r1) G :=
      not_ok (val_ok (call_ok (ds := [.tup bs, .tup vs, a, .int (k - 1)]) (G1 := G) (by simp [evEs, evE, ix1]) h1))
    cases e : r1 with
    | false =>
      rw [e] at hc
      rw [h0 e]
      exact seq_rt ((if_yes hc).trans (ret_ok (by rw [evE])))
    | true =>
      rw [e] at hc
      exact (skip hc).trans (h e)
theorem nest_pow (hk : k ≠ 0) {r1 r : Bool} (h1 : run T (n + 1) "is_nested" [.tup bs, .tup vs, a, .int (k - 1)] G = .ok (.bl r1) G) (h0 : r1 = false → r = false) (hc : plain c = true) (hr : ∀ i, c = .int i → r1 = true → r = (decide (-4 ≤ i) && decide (i ≤ 4))) (hn : isI c = false → r = false) :
    run T (n + 2) "is_nested" [.tup bs, .tup vs, .tup [.str "pow", a, c], .int k] G = .ok (.bl r) G := by
  refine nest_kind kPow hk h1 h0 fun e => ?_
  unfold tl3 b_is_nested
  simp only [tailOf]
  refine seq_rt ((if_yes (G1 := G) (by simp [evT, evE, q_pow_pow])).trans (ret_ok ?_))
  rw [and_ok (k := isI c) (G1 := G) (call_ok (ds := [c]) (G1 := G) (by simp [evEs, evE, ix2]) (E_is_integer hc))]
  cases c with
  | int i =>
    rw [hr i rfl e]
    simp only [isI, if_true]
    by_cases h4 : -4 ≤ i
    · simp [evE, ix2, intD, h4]
    · simp [evE, ix2, intD, h4]
  | _ => first | (rw [hn rfl]; rfl) | cases hc
theorem nest_root (hk : k ≠ 0) {r1 r : Bool} (h1 : run T (n + 1) "is_nested" [.tup bs, .tup vs, a, .int (k - 1)] G = .ok (.bl r1) G) (h0 : r1 = false → r = false) (hc : plain c = true) (hr : ∀ i, c = .int i → r1 = true → r = (decide (2 ≤ i) && decide (i ≤ 4))) (hn : isI c = false → r = false) :
    run T (n + 2) "is_nested" [.tup bs, .tup vs, .tup [.str "root", a, c], .int k] G = .ok (.bl r) G := by
  refine nest_kind kRoot hk h1 h0 fun e => ?_
  unfold tl3 b_is_nested
  simp only [tailOf]
  refine (skip (G1 := G) (by simp [evT, evE, q_root_pow])).trans (seq_rt ((if_yes (G1 := G) (by simp [evT, evE, q_root_root])).trans (ret_ok ?_)))
  rw [and_ok (k := isI c) (G1 := G) (call_ok (ds := [c]) (G1 := G) (by simp [evEs, evE, ix2]) (E_is_integer hc))]
  cases c with
  | int i =>
    rw [hr i rfl e]
    simp only [isI, if_true]
    by_cases h4 : 2 ≤ i
    · simp [evE, ix2, intD, h4]
    · simp [evE, ix2, intD, h4]
  | _ => first | (rw [hn rfl]; rfl) | cases hc
def two (s : Str) : Prop := s = "mul" ∨ s = "div" ∨ s = "add"
theorem nest_two {s : Str} (hs : two s) (hk : k ≠ 0) {r1 r2 : Bool} (h1 : run T n "is_nested" [.tup bs, .tup vs, a, .int (k - 1)] G = .ok (.bl r1) G) (h2 : r1 = true → run T n "is_nested" [.tup bs, .tup vs, c, .int (k - 1)] G = .ok (.bl r2) G) (h0 : r1 = false → r2 = false) :
    run T (n + 1) "is_nested" [.tup bs, .tup vs, .tup [.str s, a, c], .int k] G = .ok (.bl r2) G := by
  have K : Kind s := by rcases hs with rfl | rfl | rfl <;> first | exact kMul | exact kDiv | exact kAdd
  have e1 : cmpD G .eq (.str s) (.str "pow") = some false := by rcases hs with rfl | rfl | rfl <;> first | exact q_mul_pow | exact q_div_pow | exact q_add_pow
  have e2 : cmpD G .eq (.str s) (.str "root") = some false := by rcases hs with rfl | rfl | rfl <;> first | exact q_mul_root | exact q_div_root | exact q_add_root
  refine nest_kind K hk h1 h0 fun e => ?_
  unfold tl3 b_is_nested
  simp only [tailOf]
  refine (skip (G1 := G) (by simp [evT, evE, e1])).trans ((skip (G1 := G) (by simp [evT, evE, e2])).trans (ret_ok ?_))
  exact call_ok (ds := [.tup bs, .tup vs, c, .int (k - 1)]) (G1 := G) (by simp [evEs, evE, ix2]) (h2 e)
end
end K01

set_option Elab.async false
set_option linter.all false
set_option maxRecDepth 100000
/-! K01F: good expressions and bad ones. -/
namespace K01
open PySem L2 U
variable {n : Nat} {d : D} {o0 o1 : DO} {bs vs : List D}
/-- a text among texts -/
structure Vars (vs : List D) : Prop where
  st : ∀ v ∈ vs, isS v = true
theorem vars_in (h : Vars vs) {x : D} (hx : x ∈ vs) {G : Hd} : cmpD G .isin x (.tup vs) = some true := by
  have hs := h.st x hx
  cases x with
  | str z =>
    have f : (vs.all flatD) = true := List.all_eq_true.mpr fun v hv => by
      have := h.st v hv
      cases v <;> first | rfl | cases this
    show (if flatD (.str z) && vs.all flatD then some (vs.any fun w => flatEq w (.str z)) else none) = _
    have a : (vs.any fun w => flatEq w (.str z)) = true := List.any_eq_true.mpr ⟨_, hx, by simp [flatEq]⟩
    rw [f, a]
    rfl
  | _ => cases hs
inductive ExG (bs vs : List D) : Nat → D → Prop where
  | var {k : Nat} {x : D} (h : x ∈ vs) : ExG bs vs (k + 1) (.tup [.str "var", x])
  | unit {k : Nat} {xs : List D} (hl : xs.length = bs.length) (h : ∀ x ∈ xs, frGood x) : ExG bs vs (k + 1) (.tup [.str "unit", .tup xs])
  | pow {k : Nat} {a : D} {i : Int} (h : ExG bs vs k a) (h1 : -4 ≤ i) (h2 : i ≤ 4) : ExG bs vs (k + 1) (.tup [.str "pow", a, .int i])
  | root {k : Nat} {a : D} {i : Int} (h : ExG bs vs k a) (h1 : 2 ≤ i) (h2 : i ≤ 4) : ExG bs vs (k + 1) (.tup [.str "root", a, .int i])
  | two {k : Nat} {s : Str} {a c : D} (hs : two s) (h1 : ExG bs vs k a) (h2 : ExG bs vs k c) : ExG bs vs (k + 1) (.tup [.str s, a, c])
theorem nest_good (hv : Vars vs) (hb : bs.length ≤ 3) {k : Nat} (h : ExG bs vs k d) : ∀ (n m : Nat), k ≤ m → run T (n + k + 6) "is_nested" [.tup bs, .tup vs, d, .int m] [o0, o1] = .ok (.bl true) [o0, o1] := by
  induction h with
  | @var k x h =>
    intro n m hm
    have hp : plain x = true := by have := hv.st x h; cases x <;> first | rfl | cases this
    exact nest_var (n := n + k + 6) (by omega) hp (fun _ => vars_in hv h) fun e => by rw [hv.st x h] at e; cases e
  | @unit k xs hl h =>
    intro n m hm
    refine nest_unit (n := n + k + 6) (by omega) (E_unit (n := n + k + 1) ?_)
    rw [E_frs (n := n + k + 1) (fun x hx => .inl (h x hx)) (by rw [hl]; exact Nat.le_trans hb (by decide))]
    have e1 : ((xs.length : Int) == (bs.length : Int)) = true := by rw [hl]; exact beq_self_eq_true _
    have e2 : xs.all pairI = true := List.all_eq_true.mpr fun x hx => good_pair (h x hx)
    rw [e1, e2]
    rfl
  | @pow k a i h h1 h2 ih =>
    intro n m hm
    have q := ih n (m - 1) (by omega)
    rw [show ((m - 1 : Nat) : Int) = (m : Int) - 1 by omega] at q
    exact nest_pow (n := n + k + 5) (by omega) q (fun z => nomatch z) rfl (fun j e _ => by cases e; simp [h1, h2]) fun z => nomatch z
  | @root k a i h h1 h2 ih =>
    intro n m hm
    have q := ih n (m - 1) (by omega)
    rw [show ((m - 1 : Nat) : Int) = (m : Int) - 1 by omega] at q
    exact nest_root (n := n + k + 5) (by omega) q (fun z => nomatch z) rfl (fun j e _ => by cases e; simp [h1, h2]) fun z => nomatch z
  | @two k s a c hs h1 h2 ih1 ih2 =>
    intro n m hm
    have q1 := ih1 n (m - 1) (by omega)
    have q2 := ih2 n (m - 1) (by omega)
    rw [show ((m - 1 : Nat) : Int) = (m : Int) - 1 by omega] at q1 q2
    exact nest_two hs (by omega) q1 (fun _ => q2) fun z => nomatch z
/-- a unit's parts: good, or bad by kinds -/
def FrC (d : D) : Prop := frGood d ∨ FrBad d
inductive ExB (bs vs : List D) : Nat → D → Prop where
  | kind {k : Nat} {d : D} (h : plain d = true) (h2 : isT d = false) : ExB bs vs k d
  | len {k : Nat} {xs : List D} (h2 : xs.length ≠ 2) (h3 : xs.length ≠ 3) : ExB bs vs k (.tup xs)
  | head {k : Nat} {d : D} {xs : List D} (h : plain d = true) (h2 : isS d = false) (hl : xs.length = 1 ∨ xs.length = 2) : ExB bs vs k (.tup (d :: xs))
  | var {k : Nat} {x : D} (h : plain x = true) (h2 : isS x = false) : ExB bs vs k (.tup [.str "var", x])
  | var3 {k : Nat} {x y : D} : ExB bs vs k (.tup [.str "var", x, y])
  | unit0 {k : Nat} {x : D} (h : plain x = true) (h2 : isT x = false) : ExB bs vs k (.tup [.str "unit", x])
  | unit {k : Nat} {xs : List D} (h : ∀ x ∈ xs, FrC x) (hl : xs.length ≤ line) (h2 : xs.length ≠ bs.length ∨ ∃ x ∈ xs, FrBad x) : ExB bs vs k (.tup [.str "unit", .tup xs])
  | unit3 {k : Nat} {x y : D} : ExB bs vs k (.tup [.str "unit", x, y])
  | pow {k : Nat} {a c : D} (h : ExB bs vs k a) (hc : plain c = true) : ExB bs vs (k + 1) (.tup [.str "pow", a, c])
  | root {k : Nat} {a c : D} (h : ExB bs vs k a) (hc : plain c = true) : ExB bs vs (k + 1) (.tup [.str "root", a, c])
  | powi {k : Nat} {a c : D} (h : ExG bs vs k a) (hc : plain c = true) (h2 : isI c = false) : ExB bs vs (k + 1) (.tup [.str "pow", a, c])
  | rooti {k : Nat} {a c : D} (h : ExG bs vs k a) (hc : plain c = true) (h2 : isI c = false) : ExB bs vs (k + 1) (.tup [.str "root", a, c])
  | two1 {k : Nat} {s : Str} {a c : D} (hs : two s) (h : ExB bs vs k a) : ExB bs vs (k + 1) (.tup [.str s, a, c])
  | two2 {k : Nat} {s : Str} {a c : D} (hs : two s) (h : ExG bs vs k a) (h2 : ExB bs vs k c) : ExB bs vs (k + 1) (.tup [.str s, a, c])
theorem nest_bad (hv : Vars vs) (hb : bs.length ≤ 3) {k : Nat} (h : ExB bs vs k d) : ∀ (n m : Nat), k ≤ m → run T (n + k + 6) "is_nested" [.tup bs, .tup vs, d, .int m] [o0, o1] = .ok (.bl false) [o0, o1] := by
  induction h with
  | @kind k d h h2 => exact fun n m hm => nest_out (n := n + k + 5) (g_yes h h2)
  | @len k xs h2 h3 => exact fun n m hm => nest_out (n := n + k + 5) (g_len h2 h3)
  | @head k d xs h h2 hl => exact fun n m hm => nest_out (n := n + k + 5) (g_head h h2 hl)
  | @var k x h h2 =>
    intro n m hm
    by_cases h0 : m = 0
    · subst h0; exact nest_out (n := n + k + 5) g_zero
    · exact nest_var (n := n + k + 5) (by omega) h (fun z => by rw [h2] at z; cases z) fun _ => rfl
  | @var3 k x y =>
    intro n m hm
    by_cases h0 : m = 0
    · subst h0; exact nest_out (n := n + k + 5) g_zero
    · exact nest_var3 (n := n + k + 5) (by omega)
  | @unit0 k x h h2 =>
    intro n m hm
    by_cases h0 : m = 0
    · subst h0; exact nest_out (n := n + k + 5) g_zero
    · exact nest_unit (n := n + k + 5) (by omega) (E_unit (n := n + k) (E_frs0 (n := n + k) h h2))
  | @unit k xs h hl h2 =>
    intro n m hm
    by_cases h0 : m = 0
    · subst h0; exact nest_out (n := n + k + 5) g_zero
    · refine nest_unit (n := n + k + 5) (by omega) (E_unit (n := n + k) ?_)
      rw [E_frs (n := n + k) h hl]
      rcases h2 with h2 | ⟨x, hx, hbad⟩
      · have e1 : ((xs.length : Int) == (bs.length : Int)) = false := beq_eq_false_iff_ne.mpr (by omega)
        rw [e1]
        rfl
      · have e2 : xs.all pairI = false := by
          rw [List.all_eq_false]
          exact ⟨x, hx, by rw [hbad.no]; decide⟩
        rw [e2, Bool.and_false]
  | @unit3 k x y =>
    intro n m hm
    by_cases h0 : m = 0
    · subst h0; exact nest_out (n := n + k + 5) g_zero
    · exact nest_unit3 (n := n + k + 5) (by omega)
  | @pow k a c h hc ih =>
    intro n m hm
    have q := ih n (m - 1) (by omega)
    rw [show ((m - 1 : Nat) : Int) = (m : Int) - 1 by omega] at q
    exact nest_pow (n := n + k + 5) (by omega) q (fun _ => rfl) hc (fun j e z => nomatch z) fun _ => rfl
  | @root k a c h hc ih =>
    intro n m hm
    have q := ih n (m - 1) (by omega)
    rw [show ((m - 1 : Nat) : Int) = (m : Int) - 1 by omega] at q
    exact nest_root (n := n + k + 5) (by omega) q (fun _ => rfl) hc (fun j e z => nomatch z) fun _ => rfl
  | @powi k a c h hc h2 =>
    intro n m hm
    have q := nest_good (o0 := o0) (o1 := o1) hv hb h n (m - 1) (by omega)
    rw [show ((m - 1 : Nat) : Int) = (m : Int) - 1 by omega] at q
    exact nest_pow (n := n + k + 5) (by omega) q (fun _ => rfl) hc (fun j e _ => by subst e; cases h2) fun _ => rfl
  | @rooti k a c h hc h2 =>
    intro n m hm
    have q := nest_good (o0 := o0) (o1 := o1) hv hb h n (m - 1) (by omega)
    rw [show ((m - 1 : Nat) : Int) = (m : Int) - 1 by omega] at q
    exact nest_root (n := n + k + 5) (by omega) q (fun _ => rfl) hc (fun j e _ => by subst e; cases h2) fun _ => rfl
  | @two1 k s a c hs h ih =>
    intro n m hm
    have q := ih n (m - 1) (by omega)
    rw [show ((m - 1 : Nat) : Int) = (m : Int) - 1 by omega] at q
    exact nest_two hs (by omega) q (fun z => nomatch z) fun _ => rfl
  | @two2 k s a c hs h h2 ih =>
    intro n m hm
    have q1 := nest_good (o0 := o0) (o1 := o1) hv hb h n (m - 1) (by omega)
    have q2 := ih n (m - 1) (by omega)
    rw [show ((m - 1 : Nat) : Int) = (m : Int) - 1 by omega] at q1 q2
    exact nest_two hs (by omega) q1 (fun _ => q2) fun _ => rfl
end K01

set_option Elab.async false
set_option linter.all false
set_option maxRecDepth 100000
/-! K01G: what is spoilt is bad. -/
namespace K01
open PySem L2 U
variable {n : Nat} {d : D} {o0 o1 : DO} {bs vs : List D}
def odds : List D := [.non, .tup [.str "x"], .bl true, .lst []]
inductive Sp : D → D → Prop where
  | base {pre post : List D} {one odd : D} (h : odd ∈ odds) : Sp (.tup (pre ++ one :: post)) (.tup (pre ++ odd :: post))
  | deep {pre post : List D} {one odd : D} (h : Sp one odd) : Sp (.tup (pre ++ one :: post)) (.tup (pre ++ odd :: post))
  | lst {xs : List D} : Sp (.tup xs) (.lst xs)
  | app {xs : List D} : Sp (.tup xs) (.tup (xs ++ [.non]))
theorem sp_plain {x y : D} (h : Sp x y) : plain y = true := by cases h <;> rfl
theorem sp_tup {x y : D} (h : Sp x y) : isT x = true := by cases h <;> rfl
theorem odd_plain {y : D} (h : y ∈ odds) : plain y = true := by
  simp only [odds, List.mem_cons, List.not_mem_nil, or_false] at h
  rcases h with rfl | rfl | rfl | rfl <;> rfl
/-- what stands at a spoilt place -/
def Odd (one odd : D) : Prop := odd ∈ odds ∨ Sp one odd
theorem Odd.plain {one odd : D} (h : Odd one odd) : plain odd = true := h.elim odd_plain sp_plain
theorem Odd.leaf {one odd : D} (h : Odd one odd) (h1 : isT one = false) : odd ∈ odds := h.elim id fun h => by rw [sp_tup h] at h1; cases h1
theorem odd_int {y : D} (h : y ∈ odds) : isI y = false := by
  simp only [odds, List.mem_cons, List.not_mem_nil, or_false] at h
  rcases h with rfl | rfl | rfl | rfl <;> rfl
theorem odd_str {y : D} (h : y ∈ odds) : isS y = false := by
  simp only [odds, List.mem_cons, List.not_mem_nil, or_false] at h
  rcases h with rfl | rfl | rfl | rfl <;> rfl
theorem sp_inv {x y : D} (h : Sp x y) : ∀ xs, x = .tup xs → (∃ pre one post odd, xs = pre ++ one :: post ∧ y = .tup (pre ++ odd :: post) ∧ Odd one odd) ∨ y = .lst xs ∨ y = .tup (xs ++ [.non]) := by
  intro xs e
  cases h with
  | base h => cases e; exact .inl ⟨_, _, _, _, rfl, rfl, .inl h⟩
  | deep h => cases e; exact .inl ⟨_, _, _, _, rfl, rfl, .inr h⟩
  | lst => cases e; exact .inr (.inl rfl)
  | app => cases e; exact .inr (.inr rfl)
/-- of two, of three -/
theorem sp2 {a c y : D} (h : Sp (.tup [a, c]) y) : (∃ o, y = .tup [o, c] ∧ Odd a o) ∨ (∃ o, y = .tup [a, o] ∧ Odd c o) ∨ y = .lst [a, c] ∨ y = .tup [a, c, .non] := by
  rcases sp_inv h _ rfl with ⟨pre, one, post, odd, e1, e2, e3⟩ | h | h
  · match pre, e1 with
    | [], e1 => cases e1; exact .inl ⟨odd, e2, e3⟩
    | [_], e1 => cases e1; exact .inr (.inl ⟨odd, e2, e3⟩)
    | _ :: _ :: pre, e1 => simp at e1
  · exact .inr (.inr (.inl h))
  · exact .inr (.inr (.inr h))
theorem sp3 {a c e y : D} (h : Sp (.tup [a, c, e]) y) : (∃ o, y = .tup [o, c, e] ∧ Odd a o) ∨ (∃ o, y = .tup [a, o, e] ∧ Odd c o) ∨ (∃ o, y = .tup [a, c, o] ∧ Odd e o) ∨ y = .lst [a, c, e] ∨ y = .tup [a, c, e, .non] := by
  rcases sp_inv h _ rfl with ⟨pre, one, post, odd, e1, e2, e3⟩ | h | h
  · match pre, e1 with
    | [], e1 => cases e1; exact .inl ⟨odd, e2, e3⟩
    | [_], e1 => cases e1; exact .inr (.inl ⟨odd, e2, e3⟩)
    | [_, _], e1 => cases e1; exact .inr (.inr (.inl ⟨odd, e2, e3⟩))
    | _ :: _ :: _ :: pre, e1 => simp at e1
  · exact .inr (.inr (.inr (.inl h)))
  · exact .inr (.inr (.inr (.inr h)))
theorem frbad_odd {y : D} (h : y ∈ odds) : FrBad y := by
  refine ⟨odd_plain h, fun xs e => ?_, ?_⟩
  · simp only [odds, List.mem_cons, List.not_mem_nil, or_false] at h
    rcases h with rfl | rfl | rfl | rfl <;> cases e
    exact ⟨fun x hx => by rw [List.mem_singleton.mp hx]; rfl, by decide⟩
  · simp only [odds, List.mem_cons, List.not_mem_nil, or_false] at h
    rcases h with rfl | rfl | rfl | rfl <;> rfl
theorem sp_fr {y : D} (h : frGood d) (s : Sp d y) : FrBad y := by
  obtain ⟨t, q, rfl, _⟩ := h
  have pl : ∀ {a c : D}, plain a = true → plain c = true → ∀ xs, D.tup [a, c] = .tup xs → (∀ x ∈ xs, plain x = true) ∧ xs.length ≤ line := fun ha hc xs e => by
    cases e
    refine ⟨fun x hx => ?_, (show _ ≤ 16777216 by simp)⟩
    simp only [List.mem_cons, List.not_mem_nil, or_false] at hx
    rcases hx with rfl | rfl
    · exact ha
    · exact hc
  rcases sp2 s with ⟨o, rfl, ho⟩ | ⟨o, rfl, ho⟩ | rfl | rfl
  · have := odd_int (ho.leaf rfl)
    exact ⟨rfl, pl ho.plain rfl, by simp [pairI, this]⟩
  · have := odd_int (ho.leaf rfl)
    exact ⟨rfl, pl rfl ho.plain, by simp [pairI, this]⟩
  · exact ⟨rfl, (fun xs e => nomatch e), rfl⟩
  · refine ⟨rfl, fun xs e => ?_, rfl⟩
    cases e
    refine ⟨fun x hx => ?_, (show _ ≤ 16777216 by simp)⟩
    simp only [List.mem_cons, List.not_mem_nil, or_false] at hx
    rcases hx with rfl | rfl | rfl <;> rfl
theorem odd_fr {one y : D} (h : frGood one) (s : Odd one y) : FrBad y := s.elim frbad_odd (sp_fr h)
/-- a spoilt unit -/
theorem sp_unit {xs : List D} {y : D} (hb : bs.length ≤ 3) (hl : xs.length = bs.length) (h : ∀ x ∈ xs, frGood x) (s : Odd (.tup xs) y) :
    (plain y = true ∧ isT y = false) ∨ ∃ ys, y = .tup ys ∧ (∀ x ∈ ys, FrC x) ∧ ys.length ≤ line ∧ (ys.length ≠ bs.length ∨ ∃ x ∈ ys, FrBad x) := by
  rcases s with s | s
  · simp only [odds, List.mem_cons, List.not_mem_nil, or_false] at s
    rcases s with rfl | rfl | rfl | rfl
    · exact .inl ⟨rfl, rfl⟩
    · have hx : FrBad (.str "x") := ⟨rfl, (fun xs e => nomatch e), rfl⟩
      exact .inr ⟨_, rfl, fun x h => by rw [List.mem_singleton.mp h]; exact .inr hx, by decide, .inr ⟨_, List.mem_singleton.mpr rfl, hx⟩⟩
    · exact .inl ⟨rfl, rfl⟩
    · exact .inl ⟨rfl, rfl⟩
  · rcases sp_inv s _ rfl with ⟨pre, one, post, odd, rfl, rfl, e3⟩ | rfl | rfl
    · have g1 := h one (by simp)
      have ho := odd_fr g1 e3
      refine .inr ⟨_, rfl, fun x hx => ?_, ?_, .inr ⟨odd, by simp, ho⟩⟩
      · rcases List.mem_append.mp hx with hx | hx
        · exact .inl (h x (by simp [hx]))
        · rcases List.mem_cons.mp hx with rfl | hx
          · exact .inr ho
          · exact .inl (h x (by simp [hx]))
      · have : (pre ++ odd :: post).length = bs.length := by rw [← hl]; simp
        rw [this]
        exact Nat.le_trans hb (by decide)
    · exact .inl ⟨rfl, rfl⟩
    · have hx : FrBad .non := ⟨rfl, (fun xs e => nomatch e), rfl⟩
      refine .inr ⟨_, rfl, fun x hh => ?_, ?_, .inl ?_⟩
      · rcases List.mem_append.mp hh with hh | hh
        · exact .inl (h x hh)
        · rw [List.mem_singleton.mp hh]; exact .inr hx
      · rw [List.length_append, hl]
        exact Nat.le_trans (Nat.add_le_add_right hb 1) (by decide)
      · rw [List.length_append, hl]
        simp
theorem odd_ex {k : Nat} {y : D} (h : y ∈ odds) : ExB bs vs k y := by
  simp only [odds, List.mem_cons, List.not_mem_nil, or_false] at h
  rcases h with rfl | rfl | rfl | rfl
  · exact .kind rfl rfl
  · exact .len (by decide) (by decide)
  · exact .kind rfl rfl
  · exact .kind rfl rfl
theorem sp_ex (hv : Vars vs) (hb : bs.length ≤ 3) {k : Nat} (h : ExG bs vs k d) : ∀ {y : D}, Sp d y → ExB bs vs k y := by
  have hd : ∀ {k : Nat} {s : Str} {o : D} {xs : List D}, Odd (.str s) o → xs.length = 1 ∨ xs.length = 2 → ExB bs vs k (.tup (o :: xs)) := fun ho hl => .head ho.plain (odd_str (ho.leaf rfl)) hl
  induction h with
  | @var k x h =>
    intro y s
    have hx := hv.st x h
    rcases sp2 s with ⟨o, rfl, ho⟩ | ⟨o, rfl, ho⟩ | rfl | rfl
    · exact hd ho (.inl rfl)
    · exact .var ho.plain (odd_str (ho.leaf (by cases x <;> first | rfl | cases hx)))
    · exact .kind rfl rfl
    · exact .var3
  | @unit k xs hl h =>
    intro y s
    rcases sp2 s with ⟨o, rfl, ho⟩ | ⟨o, rfl, ho⟩ | rfl | rfl
    · exact hd ho (.inl rfl)
    · rcases sp_unit hb hl h ho with ⟨h1, h2⟩ | ⟨ys, rfl, h1, h2, h3⟩
      · exact .unit0 h1 h2
      · exact .unit h1 h2 h3
    · exact .kind rfl rfl
    · exact .unit3
  | @pow k a i h h1 h2 ih =>
    intro y s
    rcases sp3 s with ⟨o, rfl, ho⟩ | ⟨o, rfl, ho⟩ | ⟨o, rfl, ho⟩ | rfl | rfl
    · exact hd ho (.inr rfl)
    · exact .pow (ho.elim odd_ex ih) rfl
    · exact .powi h ho.plain (odd_int (ho.leaf rfl))
    · exact .kind rfl rfl
    · exact .len (by simp) (by simp)
  | @root k a i h h1 h2 ih =>
    intro y s
    rcases sp3 s with ⟨o, rfl, ho⟩ | ⟨o, rfl, ho⟩ | ⟨o, rfl, ho⟩ | rfl | rfl
    · exact hd ho (.inr rfl)
    · exact .root (ho.elim odd_ex ih) rfl
    · exact .rooti h ho.plain (odd_int (ho.leaf rfl))
    · exact .kind rfl rfl
    · exact .len (by simp) (by simp)
  | @two k s' a c hs h1 h2 ih1 ih2 =>
    intro y s
    rcases sp3 s with ⟨o, rfl, ho⟩ | ⟨o, rfl, ho⟩ | ⟨o, rfl, ho⟩ | rfl | rfl
    · exact hd ho (.inr rfl)
    · exact .two1 hs (ho.elim odd_ex ih1)
    · exact .two2 hs h1 (ho.elim odd_ex ih2)
    · exact .kind rfl rfl
    · exact .len (by simp) (by simp)
theorem ExG.mono {k : Nat} (h : ExG bs vs k d) : ∀ j, ExG bs vs (k + j) d := by
  induction h with
  | @var k x h => intro j; rw [Nat.add_right_comm]; exact .var h
  | @unit k xs hl h => intro j; rw [Nat.add_right_comm]; exact .unit hl h
  | @pow k a i h h1 h2 ih => intro j; rw [Nat.add_right_comm]; exact .pow (ih j) h1 h2
  | @root k a i h h1 h2 ih => intro j; rw [Nat.add_right_comm]; exact .root (ih j) h1 h2
  | @two k s a c hs h1 h2 ih1 ih2 => intro j; rw [Nat.add_right_comm]; exact .two hs (ih1 j) (ih2 j)
theorem ExG.le {k m : Nat} (h : ExG bs vs k d) (hm : k ≤ m) : ExG bs vs m d := by
  have := h.mono (m - k)
  rwa [show k + (m - k) = m by omega] at this
/-! ### statements, models -/
theorem E_ex {k : Bool} (h : run T (n + 12) "is_nested" [.tup bs, .tup vs, d, .int 6] [o0, o1] = .ok (.bl k) [o0, o1]) : run T (n + 13) "is_expression" [.tup bs, .tup vs, d] [o0, o1] = .ok (.bl k) [o0, o1] := by
  rw [run_succ L_is_expression]
  refine callF_rtG rfl rfl ?_ frz_bl
  show evSs _ _ b_is_expression [some (.tup bs), some (.tup vs), some d] _ = _
  unfold b_is_expression
  exact ret_ok (call_ok (ds := [.tup bs, .tup vs, d, .int 6]) (G1 := [o0, o1]) (by simp [evEs, evE]) h)
theorem ex_good (hv : Vars vs) (hb : bs.length ≤ 3) (h : ExG bs vs 6 d) : run T (n + 13) "is_expression" [.tup bs, .tup vs, d] [o0, o1] = .ok (.bl true) [o0, o1] := E_ex (nest_good hv hb h n 6 (Nat.le_refl _))
theorem ex_bad (hv : Vars vs) (hb : bs.length ≤ 3) (h : ExB bs vs 6 d) : run T (n + 13) "is_expression" [.tup bs, .tup vs, d] [o0, o1] = .ok (.bl false) [o0, o1] := E_ex (nest_bad hv hb h n 6 (Nat.le_refl _))
end K01

set_option Elab.async false
set_option linter.all false
set_option maxRecDepth 100000
/-! K01I: statements, models. -/
namespace K01
open PySem L2 U
variable {n : Nat} {d : D} {o0 o1 : DO} {bs vs : List D}
def resB : Out D → Bool
  | .ok (.bl r) _ => r
  | _ => false
theorem all_lc {Φ : Fn} {b : Nat} {τ : Tau} {G : Hd} {e : ME} {i : Nat} {it : MI} {own : List Nat} {ds : List D} (hi : evI Φ b it τ G = .ok (.items ds) G) (hl : ds.length ≤ line) (h : ∀ x ∈ ds, ∃ r, evE Φ b e ((wipeD τ own).set i (some x)) G = .ok (.bl r) G) :
    evE Φ b (.bi .all (.cons (.lc e (.nam i) it .yes own) .nil)) τ G = .ok (.bl (ds.all fun x => resB (evE Φ b e ((wipeD τ own).set i (some x)) G))) G := by
  refine all_ok (lc_map (g := fun x => .bl (resB (evE Φ b e ((wipeD τ own).set i (some x)) G))) hi hl fun x hx => ?_)
  obtain ⟨r, hr⟩ := h x hx
  rw [hr]
  rfl
theorem all_yes {Φ : Fn} {b : Nat} {τ : Tau} {G : Hd} {e : ME} {i : Nat} {it : MI} {own : List Nat} {ds : List D} (hi : evI Φ b it τ G = .ok (.items ds) G) (hl : ds.length ≤ line) (h : ∀ x ∈ ds, evE Φ b e ((wipeD τ own).set i (some x)) G = .ok (.bl true) G) :
    evE Φ b (.bi .all (.cons (.lc e (.nam i) it .yes own) .nil)) τ G = .ok (.bl true) G := by
  rw [all_lc hi hl fun x hx => ⟨true, h x hx⟩]
  have : (ds.all fun x => resB (evE Φ b e ((wipeD τ own).set i (some x)) G)) = true := List.all_eq_true.mpr fun x hx => by rw [h x hx]; rfl
  rw [this]
theorem all_no {Φ : Fn} {b : Nat} {τ : Tau} {G : Hd} {e : ME} {i : Nat} {it : MI} {own : List Nat} {ds : List D} (hi : evI Φ b it τ G = .ok (.items ds) G) (hl : ds.length ≤ line) (h : ∀ x ∈ ds, ∃ r, evE Φ b e ((wipeD τ own).set i (some x)) G = .ok (.bl r) G) (hx : ∃ x ∈ ds, evE Φ b e ((wipeD τ own).set i (some x)) G = .ok (.bl false) G) :
    evE Φ b (.bi .all (.cons (.lc e (.nam i) it .yes own) .nil)) τ G = .ok (.bl false) G := by
  rw [all_lc hi hl h]
  obtain ⟨x, hm, hx⟩ := hx
  have : (ds.all fun x => resB (evE Φ b e ((wipeD τ own).set i (some x)) G)) = false := List.all_eq_false.mpr ⟨x, hm, by rw [hx]; simp [resB]⟩
  rw [this]
/-- a statement -/
def StG (bs vs : List D) (d : D) : Prop := ∃ a c, d = .tup [a, c] ∧ ExG bs vs 6 a ∧ ExG bs vs 6 c
def StB (bs vs : List D) (d : D) : Prop := (plain d = true ∧ isT d = false) ∨ (∃ xs, d = .tup xs ∧ xs.length ≠ 2) ∨ ∃ a c, d = .tup [a, c] ∧ ((ExB bs vs 6 a ∧ ExG bs vs 6 c) ∨ (ExG bs vs 6 a ∧ ExB bs vs 6 c))
abbrev stTau (bs vs : List D) (d : D) : Tau := [some (.tup bs), some (.tup vs), some d, none]
theorem st_in {a c : D} {r : Bool} (h : evE (run T (n + 13)) 2 (.bi .all (.cons (.lc (.call "is_expression" (.cons (.var 0) (.cons (.var 1) (.cons (.var 3) .nil)))) (.nam 3) (.val (.var 2)) .yes [3]) .nil)) (stTau bs vs (.tup [a, c])) [o0, o1] = .ok (.bl r) [o0, o1]) :
    run T (n + 14) "is_statement" [.tup bs, .tup vs, .tup [a, c]] [o0, o1] = .ok (.bl r) [o0, o1] := by
  rw [run_succ L_is_statement]
  refine callF_rtG rfl rfl ?_ frz_bl
  show evSs _ 2 b_is_statement (stTau bs vs (.tup [a, c])) _ = _
  unfold b_is_statement
  refine (skip (G1 := [o0, o1]) ?_).trans (ret_ok h)
  rw [or_ok (k := false) (G1 := [o0, o1]) (by simp [evT, evE, evEs, isi_tuple (d := .tup [a, c]) rfl, isT]), if_neg (by decide)]
  simp [evT, evE, evEs, cmp_neI]
theorem ex_call {x : D} {d0 : D} {r : Bool} (h : run T (n + 13) "is_expression" [.tup bs, .tup vs, x] [o0, o1] = .ok (.bl r) [o0, o1]) : evE (run T (n + 13)) 2 (.call "is_expression" (.cons (.var 0) (.cons (.var 1) (.cons (.var 3) .nil)))) ((wipeD (stTau bs vs d0) [3]).set 3 (some x)) [o0, o1] = .ok (.bl r) [o0, o1] :=
  call_ok (ds := [.tup bs, .tup vs, x]) (G1 := [o0, o1]) (by simp [evEs, evE, wipeD]) h
theorem st_good (hv : Vars vs) (hb : bs.length ≤ 3) (h : StG bs vs d) : run T (n + 14) "is_statement" [.tup bs, .tup vs, d] [o0, o1] = .ok (.bl true) [o0, o1] := by
  obtain ⟨a, c, rfl, ha, hc⟩ := h
  refine st_in (all_yes (ds := [a, c]) (by simp [evI, evE, iterD, stillD]) (show _ ≤ 16777216 by simp) fun x hx => ex_call ?_)
  simp only [List.mem_cons, List.not_mem_nil, or_false] at hx
  rcases hx with rfl | rfl
  · exact ex_good hv hb ha
  · exact ex_good hv hb hc
theorem st_bad (hv : Vars vs) (hb : bs.length ≤ 3) (h : StB bs vs d) : run T (n + 14) "is_statement" [.tup bs, .tup vs, d] [o0, o1] = .ok (.bl false) [o0, o1] := by
  rcases h with ⟨h1, h2⟩ | ⟨xs, rfl, hl⟩ | ⟨a, c, rfl, h⟩
  · rw [run_succ L_is_statement]
    refine callF_rtG rfl rfl ?_ frz_bl
    show evSs _ 2 b_is_statement (stTau bs vs d) _ = _
    unfold b_is_statement
    refine seq_rt ((if_yes (G1 := [o0, o1]) ?_).trans (ret_ok (by rw [evE])))
    rw [or_ok (k := true) (G1 := [o0, o1]) (by simp [evT, evE, evEs, isi_tuple h1, h2]), if_pos rfl]
  · rw [run_succ L_is_statement]
    refine callF_rtG rfl rfl ?_ frz_bl
    show evSs _ 2 b_is_statement (stTau bs vs (.tup xs)) _ = _
    unfold b_is_statement
    refine seq_rt ((if_yes (G1 := [o0, o1]) ?_).trans (ret_ok (by rw [evE])))
    rw [or_ok (k := false) (G1 := [o0, o1]) (by simp [evT, evE, evEs, isi_tuple (d := .tup xs) rfl, isT]), if_neg (by decide)]
    have e1 : ((xs.length : Int) == 2) = false := beq_eq_false_iff_ne.mpr (by omega)
    simp [evT, evE, evEs, cmp_neI, e1]
  · have hi : evI (run T (n + 13)) 2 (.val (.var 2)) (stTau bs vs (.tup [a, c])) [o0, o1] = .ok (.items [a, c]) [o0, o1] := by simp [evI, evE, iterD, stillD]
    have hl : [a, c].length ≤ line := show _ ≤ 16777216 by simp
    rcases h with ⟨ha, hc⟩ | ⟨ha, hc⟩
    · refine st_in (all_no hi hl (fun x hx => ?_) ⟨a, by simp, ex_call (ex_bad hv hb ha)⟩)
      simp only [List.mem_cons, List.not_mem_nil, or_false] at hx
      rcases hx with rfl | rfl
      · exact ⟨_, ex_call (ex_bad hv hb ha)⟩
      · exact ⟨_, ex_call (ex_good hv hb hc)⟩
    · refine st_in (all_no hi hl (fun x hx => ?_) ⟨c, by simp, ex_call (ex_bad hv hb hc)⟩)
      simp only [List.mem_cons, List.not_mem_nil, or_false] at hx
      rcases hx with rfl | rfl
      · exact ⟨_, ex_call (ex_good hv hb ha)⟩
      · exact ⟨_, ex_call (ex_bad hv hb hc)⟩
theorem odd_st (hv : Vars vs) (hb : bs.length ≤ 3) {one y : D} (h : StG bs vs one) (s : Odd one y) : StB bs vs y := by
  obtain ⟨a, c, rfl, ha, hc⟩ := h
  rcases s with s | s
  · simp only [odds, List.mem_cons, List.not_mem_nil, or_false] at s
    rcases s with rfl | rfl | rfl | rfl
    · exact .inl ⟨rfl, rfl⟩
    · exact .inr (.inl ⟨_, rfl, by simp⟩)
    · exact .inl ⟨rfl, rfl⟩
    · exact .inl ⟨rfl, rfl⟩
  · rcases sp2 s with ⟨o, rfl, ho⟩ | ⟨o, rfl, ho⟩ | rfl | rfl
    · exact .inr (.inr ⟨o, c, rfl, .inl ⟨ho.elim odd_ex (sp_ex hv hb ha), hc⟩⟩)
    · exact .inr (.inr ⟨a, o, rfl, .inr ⟨ha, ho.elim odd_ex (sp_ex hv hb hc)⟩⟩)
    · exact .inl ⟨rfl, rfl⟩
    · exact .inr (.inl ⟨_, rfl, by simp⟩)
/-- models: the headings stand -/
structure Heads (bs vs : List D) : Prop where
  vars : Vars vs
  len : bs.length ≤ 3
  ok : ∀ (n : Nat) (o0 o1 : DO), run T (n + 15) "are_headings" [.tup bs, .tup vs] [o0, o1] = .ok (.bl true) [o0, o1]
abbrev mTau (bs vs : List D) (d : D) : Tau := [some (.tup [.tup bs, .tup vs, d]), none]
theorem m_in (H : Heads bs vs) {xs : List D} {r : Bool} (hl : xs.length ≤ 8) (h : evE (run T (n + 15)) 2 (.bi .all (.cons (.lc (.call "is_statement" (.cons (.ix (.var 0) (.con (.int (0)))) (.cons (.ix (.var 0) (.con (.int (1)))) (.cons (.var 1) .nil)))) (.nam 1) (.val (.ix (.var 0) (.con (.int (2))))) .yes [1]) .nil)) (mTau bs vs (.tup xs)) [o0, o1] = .ok (.bl r) [o0, o1]) :
    run T (n + 16) "is_model" [.tup [.tup bs, .tup vs, .tup xs]] [o0, o1] = .ok (.bl r) [o0, o1] := by
  rw [run_succ L_is_model]
  refine callF_rtG rfl rfl ?_ frz_bl
  show evSs _ 2 b_is_model (mTau bs vs (.tup xs)) _ = _
  unfold b_is_model
  refine (skip (G1 := [o0, o1]) ?_).trans ((skip (G1 := [o0, o1]) ?_).trans (ret_ok h))
  · rw [or_ok (k := false) (G1 := [o0, o1]) (by simp [evT, evE, evEs, isi_tuple (d := .tup [.tup bs, .tup vs, .tup xs]) rfl, isT]), if_neg (by decide)]
    rw [or_ok (k := false) (G1 := [o0, o1]) (by simp [evT, evE, evEs, cmp_neI]), if_neg (by decide)]
    exact not_ok (val_ok (call_ok (ds := [.tup bs, .tup vs]) (G1 := [o0, o1]) (by simp [evEs, evE, ix0, ix1]) (H.ok n o0 o1)))
  · rw [or_ok (k := false) (G1 := [o0, o1]) (by simp [evT, evE, evEs, ix2, isi_tuple (d := .tup xs) rfl, isT]), if_neg (by decide)]
    simp [evT, evE, evEs, ix2]
    omega
theorem m_out (H : Heads bs vs) (h1 : plain d = true) (h2 : isT d = false) : run T (n + 16) "is_model" [.tup [.tup bs, .tup vs, d]] [o0, o1] = .ok (.bl false) [o0, o1] := by
  rw [run_succ L_is_model]
  refine callF_rtG rfl rfl ?_ frz_bl
  show evSs _ 2 b_is_model (mTau bs vs d) _ = _
  unfold b_is_model
  refine (skip (G1 := [o0, o1]) ?_).trans (seq_rt ((if_yes (G1 := [o0, o1]) ?_).trans (ret_ok (by rw [evE]))))
  · rw [or_ok (k := false) (G1 := [o0, o1]) (by simp [evT, evE, evEs, isi_tuple (d := .tup [.tup bs, .tup vs, d]) rfl, isT]), if_neg (by decide)]
    rw [or_ok (k := false) (G1 := [o0, o1]) (by simp [evT, evE, evEs, cmp_neI]), if_neg (by decide)]
    exact not_ok (val_ok (call_ok (ds := [.tup bs, .tup vs]) (G1 := [o0, o1]) (by simp [evEs, evE, ix0, ix1]) (H.ok n o0 o1)))
  · rw [or_ok (k := true) (G1 := [o0, o1]) (by simp [evT, evE, evEs, ix2, isi_tuple h1, h2]), if_pos rfl]
theorem st_call {x d0 : D} {r : Bool} (h : run T (n + 15) "is_statement" [.tup bs, .tup vs, x] [o0, o1] = .ok (.bl r) [o0, o1]) : evE (run T (n + 15)) 2 (.call "is_statement" (.cons (.ix (.var 0) (.con (.int (0)))) (.cons (.ix (.var 0) (.con (.int (1)))) (.cons (.var 1) .nil)))) ((wipeD (mTau bs vs d0) [1]).set 1 (some x)) [o0, o1] = .ok (.bl r) [o0, o1] :=
  call_ok (ds := [.tup bs, .tup vs, x]) (G1 := [o0, o1]) (by simp [evEs, evE, wipeD, ix0, ix1]) h
theorem model_good (H : Heads bs vs) {xs : List D} (hl : xs.length ≤ 8) (h : ∀ x ∈ xs, StG bs vs x) : run T (n + 16) "is_model" [.tup [.tup bs, .tup vs, .tup xs]] [o0, o1] = .ok (.bl true) [o0, o1] :=
  m_in H hl (all_yes (ds := xs) (by simp [evI, evE, iterD, stillD, ix2]) (Nat.le_trans hl (by decide)) fun x hx => st_call (st_good (n := n + 1) H.vars H.len (h x hx)))
theorem model_bad (H : Heads bs vs) {xs : List D} {y : D} (hl : xs.length ≤ 7) (h : ∀ x ∈ xs, StG bs vs x) (s : Sp (.tup xs) y) : run T (n + 16) "is_model" [.tup [.tup bs, .tup vs, y]] [o0, o1] = .ok (.bl false) [o0, o1] := by
  have go : ∀ {ys : List D}, ys.length ≤ 8 → (∀ x ∈ ys, StG bs vs x ∨ StB bs vs x) → (∃ x ∈ ys, StB bs vs x) → run T (n + 16) "is_model" [.tup [.tup bs, .tup vs, .tup ys]] [o0, o1] = .ok (.bl false) [o0, o1] := by
    intro ys hl h ⟨x, hx, hbad⟩
    refine m_in H hl (all_no (ds := ys) (by simp [evI, evE, iterD, stillD, ix2]) (Nat.le_trans hl (by decide)) (fun x hx => ?_) ⟨x, hx, st_call (st_bad (n := n + 1) H.vars H.len hbad)⟩)
    rcases h x hx with h | h
    · exact ⟨_, st_call (st_good (n := n + 1) H.vars H.len h)⟩
    · exact ⟨_, st_call (st_bad (n := n + 1) H.vars H.len h)⟩
  rcases sp_inv s _ rfl with ⟨pre, one, post, odd, rfl, rfl, e3⟩ | rfl | rfl
  · have hb := odd_st H.vars H.len (h one (by simp)) e3
    refine go (by simp at hl ⊢; omega) (fun x hx => ?_) ⟨odd, by simp, hb⟩
    rcases List.mem_append.mp hx with hx | hx
    · exact .inl (h x (by simp [hx]))
    · rcases List.mem_cons.mp hx with rfl | hx
      · exact .inr hb
      · exact .inl (h x (by simp [hx]))
  · exact m_out H rfl rfl
  · have hb : StB bs vs .non := .inl ⟨rfl, rfl⟩
    refine go (by simp; omega) (fun x hx => ?_) ⟨.non, by simp, hb⟩
    rcases List.mem_append.mp hx with hx | hx
    · exact .inl (h x hx)
    · rw [List.mem_singleton.mp hx]; exact .inr hb
/-- units -/
theorem unit_good {xs : List D} (hb : bs.length ≤ 3) (hl : xs.length = bs.length) (h : ∀ x ∈ xs, frGood x) : run T (n + 5) "is_unit" [.tup bs, .tup xs] [o0, o1] = .ok (.bl true) [o0, o1] := by
  refine E_unit ?_
  rw [E_frs (fun x hx => .inl (h x hx)) (by rw [hl]; exact Nat.le_trans hb (by decide))]
  have e1 : ((xs.length : Int) == (bs.length : Int)) = true := by rw [hl]; exact beq_self_eq_true _
  have e2 : xs.all pairI = true := List.all_eq_true.mpr fun x hx => good_pair (h x hx)
  rw [e1, e2]
  rfl
theorem unit_len {xs : List D} (hb : xs.length ≤ 4) (hl : xs.length ≠ bs.length) (h : ∀ x ∈ xs, frGood x) : run T (n + 5) "is_unit" [.tup bs, .tup xs] [o0, o1] = .ok (.bl false) [o0, o1] := by
  refine E_unit ?_
  rw [E_frs (fun x hx => .inl (h x hx)) (Nat.le_trans hb (by decide))]
  have e1 : ((xs.length : Int) == (bs.length : Int)) = false := beq_eq_false_iff_ne.mpr (by omega)
  rw [e1]
  rfl
theorem unit_bad {xs : List D} {y : D} (hb : bs.length ≤ 3) (hl : xs.length = bs.length) (h : ∀ x ∈ xs, frGood x) (s : Sp (.tup xs) y) : run T (n + 5) "is_unit" [.tup bs, y] [o0, o1] = .ok (.bl false) [o0, o1] := by
  rcases sp_unit hb hl h (.inr s) with ⟨h1, h2⟩ | ⟨ys, rfl, h1, h2, h3⟩
  · exact E_unit (E_frs0 h1 h2)
  · refine E_unit ?_
    rw [E_frs h1 h2]
    rcases h3 with h3 | ⟨x, hx, hbad⟩
    · have e1 : ((ys.length : Int) == (bs.length : Int)) = false := beq_eq_false_iff_ne.mpr (by omega)
      rw [e1]
      rfl
    · have e2 : ys.all pairI = false := by
        rw [List.all_eq_false]
        exact ⟨x, hx, by rw [hbad.no]; decide⟩
      rw [e2, Bool.and_false]
end K01

set_option Elab.async false
set_option linter.all false
set_option maxRecDepth 100000
/-! K01J: the spoilt variants as the law makes them. -/
namespace K01
open PySem L2 U
variable {n : Nat} {d : D} {bs vs : List D}
theorem L_spoilt : T.lookup ("_law_spoilt" : Str) = some r__law_spoilt.fd := by kernel_rfl
def leaf (d : D) : Prop := (∃ i, d = .int i) ∨ ∃ s, d = .str s ∧ PyData.canLay0 (.str s) = true
def Wd : Nat → D → Prop
  | 0, d => leaf d
  | k + 1, d => leaf d ∨ ∃ xs, d = .tup xs ∧ xs.length ≤ 3 ∧ ∀ x ∈ xs, Wd k x
theorem leaf_no (h : leaf d) : isT d = false ∧ plain d = true := by
  rcases h with ⟨i, rfl⟩ | ⟨s, rfl, _⟩ <;> exact ⟨rfl, rfl⟩
theorem leaf_sh {j : Nat} (h : leaf d) : Sh j d := by
  rcases h with ⟨i, rfl⟩ | ⟨s, rfl, hs⟩
  · exact .int
  · exact .str hs
theorem wd_sh : ∀ {k : Nat} {d : D}, Wd k d → Sh k d
  | 0, d, h => leaf_sh h
  | k + 1, d, h => by
    rcases h with h | ⟨xs, rfl, _, h⟩
    · exact leaf_sh h
    · exact .tup fun x hx => wd_sh (h x hx)
theorem odd_sh {j : Nat} {y : D} (h : y ∈ odds) : Sh (j + 1) y := by
  simp only [odds, List.mem_cons, List.not_mem_nil, or_false] at h
  rcases h with rfl | rfl | rfl | rfl
  · exact .non
  · exact .tup fun x hx => by rw [List.mem_singleton.mp hx]; exact .str (by kernel_rfl)
  · exact .bl
  · exact .lst fun x hx => (nomatch hx)
def S : Nat → Nat
  | 0 => 0
  | k + 1 => 3 * (4 + S k) + 2
def inner : MSs := (.cons (.iff (.or (.val (.cmp .ne (.var 4) (.var 3))) (.val (.bi .isi (.cons (.var 4) (.cons (.con (.ty "list")) .nil)))))
    (.cons (.exp (.append (.var 1) (.bin .add (.bin .add (.sl (.var 0) .no (.yes (.var 2))) (.tup (.cons (.var 4) .nil))) (.sl (.var 0) (.yes (.bin .add (.var 2) (.con (.int (1))))) .no))))
  .nil)
    .nil)
  .nil)
def innerIt : MI := (.val (.bin .add (.lst (.cons (.con .non) (.cons (.tup (.cons (.con (.str "x")) .nil)) (.cons (.con (.bl true)) (.cons (.lst .nil) .nil))))) (.call "_law_spoilt" (.cons (.var 3) .nil))))
/-- one turn of the inner loop -/
theorem inner_turn {Φ : Fn} {k i : Nat} {xs acc : List D} {one odd : D} {G : Hd} {t4 : Option D} (hk : k ≤ 20) (hl : xs.length ≤ 3) (hx : ∀ x ∈ xs, Wd k x) (hi : xs[i]? = some one) (ho : Odd one odd) (hs : Sh (k + 1) odd) (ha : acc.length < line) :
    ∃ acc', forTurn Φ G.length (.nam 4) inner odd [some (.tup xs), some (.ref G.length), some (.int i), some one, t4] (G ++ [.lst acc]) = .ok (.nx [some (.tup xs), some (.ref G.length), some (.int i), some one, some odd]) (G ++ [.lst acc']) ∧
      (acc' = acc ∨ ∃ y, acc' = acc ++ [y] ∧ Sp (.tup xs) y ∧ Sh (k + 2) y) := by
  have hil : i < xs.length := (List.getElem?_eq_some_iff.mp hi).1
  have hone : Sh (k + 1) one := (wd_sh (hx one (List.mem_of_getElem? hi))).mono (by omega)
  obtain ⟨r, hr⟩ := eq_sh (G := G ++ [.lst acc]) hs hone (by omega)
  let τ : Tau := [some (.tup xs), some (.ref G.length), some (.int i), some one, some odd]
  have hc : ∃ c, evT Φ G.length (.or (.val (.cmp .ne (.var 4) (.var 3))) (.val (.bi .isi (.cons (.var 4) (.cons (.con (.ty "list")) .nil))))) τ (G ++ [.lst acc]) = .ok c (G ++ [.lst acc]) := by
    have e1 : cmpD (G ++ [.lst acc]) .ne odd one = some (!r) := by
      show (eqD _ odd one).map _ = _
      rw [hr]
      rfl
    have h1 : evT Φ G.length (.val (.cmp .ne (.var 4) (.var 3))) τ (G ++ [.lst acc]) = .ok (!r) (G ++ [.lst acc]) := by simp [τ, evT, evE, e1]
    rw [or_ok h1]
    cases r with
    | false => exact ⟨true, rfl⟩
    | true => exact ⟨isL odd, by simp [τ, evT, evE, evEs, isi_list hs.plain]⟩
  obtain ⟨c, hc⟩ := hc
  cases c with
  | false => exact ⟨acc, skip (ss := .nil) hc, .inl rfl⟩
  | true =>
    refine ⟨acc ++ [.tup (xs.take i ++ odd :: xs.drop (i + 1))], ?_, .inr ⟨_, rfl, ?_, ?_⟩⟩
    · have e1 : evE Φ G.length (.bin .add (.bin .add (.sl (.var 0) .no (.yes (.var 2))) (.tup (.cons (.var 4) .nil))) (.sl (.var 0) (.yes (.bin .add (.var 2) (.con (.int (1))))) .no)) τ (G ++ [.lst acc]) = .ok (.tup (xs.take i ++ odd :: xs.drop (i + 1))) (G ++ [.lst acc]) := by
        have a1 : slD (G ++ [.lst acc]) (.tup xs) none (some (i : Int)) = some (.tup (xs.take i)) := by
          show some (D.tup (cutD xs none (some (i : Int)))) = _
          rw [cut_to (by omega)]
        have a2 : slD (G ++ [.lst acc]) (.tup xs) (some ((i : Int) + 1)) none = some (.tup (xs.drop (i + 1))) := by
          show some (D.tup (cutD xs (some ((i : Int) + 1)) none)) = _
          rw [show ((i : Int) + 1) = ((i + 1 : Nat) : Int) by omega, cut_from (by omega)]
        have a3 : binD (G ++ [.lst acc]) .add (.tup (xs.take i)) (.tup [odd]) = some (.tup (xs.take i ++ [odd])) := by
          show (if _ then _ else _) = _
          rw [if_pos (show _ ≤ 16777216 by simp; omega)]
        have a4 : binD (G ++ [.lst acc]) .add (.tup (xs.take i ++ [odd])) (.tup (xs.drop (i + 1))) = some (.tup (xs.take i ++ odd :: xs.drop (i + 1))) := by
          show (if _ then _ else _) = _
          rw [if_pos (show _ ≤ 16777216 by simp; omega)]
          simp
        simp [τ, evE, evO, evEs, intD, a1, a2, a3, a4]
      have e2 : appendD G.length (.ref G.length) (.tup (xs.take i ++ odd :: xs.drop (i + 1))) (G ++ [.lst acc]) = .ok .non (G ++ [.lst (acc ++ [.tup (xs.take i ++ odd :: xs.drop (i + 1))])]) := by
        unfold appendD
        simp only [get_last]
        rw [if_pos (by simp [storeOk, ha])]
        rw [set_last]
      have e3 : evE Φ G.length (.append (.var 1) (.bin .add (.bin .add (.sl (.var 0) .no (.yes (.var 2))) (.tup (.cons (.var 4) .nil))) (.sl (.var 0) (.yes (.bin .add (.var 2) (.con (.int (1))))) .no))) τ (G ++ [.lst acc]) = .ok .non (G ++ [.lst (acc ++ [.tup (xs.take i ++ odd :: xs.drop (i + 1))])]) := by
        rw [evE]
        have l1 : listD (G ++ [.lst acc]) (.ref G.length) = some acc := by
          unfold listD
          simp only [get_last]
        have v1 : evE Φ G.length (.var 1) τ (G ++ [.lst acc]) = .ok (.ref G.length) (G ++ [.lst acc]) := by simp [τ, evE]
        rw [v1]
        simp only [Out.then_ok, l1, e1, e2]
      refine (seq_nx (ss := .nil) (τ1 := τ) (G1 := G ++ [.lst (acc ++ [.tup (xs.take i ++ odd :: xs.drop (i + 1))])]) ((if_yes hc).trans ((seq_nx (ss := .nil) (τ1 := τ) (G1 := G ++ [.lst (acc ++ [.tup (xs.take i ++ odd :: xs.drop (i + 1))])]) ?_).trans ?_))).trans ?_
      · rw [evS, e3]; rfl
      · rw [evSs]
      · rw [evSs]
    · have e := split_at hi
      rcases ho with ho | ho
      · have := Sp.base (pre := xs.take i) (post := xs.drop (i + 1)) (one := one) ho
        rwa [← e] at this
      · have := Sp.deep (pre := xs.take i) (post := xs.drop (i + 1)) ho
        rwa [← e] at this
    · refine .tup fun x hh => ?_
      rcases List.mem_append.mp hh with hh | hh
      · exact (wd_sh (hx x (List.mem_of_mem_take hh))).mono (by omega)
      · rcases List.mem_cons.mp hh with rfl | hh
        · exact hs
        · exact (wd_sh (hx x (List.mem_of_mem_drop hh))).mono (by omega)
structure Acc (xs : List D) (k c : Nat) (acc : List D) : Prop where
  sp : ∀ y ∈ acc, Sp (.tup xs) y ∧ Sh (k + 2) y
  len : acc.length ≤ c
theorem S_le : ∀ {k : Nat}, k ≤ 10 → S k ≤ 600000 := by decide
theorem outer_run {Φ : Fn} {k : Nat} {xs : List D} {G : Hd} (hk : k + 1 ≤ 10) (hl : xs.length ≤ 3) (hx : ∀ x ∈ xs, Wd k x) (hΦ : ∀ one, Wd k one → ∀ G : Hd, ∃ ys, Φ "_law_spoilt" [one] G = .ok (.lst ys) G ∧ (∀ y ∈ ys, Sp one y ∧ Sh (k + 1) y) ∧ ys.length ≤ S k) :
    ∃ acc t2 t3 t4, evS Φ G.length (.forr (.tpc (.nam 2) (.tpc (.nam 3) .tp0)) (.enum (.var 0)) (.cons (.forr (.nam 4) innerIt inner) .nil)) [some (.tup xs), some (.ref G.length), none, none, none] (G ++ [.lst []]) = .ok (.nx [some (.tup xs), some (.ref G.length), t2, t3, t4]) (G ++ [.lst acc]) ∧ Acc xs k (3 * (4 + S k)) acc := by
  have hS : S k ≤ 600000 := S_le (by omega)
  obtain ⟨τ', G', e, t2, t3, t4, acc, rfl, rfl, hacc⟩ := for_inv (Φ := Φ) (b := G.length) (t := .tpc (.nam 2) (.tpc (.nam 3) .tp0)) (it := .enum (.var 0)) (s := .cons (.forr (.nam 4) innerIt inner) .nil) (τ := [some (.tup xs), some (.ref G.length), none, none, none]) (G := G ++ [.lst []]) (G1 := G ++ [.lst []]) (ds := enumFrom 0 xs)
    (I := fun i τ G' => ∃ t2 t3 t4 acc, τ = [some (.tup xs), some (.ref G.length), t2, t3, t4] ∧ G' = G ++ [.lst acc] ∧ Acc xs k (i * (4 + S k)) acc)
    (by simp [evI, evE, stillD]) ⟨none, none, none, [], rfl, rfl, (fun y hy => (nomatch hy)), Nat.zero_le _⟩ (by
      rintro i x τ G' hxi ⟨t2, t3, t4, acc, rfl, rfl, hacc⟩
      obtain ⟨one, hone, rfl⟩ := enumGet hxi
      have hil : i < xs.length := (List.getElem?_eq_some_iff.mp hone).1
      rw [Nat.zero_add]
      obtain ⟨ys, hr, hy, hyl⟩ := hΦ one (hx one (List.mem_of_getElem? hone)) (G ++ [.lst acc])
      have hit : evI Φ G.length innerIt [some (.tup xs), some (.ref G.length), some (.int i), some one, t4] (G ++ [.lst acc]) = .ok (.items (odds ++ ys)) (G ++ [.lst acc]) := by
        have e1 : evE Φ G.length (.bin .add (.lst (.cons (.con .non) (.cons (.tup (.cons (.con (.str "x")) .nil)) (.cons (.con (.bl true)) (.cons (.lst .nil) .nil))))) (.call "_law_spoilt" (.cons (.var 3) .nil))) [some (.tup xs), some (.ref G.length), some (.int i), some one, t4] (G ++ [.lst acc]) = .ok (.lst (odds ++ ys)) (G ++ [.lst acc]) := by
          rw [evE]
          have v1 : evE Φ G.length (.lst (.cons (.con .non) (.cons (.tup (.cons (.con (.str "x")) .nil)) (.cons (.con (.bl true)) (.cons (.lst .nil) .nil))))) [some (.tup xs), some (.ref G.length), some (.int i), some one, t4] (G ++ [.lst acc]) = .ok (.lst odds) (G ++ [.lst acc]) := by simp [evE, evEs, odds]
          have v2 : evE Φ G.length (.call "_law_spoilt" (.cons (.var 3) .nil)) [some (.tup xs), some (.ref G.length), some (.int i), some one, t4] (G ++ [.lst acc]) = .ok (.lst ys) (G ++ [.lst acc]) := call_ok (ds := [one]) (G1 := G ++ [.lst acc]) (by simp [evEs, evE]) hr
          rw [v1]
          simp only [Out.then_ok, v2]
          have : binD (G ++ [.lst acc]) .add (.lst odds) (.lst ys) = some (.lst (odds ++ ys)) := by
            show (if _ then _ else _) = _
            rw [if_pos (show _ ≤ 16777216 by simp [odds]; omega)]
          rw [this]
          rfl
        unfold innerIt
        rw [evI, e1]
        rfl
      obtain ⟨τ2, G2, e2, s4, acc2, rfl, rfl, hacc2⟩ := for_inv (Φ := Φ) (b := G.length) (t := .nam 4) (it := innerIt) (s := inner) (τ := [some (.tup xs), some (.ref G.length), some (.int i), some one, t4]) (G := G ++ [.lst acc]) (G1 := G ++ [.lst acc]) (ds := odds ++ ys)
        (I := fun j τ G' => ∃ s4 acc2, τ = [some (.tup xs), some (.ref G.length), some (.int i), some one, s4] ∧ G' = G ++ [.lst acc2] ∧ Acc xs k (i * (4 + S k) + j) acc2)
        hit ⟨t4, acc, rfl, rfl, hacc⟩ (by
          rintro j odd τ G' hj ⟨s4, acc2, rfl, rfl, hacc2⟩
          have hjl : j < 4 + S k := by
            have := (List.getElem?_eq_some_iff.mp hj).1
            simp [odds] at this
            omega
          have hm : i * (4 + S k) ≤ 2 * (4 + S k) := Nat.mul_le_mul_right _ (by omega)
          have hodd : Odd one odd ∧ Sh (k + 1) odd := by
            rcases List.mem_append.mp (List.mem_of_getElem? hj) with hh | hh
            · exact ⟨.inl hh, odd_sh hh⟩
            · exact ⟨.inr (hy odd hh).1, (hy odd hh).2⟩
          obtain ⟨acc3, e3, hacc3⟩ := inner_turn (Φ := Φ) (G := G) (t4 := s4) (show k ≤ 20 by omega) hl hx hone hodd.1 hodd.2 (acc := acc2) (show _ < 16777216 by have := hacc2.len; omega)
          refine ⟨_, _, e3, some odd, acc3, rfl, rfl, ?_⟩
          rcases hacc3 with rfl | ⟨y, rfl, h1, h2⟩
          · exact ⟨hacc2.sp, by have := hacc2.len; omega⟩
          · refine ⟨fun z hz => ?_, ?_⟩
            · rcases List.mem_append.mp hz with hz | hz
              · exact hacc2.sp z hz
              · rw [List.mem_singleton.mp hz]; exact ⟨h1, h2⟩
            · have := hacc2.len
              simp
              omega)
      refine ⟨_, _, (show forTurn _ _ _ _ _ _ _ = _ from (seq_nx (ss := .nil) e2).trans (by rw [evSs])), some (.int i), some one, s4, acc2, rfl, rfl, hacc2.sp, ?_⟩
      have := hacc2.len
      have hle : (odds ++ ys).length ≤ 4 + S k := by simp [odds]; omega
      rw [Nat.add_mul, Nat.one_mul]
      omega)
  refine ⟨acc, t2, t3, t4, e, hacc.sp, Nat.le_trans hacc.len ?_⟩
  rw [enumLen]
  exact Nat.mul_le_mul_right _ hl
theorem spoilt_run : ∀ (k : Nat) (d : D), k ≤ 10 → Wd k d → ∀ (n : Nat) (G : Hd), ∃ ys, run T (n + k + 1) "_law_spoilt" [d] G = .ok (.lst ys) G ∧ (∀ y ∈ ys, Sp d y ∧ Sh (k + 1) y) ∧ ys.length ≤ S k := by
  have lf : ∀ {d : D}, leaf d → ∀ (m : Nat) (G : Hd), run T (m + 1) "_law_spoilt" [d] G = .ok (.lst []) G := by
    intro d h m G
    rw [run_succ L_spoilt]
    refine (callF_rt (d := .ref G.length) (d' := .lst []) (G' := G ++ [.lst []]) rfl rfl ?_ ?_).trans (by simp)
    · show evSs _ G.length b__law_spoilt [some d, none, none, none, none] G = _
      unfold b__law_spoilt
      refine (set_ok (d := .ref G.length) (G1 := G ++ [.lst []]) (by simp [evE, evEs, allocD, objOf])).trans ?_
      refine seq_rt ((if_yes (G1 := G ++ [.lst []]) ?_).trans (ret_ok (by simp [evE])))
      simp [evT, evE, evEs, isi_tuple (leaf_no h).2, (leaf_no h).1]
    · simp only [frz, Nat.lt_irrefl, if_false, get_last]
      rfl
  intro k
  induction k with
  | zero => exact fun d _ h n G => ⟨[], lf h n G, fun y hy => (nomatch hy), Nat.le_refl _⟩
  | succ k ih =>
    intro d hk h n G
    rcases h with h | ⟨xs, rfl, hl, hx⟩
    · exact ⟨[], lf h (n + (k + 1)) G, fun y hy => (nomatch hy), Nat.zero_le _⟩
    have hS : S k ≤ 600000 := S_le (by omega)
    obtain ⟨acc, t2, t3, t4, e, hacc⟩ := outer_run (Φ := run T (n + k + 1)) (G := G) hk hl hx fun one h1 G => ih one (by omega) h1 n G
    have hal := hacc.len
    refine ⟨acc ++ [.lst xs, .tup (xs ++ [.non])], ?_, fun y hy => ?_, ?_⟩
    · show run T (n + k + 1 + 1) _ _ _ = _
      rw [run_succ L_spoilt]
      have hall : ∀ y ∈ acc ++ [.lst xs, .tup (xs ++ [.non])], Sh (k + 2) y := by
        intro y hy
        rcases List.mem_append.mp hy with hy | hy
        · exact (hacc.sp y hy).2
        · simp only [List.mem_cons, List.not_mem_nil, or_false] at hy
          rcases hy with rfl | rfl
          · exact (Sh.lst fun x h => wd_sh (hx x h)).mono (by omega)
          · refine (Sh.tup (j := k) fun x h => ?_).mono (by omega)
            rcases List.mem_append.mp h with h | h
            · exact wd_sh (hx x h)
            · rw [List.mem_singleton.mp h]; exact .non
      refine (callF_rt (d := .lst (acc ++ [.lst xs, .tup (xs ++ [.non])])) (d' := .lst (acc ++ [.lst xs, .tup (xs ++ [.non])])) (G' := G ++ [.lst acc]) rfl rfl ?_ (frz_sh hall)).trans (by simp)
      show evSs _ G.length b__law_spoilt [some (.tup xs), none, none, none, none] G = _
      unfold b__law_spoilt
      refine (set_ok (d := .ref G.length) (G1 := G ++ [.lst []]) (by simp [evE, evEs, allocD, objOf])).trans ?_
      refine (skip (G1 := G ++ [.lst []]) (by simp [evT, evE, evEs, isi_tuple (d := .tup xs) rfl, isT])).trans ?_
      refine (seq_nx e).trans (ret_ok ?_)
      have l1 : binD (G ++ [.lst acc]) .add (.ref G.length) (.lst [.lst xs, .tup (xs ++ [.non])]) = some (.lst (acc ++ [.lst xs, .tup (xs ++ [.non])])) := by
        show (match listD (G ++ [.lst acc]) (.ref G.length), listD (G ++ [.lst acc]) (.lst [.lst xs, .tup (xs ++ [.non])]) with
          | some xs, some ys => if xs.length + ys.length ≤ line then some (D.lst (xs ++ ys)) else none
          | _, _ => none) = _
        have : listD (G ++ [.lst acc]) (.ref G.length) = some acc := by
          unfold listD
          simp only [get_last]
        rw [this]
        show (if _ then _ else _) = _
        rw [if_pos (show _ ≤ 16777216 by simp; omega)]
      have l2 : binD (G ++ [.lst acc]) .add (.tup xs) (.tup [.non]) = some (.tup (xs ++ [.non])) := by
        show (if _ then _ else _) = _
        rw [if_pos (show _ ≤ 16777216 by simp; omega)]
      have l3 : biD (G ++ [.lst acc]) .list [.tup xs] = some (.lst xs) := rfl
      simp [evE, evEs, l1, l2, l3]
    · rcases List.mem_append.mp hy with hy | hy
      · exact ⟨(hacc.sp y hy).1, (hacc.sp y hy).2⟩
      · simp only [List.mem_cons, List.not_mem_nil, or_false] at hy
        rcases hy with rfl | rfl
        · exact ⟨.lst, (Sh.lst fun x h => wd_sh (hx x h)).mono (by omega)⟩
        · refine ⟨.app, (Sh.tup (j := k) fun x h => ?_).mono (by omega)⟩
          rcases List.mem_append.mp h with h | h
          · exact wd_sh (hx x h)
          · rw [List.mem_singleton.mp h]; exact .non
    · simp [S]
      omega
end K01

set_option Elab.async false
set_option linter.all false
set_option maxRecDepth 100000
/-! K01L: what the law draws. -/
namespace K01
open PySem L2 U
variable {n : Nat} {d : D} {bs vs : List D} {sc : D} {Φ : Fn}
theorem L_draw : T.lookup ("_law_draw" : Str) = some fdDraw := by kernel_rfl
theorem L_begun : T.lookup ("_law_begun" : Str) = some fdBegun := by kernel_rfl
theorem L_unit : T.lookup ("_law_unit" : Str) = some r__law_unit.fd := by kernel_rfl
theorem L_expression : T.lookup ("_law_expression" : Str) = some r__law_expression.fd := by kernel_rfl
theorem L_model : T.lookup ("_law_model" : Str) = some r__law_model.fd := by kernel_rfl
theorem L_law_is : T.lookup ("_law_is" : Str) = some r__law_is.fd := by kernel_rfl
def DrawOk (Φ : Fn) (sc : D) : Prop := ∀ (o0 o1 : DO), Town o0 o1 → ∀ (m : Nat) (z : Int), z = m → 0 < m → m < 1000 → ∀ G : Hd, ∃ (k : Nat) (p0 p1 : DO), k < m ∧ Town p0 p1 ∧ Φ "_law_draw" [sc, .ref 1, .int z] (o0 :: o1 :: G) = .ok (.int k) (p0 :: p1 :: G)
theorem draw_ok {ns : List Int} (hns : ns.length ≤ 63) (n : Nat) : DrawOk (run T (n + 1)) (.lst (ns.map D.int)) := fun o0 o1 ht m z hz h0 h1 G => by
  subst hz
  exact U.draw L_draw hns ht m h0 h1 n G
theorem drawE (hD : DrawOk Φ sc) {o0 o1 : DO} (ht : Town o0 o1) (m : Nat) {z : Int} (hz : z = m) (h0 : 0 < m) (h1 : m < 1000) (G : Hd) {b : Nat} {τ : Tau} {e : ME} (hs : evEs Φ b (.cons (.var 0) (.cons (.var 1) (.cons e .nil))) τ (o0 :: o1 :: G) = .ok [sc, .ref 1, .int z] (o0 :: o1 :: G)) :
    ∃ (k : Nat) (p0 p1 : DO), k < m ∧ Town p0 p1 ∧ evE Φ b (.call "_law_draw" (.cons (.var 0) (.cons (.var 1) (.cons e .nil)))) τ (o0 :: o1 :: G) = .ok (.int k) (p0 :: p1 :: G) := by
  obtain ⟨k, p0, p1, h2, h3, h4⟩ := hD o0 o1 ht m z hz h0 h1 G
  exact ⟨k, p0, p1, h2, h3, call_ok hs h4⟩
/-! ### a unit -/
def uBody : MSs := (.cons (.set (.nam 5) (.bin .sub (.call "_law_draw" (.cons (.var 0) (.cons (.var 1) (.cons (.con (.int (7))) .nil)))) (.con (.int (3)))))
  (.cons (.exp (.append (.var 3) (.ifx (.and (.val (.cmp .eq (.call "_law_draw" (.cons (.var 0) (.cons (.var 1) (.cons (.con (.int (4))) .nil)))) (.con (.int (0))))) (.val (.cmp .ne (.bin .mod (.var 5) (.con (.int (2)))) (.con (.int (0)))))) (.tup (.cons (.var 5) (.cons (.con (.int (2))) .nil))) (.tup (.cons (.var 5) (.cons (.con (.int (1))) .nil))))))
  .nil))
theorem con_ok {d : D} {b : Nat} {τ : Tau} {G : Hd} : evE Φ b (.con d) τ G = .ok d G := by rw [evE]
theorem bin_ok {x y : ME} {o : BOp} {a c r : D} {b : Nat} {τ : Tau} {G G1 G2 : Hd} (h1 : evE Φ b x τ G = .ok a G1) (h2 : evE Φ b y τ G1 = .ok c G2) (h3 : binD G2 o a c = some r) : evE Φ b (.bin o x y) τ G = .ok r G2 := by
  rw [evE, h1]
  simp only [Out.then_ok, h2, h3, lift_some]
theorem cmp_ok' {x y : ME} {o : COp} {a c : D} {r : Bool} {b : Nat} {τ : Tau} {G G1 G2 : Hd} (h1 : evE Φ b x τ G = .ok a G1) (h2 : evE Φ b y τ G1 = .ok c G2) (h3 : cmpD G2 o a c = some r) : evE Φ b (.cmp o x y) τ G = .ok (.bl r) G2 := by
  rw [evE, h1]
  simp only [Out.then_ok, h2, h3, lift_some, Option.map_some]
theorem ifx_ok {x y : ME} {t : MB} {k : Bool} {b : Nat} {τ : Tau} {G G1 : Hd} (h : evT Φ b t τ G = .ok k G1) : evE Φ b (.ifx t x y) τ G = if k then evE Φ b x τ G1 else evE Φ b y τ G1 := by rw [evE, h]; rfl
theorem append_last {b : Nat} {τ : Tau} {o e : ME} {x : D} {acc : List D} {G : Hd} {a0 a1 b0 b1 : DO} (hb : b ≤ G.length + 2) (ho : evE Φ b o τ (a0 :: a1 :: G ++ [.lst acc]) = .ok (.ref (G.length + 2)) (a0 :: a1 :: G ++ [.lst acc])) (he : evE Φ b e τ (a0 :: a1 :: G ++ [.lst acc]) = .ok x (b0 :: b1 :: G ++ [.lst acc])) (hl : acc.length < line) :
    evE Φ b (.append o e) τ (a0 :: a1 :: G ++ [.lst acc]) = .ok .non (b0 :: b1 :: G ++ [.lst (acc ++ [x])]) := by
  have g1 : ∀ c0 c1 : DO, (c0 :: c1 :: G ++ [DO.lst acc])[G.length + 2]? = some (.lst acc) := fun c0 c1 => by simp
  have l1 : listD (a0 :: a1 :: G ++ [.lst acc]) (.ref (G.length + 2)) = some acc := by
    unfold listD
    simp only [g1]
  have e2 : appendD b (.ref (G.length + 2)) x (b0 :: b1 :: G ++ [.lst acc]) = .ok .non (b0 :: b1 :: G ++ [.lst (acc ++ [x])]) := by
    unfold appendD
    simp only [g1]
    rw [if_pos (by simp [storeOk, hl, hb])]
    simp
  rw [evE, ho]
  simp only [Out.then_ok, l1, he, e2]
theorem unit_turn (hD : DrawOk Φ sc) {o0 o1 : DO} (ht : Town o0 o1) {G : Hd} {acc : List D} {x : D} {t4 t5 : Option D} (hl : acc.length < line) :
    ∃ (p0 p1 : DO) (y : D) (t5' : Option D), Town p0 p1 ∧ frGood y ∧ forTurn Φ (G.length + 2) (.nam 4) uBody x [some sc, some (.ref 1), some (.tup bs), some (.ref (G.length + 2)), t4, t5] (o0 :: o1 :: G ++ [.lst acc]) = .ok (.nx [some sc, some (.ref 1), some (.tup bs), some (.ref (G.length + 2)), some x, t5']) (p0 :: p1 :: G ++ [.lst (acc ++ [y])]) := by
  obtain ⟨k, q0, q1, hk, ht1, e1⟩ := drawE (b := G.length + 2) (e := .con (.int 7)) (τ := [some sc, some (.ref 1), some (.tup bs), some (.ref (G.length + 2)), some x, t5]) hD ht 7 (z := 7) rfl (by decide) (by decide) (G ++ [.lst acc]) (by simp [evEs, evE])
  have s1 : evE Φ (G.length + 2) (.bin .sub (.call "_law_draw" (.cons (.var 0) (.cons (.var 1) (.cons (.con (.int (7))) .nil)))) (.con (.int (3)))) [some sc, some (.ref 1), some (.tup bs), some (.ref (G.length + 2)), some x, t5] (o0 :: o1 :: G ++ [.lst acc]) = .ok (.int (k - 3)) (q0 :: q1 :: G ++ [.lst acc]) := bin_ok e1 con_ok rfl
  let τ : Tau := [some sc, some (.ref 1), some (.tup bs), some (.ref (G.length + 2)), some x, some (.int ((k : Int) - 3))]
  obtain ⟨j, r0, r1, hj, ht2, e2⟩ := drawE (b := G.length + 2) (e := .con (.int 4)) (τ := τ) hD ht1 4 (z := 4) rfl (by decide) (by decide) (G ++ [.lst acc]) (by simp [evEs, evE, τ])
  have s2 : ∃ y, frGood y ∧ evE Φ (G.length + 2) (.ifx (.and (.val (.cmp .eq (.call "_law_draw" (.cons (.var 0) (.cons (.var 1) (.cons (.con (.int (4))) .nil)))) (.con (.int (0))))) (.val (.cmp .ne (.bin .mod (.var 5) (.con (.int (2)))) (.con (.int (0)))))) (.tup (.cons (.var 5) (.cons (.con (.int (2))) .nil))) (.tup (.cons (.var 5) (.cons (.con (.int (1))) .nil)))) τ (q0 :: q1 :: G ++ [.lst acc]) = .ok y (r0 :: r1 :: G ++ [.lst acc]) := by
    have c1 : evT Φ (G.length + 2) (.val (.cmp .eq (.call "_law_draw" (.cons (.var 0) (.cons (.var 1) (.cons (.con (.int (4))) .nil)))) (.con (.int (0))))) τ (q0 :: q1 :: G ++ [.lst acc]) = .ok ((j : Int) == 0) (r0 :: r1 :: G ++ [.lst acc]) := val_ok (cmp_ok' e2 con_ok cmp_eqI)
    have c2 : evT Φ (G.length + 2) (.val (.cmp .ne (.bin .mod (.var 5) (.con (.int (2)))) (.con (.int (0))))) τ (r0 :: r1 :: G ++ [.lst acc]) = .ok (!(((k : Int) - 3).fmod 2 == 0)) (r0 :: r1 :: G ++ [.lst acc]) := val_ok (cmp_ok' (bin_ok (a := .int ((k : Int) - 3)) (by simp [evE, τ]) con_ok (bin_modI (by decide))) con_ok cmp_neI)
    have one : frGood (.tup [.int ((k : Int) - 3), .int 1]) := ⟨_, _, rfl, by omega, by omega, .inl rfl⟩
    have v1 : evE Φ (G.length + 2) (.tup (.cons (.var 5) (.cons (.con (.int (1))) .nil))) τ (r0 :: r1 :: G ++ [.lst acc]) = .ok (.tup [.int ((k : Int) - 3), .int 1]) (r0 :: r1 :: G ++ [.lst acc]) := by simp [evE, evEs, τ]
    have v2 : evE Φ (G.length + 2) (.tup (.cons (.var 5) (.cons (.con (.int (2))) .nil))) τ (r0 :: r1 :: G ++ [.lst acc]) = .ok (.tup [.int ((k : Int) - 3), .int 2]) (r0 :: r1 :: G ++ [.lst acc]) := by simp [evE, evEs, τ]
    cases g1 : (j : Int) == 0 with
    | false =>
      rw [g1] at c1
      refine ⟨_, one, ?_⟩
      rw [ifx_ok (tand_ok c1)]
      exact v1
    | true =>
      rw [g1] at c1
      cases g2 : ((k : Int) - 3).fmod 2 == 0 with
      | true =>
        rw [g2] at c2
        refine ⟨_, one, ?_⟩
        rw [ifx_ok ((tand_ok c1).trans ((if_pos rfl).trans c2))]
        exact v1
      | false =>
        rw [g2] at c2
        refine ⟨.tup [.int ((k : Int) - 3), .int 2], ⟨_, _, rfl, by omega, by omega, .inr ⟨rfl, ?_⟩⟩, ?_⟩
        · have := beq_eq_false_iff_ne.mp g2
          rw [Int.fmod_eq_emod_of_nonneg _ (by decide)] at this
          exact this
        · rw [ifx_ok ((tand_ok c1).trans ((if_pos rfl).trans c2))]
          exact v2
  obtain ⟨y, hy, s2⟩ := s2
  refine ⟨r0, r1, y, some (.int ((k : Int) - 3)), ht2, hy, ?_⟩
  show evSs Φ (G.length + 2) uBody [some sc, some (.ref 1), some (.tup bs), some (.ref (G.length + 2)), some x, t5] _ = _
  unfold uBody
  refine (set_ok s1).trans ((seq_nx (τ1 := τ) (G1 := r0 :: r1 :: G ++ [.lst (acc ++ [y])]) ?_).trans (by rw [evSs]))
  have := append_last (o := .var 3) (Nat.le_refl _) (show evE Φ (G.length + 2) (.var 3) τ (q0 :: q1 :: G ++ [.lst acc]) = _ by simp [evE, τ]) s2 hl
  rw [evS]
  show (evE Φ _ _ τ _).then _ = _
  rw [this]
  rfl
theorem frz_tup {j n : Nat} {G : Hd} {xs : List D} (h : ∀ x ∈ xs, frGood x) : frz 4 n G (.tup xs) = some (.tup xs) := by
  have : ∀ ys : List D, (∀ x ∈ ys, frGood x) → ys.mapM (frz 3 n G) = some ys := by
    intro ys
    induction ys with
    | nil => intro _; rfl
    | cons y ys ih =>
      intro h
      obtain ⟨t, q, rfl, _⟩ := h y List.mem_cons_self
      rw [List.mapM_cons, ih fun x hx => h x (List.mem_cons_of_mem _ hx)]
      rfl
  show (xs.mapM (frz 3 n G)).map D.tup = _
  rw [this xs h]
  rfl
theorem unit_run (hD : DrawOk (run T n) sc) {o0 o1 : DO} (ht : Town o0 o1) (hb : bs.length ≤ 3) (G : Hd) :
    ∃ (p0 p1 : DO) (xs : List D), Town p0 p1 ∧ xs.length = bs.length ∧ (∀ x ∈ xs, frGood x) ∧ run T (n + 1) "_law_unit" [sc, .ref 1, .tup bs] (o0 :: o1 :: G) = .ok (.tup xs) (p0 :: p1 :: G) := by
  obtain ⟨τ', G', e, p0, p1, acc, t4, t5, ht', rfl, rfl, hl, hg⟩ := for_inv (Φ := run T n) (b := G.length + 2) (t := .nam 4) (it := .val (.var 2)) (s := uBody) (τ := [some sc, some (.ref 1), some (.tup bs), some (.ref (G.length + 2)), none, none]) (G := o0 :: o1 :: G ++ [.lst []]) (G1 := o0 :: o1 :: G ++ [.lst []]) (ds := bs)
    (I := fun i τ G' => ∃ p0 p1 acc t4 t5, Town p0 p1 ∧ τ = [some sc, some (.ref 1), some (.tup bs), some (.ref (G.length + 2)), t4, t5] ∧ G' = p0 :: p1 :: G ++ [.lst acc] ∧ acc.length = i ∧ ∀ x ∈ acc, frGood x)
    (by simp [evI, evE, iterD, stillD]) ⟨o0, o1, [], none, none, ht, rfl, rfl, rfl, fun x hx => (nomatch hx)⟩ (by
      rintro i x τ G' hx ⟨p0, p1, acc, t4, t5, ht', rfl, rfl, hl, hg⟩
      have hi : i < bs.length := (List.getElem?_eq_some_iff.mp hx).1
      obtain ⟨q0, q1, y, t5', ht2, hy, e⟩ := unit_turn (bs := bs) (t4 := t4) (t5 := t5) (x := x) (G := G) hD ht' (acc := acc) (show _ < 16777216 by omega)
      refine ⟨_, _, e, q0, q1, acc ++ [y], some x, t5', ht2, rfl, rfl, by simp [hl], fun z hz => ?_⟩
      rcases List.mem_append.mp hz with hz | hz
      · exact hg z hz
      · rw [List.mem_singleton.mp hz]; exact hy)
  refine ⟨p0, p1, acc, ht', hl, hg, ?_⟩
  rw [run_succ L_unit]
  refine (callF_rt (d := .tup acc) (d' := .tup acc) (G' := p0 :: p1 :: G ++ [.lst acc]) rfl rfl ?_ (frz_tup (j := 0) hg)).trans (by simp)
  show evSs _ (G.length + 2) b__law_unit [some sc, some (.ref 1), some (.tup bs), none, none, none] _ = _
  unfold b__law_unit
  refine (set_ok (d := .ref (G.length + 2)) (G1 := o0 :: o1 :: G ++ [.lst []]) (by simp [evE, evEs, allocD, objOf])).trans ?_
  unfold uBody at e
  refine (seq_nx e).trans ?_
  refine ret_ok ?_
  have g1 : (p0 :: p1 :: G ++ [DO.lst acc])[G.length + 2]? = some (.lst acc) := by simp
  have l1 : biD (p0 :: p1 :: G ++ [.lst acc]) .tuple [.ref (G.length + 2)] = some (.tup acc) := by
    show (seqD _ (.ref (G.length + 2))).map D.tup = _
    have : seqD (p0 :: p1 :: G ++ [.lst acc]) (.ref (G.length + 2)) = some acc := by
      show listD (p0 :: p1 :: G ++ [.lst acc]) (.ref (G.length + 2)) = some acc
      unfold listD
      simp only [g1]
    rw [this]
    rfl
  rw [evE]
  have : evEs (run T n) (G.length + 2) (.cons (.var 3) .nil) [some sc, some (.ref 1), some (.tup bs), some (.ref (G.length + 2)), t4, t5] (p0 :: p1 :: G ++ [.lst acc]) = .ok [.ref (G.length + 2)] (p0 :: p1 :: G ++ [.lst acc]) := by simp [evEs, evE]
  rw [this]
  simp only [Out.then_ok, l1, lift_some]
end K01

set_option Elab.async false
set_option linter.all false
set_option maxRecDepth 100000
/-! K01M: drawn expressions. -/
namespace K01
open PySem L2 U
variable {n : Nat} {d : D} {bs vs : List D} {sc : D} {Φ : Fn}
def UnitOk (Φ : Fn) (sc : D) (bs : List D) : Prop := ∀ (o0 o1 : DO), Town o0 o1 → ∀ G : Hd, ∃ (p0 p1 : DO) (xs : List D), Town p0 p1 ∧ xs.length = bs.length ∧ (∀ x ∈ xs, frGood x) ∧ Φ "_law_unit" [sc, .ref 1, .tup bs] (o0 :: o1 :: G) = .ok (.tup xs) (p0 :: p1 :: G)
def ExprOk (Φ : Fn) (sc : D) (bs vs : List D) (k : Nat) : Prop := ∀ (o0 o1 : DO), Town o0 o1 → ∀ (z : Int), z = k → ∀ G : Hd, ∃ (p0 p1 : DO) (d : D), Town p0 p1 ∧ ExG bs vs k d ∧ Φ "_law_expression" [sc, .ref 1, .tup bs, .tup vs, .int z] (o0 :: o1 :: G) = .ok d (p0 :: p1 :: G)
theorem ix_nat {G : Hd} {xs : List D} {k : Nat} (h : k < xs.length) : ixD G (.tup xs) (.int k) = some xs[k] := by
  show (ixN xs.length (k : Int)).bind _ = _
  have : ixN xs.length (k : Int) = some k := by
    unfold ixN
    simp
    omega
  rw [this]
  simp [List.getElem?_eq_getElem h]
theorem ix_ok' {x y : ME} {a c r : D} {b : Nat} {τ : Tau} {G G1 G2 : Hd} (h1 : evE Φ b x τ G = .ok a G1) (h2 : evE Φ b y τ G1 = .ok c G2) (h3 : ixD G2 a c = some r) : evE Φ b (.ix x y) τ G = .ok r G2 := by
  rw [evE, h1]
  simp only [Out.then_ok, h2, h3, lift_some]
theorem expr_body (hD : DrawOk Φ sc) (hU : UnitOk Φ sc bs) (hv0 : 0 < vs.length) (hv1 : vs.length < 1000) (k : Nat) (hE : k ≠ 0 → ExprOk Φ sc bs vs k) {o0 o1 : DO} (ht : Town o0 o1) (G : Hd) :
    ∃ (p0 p1 : DO) (d : D), Town p0 p1 ∧ ExG bs vs (k + 1) d ∧ evSs Φ (G.length + 2) b__law_expression [some sc, some (.ref 1), some (.tup bs), some (.tup vs), some (.int ((k + 1 : Nat) : Int)), none, none, none, none, none] (o0 :: o1 :: G) = .ok (.rt d) (p0 :: p1 :: G) := by
  obtain ⟨t, q0, q1, h8, ht1, e1⟩ := drawE (b := G.length + 2) (e := .con (.int 8)) (τ := [some sc, some (.ref 1), some (.tup bs), some (.tup vs), some (.int ((k + 1 : Nat) : Int)), none, none, none, none, none]) hD ht 8 (z := 8) rfl (by decide) (by decide) G (by simp [evEs, evE])
  unfold b__law_expression
  by_cases hc : k = 0 ∨ t < 2
  · -- a leaf
    have hcond : evT Φ (G.length + 2) (.or (.val (.cmp .eq (.var 4) (.con (.int (1))))) (.val (.cmp .lt (.var 5) (.con (.int (2)))))) [some sc, some (.ref 1), some (.tup bs), some (.tup vs), some (.int ((k + 1 : Nat) : Int)), some (.int t), none, none, none, none] (q0 :: q1 :: G) = .ok true (q0 :: q1 :: G) := by
      have a1 : evT Φ (G.length + 2) (.val (.cmp .eq (.var 4) (.con (.int (1))))) [some sc, some (.ref 1), some (.tup bs), some (.tup vs), some (.int ((k + 1 : Nat) : Int)), some (.int t), none, none, none, none] (q0 :: q1 :: G) = .ok (((k + 1 : Nat) : Int) == 1) (q0 :: q1 :: G) := by simp [evT, evE, cmp_eqI]
      rw [or_ok a1]
      by_cases hk : k = 0
      · subst hk
        rfl
      · have : (((k + 1 : Nat) : Int) == 1) = false := beq_eq_false_iff_ne.mpr (by omega)
        rw [this, if_neg (by decide)]
        have h2 : t < 2 := hc.resolve_left hk
        simp [evT, evE]
        omega
    obtain ⟨r0, r1, xs, ht2, hl, hg, eu⟩ := hU q0 q1 ht1 G
    have s2 : evE Φ (G.length + 2) (.call "_law_unit" (.cons (.var 0) (.cons (.var 1) (.cons (.var 2) .nil)))) [some sc, some (.ref 1), some (.tup bs), some (.tup vs), some (.int ((k + 1 : Nat) : Int)), some (.int t), none, none, none, none] (q0 :: q1 :: G) = .ok (.tup xs) (r0 :: r1 :: G) := call_ok (ds := [sc, .ref 1, .tup bs]) (G1 := q0 :: q1 :: G) (by simp [evEs, evE]) eu
    obtain ⟨j, u0, u1, hj, ht3, e3⟩ := drawE (b := G.length + 2) (e := .bi .len (.cons (.var 3) .nil)) (τ := [some sc, some (.ref 1), some (.tup bs), some (.tup vs), some (.int ((k + 1 : Nat) : Int)), some (.int t), some (.tup xs), none, none, none]) hD ht2 vs.length (z := vs.length) rfl hv0 hv1 G (by simp [evEs, evE])
    have s3 := ix_ok' (x := .var 3) (a := .tup vs) (G1 := r0 :: r1 :: G) (show evE Φ (G.length + 2) (.var 3) [some sc, some (.ref 1), some (.tup bs), some (.tup vs), some (.int ((k + 1 : Nat) : Int)), some (.int t), some (.tup xs), none, none, none] (r0 :: r1 :: G) = _ by simp [evE]) e3 (ix_nat hj)
    obtain ⟨i, w0, w1, hi, ht4, e4⟩ := drawE (b := G.length + 2) (e := .con (.int 4)) (τ := [some sc, some (.ref 1), some (.tup bs), some (.tup vs), some (.int ((k + 1 : Nat) : Int)), some (.int t), some (.tup xs), some vs[j], none, none]) hD ht3 4 (z := 4) rfl (by decide) (by decide) G (by simp [evEs, evE])
    have c4 : evT Φ (G.length + 2) (.val (.cmp .gt (.call "_law_draw" (.cons (.var 0) (.cons (.var 1) (.cons (.con (.int (4))) .nil)))) (.con (.int (0))))) [some sc, some (.ref 1), some (.tup bs), some (.tup vs), some (.int ((k + 1 : Nat) : Int)), some (.int t), some (.tup xs), some vs[j], none, none] (u0 :: u1 :: G) = .ok (decide ((0 : Int) < i)) (w0 :: w1 :: G) := val_ok (cmp_ok' e4 con_ok cmp_gtI)
    have last : ∃ d, ExG bs vs (k + 1) d ∧ evE Φ (G.length + 2) (.ifx (.val (.cmp .gt (.call "_law_draw" (.cons (.var 0) (.cons (.var 1) (.cons (.con (.int (4))) .nil)))) (.con (.int (0))))) (.tup (.cons (.con (.str "var")) (.cons (.var 7) .nil))) (.tup (.cons (.con (.str "unit")) (.cons (.var 6) .nil)))) [some sc, some (.ref 1), some (.tup bs), some (.tup vs), some (.int ((k + 1 : Nat) : Int)), some (.int t), some (.tup xs), some vs[j], none, none] (u0 :: u1 :: G) = .ok d (w0 :: w1 :: G) := by
      rw [ifx_ok c4]
      by_cases h0 : (0 : Int) < i
      · refine ⟨.tup [.str "var", vs[j]], .var (List.getElem_mem hj), ?_⟩
        rw [decide_eq_true h0, if_pos rfl]
        simp [evE, evEs]
      · refine ⟨.tup [.str "unit", .tup xs], .unit hl hg, ?_⟩
        rw [decide_eq_false h0, if_neg (by decide)]
        simp [evE, evEs]
    obtain ⟨d, hd, hd2⟩ := last
    refine ⟨w0, w1, d, ht4, hd, ?_⟩
    refine (set_ok e1).trans ?_
    refine seq_rt ((if_yes hcond).trans ?_)
    refine (set_ok s2).trans ?_
    refine (set_ok s3).trans ?_
    exact ret_ok hd2
  · rw [not_or] at hc
    obtain ⟨hk, h2⟩ := hc
    have hcond : evT Φ (G.length + 2) (.or (.val (.cmp .eq (.var 4) (.con (.int (1))))) (.val (.cmp .lt (.var 5) (.con (.int (2)))))) [some sc, some (.ref 1), some (.tup bs), some (.tup vs), some (.int ((k + 1 : Nat) : Int)), some (.int t), none, none, none, none] (q0 :: q1 :: G) = .ok false (q0 :: q1 :: G) := by
      have a1 : evT Φ (G.length + 2) (.val (.cmp .eq (.var 4) (.con (.int (1))))) [some sc, some (.ref 1), some (.tup bs), some (.tup vs), some (.int ((k + 1 : Nat) : Int)), some (.int t), none, none, none, none] (q0 :: q1 :: G) = .ok (((k + 1 : Nat) : Int) == 1) (q0 :: q1 :: G) := by simp [evT, evE, cmp_eqI]
      rw [or_ok a1]
      have : (((k + 1 : Nat) : Int) == 1) = false := beq_eq_false_iff_ne.mpr (by omega)
      rw [this, if_neg (by decide)]
      simp [evT, evE]
      omega
    obtain ⟨r0, r1, a, ht2, ha, ea⟩ := hE hk q0 q1 ht1 (((k + 1 : Nat) : Int) - 1) (by omega) G
    have s2 : evE Φ (G.length + 2) (.call "_law_expression" (.cons (.var 0) (.cons (.var 1) (.cons (.var 2) (.cons (.var 3) (.cons (.bin .sub (.var 4) (.con (.int (1)))) .nil)))))) [some sc, some (.ref 1), some (.tup bs), some (.tup vs), some (.int ((k + 1 : Nat) : Int)), some (.int t), none, none, none, none] (q0 :: q1 :: G) = .ok a (r0 :: r1 :: G) := call_ok (ds := [sc, .ref 1, .tup bs, .tup vs, .int (((k + 1 : Nat) : Int) - 1)]) (G1 := q0 :: q1 :: G) (by simp [evEs, evE]) ea
    let τ : Tau := [some sc, some (.ref 1), some (.tup bs), some (.tup vs), some (.int ((k + 1 : Nat) : Int)), some (.int t), none, none, some a, none]
    have tz : ∀ z : Int, evT Φ (G.length + 2) (.val (.cmp .eq (.var 5) (.con (.int z)))) τ (r0 :: r1 :: G) = .ok ((t : Int) == z) (r0 :: r1 :: G) := fun z => by simp [evT, evE, τ, cmp_eqI]
    have start : ∀ {R : Out Fl}, evSs Φ (G.length + 2) (tailOf (tailOf (tailOf b__law_expression))) τ (r0 :: r1 :: G) = R → evSs Φ (G.length + 2) b__law_expression [some sc, some (.ref 1), some (.tup bs), some (.tup vs), some (.int ((k + 1 : Nat) : Int)), none, none, none, none, none] (o0 :: o1 :: G) = R := by
      intro R h
      unfold b__law_expression at h ⊢
      simp only [tailOf] at h
      refine (set_ok e1).trans ?_
      refine (skip hcond).trans ?_
      exact (set_ok s2).trans h
    by_cases h3 : t = 2
    · obtain ⟨j, u0, u1, hj, ht3, e3⟩ := drawE (b := G.length + 2) (e := .con (.int 9)) (τ := τ) hD ht2 9 (z := 9) rfl (by decide) (by decide) G (by simp [evEs, evE, τ])
      refine ⟨u0, u1, .tup [.str "pow", a, .int ((j : Int) - 4)], ht3, .pow ha (by omega) (by omega), start ?_⟩
      unfold b__law_expression
      simp only [tailOf]
      have c1 := tz 2
      rw [show ((t : Int) == 2) = true by rw [h3]; rfl] at c1
      refine seq_rt ((if_yes c1).trans (ret_ok ?_))
      have v1 := bin_ok (o := .sub) e3 con_ok (rfl : binD _ _ _ (.int 4) = some (.int ((j : Int) - 4)))
      rw [evE]
      have v2 : evE Φ (G.length + 2) (.var 8) τ (r0 :: r1 :: G) = .ok a (r0 :: r1 :: G) := by simp [evE, τ]
      simp only [evEs, con_ok, Out.then_ok, v1, v2]
    · by_cases h4 : t = 3
      · obtain ⟨j, u0, u1, hj, ht3, e3⟩ := drawE (b := G.length + 2) (e := .con (.int 3)) (τ := τ) hD ht2 3 (z := 3) rfl (by decide) (by decide) G (by simp [evEs, evE, τ])
        refine ⟨u0, u1, .tup [.str "root", a, .int (2 + (j : Int))], ht3, .root ha (by omega) (by omega), start ?_⟩
        unfold b__law_expression
        simp only [tailOf]
        have c1 := tz 2
        rw [show ((t : Int) == 2) = false from beq_eq_false_iff_ne.mpr (by omega)] at c1
        have c2 := tz 3
        rw [show ((t : Int) == 3) = true by rw [h4]; rfl] at c2
        refine (skip c1).trans (seq_rt ((if_yes c2).trans (ret_ok ?_)))
        have v1 := bin_ok (o := .add) (x := .con (.int 2)) (r := .int (2 + (j : Int))) con_ok e3 rfl
        rw [evE]
        have v2 : evE Φ (G.length + 2) (.var 8) τ (r0 :: r1 :: G) = .ok a (r0 :: r1 :: G) := by simp [evE, τ]
        simp only [evEs, con_ok, Out.then_ok, v1, v2]
      · obtain ⟨u0, u1, c, ht3, hc', ec⟩ := hE hk r0 r1 ht2 (((k + 1 : Nat) : Int) - 1) (by omega) G
        have s3 : evE Φ (G.length + 2) (.call "_law_expression" (.cons (.var 0) (.cons (.var 1) (.cons (.var 2) (.cons (.var 3) (.cons (.bin .sub (.var 4) (.con (.int (1)))) .nil)))))) τ (r0 :: r1 :: G) = .ok c (u0 :: u1 :: G) := call_ok (ds := [sc, .ref 1, .tup bs, .tup vs, .int (((k + 1 : Nat) : Int) - 1)]) (G1 := r0 :: r1 :: G) (by simp [evEs, evE, τ]) ec
        have c1 := tz 2
        rw [show ((t : Int) == 2) = false from beq_eq_false_iff_ne.mpr (by omega)] at c1
        have c2 := tz 3
        rw [show ((t : Int) == 3) = false from beq_eq_false_iff_ne.mpr (by omega)] at c2
        have hs : ∃ s, two s ∧ ixD (u0 :: u1 :: G) (.lst [.str "mul", .str "div", .str "add", .str "mul"]) (.int ((t : Int) - 4)) = some (.str s) := by
          have : t = 4 ∨ t = 5 ∨ t = 6 ∨ t = 7 := by omega
          rcases this with rfl | rfl | rfl | rfl
          · exact ⟨"mul", .inl rfl, rfl⟩
          · exact ⟨"div", .inr (.inl rfl), rfl⟩
          · exact ⟨"add", .inr (.inr rfl), rfl⟩
          · exact ⟨"mul", .inl rfl, rfl⟩
        obtain ⟨s, hs, hs2⟩ := hs
        refine ⟨u0, u1, .tup [.str s, a, c], ht3, .two hs ha hc', start ?_⟩
        unfold b__law_expression
        simp only [tailOf]
        refine (skip c1).trans ((skip c2).trans ((set_ok s3).trans (ret_ok ?_)))
        simp [evE, evEs, τ, hs2]
theorem expr_run (hns : ∀ n, DrawOk (run T (n + 1)) sc) (hb : bs.length ≤ 3) (hv0 : 0 < vs.length) (hv1 : vs.length < 1000) (hfz : ∀ {k d m} {G : Hd}, ExG bs vs k d → frz 4 m G d = some d) : ∀ (k n : Nat), ExprOk (run T (n + k + 3)) sc bs vs (k + 1)
  | 0, n => fun o0 o1 ht z hz G => by
    obtain ⟨p0, p1, d, h1, h2, h3⟩ := expr_body (Φ := run T (n + 2)) (hns (n + 1)) (fun o0 o1 ht G => unit_run (n := n + 1) (hns n) ht hb G) hv0 hv1 0 (fun z => absurd rfl z) ht G
    refine ⟨p0, p1, d, h1, h2, ?_⟩
    subst hz
    show run T (n + 2 + 1) _ _ _ = _
    rw [run_succ L_expression]
    exact (callF_rt (d := d) (d' := d) (G' := p0 :: p1 :: G) rfl rfl h3 (hfz h2)).trans (by simp)
  | k + 1, n => fun o0 o1 ht z hz G => by
    obtain ⟨p0, p1, d, h1, h2, h3⟩ := expr_body (Φ := run T (n + k + 3)) (hns (n + k + 2)) (fun o0 o1 ht G => unit_run (n := n + k + 2) (hns (n + k + 1)) ht hb G) hv0 hv1 (k + 1) (fun _ => expr_run hns hb hv0 hv1 hfz k n) ht G
    refine ⟨p0, p1, d, h1, h2, ?_⟩
    subst hz
    show run T (n + k + 3 + 1) _ _ _ = _
    rw [run_succ L_expression]
    exact (callF_rt (d := d) (d' := d) (G' := p0 :: p1 :: G) rfl rfl h3 (hfz h2)).trans (by simp)
end K01

set_option Elab.async false
set_option linter.all false
set_option maxRecDepth 100000
/-! K01N: drawn models. -/
namespace K01
open PySem L2 U
variable {n : Nat} {d : D} {bs vs : List D} {sc : D} {Φ : Fn}
theorem leaf_wd {k : Nat} (h : leaf d) : Wd k d := by
  cases k with
  | zero => exact h
  | succ k => exact .inl h
theorem fr_wd {k : Nat} (h : frGood d) : Wd (k + 1) d := by
  obtain ⟨t, q, rfl, _⟩ := h
  refine .inr ⟨_, rfl, by simp, fun x hx => leaf_wd ?_⟩
  simp only [List.mem_cons, List.not_mem_nil, or_false] at hx
  rcases hx with rfl | rfl <;> exact .inl ⟨_, rfl⟩
theorem str_leaf {s : Str} (h : PyData.canLay0 (.str s) = true) : leaf (.str s) := .inr ⟨s, rfl, h⟩
theorem ex_wd (hb : bs.length ≤ 3) (hv : ∀ v ∈ vs, leaf v) {k : Nat} (h : ExG bs vs k d) : Wd (k + 2) d := by
  induction h with
  | @var k x h =>
    refine .inr ⟨_, rfl, by simp, fun y hy => leaf_wd ?_⟩
    simp only [List.mem_cons, List.not_mem_nil, or_false] at hy
    rcases hy with rfl | rfl
    · exact str_leaf (by kernel_rfl)
    · exact hv _ h
  | @unit k xs hl h =>
    refine .inr ⟨_, rfl, by simp, fun y hy => ?_⟩
    simp only [List.mem_cons, List.not_mem_nil, or_false] at hy
    rcases hy with rfl | rfl
    · exact leaf_wd (str_leaf (by kernel_rfl))
    · exact .inr ⟨_, rfl, by omega, fun z hz => fr_wd (h z hz)⟩
  | @pow k a i h h1 h2 ih =>
    refine .inr ⟨_, rfl, by simp, fun y hy => ?_⟩
    simp only [List.mem_cons, List.not_mem_nil, or_false] at hy
    rcases hy with rfl | rfl | rfl
    · exact leaf_wd (str_leaf (by kernel_rfl))
    · exact ih
    · exact leaf_wd (.inl ⟨_, rfl⟩)
  | @root k a i h h1 h2 ih =>
    refine .inr ⟨_, rfl, by simp, fun y hy => ?_⟩
    simp only [List.mem_cons, List.not_mem_nil, or_false] at hy
    rcases hy with rfl | rfl | rfl
    · exact leaf_wd (str_leaf (by kernel_rfl))
    · exact ih
    · exact leaf_wd (.inl ⟨_, rfl⟩)
  | @two k s a c hs h1 h2 ih1 ih2 =>
    refine .inr ⟨_, rfl, by simp, fun y hy => ?_⟩
    simp only [List.mem_cons, List.not_mem_nil, or_false] at hy
    rcases hy with rfl | rfl | rfl
    · rcases hs with rfl | rfl | rfl <;> exact leaf_wd (str_leaf (by kernel_rfl))
    · exact ih1
    · exact ih2
theorem mapM_id {f : D → Option D} : ∀ {xs : List D}, (∀ x ∈ xs, f x = some x) → xs.mapM f = some xs
  | [], _ => rfl
  | x :: xs, h => by
    rw [List.mapM_cons, h x List.mem_cons_self, mapM_id fun y hy => h y (List.mem_cons_of_mem _ hy)]
    rfl
theorem frz_wd {G : Hd} : ∀ (j : Nat) {k m : Nat} {d : D}, Wd k d → frz j m G d = some d
  | 0, k, m, d, h => by
    show (if U.closed m d then some d else none) = _
    rw [if_pos (wd_sh h).closed]
  | j + 1, k, m, d, h => by
    have lf : ∀ {d : D}, leaf d → frz (j + 1) m G d = some d := fun {d} h => by
      rcases h with ⟨i, rfl⟩ | ⟨s, rfl, _⟩ <;> rfl
    cases k with
    | zero => exact lf h
    | succ k =>
      rcases h with h | ⟨xs, rfl, _, h⟩
      · exact lf h
      · show (xs.mapM (frz j m G)).map D.tup = _
        rw [mapM_id fun x hx => frz_wd j (h x hx)]
        rfl
/-- the headings that are drawn -/
structure Drawn (bs vs : List D) : Prop extends Heads bs vs where
  b0 : 0 < bs.length
  v0 : 0 < vs.length
  v1 : vs.length < 1000
  bl : ∀ v ∈ bs, leaf v
  vl : ∀ v ∈ vs, leaf v
def basesOf : List (List D) := [[.str "kg"], [.str "kg", .str "m"], [.str "m"], [.str "m", .str "s"]]
def varsOf : List (List D) := [[.str "a"], [.str "a", .str "f"], [.str "a", .str "f", .str "mass"], [.str "a", .str "f", .str "mass", .str "t"]]
theorem heads_ok : ∀ bs ∈ basesOf, ∀ vs ∈ varsOf, ∀ (n : Nat) (o0 o1 : DO), run T (n + 15) "are_headings" [.tup bs, .tup vs] [o0, o1] = .ok (.bl true) [o0, o1] := by
  intro bs hb vs hv n o0 o1
  simp only [basesOf, varsOf, List.mem_cons, List.not_mem_nil, or_false] at hb hv
  rcases hb with rfl | rfl | rfl | rfl <;> rcases hv with rfl | rfl | rfl | rfl <;> kernel_rfl
theorem strs_leaf : ∀ x ∈ ["kg", "m", "s", "a", "f", "mass", "t"], leaf (.str (Str.ofString x)) := by
  intro x hx
  simp only [List.mem_cons, List.not_mem_nil, or_false] at hx
  rcases hx with rfl | rfl | rfl | rfl | rfl | rfl | rfl <;> exact str_leaf (by kernel_rfl)
theorem drawn_ok (hb : bs ∈ basesOf) (hv : vs ∈ varsOf) : Drawn bs vs := by
  have h := heads_ok bs hb vs hv
  simp only [basesOf, varsOf, List.mem_cons, List.not_mem_nil, or_false] at hb hv
  have lb : bs.length ≤ 3 ∧ 0 < bs.length ∧ ∀ v ∈ bs, leaf v := by
    rcases hb with rfl | rfl | rfl | rfl
    · exact ⟨by decide, by decide, fun v hv => by simp only [List.mem_cons, List.not_mem_nil, or_false] at hv; rcases hv with rfl; exact strs_leaf _ (by simp)⟩
    · exact ⟨by decide, by decide, fun v hv => by simp only [List.mem_cons, List.not_mem_nil, or_false] at hv; rcases hv with rfl | rfl <;> exact strs_leaf _ (by simp)⟩
    · exact ⟨by decide, by decide, fun v hv => by simp only [List.mem_cons, List.not_mem_nil, or_false] at hv; rcases hv with rfl; exact strs_leaf _ (by simp)⟩
    · exact ⟨by decide, by decide, fun v hv => by simp only [List.mem_cons, List.not_mem_nil, or_false] at hv; rcases hv with rfl | rfl <;> exact strs_leaf _ (by simp)⟩
  have lv : 0 < vs.length ∧ vs.length < 1000 ∧ (∀ v ∈ vs, leaf v) ∧ ∀ v ∈ vs, isS v = true := by
    rcases hv with rfl | rfl | rfl | rfl
    · exact ⟨by decide, by decide, fun v hv => by simp only [List.mem_cons, List.not_mem_nil, or_false] at hv; rcases hv with rfl; exact strs_leaf _ (by simp), fun v hv => by simp only [List.mem_cons, List.not_mem_nil, or_false] at hv; rcases hv with rfl; rfl⟩
    · exact ⟨by decide, by decide, fun v hv => by simp only [List.mem_cons, List.not_mem_nil, or_false] at hv; rcases hv with rfl | rfl <;> exact strs_leaf _ (by simp), fun v hv => by simp only [List.mem_cons, List.not_mem_nil, or_false] at hv; rcases hv with rfl | rfl <;> rfl⟩
    · exact ⟨by decide, by decide, fun v hv => by simp only [List.mem_cons, List.not_mem_nil, or_false] at hv; rcases hv with rfl | rfl | rfl <;> exact strs_leaf _ (by simp), fun v hv => by simp only [List.mem_cons, List.not_mem_nil, or_false] at hv; rcases hv with rfl | rfl | rfl <;> rfl⟩
    · exact ⟨by decide, by decide, fun v hv => by simp only [List.mem_cons, List.not_mem_nil, or_false] at hv; rcases hv with rfl | rfl | rfl | rfl <;> exact strs_leaf _ (by simp), fun v hv => by simp only [List.mem_cons, List.not_mem_nil, or_false] at hv; rcases hv with rfl | rfl | rfl | rfl <;> rfl⟩
  exact ⟨⟨⟨lv.2.2.2⟩, lb.1, h⟩, lb.2.1, lv.1, lv.2.1, lb.2.2, lv.2.2.1⟩
theorem exprs_run (hns : ∀ n, DrawOk (run T (n + 1)) sc) (H : Drawn bs vs) (k n : Nat) : ExprOk (run T (n + k + 3)) sc bs vs (k + 1) := expr_run hns H.len H.v0 H.v1 (fun h => frz_wd 4 (ex_wd H.len H.vl h)) k n
end K01

set_option Elab.async false
set_option linter.all false
set_option maxRecDepth 100000
set_option maxHeartbeats 0
/-! K01P: drawn models, on. -/
namespace K01
open PySem L2 U
variable {n : Nat} {d : D} {bs vs : List D} {sc : D} {Φ : Fn}
section
variable {b : Nat} {τ : Tau} {G G1 G2 G3 : Hd}
theorem sl_ok' {x : ME} {lo hi : MO} {a r : D} {l h : Option Int} (h1 : evE Φ b x τ G = .ok a G1) (h2 : evO Φ b lo τ G1 = .ok l G2) (h3 : evO Φ b hi τ G2 = .ok h G3) (h4 : slD G3 a l h = some r) : evE Φ b (.sl x lo hi) τ G = .ok r G3 := by
  rw [evE, h1]
  simp only [Out.then_ok, h2, h3, h4, lift_some]
theorem no_ok : evO Φ b .no τ G = .ok none G := by rw [evO]
theorem yes_ok {e : ME} {i : Int} (h : evE Φ b e τ G = .ok (.int i) G1) : evO Φ b (.yes e) τ G = .ok (some i) G1 := by
  rw [evO, h]
  rfl
theorem var_ok {i : Nat} {d : D} (h : τ[i]? = some (some d)) : evE Φ b (.var i) τ G = .ok d G := by
  rw [evE, h]
end
def mBody : MSs := (.cons (.set (.nam 7) (.call "_law_expression" (.cons (.var 0) (.cons (.var 1) (.cons (.var 3) (.cons (.var 4) (.cons (.con (.int (2))) .nil)))))))
  (.cons (.set (.nam 8) (.call "_law_expression" (.cons (.var 0) (.cons (.var 1) (.cons (.var 3) (.cons (.var 4) (.cons (.bin .add (.con (.int (1))) (.call "_law_draw" (.cons (.var 0) (.cons (.var 1) (.cons (.con (.int (3))) .nil))))) .nil)))))))
  (.cons (.exp (.append (.var 5) (.tup (.cons (.var 7) (.cons (.var 8) .nil)))))
  .nil)))
theorem model_turn (hD : DrawOk Φ sc) (hE : ∀ k, k < 3 → ExprOk Φ sc bs vs (k + 1)) {o0 o1 : DO} (ht : Town o0 o1) {G : Hd} {acc : List D} {x m3 : D} {t6 t7 t8 : Option D} (hl : acc.length < line) :
    ∃ (p0 p1 : DO) (y : D) (t7' t8' : Option D), Town p0 p1 ∧ StG bs vs y ∧ forTurn Φ (G.length + 2) (.nam 6) mBody x [some sc, some (.ref 1), some m3, some (.tup bs), some (.tup vs), some (.ref (G.length + 2)), t6, t7, t8] (o0 :: o1 :: G ++ [.lst acc]) = .ok (.nx [some sc, some (.ref 1), some m3, some (.tup bs), some (.tup vs), some (.ref (G.length + 2)), some x, t7', t8']) (p0 :: p1 :: G ++ [.lst (acc ++ [y])]) := by
  obtain ⟨q0, q1, a, ht1, ha, e1⟩ := hE 1 (by decide) o0 o1 ht 2 rfl (G ++ [.lst acc])
  have s1 : evE Φ (G.length + 2) (.call "_law_expression" (.cons (.var 0) (.cons (.var 1) (.cons (.var 3) (.cons (.var 4) (.cons (.con (.int (2))) .nil)))))) [some sc, some (.ref 1), some m3, some (.tup bs), some (.tup vs), some (.ref (G.length + 2)), some x, t7, t8] (o0 :: o1 :: G ++ [.lst acc]) = .ok a (q0 :: q1 :: G ++ [.lst acc]) := call_ok (ds := [sc, .ref 1, .tup bs, .tup vs, .int 2]) (G1 := o0 :: o1 :: G ++ [.lst acc]) (by simp [evEs, evE]) e1
  obtain ⟨k, r0, r1, hk, ht2, e2⟩ := drawE (b := G.length + 2) (e := .con (.int 3)) (τ := [some sc, some (.ref 1), some m3, some (.tup bs), some (.tup vs), some (.ref (G.length + 2)), some x, some a, t8]) hD ht1 3 (z := 3) rfl (by decide) (by decide) (G ++ [.lst acc]) (by simp [evEs, evE])
  obtain ⟨u0, u1, c, ht3, hc, e3⟩ := hE k hk r0 r1 ht2 (1 + (k : Int)) (by omega) (G ++ [.lst acc])
  have s2 : evE Φ (G.length + 2) (.call "_law_expression" (.cons (.var 0) (.cons (.var 1) (.cons (.var 3) (.cons (.var 4) (.cons (.bin .add (.con (.int (1))) (.call "_law_draw" (.cons (.var 0) (.cons (.var 1) (.cons (.con (.int (3))) .nil))))) .nil)))))) [some sc, some (.ref 1), some m3, some (.tup bs), some (.tup vs), some (.ref (G.length + 2)), some x, some a, t8] (q0 :: q1 :: G ++ [.lst acc]) = .ok c (u0 :: u1 :: G ++ [.lst acc]) := by
    refine call_ok (ds := [sc, .ref 1, .tup bs, .tup vs, .int (1 + (k : Int))]) (G1 := r0 :: r1 :: G ++ [.lst acc]) ?_ e3
    have v : evE Φ (G.length + 2) (.bin .add (.con (.int (1))) (.call "_law_draw" (.cons (.var 0) (.cons (.var 1) (.cons (.con (.int (3))) .nil))))) [some sc, some (.ref 1), some m3, some (.tup bs), some (.tup vs), some (.ref (G.length + 2)), some x, some a, t8] (q0 :: q1 :: G ++ [.lst acc]) = .ok (.int (1 + (k : Int))) (r0 :: r1 :: G ++ [.lst acc]) := bin_ok con_ok e2 rfl
    have w : ∀ (i : Nat) (z : D), ([some sc, some (.ref 1), some m3, some (.tup bs), some (.tup vs), some (.ref (G.length + 2)), some x, some a, t8] : Tau)[i]? = some (some z) → evE Φ (G.length + 2) (.var i) [some sc, some (.ref 1), some m3, some (.tup bs), some (.tup vs), some (.ref (G.length + 2)), some x, some a, t8] (q0 :: q1 :: G ++ [.lst acc]) = .ok z (q0 :: q1 :: G ++ [.lst acc]) := fun i z h => var_ok h
    simp only [evEs, w 0 sc rfl, w 1 (.ref 1) rfl, w 3 (.tup bs) rfl, w 4 (.tup vs) rfl, v, Out.then_ok]
  refine ⟨u0, u1, .tup [a, c], some a, some c, ht3, ⟨a, c, rfl, ha.le (by omega), hc.le (by omega)⟩, ?_⟩
  show evSs Φ (G.length + 2) mBody [some sc, some (.ref 1), some m3, some (.tup bs), some (.tup vs), some (.ref (G.length + 2)), some x, t7, t8] _ = _
  unfold mBody
  let τ : Tau := [some sc, some (.ref 1), some m3, some (.tup bs), some (.tup vs), some (.ref (G.length + 2)), some x, some a, some c]
  refine (set_ok s1).trans ?_
  refine (set_ok s2).trans ?_
  refine (seq_nx (τ1 := τ) (G1 := u0 :: u1 :: G ++ [.lst (acc ++ [.tup [a, c]])]) ?_).trans (by rw [evSs])
  have q := append_last (o := .var 5) (e := .tup (.cons (.var 7) (.cons (.var 8) .nil))) (x := .tup [a, c]) (b0 := u0) (b1 := u1) (Nat.le_refl _) (show evE Φ (G.length + 2) (.var 5) τ (u0 :: u1 :: G ++ [.lst acc]) = _ from var_ok rfl) (by simp [evE, evEs, τ]) hl
  rw [evS]
  show (evE Φ _ _ τ _).then _ = _
  rw [q]
  rfl
theorem bases_in {G : Hd} {i j : Nat} (hi : i < 2) (hj : j < 2) : ∃ bs ∈ basesOf, ∃ a, slD G (.tup [.str "kg", .str "m", .str "s"]) (some (i : Int)) none = some a ∧ slD G a none (some (1 + (j : Int))) = some (.tup bs) := by
  have h1 : i = 0 ∨ i = 1 := by omega
  have h2 : j = 0 ∨ j = 1 := by omega
  rcases h1 with rfl | rfl <;> rcases h2 with rfl | rfl
  · exact ⟨[.str "kg"], by simp [basesOf], _, rfl, rfl⟩
  · exact ⟨[.str "kg", .str "m"], by simp [basesOf], _, rfl, rfl⟩
  · exact ⟨[.str "m"], by simp [basesOf], _, rfl, rfl⟩
  · exact ⟨[.str "m", .str "s"], by simp [basesOf], _, rfl, rfl⟩
theorem vars_in' {G : Hd} {i : Nat} (hi : i < 4) : ∃ vs ∈ varsOf, slD G (.tup [.str "a", .str "f", .str "mass", .str "t", .str "v"]) none (some (1 + (i : Int))) = some (.tup vs) := by
  have h1 : i = 0 ∨ i = 1 ∨ i = 2 ∨ i = 3 := by omega
  rcases h1 with rfl | rfl | rfl | rfl
  · exact ⟨[.str "a"], by simp [varsOf], rfl⟩
  · exact ⟨[.str "a", .str "f"], by simp [varsOf], rfl⟩
  · exact ⟨[.str "a", .str "f", .str "mass"], by simp [varsOf], rfl⟩
  · exact ⟨[.str "a", .str "f", .str "mass", .str "t"], by simp [varsOf], rfl⟩
theorem range_some {m : Nat} (h : m < 1000) : ∃ ds, rangeD 0 (m : Int) = some ds ∧ ds.length = m := by
  unfold rangeD
  have p : (2 : Int) ^ 62 = 4611686018427387904 := by decide
  rw [p]
  rw [if_pos (by omega)]
  exact ⟨_, rfl, by simp⟩
theorem rng_ok {b : Nat} {τ : Tau} {G G1 : Hd} {e : ME} {m : Int} {ds : List D} (h : evE Φ b e τ G = .ok (.int m) G1) (hr : rangeD 0 m = some ds) : evI Φ b (.rng1 e) τ G = .ok (.items ds) G1 := by
  rw [evI, h]
  simp only [Out.then_ok, intD, Option.bind_some, hr, Option.map_some, lift_some]
theorem frz_tupk {j m : Nat} {G : Hd} {xs : List D} (h : ∀ x ∈ xs, frz j m G x = some x) : frz (j + 1) m G (.tup xs) = some (.tup xs) := by
  show (xs.mapM (frz j m G)).map D.tup = _
  rw [mapM_id h]
  rfl
theorem st_wd (H : Drawn bs vs) {x : D} (h : StG bs vs x) : Wd 9 x := by
  obtain ⟨a, c, rfl, ha, hc⟩ := h
  refine .inr ⟨_, rfl, by simp, fun y hy => ?_⟩
  simp only [List.mem_cons, List.not_mem_nil, or_false] at hy
  rcases hy with rfl | rfl
  · exact ex_wd H.len H.vl ha
  · exact ex_wd H.len H.vl hc
theorem sts_wd (H : Drawn bs vs) {xs : List D} (hl : xs.length ≤ 3) (h : ∀ x ∈ xs, StG bs vs x) : Wd 10 (.tup xs) := .inr ⟨xs, rfl, hl, fun x hx => st_wd H (h x hx)⟩
theorem model_run (hns : ∀ n, DrawOk (run T (n + 1)) sc) {o0 o1 : DO} (ht : Town o0 o1) (n : Nat) (G : Hd) :
    ∃ (p0 p1 : DO) (bs vs xs : List D), Town p0 p1 ∧ Drawn bs vs ∧ xs.length ≤ 3 ∧ (∀ x ∈ xs, StG bs vs x) ∧ run T (n + 6) "_law_model" [sc, .ref 1, .int 3] (o0 :: o1 :: G) = .ok (.tup [.tup bs, .tup vs, .tup xs]) (p0 :: p1 :: G) := by
  have hD : DrawOk (run T (n + 5)) sc := hns (n + 4)
  generalize hΦ : run T (n + 5) = Φ at hD
  let τ0 : Tau := [some sc, some (.ref 1), some (.int 3), none, none, none, none, none, none]
  obtain ⟨i, q0, q1, hi, ht1, e1⟩ := drawE (b := G.length + 2) (e := .con (.int 2)) (τ := τ0) hD ht 2 (z := 2) rfl (by decide) (by decide) G (by simp [evEs, evE, τ0])
  obtain ⟨j, r0, r1, hj, ht2, e2⟩ := drawE (b := G.length + 2) (e := .con (.int 2)) (τ := τ0) hD ht1 2 (z := 2) rfl (by decide) (by decide) G (by simp [evEs, evE, τ0])
  obtain ⟨bs, hbs, a, b1, b2⟩ := bases_in (G := r0 :: r1 :: G) hi hj
  have b1' : slD (q0 :: q1 :: G) (.tup [.str "kg", .str "m", .str "s"]) (some (i : Int)) none = some a := b1
  have s1 : evE Φ (G.length + 2) (.sl (.sl (.tup (.cons (.con (.str "kg")) (.cons (.con (.str "m")) (.cons (.con (.str "s")) .nil)))) (.yes (.call "_law_draw" (.cons (.var 0) (.cons (.var 1) (.cons (.con (.int (2))) .nil))))) .no) .no (.yes (.bin .add (.con (.int (1))) (.call "_law_draw" (.cons (.var 0) (.cons (.var 1) (.cons (.con (.int (2))) .nil))))))) τ0 (o0 :: o1 :: G) = .ok (.tup bs) (r0 :: r1 :: G) :=
    sl_ok' (sl_ok' (a := .tup [.str "kg", .str "m", .str "s"]) (G1 := o0 :: o1 :: G) (by simp [evE, evEs]) (yes_ok e1) no_ok b1') no_ok (yes_ok (bin_ok (r := .int (1 + (j : Int))) con_ok e2 rfl)) b2
  let τ1 : Tau := [some sc, some (.ref 1), some (.int 3), some (.tup bs), none, none, none, none, none]
  obtain ⟨k, u0, u1, hk, ht3, e3⟩ := drawE (b := G.length + 2) (e := .con (.int 4)) (τ := τ1) hD ht2 4 (z := 4) rfl (by decide) (by decide) G (by simp [evEs, evE, τ1])
  obtain ⟨vs, hvs, b3⟩ := vars_in' (G := u0 :: u1 :: G) hk
  have s2 : evE Φ (G.length + 2) (.sl (.tup (.cons (.con (.str "a")) (.cons (.con (.str "f")) (.cons (.con (.str "mass")) (.cons (.con (.str "t")) (.cons (.con (.str "v")) .nil)))))) .no (.yes (.bin .add (.con (.int (1))) (.call "_law_draw" (.cons (.var 0) (.cons (.var 1) (.cons (.con (.int (4))) .nil))))))) τ1 (r0 :: r1 :: G) = .ok (.tup vs) (u0 :: u1 :: G) :=
    sl_ok' (a := .tup [.str "a", .str "f", .str "mass", .str "t", .str "v"]) (G1 := r0 :: r1 :: G) (by simp [evE, evEs]) no_ok (yes_ok (bin_ok (r := .int (1 + (k : Int))) con_ok e3 rfl)) b3
  have H := drawn_ok hbs hvs
  have hE : ∀ k, k < 3 → ExprOk Φ sc bs vs (k + 1) := by
    intro k hk
    rw [← hΦ]
    have : k = 0 ∨ k = 1 ∨ k = 2 := by omega
    rcases this with rfl | rfl | rfl
    · exact exprs_run hns H 0 (n + 2)
    · exact exprs_run hns H 1 (n + 1)
    · exact exprs_run hns H 2 n
  let τ2 : Tau := [some sc, some (.ref 1), some (.int 3), some (.tup bs), some (.tup vs), some (.ref (G.length + 2)), none, none, none]
  obtain ⟨m, w0, w1, hm, ht4, e4⟩ := drawE (b := G.length + 2) (e := .bin .add (.var 2) (.con (.int (1)))) (τ := τ2) hD ht3 4 (z := 3 + 1) rfl (by decide) (by decide) (G ++ [.lst []]) (by simp [evEs, evE, τ2])
  obtain ⟨ds, hds, hdl⟩ := range_some (m := m) (by omega)
  have hit : evI Φ (G.length + 2) (.rng1 (.call "_law_draw" (.cons (.var 0) (.cons (.var 1) (.cons (.bin .add (.var 2) (.con (.int (1)))) .nil))))) τ2 (u0 :: u1 :: G ++ [.lst []]) = .ok (.items ds) (w0 :: w1 :: G ++ [.lst []]) := rng_ok e4 hds
  obtain ⟨τ', G', e5, p0, p1, acc, t6, t7, t8, ht', rfl, rfl, hl, hg⟩ := for_inv (Φ := Φ) (b := G.length + 2) (t := .nam 6) (s := mBody) (τ := τ2) (ds := ds)
    (I := fun i τ G' => ∃ p0 p1 acc t6 t7 t8, Town p0 p1 ∧ τ = [some sc, some (.ref 1), some (.int 3), some (.tup bs), some (.tup vs), some (.ref (G.length + 2)), t6, t7, t8] ∧ G' = p0 :: p1 :: G ++ [.lst acc] ∧ acc.length = i ∧ ∀ x ∈ acc, StG bs vs x)
    hit ⟨w0, w1, [], none, none, none, ht4, rfl, rfl, rfl, fun x hx => (nomatch hx)⟩ (by
      rintro i x τ G' hx ⟨p0, p1, acc, t6, t7, t8, ht', rfl, rfl, hl, hg⟩
      have hi : i < ds.length := (List.getElem?_eq_some_iff.mp hx).1
      obtain ⟨q0, q1, y, t7', t8', ht2, hy, e⟩ := model_turn (bs := bs) (vs := vs) (m3 := .int 3) (t6 := t6) (t7 := t7) (t8 := t8) (x := x) (G := G) hD hE ht' (acc := acc) (show _ < 16777216 by omega)
      refine ⟨_, _, e, q0, q1, acc ++ [y], some x, t7', t8', ht2, rfl, rfl, by simp [hl], fun z hz => ?_⟩
      rcases List.mem_append.mp hz with hz | hz
      · exact hg z hz
      · rw [List.mem_singleton.mp hz]; exact hy)
  have hal : acc.length ≤ 3 := by omega
  refine ⟨p0, p1, bs, vs, acc, ht', H, hal, hg, ?_⟩
  show run T (n + 5 + 1) _ _ _ = _
  rw [run_succ L_model, hΦ]
  have fz : frz 4 (G.length + 2) (p0 :: p1 :: G ++ [.lst acc]) (.tup [.tup bs, .tup vs, .tup acc]) = some (.tup [.tup bs, .tup vs, .tup acc]) := by
    refine frz_tupk fun y hy => ?_
    simp only [List.mem_cons, List.not_mem_nil, or_false] at hy
    rcases hy with rfl | rfl | rfl
    · exact frz_tupk fun z hz => frz_wd 2 (leaf_wd (k := 0) (H.bl z hz))
    · exact frz_tupk fun z hz => frz_wd 2 (leaf_wd (k := 0) (H.vl z hz))
    · exact frz_tupk fun z hz => frz_wd 2 (st_wd H (hg z hz))
  refine (callF_rt (G := o0 :: o1 :: G) (d := .tup [.tup bs, .tup vs, .tup acc]) (d' := .tup [.tup bs, .tup vs, .tup acc]) (G' := p0 :: p1 :: G ++ [.lst acc]) rfl rfl ?_ fz).trans (by simp)
  show evSs Φ (G.length + 2) b__law_model τ0 _ = _
  unfold b__law_model
  refine (set_ok s1).trans ?_
  refine (set_ok s2).trans ?_
  refine (set_ok (d := .ref (G.length + 2)) (G1 := u0 :: u1 :: G ++ [.lst []]) (by simp [evE, evEs, allocD, objOf])).trans ?_
  unfold mBody at e5
  refine (seq_nx e5).trans ?_
  refine ret_ok ?_
  have g1 : (p0 :: p1 :: G ++ [DO.lst acc])[G.length + 2]? = some (.lst acc) := by simp
  have l1 : biD (p0 :: p1 :: G ++ [.lst acc]) .tuple [.ref (G.length + 2)] = some (.tup acc) := by
    show (seqD (p0 :: p1 :: G ++ [.lst acc]) (.ref (G.length + 2))).map D.tup = _
    have : seqD (p0 :: p1 :: G ++ [.lst acc]) (.ref (G.length + 2)) = some acc := by
      show listD (p0 :: p1 :: G ++ [.lst acc]) (.ref (G.length + 2)) = some acc
      unfold listD
      simp only [g1]
    rw [this]
    rfl
  have w : ∀ (i : Nat) (z : D), ([some sc, some (.ref 1), some (.int 3), some (.tup bs), some (.tup vs), some (.ref (G.length + 2)), t6, t7, t8] : Tau)[i]? = some (some z) → evE Φ (G.length + 2) (.var i) [some sc, some (.ref 1), some (.int 3), some (.tup bs), some (.tup vs), some (.ref (G.length + 2)), t6, t7, t8] (p0 :: p1 :: G ++ [.lst acc]) = .ok z (p0 :: p1 :: G ++ [.lst acc]) := fun i z h => var_ok h
  have v5 : evE Φ (G.length + 2) (.bi .tuple (.cons (.var 5) .nil)) [some sc, some (.ref 1), some (.int 3), some (.tup bs), some (.tup vs), some (.ref (G.length + 2)), t6, t7, t8] (p0 :: p1 :: G ++ [.lst acc]) = .ok (.tup acc) (p0 :: p1 :: G ++ [.lst acc]) := by
    rw [evE]
    simp only [evEs, w 5 (.ref (G.length + 2)) rfl, Out.then_ok, l1, lift_some]
  rw [evE]
  simp only [evEs, w 3 (.tup bs) rfl, w 4 (.tup vs) rfl, v5, Out.then_ok]
end K01

set_option Elab.async false
set_option linter.all false
set_option maxRecDepth 100000
set_option maxHeartbeats 0
/-! K01Q: the law. -/
namespace K01
open PySem L2 U
variable {n : Nat} {d : D} {bs vs : List D} {sc : D} {Φ : Fn}
theorem E_law_is {G : Hd} {a c : Bool} : run T (n + 1) "_law_is" [.bl a, .bl c] G = .ok (.bl (a == c)) G := by
  rw [run_succ L_law_is]
  refine callF_rtG rfl rfl ?_ frz_bl
  show evSs _ _ b__law_is [some (.bl a), some (.bl c)] G = _
  unfold b__law_is
  refine ret_ok ?_
  rw [and_ok (k := true) (G1 := G) (by simp [evE, evEs, isi_bool (d := .bl a) rfl, isB]), if_pos rfl]
  simp [evE, cmp_eqB]
/-- what one turn asks of the functions -/
structure Tn (Φ : Fn) (sc : D) : Prop where
  is_ : ∀ (a c : Bool) (G : Hd), Φ "_law_is" [.bl a, .bl c] G = .ok (.bl (a == c)) G
  model : ∀ o0 o1, Town o0 o1 → ∃ (p0 p1 : DO) (bs vs xs : List D), Town p0 p1 ∧ Drawn bs vs ∧ xs.length ≤ 3 ∧ (∀ x ∈ xs, StG bs vs x) ∧ Φ "_law_model" [sc, .ref 1, .int 3] [o0, o1] = .ok (.tup [.tup bs, .tup vs, .tup xs]) [p0, p1]
  good : ∀ {o0 o1 bs vs xs}, Drawn bs vs → xs.length ≤ 8 → (∀ x ∈ xs, StG bs vs x) → Φ "is_model" [.tup [.tup bs, .tup vs, .tup xs]] [o0, o1] = .ok (.bl true) [o0, o1]
  bad : ∀ {o0 o1 bs vs xs y}, Drawn bs vs → xs.length ≤ 7 → (∀ x ∈ xs, StG bs vs x) → Sp (.tup xs) y → Φ "is_model" [.tup [.tup bs, .tup vs, y]] [o0, o1] = .ok (.bl false) [o0, o1]
  spoilt : ∀ {d}, Wd 10 d → ∀ G : Hd, ∃ ys, Φ "_law_spoilt" [d] G = .ok (.lst ys) G ∧ (∀ y ∈ ys, Sp d y) ∧ ys.length ≤ 600000
  expr : ∀ {bs vs}, Drawn bs vs → ExprOk Φ sc bs vs 4
  exgood : ∀ {o0 o1 bs vs d}, Drawn bs vs → ExG bs vs 6 d → Φ "is_expression" [.tup bs, .tup vs, d] [o0, o1] = .ok (.bl true) [o0, o1]
  unit : ∀ {bs vs}, Drawn bs vs → UnitOk Φ sc bs
  ugood : ∀ {o0 o1 bs vs xs}, Drawn bs vs → xs.length = bs.length → (∀ x ∈ xs, frGood x) → Φ "is_unit" [.tup bs, .tup xs] [o0, o1] = .ok (.bl true) [o0, o1]
  ulen : ∀ {o0 o1} {bs xs : List D}, xs.length ≤ 4 → xs.length ≠ bs.length → (∀ x ∈ xs, frGood x) → Φ "is_unit" [.tup bs, .tup xs] [o0, o1] = .ok (.bl false) [o0, o1]
  ubad : ∀ {o0 o1 bs vs xs y}, Drawn bs vs → xs.length = bs.length → (∀ x ∈ xs, frGood x) → Sp (.tup xs) y → Φ "is_unit" [.tup bs, y] [o0, o1] = .ok (.bl false) [o0, o1]
theorem tn_ok {ns : List Int} (hns : ns.length ≤ 63) : Tn (run T 39) (.lst (ns.map D.int)) where
  is_ := fun a c G => E_law_is (n := 38)
  model := fun o0 o1 ht => model_run (fun n => draw_ok hns n) ht 33 []
  good := fun H hl h => model_good (n := 23) H.toHeads hl h
  bad := fun H hl h s => model_bad (n := 23) H.toHeads hl h s
  spoilt := fun {d} h G => by
    obtain ⟨ys, h1, h2, h3⟩ := spoilt_run 10 d (Nat.le_refl _) h 28 G
    exact ⟨ys, h1, fun y hy => (h2 y hy).1, Nat.le_trans h3 (S_le (Nat.le_refl _))⟩
  expr := fun H => exprs_run (fun n => draw_ok hns n) H 3 33
  exgood := fun H h => ex_good (n := 26) H.vars H.len h
  unit := fun H o0 o1 ht G => unit_run (n := 38) (draw_ok hns 37) ht H.len G
  ugood := fun H hl h => unit_good (n := 34) H.len hl h
  ulen := fun hl hn h => unit_len (n := 34) hl hn h
  ubad := fun H hl h s => unit_bad (n := 34) H.len hl h s
abbrev lTau (sc : D) (t2 t3 t4 t5 t6 : Option D) : Tau := [some sc, some (.ref 1), t2, t3, t4, t5, t6]
theorem is_call {b : Nat} {τ : Tau} {G : Hd} {e : ME} {a c : Bool} (N : Tn Φ sc) (h : evE Φ b e τ G = .ok (.bl a) G) : evT Φ b (.not (.val (.call "_law_is" (.cons e (.cons (.con (.bl c)) .nil))))) τ G = .ok (!(a == c)) G := by
  refine not_ok (val_ok (call_ok (ds := [.bl a, .bl c]) (G1 := G) ?_ (N.is_ a c G)))
  simp only [evEs, h, con_ok, Out.then_ok]
def lTail : MSs := match b_law with
  | .cons _ (.cons (.forr _ _ s) _) => s
  | _ => .nil
/-- the last loop of a turn -/
theorem odd_loop (N : Tn Φ sc) (H : Drawn bs vs) {o0 o1 : DO} {xs us : List D} {t2 t5 t4 : Option D} (hl : us.length = bs.length) (hg : ∀ x ∈ us, frGood x) :
    ∃ t4', evS Φ 0 (.forr (.nam 4) (.val (.bin .add (.call "_law_spoilt" (.cons (.var 6) .nil)) (.lst (.cons (.sl (.var 6) (.yes (.con (.int (1)))) .no) (.cons (.bin .add (.var 6) (.tup (.cons (.tup (.cons (.con (.int (0))) (.cons (.con (.int (1))) .nil))) .nil))) .nil)))))
    (.cons (.iff (.not (.val (.call "_law_is" (.cons (.call "is_unit" (.cons (.ix (.var 3) (.con (.int (0)))) (.cons (.var 4) .nil))) (.cons (.con (.bl false)) .nil)))))
    (.cons (.ret (.con (.bl false)))
  .nil)
    .nil)
  .nil)) (lTau sc t2 (some (.tup [.tup bs, .tup vs, .tup xs])) t4 t5 (some (.tup us))) [o0, o1] = .ok (.nx (lTau sc t2 (some (.tup [.tup bs, .tup vs, .tup xs])) t4' t5 (some (.tup us)))) [o0, o1] := by
  have hw : Wd 10 (.tup us) := .inr ⟨us, rfl, by rw [hl]; exact H.len, fun x hx => fr_wd (hg x hx)⟩
  obtain ⟨ys, e1, hy, hyl⟩ := N.spoilt hw [o0, o1]
  have hb0 := H.b0
  have hb1 := H.len
  have hit : evI Φ 0 (.val (.bin .add (.call "_law_spoilt" (.cons (.var 6) .nil)) (.lst (.cons (.sl (.var 6) (.yes (.con (.int (1)))) .no) (.cons (.bin .add (.var 6) (.tup (.cons (.tup (.cons (.con (.int (0))) (.cons (.con (.int (1))) .nil))) .nil))) .nil))))) (lTau sc t2 (some (.tup [.tup bs, .tup vs, .tup xs])) t4 t5 (some (.tup us))) [o0, o1] = .ok (.items (ys ++ [.tup (us.drop 1), .tup (us ++ [.tup [.int 0, .int 1]])])) [o0, o1] := by
    have a1 : slD [o0, o1] (.tup us) (some 1) none = some (.tup (us.drop 1)) := by
      show some (D.tup (cutD us (some ((1 : Nat) : Int)) none)) = _
      rw [cut_from (by omega)]
    have a2 : binD [o0, o1] .add (.tup us) (.tup [.tup [.int 0, .int 1]]) = some (.tup (us ++ [.tup [.int 0, .int 1]])) := by
      show (if _ then _ else _) = _
      rw [if_pos (show _ ≤ 16777216 by simp; omega)]
    have a3 : binD [o0, o1] .add (.lst ys) (.lst [.tup (us.drop 1), .tup (us ++ [.tup [.int 0, .int 1]])]) = some (.lst (ys ++ [.tup (us.drop 1), .tup (us ++ [.tup [.int 0, .int 1]])])) := by
      show (if _ then _ else _) = _
      rw [if_pos (show _ ≤ 16777216 by simp; omega)]
    have v1 : evE Φ 0 (.call "_law_spoilt" (.cons (.var 6) .nil)) (lTau sc t2 (some (.tup [.tup bs, .tup vs, .tup xs])) t4 t5 (some (.tup us))) [o0, o1] = .ok (.lst ys) [o0, o1] := call_ok (ds := [.tup us]) (G1 := [o0, o1]) (by simp [evEs, evE]) e1
    have v2 : evE Φ 0 (.lst (.cons (.sl (.var 6) (.yes (.con (.int (1)))) .no) (.cons (.bin .add (.var 6) (.tup (.cons (.tup (.cons (.con (.int (0))) (.cons (.con (.int (1))) .nil))) .nil))) .nil))) (lTau sc t2 (some (.tup [.tup bs, .tup vs, .tup xs])) t4 t5 (some (.tup us))) [o0, o1] = .ok (.lst [.tup (us.drop 1), .tup (us ++ [.tup [.int 0, .int 1]])]) [o0, o1] := by simp [evE, evEs, evO, intD, a1, a2]
    rw [evI, bin_ok v1 v2 a3]
    rfl
  obtain ⟨τ', G', e, t4', rfl, rfl⟩ := for_inv (Φ := Φ) (b := 0) (t := .nam 4) (s := (.cons (.iff (.not (.val (.call "_law_is" (.cons (.call "is_unit" (.cons (.ix (.var 3) (.con (.int (0)))) (.cons (.var 4) .nil))) (.cons (.con (.bl false)) .nil)))))
    (.cons (.ret (.con (.bl false)))
  .nil)
    .nil)
  .nil)) (I := fun i τ G' => ∃ t4', τ = lTau sc t2 (some (.tup [.tup bs, .tup vs, .tup xs])) t4' t5 (some (.tup us)) ∧ G' = [o0, o1]) hit ⟨t4, rfl, rfl⟩ (by
    rintro i y τ G' hyi ⟨s4, rfl, rfl⟩
    have hu : Φ "is_unit" [.tup bs, y] [o0, o1] = .ok (.bl false) [o0, o1] := by
      rcases List.mem_append.mp (List.mem_of_getElem? hyi) with h | h
      · exact N.ubad H hl hg (hy y h)
      · simp only [List.mem_cons, List.not_mem_nil, or_false] at h
        rcases h with rfl | rfl
        · exact N.ulen (by simp; omega) (by simp; omega) fun x hx => hg x (List.mem_of_mem_drop hx)
        · refine N.ulen (by simp; omega) (by simp; omega) fun x hx => ?_
          rcases List.mem_append.mp hx with hx | hx
          · exact hg x hx
          · rw [List.mem_singleton.mp hx]; exact ⟨0, 1, rfl, by decide, by decide, .inl rfl⟩
    refine ⟨_, _, ?_, some y, rfl, rfl⟩
    show evSs Φ 0 _ (lTau sc t2 (some (.tup [.tup bs, .tup vs, .tup xs])) (some y) t5 (some (.tup us))) _ = _
    refine (skip (is_call N (call_ok (ds := [.tup bs, y]) (G1 := [o0, o1]) ?_ hu))).trans (by rw [evSs])
    simp [evEs, evE, ix0])
  exact ⟨t4', e⟩
end K01

set_option Elab.async false
set_option linter.all false
set_option maxRecDepth 100000
set_option maxHeartbeats 0
/-! K01S: the law's turn, the law's run. -/
namespace K01
open PySem L2 U
variable {n : Nat} {d : D} {bs vs : List D} {sc : D} {Φ : Fn}
theorem fm_none : ∀ l : List D, l.filterMap (fun _ => (none : Option D)) = []
  | [] => rfl
  | a :: l => by rw [List.filterMap_cons]; exact fm_none l
theorem lc_none {b : Nat} {τ : Tau} {G : Hd} {e : ME} {i : Nat} {it : MI} {c : MB} {own : List Nat} {ds : List D} (hi : evI Φ b it τ G = .ok (.items ds) G) (hl : ds.length ≤ line) (h : ∀ x ∈ ds, evT Φ b c ((wipeD τ own).set i (some x)) G = .ok false G) : evE Φ b (.lc e (.nam i) it c own) τ G = .ok (.lst []) G := by
  rw [lc_pure (f := fun _ => none) hi hl]
  · rw [fm_none]
  · intro x hx
    unfold lcTurn
    simp only [bindT, h x hx, Out.then_ok, Bool.false_eq_true, if_false, noexc_ok]
theorem turn_ok (N : Tn Φ sc) {o0 o1 : DO} (ht : Town o0 o1) {t2 t3 t4 t5 t6 : Option D} : ∃ (p0 p1 : DO) (t3' t4' t5' t6' : Option D), Town p0 p1 ∧ evSs Φ 0 lTail (lTau sc t2 t3 t4 t5 t6) [o0, o1] = .ok (.nx (lTau sc t2 t3' t4' t5' t6')) [p0, p1] := by
  obtain ⟨q0, q1, bs, vs, xs, ht1, H, hxl, hx, e1⟩ := N.model o0 o1 ht
  have s1 : evE Φ 0 (.call "_law_model" (.cons (.var 0) (.cons (.var 1) (.cons (.con (.int (3))) .nil)))) (lTau sc t2 t3 t4 t5 t6) [o0, o1] = .ok (.tup [.tup bs, .tup vs, .tup xs]) [q0, q1] := call_ok (ds := [sc, .ref 1, .int 3]) (G1 := [o0, o1]) (by simp [evEs, evE]) e1
  let M : D := .tup [.tup bs, .tup vs, .tup xs]
  have s2 : evE Φ 0 (.call "is_model" (.cons (.var 3) .nil)) (lTau sc t2 (some M) t4 t5 t6) [q0, q1] = .ok (.bl true) [q0, q1] := call_ok (ds := [M]) (G1 := [q0, q1]) (by simp [evEs, evE]) (N.good H (by omega) hx)
  obtain ⟨ys, e3, hy, hyl⟩ := N.spoilt (sts_wd H hxl hx) [q0, q1]
  have s3 : evE Φ 0 (.lc (.var 4) (.nam 4) (.val (.call "_law_spoilt" (.cons (.ix (.var 3) (.con (.int (2)))) .nil))) (.not (.val (.call "_law_is" (.cons (.call "is_model" (.cons (.tup (.cons (.ix (.var 3) (.con (.int (0)))) (.cons (.ix (.var 3) (.con (.int (1)))) (.cons (.var 4) .nil)))) .nil)) (.cons (.con (.bl false)) .nil))))) [4]) (lTau sc t2 (some M) t4 t5 t6) [q0, q1] = .ok (.lst []) [q0, q1] := by
    refine lc_none (ds := ys) ?_ (Nat.le_trans hyl (by decide)) fun y hyy => ?_
    · rw [evI, call_ok (ds := [.tup xs]) (G1 := [q0, q1]) (by simp [evEs, evE, M, ix2]) e3]
      rfl
    · refine is_call N (call_ok (ds := [.tup [.tup bs, .tup vs, y]]) (G1 := [q0, q1]) ?_ (N.bad H (by omega) hx (hy y hyy)))
      simp [evEs, evE, wipeD, M, ix0, ix1]
  have c3 : evT Φ 0 (.val (.cmp .ne (.lc (.var 4) (.nam 4) (.val (.call "_law_spoilt" (.cons (.ix (.var 3) (.con (.int (2)))) .nil))) (.not (.val (.call "_law_is" (.cons (.call "is_model" (.cons (.tup (.cons (.ix (.var 3) (.con (.int (0)))) (.cons (.ix (.var 3) (.con (.int (1)))) (.cons (.var 4) .nil)))) .nil)) (.cons (.con (.bl false)) .nil))))) [4]) (.lst .nil))) (lTau sc t2 (some M) t4 t5 t6) [q0, q1] = .ok false [q0, q1] := val_ok (cmp_ok' s3 (by rw [evE, evEs]; rfl) cmp_neL)
  obtain ⟨r0, r1, ex, ht2, hex, e4⟩ := N.expr H q0 q1 ht1 4 rfl []
  have s4 : evE Φ 0 (.call "_law_expression" (.cons (.var 0) (.cons (.var 1) (.cons (.ix (.var 3) (.con (.int (0)))) (.cons (.ix (.var 3) (.con (.int (1)))) (.cons (.con (.int (4))) .nil)))))) (lTau sc t2 (some M) t4 t5 t6) [q0, q1] = .ok ex [r0, r1] := call_ok (ds := [sc, .ref 1, .tup bs, .tup vs, .int 4]) (G1 := [q0, q1]) (by simp [evEs, evE, M, ix0, ix1]) e4
  have s5 : evE Φ 0 (.call "is_expression" (.cons (.ix (.var 3) (.con (.int (0)))) (.cons (.ix (.var 3) (.con (.int (1)))) (.cons (.var 5) .nil)))) (lTau sc t2 (some M) t4 (some ex) t6) [r0, r1] = .ok (.bl true) [r0, r1] := call_ok (ds := [.tup bs, .tup vs, ex]) (G1 := [r0, r1]) (by simp [evEs, evE, M, ix0, ix1]) (N.exgood H (hex.le (by decide)))
  obtain ⟨u0, u1, us, ht3, hul, hug, e6⟩ := N.unit H r0 r1 ht2 []
  have s6 : evE Φ 0 (.call "_law_unit" (.cons (.var 0) (.cons (.var 1) (.cons (.ix (.var 3) (.con (.int (0)))) .nil)))) (lTau sc t2 (some M) t4 (some ex) t6) [r0, r1] = .ok (.tup us) [u0, u1] := call_ok (ds := [sc, .ref 1, .tup bs]) (G1 := [r0, r1]) (by simp [evEs, evE, M, ix0]) e6
  have s7 : evE Φ 0 (.call "is_unit" (.cons (.ix (.var 3) (.con (.int (0)))) (.cons (.var 6) .nil))) (lTau sc t2 (some M) t4 (some ex) (some (.tup us))) [u0, u1] = .ok (.bl true) [u0, u1] := call_ok (ds := [.tup bs, .tup us]) (G1 := [u0, u1]) (by simp [evEs, evE, M, ix0]) (N.ugood H hul hug)
  obtain ⟨t4', e8⟩ := odd_loop (xs := xs) (t2 := t2) (t5 := some ex) (t4 := t4) (o0 := u0) (o1 := u1) N H hul hug
  refine ⟨u0, u1, some M, t4', some ex, some (.tup us), ht3, ?_⟩
  unfold lTail b_law
  refine (set_ok s1).trans ?_
  refine (skip (is_call N s2)).trans ?_
  refine (skip c3).trans ?_
  refine (set_ok s4).trans ?_
  refine (skip (is_call N s5)).trans ?_
  refine (set_ok s6).trans ?_
  refine (skip (is_call N s7)).trans ?_
  exact (seq_nx e8).trans (by rw [evSs])
theorem L_law : T.lookup ("law" : Str) = some r_law.fd := by kernel_rfl
theorem exprs39 (o0 o1 : DO) : run T 39 "_law_expressions" [] [o0, o1] = .ok (.bl true) [o0, o1] := by kernel_rfl
theorem models39 (o0 o1 : DO) : run T 39 "_law_models" [] [o0, o1] = .ok (.bl true) [o0, o1] := by kernel_rfl
theorem law_run (ns : List Int) (h : ns.length ≤ 63) : ∃ G, U.run T 40 "law" [.lst (ns.map D.int)] [] = .ok (.bl true) G := by
  have N := tn_ok h
  have hb : U.run T 39 "_law_begun" [] [] = .ok (.ref 1) [.dct [] [], tw 0] := begun L_begun 38
  have x1 := exprs39
  have x2 := models39
  show ∃ G, U.run T (39 + 1) "law" [.lst (ns.map D.int)] [] = .ok (.bl true) G
  rw [run_succ L_law]
  generalize U.run T 39 = Φ at N x1 x2 hb
  generalize hsc : D.lst (ns.map D.int) = sc at N
  obtain ⟨ds, hds, hdl⟩ := range_some (m := 2) (by decide)
  have hit : evI Φ 0 (.rng1 (.con (.int (2)))) (lTau sc none none none none none) [.dct [] [], tw 0] = .ok (.items ds) [.dct [] [], tw 0] := rng_ok con_ok hds
  obtain ⟨τ', G', e, p0, p1, t2, t3, t4, t5, t6, ht, rfl, rfl⟩ := for_inv (Φ := Φ) (b := 0) (t := .nam 2) (s := lTail) (I := fun i τ G' => ∃ p0 p1 t2 t3 t4 t5 t6, Town p0 p1 ∧ τ = lTau sc t2 t3 t4 t5 t6 ∧ G' = [p0, p1]) hit ⟨_, _, none, none, none, none, none, town0, rfl, rfl⟩ (by
    rintro i x τ G' hx ⟨p0, p1, t2, t3, t4, t5, t6, ht, rfl, rfl⟩
    obtain ⟨q0, q1, s3, s4, s5, s6, ht', e⟩ := turn_ok N ht (t2 := some x) (t3 := t3) (t4 := t4) (t5 := t5) (t6 := t6)
    exact ⟨_, _, e, q0, q1, some x, s3, s4, s5, s6, ht', rfl, rfl⟩)
  refine ⟨_, callF_rt (G := []) (d := .bl true) (d' := .bl true) (G' := [p0, p1]) rfl rfl ?_ frz_bl⟩
  show evSs Φ 0 b_law [some sc, none, none, none, none, none, none] [] = _
  unfold lTail b_law at e
  unfold b_law
  refine (set_ok (call_ok (ds := []) (G1 := []) (by rw [evEs]) hb)).trans ?_
  refine (seq_nx e).trans ?_
  refine ret_ok ?_
  rw [and_ok (k := true) (G1 := [p0, p1]) (call_ok (ds := []) (G1 := [p0, p1]) (by rw [evEs]) (x1 p0 p1)), if_pos rfl]
  exact call_ok (ds := []) (G1 := [p0, p1]) (by rw [evEs]) (x2 p0 p1)
end K01

set_option Elab.async false
set_option linter.all false
set_option maxRecDepth 100000
set_option maxHeartbeats 0
open PySem PySem.W PySem.Calls PyProof.Rows
theorem PySem.Challenge.cw_unitlogic_k01_not_models_holds : PySem.Challenge.rw_unitlogic_k01_not_models.Holds := by
  w_on; o_law
  refine HandSHeadRun.head_any (r := OpenLaw.row PySem.Challenge.rw_unitlogic_k01_not_models) (q := view (OpenLaw.row PySem.Challenge.rw_unitlogic_k01_not_models).prog [30]) (H := U.hookU 4 K01.rows K01.cons) (ob := K01.ob) (M := 2000) (loose := K01.loose) (d := HandSHeadRun.topDef (OpenLaw.row PySem.Challenge.rw_unitlogic_k01_not_models).prog 30) (kwd := []) K01.ob_eq
    (by kernel_rfl) (fun s => by kernel_rfl) K01.headRun (by kernel_rfl) (by kernel_rfl) (by kernel_rfl) (by rfl) (by first | assumption | decide +kernel) (by decide +kernel) ⟨rfl, rfl, rfl, rfl, rfl, by decide +kernel⟩ ?hw ?hc
  case hw => w_witness2
  case hc =>
    refine L2.walk_ofE (l := PySem.Challenge.rw_unitlogic_k01_not_models) (n := 63) (k := 40) (x := "script") (CX := U.CXA PySem.Challenge.pw_unitlogic_k01_not_models) rfl (by decide) (by kernel_rfl) ⟨rfl, by decide, by decide⟩ ?F ?hX
    case F =>
      intro w mg fa h Y G hmg0
      have hmg : mg ("law" : PySem.Str) = some (.ref fa) := by
        have e : (HandSHeadRun.topDef (OpenLaw.row PySem.Challenge.rw_unitlogic_k01_not_models).prog 30).name = ("law" : PySem.Str) := by kernel_rfl
        rw [← e]
        exact hmg0
      exact U.law_facts (m := 63) (n := 40) (by decide +kernel) K01.rows_ok (by kernel_rfl) K01.law_run Y G hmg
    case hX => exact U.cxa_no
