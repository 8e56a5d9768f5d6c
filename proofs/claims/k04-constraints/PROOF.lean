import PyProof.Rows.All
import Wide.All
import OpenK.AllK
import Wide.FinOn
import HandS.ForMost
import HandS.IsInst
import HandS.Wide
import HandS.Lambda
import HandS.TupAny
import HandS.TupMul
import HandS.Exc
import HandS.WordsExc
import HandS.Flow
import HandS.Defaults
import HandS.ExcIs
import HandS.ExcOwn
import HandS.Zip
import PyProof.Draws
import KE.GoesEnum
import HandS.Iter
import HandS.Style
import KE.KDictZip
import PyProof.ExcBaseAll.ValueError
import PyProof.DictUpdate
import HandS.Codes
import KE.KStateDown
import HandS.Ends
import HandS.Head0
import HandS.Head1
import HandS.Head2
import HandS.HeadEnd
import HandS.HeadHook1
import HandS.HeadHook2
import HandS.HeadHook4
import HandS.HeadWalk
import PySem.Challenge.RW_unitlogic_k04_constraints
import PyProof.P3Eq
set_option Elab.async false
set_option linter.all false
set_option maxRecDepth 100000
/-! UA: a small language over plain data (numbers, texts, tuples as values; what changes stands in a list of objects), and what its terms give. -/
namespace U
open PySem

inductive D where
  | non | bl (b : Bool) | int (i : Int) | str (x : Str)
  | tup (xs : List D) | lst (xs : List D) | dct (ks vs : List D) | ins (c : Str) (fs : List Str) (vs : List D)
  | ref (i : Nat) | ty (n : String) | glo (x : Str) | exc (c : Str)
  deriving Inhabited

/-- an object that may change -/
inductive DO where
  | lst (xs : List D) | dct (ks vs : List D) | ins (c : Str) (fs : List Str) (vs : List D)
  /-- a dict while it is walked -/
  | lkd (ks vs : List D)

abbrev Hd := List DO
abbrev Tau := List (Option D)

inductive Out (α : Type) where
  | ok (a : α) (G : Hd) | exc (c : Str) (G : Hd) | bad

def Out.then {α β : Type} (o : Out α) (f : α → Hd → Out β) : Out β := match o with
  | .ok a G => f a G
  | .exc c G => .exc c G
  | .bad => .bad
@[simp] theorem Out.then_ok {α β : Type} (a : α) (G : Hd) (f : α → Hd → Out β) : (Out.ok a G).then f = f a G := rfl
@[simp] theorem Out.then_exc {α β : Type} (c : Str) (G : Hd) (f : α → Hd → Out β) : (Out.exc c G).then f = .exc c G := rfl
@[simp] theorem Out.then_bad {α β : Type} (f : α → Hd → Out β) : (Out.bad).then f = .bad := rfl

abbrev line : Nat := 16777216

inductive BOp where
  | add | sub | mul | fdiv | mod | pow
inductive COp where
  | eq | ne | lt | le | gt | ge | isn | notn | isin | nin
/-- built-in functions by value -/
inductive BI where
  | len | abs | isi | all | any | sum | tuple | list | dict | int | str | min | max
/-- targets of names -/
inductive MT where
  | nam (i : Nat) | tp0 | tpc (t r : MT)

mutual
inductive ME where
  | var (i : Nat) | con (d : D) | tup (es : MEs) | lst (es : MEs) | dct (kvs : MEs)
  | alloc (e : ME)
  | bin (o : BOp) (a b : ME) | neg (a : ME) | not (a : ME) | and (a b : ME) | or (a b : ME) | ifx (c : MB) (a b : ME)
  | cmp (o : COp) (a b : ME) | chain (o p : COp) (a b c : ME)
  | ix (a i : ME) | sl (a : ME) (lo hi : MO)
  | call (f : Str) (es : MEs) | bi (b : BI) (es : MEs)
  | get (o k d : ME) | append (o e : ME) | extend (o e : ME)
  | catch (e : ME) (ns : List Str) | isE (e : ME) (c : Str) (ns : List Str) | update (o e : ME) | dzip (a b : ME) | dpairs (a : ME) | rev (a : ME)
  | lc (e : ME) (t : MT) (it : MI) (c : MB) (own : List Nat)
inductive MEs where
  | nil | cons (e : ME) (es : MEs)
/-- an end of a slice -/
inductive MO where
  | no | yes (e : ME)
/-- tests -/
inductive MB where
  | val (e : ME) | not (t : MB) | and (t u : MB) | or (t u : MB) | ifx (c t u : MB) | yes
inductive MI where
  | val (e : ME) | rng1 (a : ME) | rng2 (a b : ME) | enum (e : ME) | zip (a b : ME)
  | keys (i : Nat) | lkeys (i : Nat) | zip3 (a b c : ME)
end

mutual
inductive MS where
  | set (t : MT) (e : ME) | par (is : List Nat) (es : MEs) | setix (o i e : ME)
  | aug (i : Nat) (o : BOp) (e : ME)
  | iff (c : MB) (a b : MSs) | whl (c : MB) (b : MSs) | forr (t : MT) (it : MI) (b : MSs)
  | ret (e : ME) | exp (e : ME) | pass | never | raise (c : Str)
inductive MSs where
  | nil | cons (s : MS) (ss : MSs)
end

/-! ### values -/
mutual
def toPy : D → Option PyData
  | .non => some .none
  | .bl b => some (.bool b)
  | .int i => some (.int i)
  | .str x => some (.str x)
  | .tup xs => (toPys xs).map .tuple
  | .lst xs => (toPys xs).map .list
  | _ => none
def toPys : List D → Option (List PyData)
  | [] => some []
  | d :: ds => match toPy d, toPys ds with
    | some x, some xs => some (x :: xs)
    | _, _ => none
end
/-- .. a list that may change among them -/
def toPyG (G : Hd) : D → Option PyData
  | .ref i => match G[i]? with
    | some (.lst ds) => (toPys ds).map .list
    | _ => none
  | d => toPy d

def eqD (G : Hd) (a b : D) : Option Bool := match toPyG G a, toPyG G b with
  | some x, some y => if SeqAt.shaped x && SeqAt.shaped y then some (PyData.eqv x y) else none
  | _, _ => none

/-- a list's items; a sequence's -/
def listD (G : Hd) : D → Option (List D)
  | .lst xs => some xs
  | .ref i => match G[i]? with
    | some (.lst xs) => some xs
    | _ => none
  | _ => none
def seqD (G : Hd) : D → Option (List D)
  | .tup xs => some xs
  | d => listD G d

def truD (G : Hd) : D → Option Bool
  | .non => some false
  | .bl b => some b
  | .int i => some (i != 0)
  | .str x => if x.length ≤ line then some ((x.length : Int) != 0) else none
  | .tup xs => some (!xs.isEmpty)
  | d => (listD G d).map fun xs => !xs.isEmpty

def lenD (G : Hd) : D → Option Nat
  | .str x => if x.length ≤ line then some x.length else none
  | d => (seqD G d).map List.length

def flatD : D → Bool
  | .non => true
  | .bl _ => true
  | .int _ => true
  | .str _ => true
  | _ => false
def flatEq : D → D → Bool
  | .non, .non => true
  | .bl a, .bl b => a == b
  | .bl a, .int b => (if a then 1 else 0) == b
  | .int a, .bl b => a == (if b then 1 else 0)
  | .int a, .int b => a == b
  | .str a, .str b => a == b
  | _, _ => false
def mulOk (i j : Int) : Bool := decide (i.natAbs < 2 ^ 64) || decide (j.natAbs < 2 ^ 64) || decide (i.natAbs.log2 + j.natAbs.log2 < 1000000)
def divOk (j : Int) : Bool := decide (j ≠ 0) && decide (j.natAbs.log2 < 9000)
def powOk (i j : Int) : Bool := decide (0 ≤ j) && decide (j ≤ 1000000) && decide (i.natAbs < 2 ^ 64)

def binD (G : Hd) : BOp → D → D → Option D
  | .add, .int i, .int j => some (.int (i + j))
  | .add, .str x, .str y => if x.length + y.length ≤ line then some (.str (x ++ y)) else none
  | .add, .tup xs, .tup ys => if xs.length + ys.length ≤ line then some (.tup (xs ++ ys)) else none
  | .add, x, y => match listD G x, listD G y with
    | some xs, some ys => if xs.length + ys.length ≤ line then some (.lst (xs ++ ys)) else none
    | _, _ => none
  | .sub, .int i, .int j => some (.int (i - j))
  | .mul, .int i, .int j => if mulOk i j then some (.int (i * j)) else none
  | .mul, .tup xs, .int n => if n = 1 then some (.tup xs) else if n ≤ 0 ∧ -1000 ≤ n then some (.tup []) else if !xs.isEmpty && (decide (xs.length ≤ 1000) && (decide (2 ≤ n) && decide (n ≤ 1000))) then some (.tup (List.replicate n.toNat xs).flatten) else none
  | .mul, .lst xs, .int n => if decide (xs.length ≤ 1000) && (decide (0 ≤ n) && decide (n ≤ 1000)) then some (.lst (List.replicate n.toNat xs).flatten) else none
  | .fdiv, .int i, .int j => if divOk j then some (.int (i.fdiv j)) else none
  | .mod, .int i, .int j => if j ≠ 0 then some (.int (i.fmod j)) else none
  | .pow, .int i, .int j => if powOk i j then some (.int (i ^ j.toNat)) else none
  | _, _, _ => none

def keyD : D → Bool
  | .int _ => true
  | .str _ => true
  | _ => false
def keyEq : D → D → Bool
  | .int i, .int j => decide (i = j)
  | .str x, .str y => decide (x = y)
  | _, _ => false
/-- a dict's value -/
def dictGet : List D → List D → D → Option D
  | k :: ks, v :: vs, x => if keyEq k x then some v else dictGet ks vs x
  | _, _, _ => none
/-- .. stored: at its place, or behind all -/
def swapV (x y : D) : List D → List D → List D
  | k :: ks, v :: vs => (if keyEq k x then y else v) :: swapV x y ks vs
  | _, _ => []
def dictPut (ks vs : List D) (x y : D) : List D × List D := if ks.any (fun k => keyEq k x) then (ks, swapV x y ks vs) else (ks ++ [x], vs ++ [y])
def dictOf (G : Hd) : D → Option (List D × List D)
  | .dct ks vs => some (ks, vs)
  | .ref i => match G[i]? with
    | some (.dct ks vs) => some (ks, vs)
    | some (.lkd ks vs) => some (ks, vs)
    | _ => none
  | _ => none
/-- x in y -/
def signOf : D → Option Nat
  | .str c => match c.cps.toList with
    | [k] => some k
    | _ => none
  | _ => none
def inSeq (x : D) (ys : List D) : Option Bool := if flatD x && ys.all flatD then some (ys.any fun z => flatEq z x) else none
def inD (G : Hd) (x y : D) : Option Bool := match y with
  | .str z => (signOf x).map fun k => decide (k ∈ z.cps.toList)
  | y => match dictOf G y with
    | some (ks, vs) => if keyD x then some (dictGet ks vs x).isSome else none
    | none => (seqD G y).bind (inSeq x)
def ixSeq (xs : List D) : D → Option D
  | .int j => (L2.ixN xs.length j).bind fun k => xs[k]?
  | _ => none
def ixD (G : Hd) (a i : D) : Option D := match a with
  | .str x => match i with
    | .int j => if x.length ≤ line then (L2.ixN x.length j).bind fun k => x.cps.toList[k]?.map fun c => .str ⟨#[c]⟩ else none
    | _ => none
  | a => match dictOf G a with
    | some (ks, vs) => if keyD i then dictGet ks vs i else none
    | none => (seqD G a).bind fun xs => ixSeq xs i
def isNonD : D → Bool
  | .non => true
  | _ => false
def cmpD (G : Hd) : COp → D → D → Option Bool
  | .eq, x, y => eqD G x y
  | .ne, x, y => (eqD G x y).map (!·)
  | .lt, .int i, .int j => some (decide (i < j))
  | .le, .int i, .int j => some (decide (i ≤ j))
  | .gt, .int i, .int j => some (decide (j < i))
  | .ge, .int i, .int j => some (decide (j ≤ i))
  | .lt, .str x, .str y => some (decide (x.cps.toList < y.cps.toList))
  | .isn, x, .non => some (isNonD x)
  | .notn, x, .non => some (!isNonD x)
  | .isin, x, y => inD G x y
  | .nin, x, y => (inD G x y).map (!·)
  | _, _, _ => none

def cutD (xs : List D) (lo hi : Option Int) : List D := (xs.drop (HT.sIx xs.length 0 lo)).take (HT.sIx xs.length xs.length hi - HT.sIx xs.length 0 lo)
def slD (G : Hd) (a : D) (lo hi : Option Int) : Option D := match a with
  | .tup xs => some (.tup (cutD xs lo hi))
  | a => (listD G a).map fun xs => .lst (cutD xs lo hi)

def typeD (G : Hd) : D → Option String
  | .non => some "NoneType"
  | .bl _ => some "bool"
  | .int _ => some "int"
  | .str _ => some "str"
  | .tup _ => some "tuple"
  | .lst _ => some "list"
  | .dct _ _ => some "dict"
  | .ref i => match G[i]? with
    | some (.lst _) => some "list"
    | some (.dct _ _) => some "dict"
    | some (.lkd _ _) => some "dict"
    | _ => none
  | _ => none
def isiD (t n : String) : Option Bool := if ["int", "bool", "str", "tuple", "list"].contains n then some (t == n || (t == "bool" && n == "int")) else none

def boolsD : List D → Option (List Bool)
  | [] => some []
  | .bl b :: r => (boolsD r).map (b :: ·)
  | _ :: _ => none
def intsD : List D → Option (List Int)
  | [] => some []
  | .int i :: r => (intsD r).map (i :: ·)
  | _ :: _ => none

def arg1 (f : D → Option D) : List D → Option D
  | [x] => f x
  | _ => none
def arg2 (f : D → D → Option D) : List D → Option D
  | [x, y] => f x y
  | _ => none
def intD : D → Option Int
  | .int i => some i
  | _ => none
def absD : D → Option D
  | .int i => some (.int (if i < 0 then -i else i))
  | _ => none
def tyD : D → Option String
  | .ty n => some n
  | _ => none
def biD (G : Hd) (o : BI) (as : List D) : Option D := match o with
  | .len => arg1 (fun x => (lenD G x).map fun (n : Nat) => .int (n : Int)) as
  | .abs => arg1 absD as
  | .isi => arg2 (fun x y => (tyD y).bind fun n => (typeD G x).bind fun t => (isiD t n).map .bl) as
  | .all => arg1 (fun x => ((listD G x).bind boolsD).map fun bs => .bl (bs.all id)) as
  | .any => arg1 (fun x => ((listD G x).bind boolsD).map fun bs => .bl (bs.any id)) as
  | .tuple => arg1 (fun x => (seqD G x).map .tup) as
  | .list => arg1 (fun x => (seqD G x).map .lst) as
  | _ => none

/-! ### targets -/
def bindT : MT → D → Tau → Option Tau
  | .nam i, d, τ => some (τ.set i (some d))
  | .tp0, .tup [], τ => some τ
  | .tpc t r, .tup (d :: ds), τ => (bindT t d τ).bind fun τ' => bindT r (.tup ds) τ'
  | _, _, _ => none
def wipeD (τ : Tau) : List Nat → Tau
  | [] => τ
  | v :: vs => (wipeD τ vs).set v none

def lift {α : Type} (o : Option α) (G : Hd) : Out α := match o with
  | some a => .ok a G
  | none => .bad
@[simp] theorem lift_some {α : Type} (a : α) (G : Hd) : lift (some a) G = .ok a G := rfl
@[simp] theorem lift_none {α : Type} (G : Hd) : lift (none : Option α) G = .bad := rfl

/-- what a loop walks -/
inductive DI where
  | items (ds : List D) | dyn (i : Nat) | lock (i : Nat) (ks vs : List D)

/-- a comprehension over written items -/
def lcGo (turn : D → Hd → Out (Option D)) : List D → List D → Hd → Out (List D)
  | [], acc, G => .ok acc G
  | x :: xs, acc, G => (turn x G).then fun r G' => match r with
    | some y => lcGo turn xs (acc ++ [y]) G'
    | none => lcGo turn xs acc G'
/-- .. over a list that may change -/
def lcDyn (turn : D → Hd → Out (Option D)) (i : Nat) : Nat → Nat → List D → Hd → Out (List D)
  | 0, k, acc, G => match G[i]? with
    | some (.lst ds) => if ds.length ≤ k then .ok acc G else .bad
    | _ => .bad
  | n + 1, k, acc, G => match G[i]? with
    | some (.lst ds) => match ds[k]? with
      | some x => (turn x G).then fun r G' => match r with
        | some y => lcDyn turn i n (k + 1) (acc ++ [y]) G'
        | none => lcDyn turn i n (k + 1) acc G'
      | none => .bad
    | _ => .bad
def nolim : Str := Str.empty
def noexc {α : Type} : Out α → Out α
  | .exc _ _ => .bad
  | o => o
@[simp] theorem noexc_ok {α : Type} (a : α) (G : Hd) : noexc (.ok a G) = .ok a G := rfl
@[simp] theorem noexc_bad {α : Type} : noexc (.bad : Out α) = .bad := rfl
@[simp] theorem noexc_exc {α : Type} (c : Str) (G : Hd) : noexc (.exc c G : Out α) = .bad := rfl

def rangeD (a b : Int) : Option (List D) := if -(2 ^ 62) ≤ a ∧ a < 2 ^ 62 ∧ -(2 ^ 62) ≤ b ∧ b < 2 ^ 62 then some ((List.range (b - a).toNat).map fun (k : Nat) => .int (a + k)) else none
def enumFrom : Nat → List D → List D
  | _, [] => []
  | k, d :: ds => .tup [.int k, d] :: enumFrom (k + 1) ds
def zipD : List D → List D → List D
  | a :: as, b :: bs => .tup [a, b] :: zipD as bs
  | _, _ => []
/-- what stands still -/
def stillD : D → Option (List D)
  | .tup xs => some xs
  | .lst xs => some xs
  | _ => none
def zip2D : D → D → Option (List D)
  | .tup xs, .tup ys => some (zipD xs ys)
  | .lst xs, .lst ys => some (zipD xs ys)
  | _, _ => none
def zip3L : List D → List D → List D → List D
  | a :: as, b :: bs, c :: cs => .tup [a, b, c] :: zip3L as bs cs
  | _, _, _ => []
def zip3D : D → D → D → Option (List D)
  | .lst xs, .lst ys, .lst zs => some (zip3L xs ys zs)
  | _, _, _ => none
def revD : D → Option D
  | .tup xs => some (.tup xs.reverse)
  | _ => none
def iterD (G : Hd) : D → Option DI
  | .ref i => match G[i]? with
    | some (.lst _) => some (.dyn i)
    | _ => none
  | .str x => some (.items (x.cps.toList.map fun c => .str ⟨#[c]⟩))
  | d => (stillD d).map .items

/-- a value that holds no object that may change -/
def closed (n : Nat) : D → Bool
  | .tup xs => closeds n xs
  | .lst xs => closeds n xs
  | .dct ks vs => closeds n ks && closeds n vs
  | .ins _ _ vs => closeds n vs
  | .ref i => decide (i < n)
  | _ => true
where closeds (n : Nat) : List D → Bool
  | [] => true
  | d :: ds => closed n d && closeds n ds

abbrev Fn := Str → List D → Hd → Out D

def objOf : D → Option DO
  | .lst xs => some (.lst xs)
  | .dct ks vs => some (.dct ks vs)
  | _ => none
def allocD (d : D) (G : Hd) : Out D := match objOf d with
  | some o => .ok (.ref G.length) (G ++ [o])
  | none => .bad
/-- a store into the object i: below the base what is stored holds no such object -/
def storeOk (b i : Nat) (d : D) : Bool := decide (b ≤ i) || closed 0 d
def appendD (b : Nat) (o x : D) (G : Hd) : Out D := match o with
  | .ref i => match G[i]? with
    | some (.lst xs) => if storeOk b i x && decide (xs.length < line) then .ok .non (G.set i (.lst (xs ++ [x]))) else .bad
    | _ => .bad
  | _ => .bad
def putD (b : Nat) (o k x : D) (G : Hd) : Out Unit := match o with
  | .ref i => match G[i]? with
    | some (.dct ks vs) => if storeOk b i x && keyD k && decide (ks.length < line) then .ok () (G.set i (.dct (dictPut ks vs k x).1 (dictPut ks vs k x).2)) else .bad
    | some (.lst xs) => match k with
      | .int j => match L2.ixN xs.length j with
        | some n => if storeOk b i x then .ok () (G.set i (.lst (xs.set n x))) else .bad
        | none => .bad
      | _ => .bad
    | _ => .bad
  | _ => .bad
def getD (G : Hd) (o k d : D) : Option D := match dictOf G o with
  | some (ks, vs) => if keyD k then some ((dictGet ks vs k).getD d) else none
  | none => none

/-- a class of the program's own over another -/
def excD (ns : List Str) : D → Str → Option Bool
  | .exc n, c => if ns.contains n then some (n == c || c == ("UnitError" : Str) || c == ("ValueError" : Str)) else none
  | _, _ => none
/-- one dict's pairs into another -/
def mergeD : List D → List D → List D × List D → List D × List D
  | k :: ks, v :: vs, acc => mergeD ks vs (dictPut acc.1 acc.2 k v)
  | _, _, acc => acc
def updD (b : Nat) (o x : D) (G : Hd) : Out D := match o with
  | .ref i => match G[i]? with
    | some (.dct ks vs) => match x with
      | .dct ks2 vs2 => if (vs2.all fun v => storeOk b i v) && decide (ks.length + ks2.length < line) then .ok .non (G.set i (.dct (mergeD ks2 vs2 (ks, vs)).1 (mergeD ks2 vs2 (ks, vs)).2)) else .bad
      | _ => .bad
    | _ => .bad
  | _ => .bad
def plainDict (G : Hd) : D → Bool
  | .ref i => match G[i]? with
    | some (.dct _ _) => true
    | _ => false
  | _ => false
def keysD (ks : List D) : Bool := ks.all keyD
def dzipD : D → D → Option D
  | .tup ks, .tup vs => if keysD ks && decide (ks.length ≤ 1000) then some (.dct (mergeD ks vs ([], [])).1 (mergeD ks vs ([], [])).2) else none
  | _, _ => none
def pairD : List D → Option (List D × List D)
  | [] => some ([], [])
  | .tup [k, v] :: r => if keyD k then (pairD r).map fun q => (k :: q.1, v :: q.2) else none
  | _ :: _ => none
def dpairsD (G : Hd) (d : D) : Option D := (listD G d).bind fun xs => (pairD xs).map fun q => .dct (mergeD q.1 q.2 ([], [])).1 (mergeD q.1 q.2 ([], [])).2
def resName : Str := "_law_result"
def resX : Str := "_law_result!"
/-- pairs written in a display -/
def dispD : List D → List D × List D → Option (List D × List D)
  | k :: v :: r, acc => if keyD k then dispD r (dictPut acc.1 acc.2 k v) else none
  | [], acc => some acc
  | _, _ => none

mutual
def evE (Φ : Fn) (b : Nat) : ME → Tau → Hd → Out D
  | .var i, τ, G => match τ[i]? with
    | some (some d) => .ok d G
    | _ => .bad
  | .con d, _, G => .ok d G
  | .tup es, τ, G => (evEs Φ b es τ G).then fun ds G => .ok (.tup ds) G
  | .lst es, τ, G => (evEs Φ b es τ G).then fun ds G => .ok (.lst ds) G
  | .dct kvs, τ, G => (evEs Φ b kvs τ G).then fun ds G => lift ((dispD ds ([], [])).map fun q => .dct q.1 q.2) G
  | .alloc e, τ, G => (evE Φ b e τ G).then allocD
  | .bin o x y, τ, G => (evE Φ b x τ G).then fun x G => (evE Φ b y τ G).then fun y G => lift (binD G o x y) G
  | .neg x, τ, G => (evE Φ b x τ G).then fun x G => lift ((intD x).map fun i => .int (-i)) G
  | .not x, τ, G => (evE Φ b x τ G).then fun x G => lift ((truD G x).map fun k => .bl (!k)) G
  | .and x y, τ, G => (evE Φ b x τ G).then fun x G => match x with
    | .bl true => evE Φ b y τ G
    | .bl false => .ok (.bl false) G
    | _ => .bad
  | .or x y, τ, G => (evE Φ b x τ G).then fun x G => match x with
    | .bl true => .ok (.bl true) G
    | .bl false => evE Φ b y τ G
    | _ => .bad
  | .ifx c x y, τ, G => (evT Φ b c τ G).then fun k G => if k then evE Φ b x τ G else evE Φ b y τ G
  | .cmp o x y, τ, G => (evE Φ b x τ G).then fun x G => (evE Φ b y τ G).then fun y G => lift ((cmpD G o x y).map .bl) G
  | .chain o p x y z, τ, G => (evE Φ b x τ G).then fun x G => (evE Φ b y τ G).then fun y G => match cmpD G o x y with
    | some true => (evE Φ b z τ G).then fun z G => lift ((cmpD G p y z).map .bl) G
    | some false => .ok (.bl false) G
    | none => .bad
  | .ix x i, τ, G => (evE Φ b x τ G).then fun x G => (evE Φ b i τ G).then fun i G => lift (ixD G x i) G
  | .sl x lo hi, τ, G => (evE Φ b x τ G).then fun x G => (evO Φ b lo τ G).then fun lo G => (evO Φ b hi τ G).then fun hi G => lift (slD G x lo hi) G
  | .call f es, τ, G => (evEs Φ b es τ G).then fun ds G => Φ f ds G
  | .bi f es, τ, G => (evEs Φ b es τ G).then fun ds G => lift (biD G f ds) G
  | .get o k d, τ, G => (evE Φ b o τ G).then fun o G => match dictOf G o with
    | some _ => (evE Φ b k τ G).then fun k G => (evE Φ b d τ G).then fun d G => lift (getD G o k d) G
    | none => .bad
  | .append o e, τ, G => (evE Φ b o τ G).then fun o G => match listD G o with
    | some _ => (evE Φ b e τ G).then fun x G => appendD b o x G
    | none => .bad
  | .extend o e, τ, G => .bad
  | .catch e ns, τ, G => match evE Φ b e τ G with
    | .ok d G => noexc (Φ resName [.non, d] G)
    | .exc c G => if ns.contains c then noexc (Φ resX [.exc c] G) else .bad
    | .bad => .bad
  | .isE e c ns, τ, G => (evE Φ b e τ G).then fun x G => lift ((excD ns x c).map .bl) G
  | .update o e, τ, G => (evE Φ b o τ G).then fun o G => if plainDict G o then (evE Φ b e τ G).then fun x G => updD b o x G else .bad
  | .dzip x y, τ, G => (evE Φ b x τ G).then fun x G => (evE Φ b y τ G).then fun y G => lift (dzipD x y) G
  | .dpairs x, τ, G => (evE Φ b x τ G).then fun x G => lift (dpairsD G x) G
  | .rev x, τ, G => (evE Φ b x τ G).then fun x G => lift (revD x) G
  | .lc e t it c own, τ, G => (evI Φ b it τ G).then fun J G =>
    let turn : D → Hd → Out (Option D) := fun x G => match bindT t x (wipeD τ own) with
      | some τ' => noexc ((evT Φ b c τ' G).then fun k G => if k then (evE Φ b e τ' G).then fun y G => .ok (some y) G else .ok none G)
      | none => .bad
    (match J with
    | .items ds => if ds.length ≤ line then lcGo turn ds [] G else .bad
    | .dyn i => match G[i]? with
      | some (.lst ds) => if ds.length ≤ line then lcDyn turn i ds.length 0 [] G else .bad
      | _ => .bad
    | .lock i ks vs => if ks.length ≤ line then (lcGo turn ks [] (G.set i (.lkd ks vs))).then fun ds G => .ok ds (G.set i (.dct ks vs)) else .bad).then fun ds G => .ok (.lst ds) G
def evO (Φ : Fn) (b : Nat) : MO → Tau → Hd → Out (Option Int)
  | .no, _, G => .ok none G
  | .yes e, τ, G => (evE Φ b e τ G).then fun x G => lift ((intD x).map some) G
def evT (Φ : Fn) (b : Nat) : MB → Tau → Hd → Out Bool
  | .not x, τ, G => (evT Φ b x τ G).then fun k G => .ok (!k) G
  | .and x y, τ, G => (evT Φ b x τ G).then fun k G => if k then evT Φ b y τ G else .ok false G
  | .or x y, τ, G => (evT Φ b x τ G).then fun k G => if k then .ok true G else evT Φ b y τ G
  | .ifx c x y, τ, G => (evT Φ b c τ G).then fun k G => if k then evT Φ b x τ G else evT Φ b y τ G
  | .val e, τ, G => (evE Φ b e τ G).then fun x G => lift (truD G x) G
  | .yes, _, G => .ok true G
def evEs (Φ : Fn) (b : Nat) : MEs → Tau → Hd → Out (List D)
  | .nil, _, G => .ok [] G
  | .cons e es, τ, G => (evE Φ b e τ G).then fun d G => (evEs Φ b es τ G).then fun ds G => .ok (d :: ds) G
def evI (Φ : Fn) (b : Nat) : MI → Tau → Hd → Out DI
  | .val e, τ, G => (evE Φ b e τ G).then fun x G => lift (iterD G x) G
  | .rng1 x, τ, G => (evE Φ b x τ G).then fun x G => lift (((intD x).bind fun n => rangeD 0 n).map .items) G
  | .rng2 x y, τ, G => (evE Φ b x τ G).then fun x G => (evE Φ b y τ G).then fun y G => lift (((intD x).bind fun a => (intD y).bind fun n => rangeD a n).map .items) G
  | .enum e, τ, G => (evE Φ b e τ G).then fun x G => lift ((stillD x).map fun ds => .items (enumFrom 0 ds)) G
  | .zip x y, τ, G => (evE Φ b x τ G).then fun x G => (evE Φ b y τ G).then fun y G => lift ((zip2D x y).map .items) G
  | .zip3 x y z, τ, G => (evE Φ b x τ G).then fun x G => (evE Φ b y τ G).then fun y G => (evE Φ b z τ G).then fun z G => lift ((zip3D x y z).map .items) G
  | .keys i, τ, G => match τ[i]? with
    | some (some (.ref j)) => match G[j]? with
      | some (.dct ks vs) => .ok (.lock j ks vs) G
      | _ => .bad
    | _ => .bad
  | .lkeys i, τ, G => match τ[i]? with
    | some (some (.ref j)) => match G[j]? with
      | some (.lkd ks vs) => .ok (.items ks) G
      | _ => .bad
    | _ => .bad
end

/-! ### statements -/
inductive Fl where
  | nx (τ : Tau) | rt (d : D) | bk (τ : Tau) | ct (τ : Tau)

/-- a loop's turn: what goes on, or the loop's end -/
def forGo (turn : D → Tau → Hd → Out Fl) : List D → Tau → Hd → Out Fl
  | [], τ, G => .ok (.nx τ) G
  | x :: xs, τ, G => (turn x τ G).then fun f G' => match f with
    | .nx τ' => forGo turn xs τ' G'
    | .ct τ' => forGo turn xs τ' G'
    | .bk τ' => .ok (.nx τ') G'
    | .rt d => .ok (.rt d) G'
def forDyn (turn : D → Tau → Hd → Out Fl) (i : Nat) : Nat → Nat → Tau → Hd → Out Fl
  | 0, k, τ, G => match G[i]? with
    | some (.lst ds) => if ds.length ≤ k then .ok (.nx τ) G else .bad
    | _ => .bad
  | n + 1, k, τ, G => match G[i]? with
    | some (.lst ds) => match ds[k]? with
      | some x => (turn x τ G).then fun f G' => match f with
        | .nx τ' => forDyn turn i n (k + 1) τ' G'
        | .ct τ' => forDyn turn i n (k + 1) τ' G'
        | .bk τ' => .ok (.nx τ') G'
        | .rt d => .ok (.rt d) G'
      | none => .bad
    | _ => .bad
def whileGo (test : Tau → Hd → Out Bool) (body : Tau → Hd → Out Fl) : Nat → Tau → Hd → Out Fl
  | 0, _, _ => .bad
  | n + 1, τ, G => (test τ G).then fun k G => if k then (body τ G).then fun f G => match f with
      | .nx τ' => whileGo test body n τ' G
      | .ct τ' => whileGo test body n τ' G
      | .bk τ' => .ok (.nx τ') G
      | .rt d => .ok (.rt d) G
    else .ok (.nx τ) G
def setAll : List Nat → List D → Tau → Option Tau
  | i :: is, d :: ds, τ => setAll is ds (τ.set i (some d))
  | [], [], τ => some τ
  | _, _, _ => none
def wFuel : Nat := 10000000

mutual
def evS (Φ : Fn) (b : Nat) : MS → Tau → Hd → Out Fl
  | .set t e, τ, G => (evE Φ b e τ G).then fun d G => lift ((bindT t d τ).map .nx) G
  | .par is es, τ, G => (evEs Φ b es τ G).then fun ds G => lift ((setAll is ds τ).map .nx) G
  | .setix o i e, τ, G => (evE Φ b e τ G).then fun d G => (evE Φ b o τ G).then fun o G => (evE Φ b i τ G).then fun i G => (putD b o i d G).then fun _ G => .ok (.nx τ) G
  | .aug i o e, τ, G => match τ[i]? with
    | some (some (.int x)) => (evE Φ b e τ G).then fun y G => match y with
      | .int y => lift ((binD G o (.int x) (.int y)).map fun z => .nx (τ.set i (some z))) G
      | _ => .bad
    | _ => .bad
  | .iff c x y, τ, G => (evT Φ b c τ G).then fun k G => if k then evSs Φ b x τ G else evSs Φ b y τ G
  | .whl c s, τ, G => whileGo (fun τ G => evT Φ b c τ G) (fun τ G => evSs Φ b s τ G) wFuel τ G
  | .forr t it s, τ, G => (evI Φ b it τ G).then fun J G =>
    let turn : D → Tau → Hd → Out Fl := fun x τ G => match bindT t x τ with
      | some τ' => evSs Φ b s τ' G
      | none => .bad
    match J with
    | .items ds => forGo turn ds τ G
    | .dyn i => match G[i]? with
      | some (.lst ds) => forDyn turn i ds.length 0 τ G
      | _ => .bad
    | .lock _ _ _ => .bad
  | .ret e, τ, G => (evE Φ b e τ G).then fun d G => .ok (.rt d) G
  | .exp e, τ, G => (evE Φ b e τ G).then fun _ G => .ok (.nx τ) G
  | .pass, τ, G => .ok (.nx τ) G
  | .never, _, _ => .bad
  | .raise c, _, G => .exc c G
def evSs (Φ : Fn) (b : Nat) : MSs → Tau → Hd → Out Fl
  | .nil, τ, G => .ok (.nx τ) G
  | .cons s ss, τ, G => (evS Φ b s τ G).then fun f G => match f with
    | .nx τ' => evSs Φ b ss τ' G
    | f => .ok f G
end

/-! ### functions -/
/-- what a function hands back: objects of its own that may change are hidden -/
def frz : Nat → Nat → Hd → D → Option D
  | 0, n, _, d => if closed n d then some d else none
  | k + 1, n, G, d => match d with
    | .ref i => if i < n then some (.ref i) else match G[i]? with
      | some (.lst ds) => (ds.mapM (frz k n G)).map .lst
      | some (.dct ks vs) => (vs.mapM (frz k n G)).map (.dct ks)
      | some (.ins c fs vs) => (vs.mapM (frz k n G)).map (.ins c fs)
      | _ => none
    | .tup ds => (ds.mapM (frz k n G)).map .tup
    | d => if closed n d then some d else none

structure FDef where
  n : Nat
  slots : Nat
  keep : Bool
  body : MSs
  /-- places ahead of the arguments that hold nothing plain -/
  pre : Nat := 0
/-- one call: fd's body upon the arguments -/
def callF (Φ : Fn) (fd : FDef) (ds : List D) (G : Hd) : Out D :=
  if ds.length = fd.n then
    match evSs Φ G.length fd.body (List.replicate fd.pre none ++ (ds.map some ++ List.replicate (fd.slots - ds.length) none)) G with
    | .ok (.nx _) G' => .ok .non (G'.take G.length)
    | .ok (.rt d) G' => if fd.keep then .ok d G' else match frz 4 G.length G' d with
      | some d' => .ok d' (G'.take G.length)
      | none => .bad
    | .exc c G' => .exc c (G'.take G.length)
    | _ => .bad
  else .bad
/-- the program: calls at most n deep -/
def run (tbl : List (Str × FDef)) : Nat → Fn
  | 0, _, _, _ => .bad
  | n + 1, f, ds, G => match tbl.lookup f with
    | some fd => callF (run tbl n) fd ds G
    | none => .bad
end U

set_option Elab.async false
set_option linter.all false
set_option maxRecDepth 100000
/-! UB: how plain data stands in the layer's heap. -/
namespace U
open PySem L2

/-- an int or a text as a key -/
def kD : Key → D
  | .inl i => .int i
  | .inr x => .str x

/-- the context: what is written, the module's names, what is wanted of an exception, the base, the bases -/
structure C where
  K : PySem.W.Frag
  mg : Str → Option Value
  EX : Str → Hp → Prop
  b : Nat
  P : Nat → Prop
  /-- things that others are about to change (a comprehension's new list) -/
  Z : List Addr
  /-- tables of code objects, each with its lambdas' name -/
  T : List (Addr × Str)

/-- an exception that was caught: its class -/
def ExcH (cls : Value) (a : Addr) : HO := .ext fun h => ∃ (oe : Obj) (vs : Array Value), h.get? a = some oe ∧ Zc cls none oe ∧ oe.data = .fields vs
section
variable (c : C) (H : Hp) (ρ : List Addr)
mutual
def Rp : D → V → Prop
  | .non, v => v = .non
  | .bl b, v => v = .bl b
  | .int i, v => v = .int i
  | .str x, v => v = .str x
  | .tup ds, v => ∃ a vs, v = .ref a ∧ SqT c.K H a vs ∧ Rps ds vs
  | .lst ds, v => ∃ a vs, v = .ref a ∧ Rd H a (.lst vs) ∧ (a ∉ ρ ∧ a ∉ c.Z) ∧ Rps ds vs
  | .dct ks ds, v => ∃ a kvs, v = .ref a ∧ Rd H a (.dK kvs) ∧ (a ∉ ρ ∧ a ∉ c.Z) ∧ ks = kvs.map (fun p => kD p.1) ∧ Rps ds (kvs.map (·.2))
  | .ins n fs ds, v => ∃ a C dx fvs, v = .ref a ∧ c.mg n = some (.ref C) ∧ Rd H a (.ins C dx fvs) ∧ (a ∉ ρ ∧ a ∉ c.Z) ∧ fs = fvs.map (·.1) ∧ Rps ds (fvs.map (·.2))
  | .ref i, v => ∃ a, ρ[i]? = some a ∧ v = .ref a
  | .ty n, v => v = .ty n
  | .glo x, v => ∃ a, c.mg x = some (.ref a) ∧ v = .ref a
  | .exc n, v => ∃ a C, v = .ref a ∧ c.mg n = some (.ref C) ∧ Rd H a (ExcH (.ref C) a) ∧ (a ∉ ρ ∧ a ∉ c.Z)
def Rps : List D → List V → Prop
  | [], vs => vs = []
  | d :: ds, vs => ∃ v r, vs = v :: r ∧ Rp d v ∧ Rps ds r
end
/-- an object that may change -/
def RepO (a : Addr) : DO → Prop
  | .lst ds => ∃ vs, H a = some (.lst vs) ∧ Rps c H ρ ds vs
  | .dct ks ds => ∃ kvs, H a = some (.dK kvs) ∧ ks = kvs.map (fun p => kD p.1) ∧ Rps c H ρ ds (kvs.map (·.2))
  | .ins n fs ds => ∃ C dx fvs, c.mg n = some (.ref C) ∧ H a = some (.ins C dx fvs) ∧ fs = fvs.map (·.1) ∧ Rps c H ρ ds (fvs.map (·.2))
  | .lkd ks ds => ∃ o kvs, H a = some (.frz o (.dK kvs)) ∧ ks = kvs.map (fun p => kD p.1) ∧ Rps c H ρ ds (kvs.map (·.2))
end

/-- something stands there, no table -/
def Live (H : Hp) (a : Addr) : Prop := ∃ o, H a = some o ∧ ∀ ps, o ≠ .tbl ps
theorem Live.ne {H : Hp} {a : Addr} (h : Live H a) : H a ≠ none := by
  obtain ⟨o, e, _⟩ := h
  rw [e]
  exact fun z => nomatch z
theorem Live.no {H : Hp} {a : Addr} (h : H a = none) : ¬ Live H a := fun z => z.ne h
theorem Live.of {H : Hp} {a : Addr} {o : HO} (h : H a = some o) (n : ∀ ps, o ≠ .tbl ps := by intro _ z; cases z) : Live H a := ⟨o, h, n⟩
/-- what values want of the heap that goes on -/
structure ExtM (c : C) (H : Hp) (ρ : List Addr) (H' : Hp) (ρ' : List Addr) : Prop where
  more : ∃ new, ρ' = ρ ++ new ∧ ∀ a ∈ new, ¬ Live H a
  keep : ∀ a u, a ∉ ρ → a ∉ c.Z → (∀ ps, u ≠ .tbl ps) → Rd H a u → Rd H' a u
  tups : ∀ a xs, Rd H a (.tup xs) → Rd H' a (.tup xs)
/-- the heap goes on: what does not change stays, new objects that may change were not there -/
structure Ext0 (c : C) (H : Hp) (ρ : List Addr) (H' : Hp) (ρ' : List Addr) : Prop where
  more : ∃ new, ρ' = ρ ++ new ∧ ∀ a ∈ new, ¬ Live H a
  keep : ∀ a u, a ∉ ρ → a ∉ c.Z → (∀ ps, u ≠ .tbl ps) → Rd H a u → Rd H' a u
  tups : ∀ a xs, Rd H a (.tup xs) → Rd H' a (.tup xs)
  dom : ∀ a, Live H a → Live H' a
  frzs : ∀ a o u, H a = some (.frz o u) → H' a = some (.frz o u)
structure Ext (c : C) (H : Hp) (ρ : List Addr) (H' : Hp) (ρ' : List Addr) : Prop extends Ext0 c H ρ H' ρ' where
  zs : ∀ a ∈ c.Z, H' a = H a

theorem rdSome {H : Hp} {a : Addr} {u : HO} (h : Rd H a u) (n : ∀ ps, u ≠ .tbl ps := by intro _ z; cases z) : Live H a := by
  rcases h with h | ⟨o, h⟩
  · exact ⟨_, h, n⟩
  · exact ⟨_, h, fun ps z => by cases z⟩

section
variable {c : C} {H H1 H2 : Hp} {ρ ρ1 ρ2 : List Addr}
theorem Ext0.refl : Ext0 c H ρ H ρ := ⟨⟨[], by simp, by simp⟩, fun _ _ _ _ _ h => h, fun _ _ h => h, fun _ h => h, fun _ _ _ h => h⟩
theorem Ext.refl : Ext c H ρ H ρ := ⟨Ext0.refl, fun _ _ => rfl⟩
theorem Ext0.m (e : Ext0 c H ρ H1 ρ1) : ExtM c H ρ H1 ρ1 := ⟨e.more, e.keep, e.tups⟩
theorem ExtM.kp (e : ExtM c H ρ H1 ρ1) {a : Addr} {u : HO} (h : a ∉ ρ) (h' : a ∉ c.Z) (r : Rd H a u) (n : ∀ ps, u ≠ .tbl ps := by intro _ z; cases z) : Rd H1 a u := e.keep a u h h' n r
theorem ExtM.notin (e : ExtM c H ρ H1 ρ1) {a : Addr} (h : a ∉ ρ) (h' : Live H a) : a ∉ ρ1 := by
  obtain ⟨new, rfl, hn⟩ := e.more
  intro z
  rcases List.mem_append.mp z with z | z
  · exact h z
  · exact hn a z h'
theorem Ext0.notin (e : Ext0 c H ρ H1 ρ1) {a : Addr} (h : a ∉ ρ) (h' : Live H a) : a ∉ ρ1 := e.m.notin h h'
theorem Ext0.kp (e : Ext0 c H ρ H1 ρ1) {a : Addr} {u : HO} (h : a ∉ ρ) (h' : a ∉ c.Z) (r : Rd H a u) (n : ∀ ps, u ≠ .tbl ps := by intro _ z; cases z) : Rd H1 a u := e.keep a u h h' n r
theorem Ext0.trans (e : Ext0 c H ρ H1 ρ1) (f : Ext0 c H1 ρ1 H2 ρ2) : Ext0 c H ρ H2 ρ2 := by
  refine ⟨?_, fun a u h hz n r => f.keep a u (e.notin h (rdSome r n)) hz n (e.keep a u h hz n r), fun a xs r => f.tups a xs (e.tups a xs r), fun a h => f.dom a (e.dom a h), fun a o u h => f.frzs a o u (e.frzs a o u h)⟩
  obtain ⟨n1, rfl, h1⟩ := e.more
  obtain ⟨n2, rfl, h2⟩ := f.more
  refine ⟨n1 ++ n2, by rw [List.append_assoc], fun a h => ?_⟩
  rcases List.mem_append.mp h with h | h
  · exact h1 a h
  · exact fun z => h2 a h (e.dom a z)
theorem Ext.trans (e : Ext c H ρ H1 ρ1) (f : Ext c H1 ρ1 H2 ρ2) : Ext c H ρ H2 ρ2 := ⟨e.toExt0.trans f.toExt0, fun a h => (f.zs a h).trans (e.zs a h)⟩
theorem ExtM.get (e : ExtM c H ρ H1 ρ1) {i : Nat} {a : Addr} (h : ρ[i]? = some a) : ρ1[i]? = some a := by
  obtain ⟨n1, rfl, _⟩ := e.more
  rw [List.getElem?_append_left (List.getElem?_eq_some_iff.mp h).1]
  exact h
theorem ExtM.sqT {K : PySem.W.Frag} (e : ExtM c H ρ H1 ρ1) {a : Addr} {xs : List V} (h : SqT K H a xs) : SqT K H1 a xs := by
  rcases h with h | h
  · exact .inl (e.tups a xs h)
  · exact .inr h
theorem Ext0.get (e : Ext0 c H ρ H1 ρ1) {i : Nat} {a : Addr} (h : ρ[i]? = some a) : ρ1[i]? = some a := e.m.get h
theorem Ext0.sqT {K : PySem.W.Frag} (e : Ext0 c H ρ H1 ρ1) {a : Addr} {xs : List V} (h : SqT K H a xs) : SqT K H1 a xs := e.m.sqT h
end

theorem keysClosed {n : Nat} : ∀ (kvs : List (Key × V)), closed.closeds n (kvs.map (fun p => kD p.1)) = true
  | [] => rfl
  | (.inl i, v) :: r => Bool.and_eq_true_iff.mpr ⟨rfl, keysClosed r⟩
  | (.inr i, v) :: r => Bool.and_eq_true_iff.mpr ⟨rfl, keysClosed r⟩
section
variable {c : C} {H H1 : Hp} {ρ ρ1 : List Addr}
mutual
theorem Rp.monoM (e : ExtM c H ρ H1 ρ1) : ∀ (d : D) (v : V), Rp c H ρ d v → Rp c H1 ρ1 d v
  | .non, _, h => h
  | .bl _, _, h => h
  | .int _, _, h => h
  | .str _, _, h => h
  | .ty _, _, h => h
  | .glo _, _, h => h
  | .exc n, v, h => by
    unfold Rp at h ⊢
    obtain ⟨a, C, r, m, s, n⟩ := h
    exact ⟨a, C, r, m, e.kp n.1 n.2 s, ⟨e.notin n.1 (rdSome s), n.2⟩⟩
  | .ref i, v, h => by
    unfold Rp at h ⊢
    obtain ⟨a, ha, r⟩ := h
    exact ⟨a, e.get ha, r⟩
  | .tup ds, v, h => by
    unfold Rp at h ⊢
    obtain ⟨a, vs, r, s, t⟩ := h
    exact ⟨a, vs, r, e.sqT s, Rps.monoM e ds vs t⟩
  | .lst ds, v, h => by
    unfold Rp at h ⊢
    obtain ⟨a, vs, r, s, n, t⟩ := h
    exact ⟨a, vs, r, e.kp n.1 n.2 s, ⟨e.notin n.1 (rdSome s), n.2⟩, Rps.monoM e ds vs t⟩
  | .dct ks ds, v, h => by
    unfold Rp at h ⊢
    obtain ⟨a, kvs, r, s, n, k, t⟩ := h
    exact ⟨a, kvs, r, e.kp n.1 n.2 s, ⟨e.notin n.1 (rdSome s), n.2⟩, k, Rps.monoM e ds _ t⟩
  | .ins nm fs ds, v, h => by
    unfold Rp at h ⊢
    obtain ⟨a, C, dx, fvs, r, m, s, n, k, t⟩ := h
    exact ⟨a, C, dx, fvs, r, m, e.kp n.1 n.2 s, ⟨e.notin n.1 (rdSome s), n.2⟩, k, Rps.monoM e ds _ t⟩
theorem Rps.monoM (e : ExtM c H ρ H1 ρ1) : ∀ (ds : List D) (vs : List V), Rps c H ρ ds vs → Rps c H1 ρ1 ds vs
  | [], _, h => h
  | d :: ds, vs, h => by
    unfold Rps at h ⊢
    obtain ⟨v, r, x, y, z⟩ := h
    exact ⟨v, r, x, Rp.monoM e d v y, Rps.monoM e ds r z⟩
end
theorem Rp.mono0 (e : Ext0 c H ρ H1 ρ1) (d : D) (v : V) (h : Rp c H ρ d v) : Rp c H1 ρ1 d v := Rp.monoM e.m d v h
theorem Rps.mono0 (e : Ext0 c H ρ H1 ρ1) (ds : List D) (vs : List V) (h : Rps c H ρ ds vs) : Rps c H1 ρ1 ds vs := Rps.monoM e.m ds vs h
theorem Rp.mono (e : Ext c H ρ H1 ρ1) (d : D) (v : V) (h : Rp c H ρ d v) : Rp c H1 ρ1 d v := Rp.mono0 e.toExt0 d v h
theorem Rps.mono (e : Ext c H ρ H1 ρ1) (ds : List D) (vs : List V) (h : Rps c H ρ ds vs) : Rps c H1 ρ1 ds vs := Rps.mono0 e.toExt0 ds vs h
mutual
theorem Rp.closed : ∀ (d : D) (v : V), Rp c H ρ d v → closed ρ.length d = true
  | .non, _, _ => rfl
  | .bl _, _, _ => rfl
  | .int _, _, _ => rfl
  | .str _, _, _ => rfl
  | .ty _, _, _ => rfl
  | .glo _, _, _ => rfl
  | .exc _, _, _ => rfl
  | .ref i, v, h => by
    unfold Rp at h
    obtain ⟨a, ha, _⟩ := h
    exact decide_eq_true (List.getElem?_eq_some_iff.mp ha).1
  | .tup ds, v, h => by
    unfold Rp at h
    obtain ⟨a, vs, _, _, t⟩ := h
    exact Rps.closed ds vs t
  | .lst ds, v, h => by
    unfold Rp at h
    obtain ⟨a, vs, _, _, _, t⟩ := h
    exact Rps.closed ds vs t
  | .dct ks ds, v, h => by
    unfold Rp at h
    obtain ⟨a, kvs, _, _, _, k, t⟩ := h
    subst k
    exact Bool.and_eq_true_iff.mpr ⟨keysClosed kvs, Rps.closed ds _ t⟩
  | .ins nm fs ds, v, h => by
    unfold Rp at h
    obtain ⟨a, C, dx, fvs, _, _, _, _, _, t⟩ := h
    exact Rps.closed ds _ t
theorem Rps.closed : ∀ (ds : List D) (vs : List V), Rps c H ρ ds vs → closed.closeds ρ.length ds = true
  | [], _, _ => rfl
  | d :: ds, vs, h => by
    unfold Rps at h
    obtain ⟨v, r, _, y, z⟩ := h
    exact Bool.and_eq_true_iff.mpr ⟨Rp.closed d v y, Rps.closed ds r z⟩
end
end

/-! ### cutting the objects that may change -/
theorem take_get {α : Type} {l : List α} {n i : Nat} (h : i < n) : (l.take n)[i]? = l[i]? := by
  rw [List.getElem?_take, if_pos h]
section
variable {c : C} {H : Hp} {ρ : List Addr} {n : Nat}
mutual
theorem Rp.cut : ∀ (d : D) (v : V), closed n d = true → Rp c H ρ d v → Rp c H (ρ.take n) d v
  | .non, _, _, h => h
  | .bl _, _, _, h => h
  | .int _, _, _, h => h
  | .str _, _, _, h => h
  | .ty _, _, _, h => h
  | .glo _, _, _, h => h
  | .exc n, v, _, h => by
    unfold Rp at h ⊢
    obtain ⟨a, C, r, q, s, m⟩ := h
    exact ⟨a, C, r, q, s, ⟨fun z => m.1 (List.mem_of_mem_take z), m.2⟩⟩
  | .ref i, v, k, h => by
    unfold Rp at h ⊢
    obtain ⟨a, ha, r⟩ := h
    exact ⟨a, by rw [take_get (of_decide_eq_true k)]; exact ha, r⟩
  | .tup ds, v, k, h => by
    unfold Rp at h ⊢
    obtain ⟨a, vs, r, s, t⟩ := h
    exact ⟨a, vs, r, s, Rps.cut ds vs k t⟩
  | .lst ds, v, k, h => by
    unfold Rp at h ⊢
    obtain ⟨a, vs, r, s, m, t⟩ := h
    exact ⟨a, vs, r, s, ⟨fun z => m.1 (List.mem_of_mem_take z), m.2⟩, Rps.cut ds vs k t⟩
  | .dct ks ds, v, k, h => by
    unfold Rp at h ⊢
    obtain ⟨a, kvs, r, s, m, q, t⟩ := h
    exact ⟨a, kvs, r, s, ⟨fun z => m.1 (List.mem_of_mem_take z), m.2⟩, q, Rps.cut ds _ (Bool.and_eq_true_iff.mp k).2 t⟩
  | .ins nm fs ds, v, k, h => by
    unfold Rp at h ⊢
    obtain ⟨a, C, dx, fvs, r, q, s, m, j, t⟩ := h
    exact ⟨a, C, dx, fvs, r, q, s, ⟨fun z => m.1 (List.mem_of_mem_take z), m.2⟩, j, Rps.cut ds _ k t⟩
theorem Rps.cut : ∀ (ds : List D) (vs : List V), closed.closeds n ds = true → Rps c H ρ ds vs → Rps c H (ρ.take n) ds vs
  | [], _, _, h => h
  | d :: ds, vs, k, h => by
    unfold Rps at h ⊢
    obtain ⟨v, r, x, y, z⟩ := h
    obtain ⟨k1, k2⟩ := Bool.and_eq_true_iff.mp k
    exact ⟨v, r, x, Rp.cut d v k1 y, Rps.cut ds r k2 z⟩
end
end
def closedO (n : Nat) : DO → Bool
  | .lst ds => closed.closeds n ds
  | .dct ks ds => closed.closeds n ds
  | .ins _ _ ds => closed.closeds n ds
  | .lkd ks ds => closed.closeds n ds
mutual
theorem closed_le {m n : Nat} (h : m ≤ n) : ∀ d : D, closed m d = true → closed n d = true
  | .non, _ => rfl
  | .bl _, _ => rfl
  | .int _, _ => rfl
  | .str _, _ => rfl
  | .ty _, _ => rfl
  | .glo _, _ => rfl
  | .exc _, _ => rfl
  | .ref i, k => decide_eq_true (Nat.lt_of_lt_of_le (of_decide_eq_true k) h)
  | .tup ds, k => closeds_le h ds k
  | .lst ds, k => closeds_le h ds k
  | .ins _ _ ds, k => closeds_le h ds k
  | .dct ks ds, k => Bool.and_eq_true_iff.mpr ⟨closeds_le h ks (Bool.and_eq_true_iff.mp k).1, closeds_le h ds (Bool.and_eq_true_iff.mp k).2⟩
theorem closeds_le {m n : Nat} (h : m ≤ n) : ∀ ds : List D, closed.closeds m ds = true → closed.closeds n ds = true
  | [], _ => rfl
  | d :: ds, k => Bool.and_eq_true_iff.mpr ⟨closed_le h d (Bool.and_eq_true_iff.mp k).1, closeds_le h ds (Bool.and_eq_true_iff.mp k).2⟩
end
theorem closeds_append {n : Nat} : ∀ {xs ys : List D}, closed.closeds n xs = true → closed.closeds n ys = true → closed.closeds n (xs ++ ys) = true
  | [], _, _, h => h
  | d :: ds, ys, k, h => Bool.and_eq_true_iff.mpr ⟨(Bool.and_eq_true_iff.mp k).1, closeds_append (Bool.and_eq_true_iff.mp k).2 h⟩
theorem closeds_set {n : Nat} {x : D} (h : closed n x = true) : ∀ {xs : List D} (i : Nat), closed.closeds n xs = true → closed.closeds n (xs.set i x) = true
  | [], _, k => k
  | d :: ds, 0, k => Bool.and_eq_true_iff.mpr ⟨h, (Bool.and_eq_true_iff.mp k).2⟩
  | d :: ds, i + 1, k => Bool.and_eq_true_iff.mpr ⟨(Bool.and_eq_true_iff.mp k).1, closeds_set h i (Bool.and_eq_true_iff.mp k).2⟩

/-! ### lists of values -/
section
variable {c : C} {H : Hp} {ρ : List Addr}
theorem Rps.nil : Rps c H ρ [] [] := by unfold Rps; rfl
theorem Rps.cons {d : D} {ds : List D} {v : V} {vs : List V} (h : Rp c H ρ d v) (t : Rps c H ρ ds vs) : Rps c H ρ (d :: ds) (v :: vs) := by
  unfold Rps
  exact ⟨v, vs, rfl, h, t⟩
theorem Rps.of_cons {d : D} {ds : List D} {vs : List V} (h : Rps c H ρ (d :: ds) vs) : ∃ v r, vs = v :: r ∧ Rp c H ρ d v ∧ Rps c H ρ ds r := by
  unfold Rps at h
  exact h
theorem Rps.of_nil {vs : List V} (h : Rps c H ρ [] vs) : vs = [] := by
  unfold Rps at h
  exact h
theorem Rps.length : ∀ {ds : List D} {vs : List V}, Rps c H ρ ds vs → vs.length = ds.length
  | [], vs, h => by rw [h.of_nil]; rfl
  | d :: ds, vs, h => by
    obtain ⟨v, r, rfl, _, t⟩ := h.of_cons
    rw [List.length_cons, List.length_cons, Rps.length t]
theorem Rps.get : ∀ {ds : List D} {vs : List V} {i : Nat} {d : D}, Rps c H ρ ds vs → ds[i]? = some d → ∃ v, vs[i]? = some v ∧ Rp c H ρ d v
  | [], _, _, _, _, e => by simp at e
  | d :: ds, vs, 0, x, h, e => by
    obtain ⟨v, r, rfl, y, _⟩ := h.of_cons
    simp at e
    subst e
    exact ⟨v, rfl, y⟩
  | d :: ds, vs, i + 1, x, h, e => by
    obtain ⟨v, r, rfl, _, t⟩ := h.of_cons
    have e' : ds[i]? = some x := by simpa using e
    obtain ⟨u, p, q⟩ := Rps.get t e'
    exact ⟨u, by simpa using p, q⟩
theorem Rps.get' : ∀ {ds : List D} {vs : List V} {i : Nat} {v : V}, Rps c H ρ ds vs → vs[i]? = some v → ∃ d, ds[i]? = some d ∧ Rp c H ρ d v
  | [], _, _, _, h, e => by rw [h.of_nil] at e; simp at e
  | d :: ds, vs, 0, x, h, e => by
    obtain ⟨v, r, rfl, y, _⟩ := h.of_cons
    simp at e
    subst e
    exact ⟨d, rfl, y⟩
  | d :: ds, vs, i + 1, x, h, e => by
    obtain ⟨v, r, rfl, _, t⟩ := h.of_cons
    have e' : r[i]? = some x := by simpa using e
    obtain ⟨u, p, q⟩ := Rps.get' t e'
    exact ⟨u, by simpa using p, q⟩
theorem Rps.append : ∀ {ds es : List D} {vs us : List V}, Rps c H ρ ds vs → Rps c H ρ es us → Rps c H ρ (ds ++ es) (vs ++ us)
  | [], _, _, _, h, k => by rw [h.of_nil]; exact k
  | d :: ds, _, vs, _, h, k => by
    obtain ⟨v, r, rfl, y, t⟩ := h.of_cons
    exact .cons y (Rps.append t k)
theorem Rps.take : ∀ {ds : List D} {vs : List V} (n : Nat), Rps c H ρ ds vs → Rps c H ρ (ds.take n) (vs.take n)
  | _, _, 0, _ => by simp; exact .nil
  | [], _, _ + 1, h => by rw [h.of_nil]; exact .nil
  | d :: ds, _, n + 1, h => by
    obtain ⟨v, r, rfl, y, t⟩ := h.of_cons
    exact .cons y (Rps.take n t)
theorem Rps.drop : ∀ {ds : List D} {vs : List V} (n : Nat), Rps c H ρ ds vs → Rps c H ρ (ds.drop n) (vs.drop n)
  | _, _, 0, h => h
  | [], _, _ + 1, h => by rw [h.of_nil]; exact .nil
  | d :: ds, _, n + 1, h => by
    obtain ⟨v, r, rfl, y, t⟩ := h.of_cons
    exact Rps.drop n t
theorem Rps.set {x : D} {u : V} (q : Rp c H ρ x u) : ∀ {ds : List D} {vs : List V} (n : Nat), Rps c H ρ ds vs → Rps c H ρ (ds.set n x) (vs.set n u)
  | [], _, _, h => by rw [h.of_nil]; exact .nil
  | d :: ds, _, 0, h => by
    obtain ⟨v, r, rfl, y, t⟩ := h.of_cons
    exact .cons q t
  | d :: ds, _, n + 1, h => by
    obtain ⟨v, r, rfl, y, t⟩ := h.of_cons
    exact .cons y (Rps.set q n t)
end

/-! ### the state -/
structure SR (c : C) (H : Hp) (ρ : List Addr) (G : Hd) : Prop where
  len : ρ.length = G.length
  nd : ρ.Nodup
  obj : ∀ (i : Nat) (a : Addr) (o : DO), ρ[i]? = some a → G[i]? = some o → RepO c H ρ a o
  bnd : c.b ≤ G.length
  pb : ∀ n, c.P n → n ≤ c.b
  cl : ∀ (n i : Nat) (o : DO), c.P n → i < n → G[i]? = some o → closedO n o = true
  zs : ∀ a ∈ c.Z, a ∉ ρ ∧ Live H a
  tb : LamX.Tabs c.T H

section
variable {c : C} {H H1 : Hp} {ρ ρ1 : List Addr} {G : Hd}
theorem RepO.mono {a : Addr} {o : DO} (e : Ext c H ρ H1 ρ1) (ha : H1 a = H a) (h : RepO c H ρ a o) : RepO c H1 ρ1 a o := by
  cases o with
  | lst ds =>
    obtain ⟨vs, x, y⟩ := h
    exact ⟨vs, ha.trans x, Rps.mono e _ _ y⟩
  | dct ks ds =>
    obtain ⟨kvs, x, k, y⟩ := h
    exact ⟨kvs, ha.trans x, k, Rps.mono e _ _ y⟩
  | ins n fs ds =>
    obtain ⟨C, dx, fvs, m, x, k, y⟩ := h
    exact ⟨C, dx, fvs, m, ha.trans x, k, Rps.mono e _ _ y⟩
  | lkd ks ds =>
    obtain ⟨o, kvs, x, k, y⟩ := h
    exact ⟨o, kvs, ha.trans x, k, Rps.mono e _ _ y⟩
/-- something that may change stands there -/
def mutO : HO → Prop
  | .lst _ => True
  | .dK _ => True
  | .ins _ _ _ => True
  | _ => False
def Mt (H : Hp) (a : Addr) : Prop := ∃ o, H a = some o ∧ mutO o
theorem Mt.live {a : Addr} (h : Mt H a) : Live H a := by
  obtain ⟨o, e, m⟩ := h
  exact ⟨o, e, fun ps z => by rw [z] at m; exact m⟩
theorem Mt.nt {a : Addr} (h : Mt H a) (xs : List V) : ¬ Rd H a (.tup xs) := by
  obtain ⟨o, e, m⟩ := h
  rintro (z | ⟨_, z⟩) <;> (rw [e] at z; cases z; exact m)
/-- .. or is walked -/
def mutL : HO → Prop
  | .lst _ => True
  | .dK _ => True
  | .ins _ _ _ => True
  | .frz _ (.dK _) => True
  | _ => False
def MtL (H : Hp) (a : Addr) : Prop := ∃ o, H a = some o ∧ mutL o
theorem MtL.live {a : Addr} (h : MtL H a) : Live H a := by
  obtain ⟨o, e, m⟩ := h
  exact ⟨o, e, fun ps z => by rw [z] at m; exact m⟩
theorem MtL.tabs {a : Addr} {h : HO} {T : List (Addr × Str)} (m : MtL H a) (t : LamX.Tabs T H) : LamX.Tabs T (upd H a h) := fun p hp => by
  obtain ⟨o, e, mo⟩ := m
  obtain ⟨ps, h1, h2, h3⟩ := t p hp
  have n1 : p.1 ≠ a := fun z => by rw [z, e] at h1; cases h1; exact mo
  refine ⟨ps, by rw [upd_ne n1]; exact h1, h2, fun pos cv hc => ?_⟩
  obtain ⟨c, e1, e2⟩ := h3 pos cv hc
  have n2 : c ≠ a := fun z => by rw [z, e] at e2; cases e2; exact mo
  exact ⟨c, e1, by rw [upd_ne n2]; exact e2⟩
theorem Mt.l {a : Addr} (h : Mt H a) : MtL H a := by
  obtain ⟨o, e, m⟩ := h
  refine ⟨o, e, ?_⟩
  cases o <;> first | trivial | exact m.elim
theorem Mt.tabs {a : Addr} {h : HO} {T : List (Addr × Str)} (m : Mt H a) (t : LamX.Tabs T H) : LamX.Tabs T (upd H a h) := m.l.tabs t
theorem Mt.nf {a : Addr} (h : Mt H a) (o : Obj) (u : HO) : H a ≠ some (.frz o u) := by
  obtain ⟨x, e, m⟩ := h
  intro z
  rw [e] at z
  cases z
  exact m
theorem tabs_new {p : Addr} {h : HO} {T : List (Addr × Str)} (hp : H p = none) (t : LamX.Tabs T H) : LamX.Tabs T (upd H p h) := t.ext fun b o e => by
  rw [upd_ne (fun z => by rw [z, hp] at e; cases e)]
  exact e
theorem RepO.mt {a : Addr} {o : DO} (h : RepO c H ρ a o) : MtL H a := by
  cases o with
  | lst ds => obtain ⟨vs, x, y⟩ := h; exact ⟨_, x, trivial⟩
  | dct ks ds => obtain ⟨kvs, x, k, y⟩ := h; exact ⟨_, x, trivial⟩
  | ins n fs ds => obtain ⟨C, dx, fvs, m, x, k, y⟩ := h; exact ⟨_, x, trivial⟩
  | lkd ks ds => obtain ⟨o, kvs, x, k, y⟩ := h; exact ⟨_, x, trivial⟩
theorem RepO.live {a : Addr} {o : DO} (h : RepO c H ρ a o) : Live H a := h.mt.live
theorem SR.there (s : SR c H ρ G) {a : Addr} (h : a ∈ ρ) : ∃ (i : Nat) (o : DO), ρ[i]? = some a ∧ G[i]? = some o ∧ RepO c H ρ a o := by
  obtain ⟨i, hi, e⟩ := List.mem_iff_getElem.mp h
  have hg : i < G.length := by rw [← s.len]; exact hi
  have e1 : ρ[i]? = some a := by rw [List.getElem?_eq_getElem hi, e]
  exact ⟨i, G[i], e1, List.getElem?_eq_getElem hg, s.obj i a _ e1 (List.getElem?_eq_getElem hg)⟩
theorem SR.live (s : SR c H ρ G) {a : Addr} (h : a ∈ ρ) : Live H a := by
  obtain ⟨i, o, _, _, r⟩ := s.there h
  exact r.live
/-- the heap goes on and the objects that may change stand as they are -/
theorem SR.same (s : SR c H ρ G) (e : Ext c H ρ H1 ρ) (h : ∀ a ∈ ρ, H1 a = H a) (tb : LamX.Tabs c.T H1) : SR c H1 ρ G :=
  ⟨s.len, s.nd, fun i a o x y => (s.obj i a o x y).mono e (h a (List.mem_of_getElem? x)), s.bnd, s.pb, s.cl, fun a h => ⟨(s.zs a h).1, e.dom a (s.zs a h).2⟩, tb⟩
/-- a new thing is laid -/
theorem Ext.new {p : Addr} {o : HO} (hz : ∀ a ∈ c.Z, Live H a) (hp : H p = none) : Ext c H ρ (upd H p o) ρ := by
  have ne : ∀ a, Live H a → a ≠ p := fun a h z => h.ne (by rw [z]; exact hp)
  refine ⟨⟨⟨[], by simp, by simp⟩, fun a u _ _ nn r => ?_, fun a xs r => ?_, fun a h => by unfold Live; rw [upd_ne (ne a h)]; exact h, fun a o u h => by rw [upd_ne (ne a (Live.of h))]; exact h⟩, fun a h => upd_ne (ne a (hz a h))⟩
  · have n := ne a (rdSome r nn)
    rcases r with r | ⟨ob, r⟩
    · exact .inl (by rw [upd_ne n]; exact r)
    · exact .inr ⟨ob, by rw [upd_ne n]; exact r⟩
  · have n := ne a (rdSome r)
    rcases r with r | ⟨ob, r⟩
    · exact .inl (by rw [upd_ne n]; exact r)
    · exact .inr ⟨ob, by rw [upd_ne n]; exact r⟩
theorem SR.ext {p : Addr} {o : HO} (s : SR c H ρ G) (hp : H p = none) : Ext c H ρ (upd H p o) ρ := Ext.new (fun a h => (s.zs a h).2) hp
theorem SR.new {p : Addr} {o : HO} (s : SR c H ρ G) (hp : H p = none) : SR c (upd H p o) ρ G :=
  s.same (s.ext hp) (fun a h => upd_ne fun z => (s.live h).ne (by rw [z]; exact hp)) (tabs_new hp s.tb)
/-- p besides is about to be changed -/
abbrev C.and (c : C) (p : Addr) : C := { c with Z := p :: c.Z }
mutual
theorem Rp.andL {p : Addr} (hp : ¬ Live H p) (e : Ext c H ρ H1 ρ1) : ∀ (d : D) (v : V), Rp c H ρ d v → Rp (c.and p) H1 ρ1 d v
  | .non, _, h => h
  | .bl _, _, h => h
  | .int _, _, h => h
  | .str _, _, h => h
  | .ty _, _, h => h
  | .glo _, _, h => h
  | .exc n, v, h => by
    unfold Rp at h ⊢
    obtain ⟨a, C, r, q, s, m⟩ := h
    exact ⟨a, C, r, q, e.kp m.1 m.2 s, ⟨e.notin m.1 (rdSome s), fun z => (List.mem_cons.mp z).elim (fun z => hp (z ▸ rdSome s)) m.2⟩⟩
  | .ref i, v, h => by
    unfold Rp at h ⊢
    obtain ⟨a, ha, r⟩ := h
    exact ⟨a, e.get ha, r⟩
  | .tup ds, v, h => by
    unfold Rp at h ⊢
    obtain ⟨a, vs, r, s, t⟩ := h
    exact ⟨a, vs, r, e.sqT s, Rps.andL hp e ds vs t⟩
  | .lst ds, v, h => by
    unfold Rp at h ⊢
    obtain ⟨a, vs, r, s, m, t⟩ := h
    exact ⟨a, vs, r, e.kp m.1 m.2 s, ⟨e.notin m.1 (rdSome s), fun z => (List.mem_cons.mp z).elim (fun z => hp (z ▸ rdSome s)) m.2⟩, Rps.andL hp e ds vs t⟩
  | .dct ks ds, v, h => by
    unfold Rp at h ⊢
    obtain ⟨a, kvs, r, s, m, q, t⟩ := h
    exact ⟨a, kvs, r, e.kp m.1 m.2 s, ⟨e.notin m.1 (rdSome s), fun z => (List.mem_cons.mp z).elim (fun z => hp (z ▸ rdSome s)) m.2⟩, q, Rps.andL hp e ds _ t⟩
  | .ins nm fs ds, v, h => by
    unfold Rp at h ⊢
    obtain ⟨a, C, dx, fvs, r, q, s, m, j, t⟩ := h
    exact ⟨a, C, dx, fvs, r, q, e.kp m.1 m.2 s, ⟨e.notin m.1 (rdSome s), fun z => (List.mem_cons.mp z).elim (fun z => hp (z ▸ rdSome s)) m.2⟩, j, Rps.andL hp e ds _ t⟩
theorem Rps.andL {p : Addr} (hp : ¬ Live H p) (e : Ext c H ρ H1 ρ1) : ∀ (ds : List D) (vs : List V), Rps c H ρ ds vs → Rps (c.and p) H1 ρ1 ds vs
  | [], _, h => h
  | d :: ds, vs, h => by
    unfold Rps at h ⊢
    obtain ⟨v, r, x, y, z⟩ := h
    exact ⟨v, r, x, Rp.andL hp e d v y, Rps.andL hp e ds r z⟩
end
theorem Rp.and {p : Addr} (hp : H p = none) (e : Ext c H ρ H1 ρ1) (d : D) (v : V) (h : Rp c H ρ d v) : Rp (c.and p) H1 ρ1 d v := Rp.andL (Live.no hp) e d v h
theorem Rps.and {p : Addr} (hp : H p = none) (e : Ext c H ρ H1 ρ1) (ds : List D) (vs : List V) (h : Rps c H ρ ds vs) : Rps (c.and p) H1 ρ1 ds vs := Rps.andL (Live.no hp) e ds vs h
mutual
theorem Rp.off {p : Addr} : ∀ (d : D) (v : V), Rp (c.and p) H ρ d v → Rp c H ρ d v
  | .non, _, h => h
  | .bl _, _, h => h
  | .int _, _, h => h
  | .str _, _, h => h
  | .ty _, _, h => h
  | .glo _, _, h => h
  | .exc n, v, h => by
    unfold Rp at h ⊢
    obtain ⟨a, C, r, q, s, m⟩ := h
    exact ⟨a, C, r, q, s, ⟨m.1, fun z => m.2 (List.mem_cons_of_mem _ z)⟩⟩
  | .ref i, v, h => h
  | .tup ds, v, h => by
    unfold Rp at h ⊢
    obtain ⟨a, vs, r, s, t⟩ := h
    exact ⟨a, vs, r, s, Rps.off ds vs t⟩
  | .lst ds, v, h => by
    unfold Rp at h ⊢
    obtain ⟨a, vs, r, s, m, t⟩ := h
    exact ⟨a, vs, r, s, ⟨m.1, fun z => m.2 (List.mem_cons_of_mem _ z)⟩, Rps.off ds vs t⟩
  | .dct ks ds, v, h => by
    unfold Rp at h ⊢
    obtain ⟨a, kvs, r, s, m, q, t⟩ := h
    exact ⟨a, kvs, r, s, ⟨m.1, fun z => m.2 (List.mem_cons_of_mem _ z)⟩, q, Rps.off ds _ t⟩
  | .ins nm fs ds, v, h => by
    unfold Rp at h ⊢
    obtain ⟨a, C, dx, fvs, r, q, s, m, j, t⟩ := h
    exact ⟨a, C, dx, fvs, r, q, s, ⟨m.1, fun z => m.2 (List.mem_cons_of_mem _ z)⟩, j, Rps.off ds _ t⟩
theorem Rps.off {p : Addr} : ∀ (ds : List D) (vs : List V), Rps (c.and p) H ρ ds vs → Rps c H ρ ds vs
  | [], _, h => h
  | d :: ds, vs, h => by
    unfold Rps at h ⊢
    obtain ⟨v, r, x, y, z⟩ := h
    exact ⟨v, r, x, Rp.off d v y, Rps.off ds r z⟩
end
mutual
theorem Rp.own {p : Addr} : ∀ (d : D) (v : V), Rp (c.and p) H ρ d v → Rp c H (ρ ++ [p]) d v
  | .non, _, h => h
  | .bl _, _, h => h
  | .int _, _, h => h
  | .str _, _, h => h
  | .ty _, _, h => h
  | .glo _, _, h => h
  | .exc n, v, h => by
    unfold Rp at h ⊢
    obtain ⟨a, C, r, q, s, m⟩ := h
    exact ⟨a, C, r, q, s, ⟨fun z => (List.mem_append.mp z).elim m.1 fun z => m.2 (by rw [List.mem_singleton.mp z]; exact List.mem_cons_self), fun z => m.2 (List.mem_cons_of_mem _ z)⟩⟩
  | .ref i, v, h => by
    unfold Rp at h ⊢
    obtain ⟨a, e, r⟩ := h
    exact ⟨a, by rw [List.getElem?_append_left (List.getElem?_eq_some_iff.mp e).1]; exact e, r⟩
  | .tup ds, v, h => by
    unfold Rp at h ⊢
    obtain ⟨a, vs, r, s, t⟩ := h
    exact ⟨a, vs, r, s, Rps.own ds vs t⟩
  | .lst ds, v, h => by
    unfold Rp at h ⊢
    obtain ⟨a, vs, r, s, m, t⟩ := h
    exact ⟨a, vs, r, s, ⟨fun z => (List.mem_append.mp z).elim m.1 fun z => m.2 (by rw [List.mem_singleton.mp z]; exact List.mem_cons_self), fun z => m.2 (List.mem_cons_of_mem _ z)⟩, Rps.own ds vs t⟩
  | .dct ks ds, v, h => by
    unfold Rp at h ⊢
    obtain ⟨a, kvs, r, s, m, q, t⟩ := h
    exact ⟨a, kvs, r, s, ⟨fun z => (List.mem_append.mp z).elim m.1 fun z => m.2 (by rw [List.mem_singleton.mp z]; exact List.mem_cons_self), fun z => m.2 (List.mem_cons_of_mem _ z)⟩, q, Rps.own ds _ t⟩
  | .ins nm fs ds, v, h => by
    unfold Rp at h ⊢
    obtain ⟨a, C, dx, fvs, r, q, s, m, j, t⟩ := h
    exact ⟨a, C, dx, fvs, r, q, s, ⟨fun z => (List.mem_append.mp z).elim m.1 fun z => m.2 (by rw [List.mem_singleton.mp z]; exact List.mem_cons_self), fun z => m.2 (List.mem_cons_of_mem _ z)⟩, j, Rps.own ds _ t⟩
theorem Rps.own {p : Addr} : ∀ (ds : List D) (vs : List V), Rps (c.and p) H ρ ds vs → Rps c H (ρ ++ [p]) ds vs
  | [], _, h => h
  | d :: ds, vs, h => by
    unfold Rps at h ⊢
    obtain ⟨v, r, x, y, z⟩ := h
    exact ⟨v, r, x, Rp.own d v y, Rps.own ds r z⟩
end
theorem RepO.map (c c' : C) {H H' : Hp} {ρ ρ' : List Addr} {a : Addr} {o : DO} (hm : c'.mg = c.mg) (ha : H' a = H a) (f : ∀ ds vs, Rps c H ρ ds vs → Rps c' H' ρ' ds vs) (h : RepO c H ρ a o) : RepO c' H' ρ' a o := by
  cases o with
  | lst ds =>
    obtain ⟨vs, x, y⟩ := h
    exact ⟨vs, ha.trans x, f _ _ y⟩
  | dct ks ds =>
    obtain ⟨kvs, x, k, y⟩ := h
    exact ⟨kvs, ha.trans x, k, f _ _ y⟩
  | ins n fs ds =>
    obtain ⟨C, dx, fvs, m, x, k, y⟩ := h
    exact ⟨C, dx, fvs, by rw [hm]; exact m, ha.trans x, k, f _ _ y⟩
  | lkd ks ds =>
    obtain ⟨o, kvs, x, k, y⟩ := h
    exact ⟨o, kvs, ha.trans x, k, f _ _ y⟩
/-- p, new, is set apart -/
theorem SR.and {p : Addr} {o : HO} (s : SR c H ρ G) (hp : H p = none) (no : ∀ ps, o ≠ .tbl ps := by intro _ z; cases z) : SR (c.and p) (upd H p o) ρ G := by
  have s' := s.new (o := o) hp
  refine ⟨s.len, s.nd, fun i a x h1 h2 => ?_, s.bnd, s.pb, s.cl, fun a h => ?_, s'.tb⟩
  · exact (s.obj i a x h1 h2).map c (c.and p) rfl (upd_ne fun z => (s.live (List.mem_of_getElem? h1)).ne (by rw [z]; exact hp)) fun ds vs => Rps.and hp (s.ext hp) ds vs
  · rcases List.mem_cons.mp h with z | z
    · rw [z]
      exact ⟨fun y => (s.live y).ne hp, ⟨o, upd_same, no⟩⟩
    · exact ⟨(s'.zs a z).1, (s'.zs a z).2⟩
/-- .. it is what it was again -/
theorem SR.off {p : Addr} (s : SR (c.and p) H ρ G) : SR c H ρ G :=
  ⟨s.len, s.nd, fun i a x h1 h2 => (s.obj i a x h1 h2).map (c.and p) c rfl rfl fun ds vs => Rps.off ds vs, s.bnd, s.pb, s.cl, fun a h => s.zs a (List.mem_cons_of_mem _ h), s.tb⟩
/-- .. it is one of those that may change -/
theorem SR.own {p : Addr} {o : DO} (s : SR (c.and p) H ρ G) (hz : p ∉ c.Z) (ho : RepO (c.and p) H ρ p o) : SR c H (ρ ++ [p]) (G ++ [o]) := by
  have hp : p ∉ ρ := (s.zs p List.mem_cons_self).1
  refine ⟨by simp [s.len], ?_, fun i a x h1 h2 => ?_, by have h : c.b ≤ G.length := s.bnd; simp; omega, s.pb, fun n i x hn hi h2 => ?_, fun a h => ⟨fun z => ?_, (s.zs a (List.mem_cons_of_mem _ h)).2⟩, s.tb⟩
  · rw [List.nodup_append]
    refine ⟨s.nd, by simp, fun a ha b hb => ?_⟩
    rw [List.mem_singleton.mp hb]
    exact fun z => hp (z ▸ ha)
  · by_cases hi : i < ρ.length
    · rw [List.getElem?_append_left hi] at h1
      rw [List.getElem?_append_left (by rw [← s.len]; exact hi)] at h2
      exact (s.obj i a x h1 h2).map (c.and p) c rfl rfl fun ds vs => Rps.own ds vs
    · have hl := s.len
      have z := (List.getElem?_eq_some_iff.mp h1).1
      simp at z
      have ei : i = ρ.length := by omega
      subst ei
      rw [List.getElem?_append_right (Nat.le_refl _)] at h1
      rw [List.getElem?_append_right (by omega)] at h2
      simp at h1
      rw [hl] at h2
      simp at h2
      subst h1 h2
      exact ho.map (c.and p) c rfl rfl fun ds vs => Rps.own ds vs
  · have h3 := s.pb n hn
    have h4 : c.b ≤ G.length := s.bnd
    have h3 : n ≤ c.b := h3
    rw [List.getElem?_append_left (by omega)] at h2
    exact s.cl n i x hn hi h2
  · rcases List.mem_append.mp z with y | y
    · exact (s.zs a (List.mem_cons_of_mem _ h)).1 y
    · rw [List.mem_singleton.mp y] at h
      exact hz h
/-- an object that may change is changed -/
theorem SR.write {i : Nat} {a : Addr} {o : DO} {h : HO} (s : SR c H ρ G) (hi : ρ[i]? = some a) (nt : Mt H a) (hc : ∀ n, c.P n → i < n → closedO n o = true)
    (ho : Ext c H ρ (upd H a h) ρ → RepO c (upd H a h) ρ a o) (mh : mutL h := by trivial) : Ext c H ρ (upd H a h) ρ ∧ SR c (upd H a h) ρ (G.set i o) := by
  have ma : a ∈ ρ := List.mem_of_getElem? hi
  have e : Ext c H ρ (upd H a h) ρ := by
    refine ⟨⟨⟨[], by simp, by simp⟩, fun b u nb _ _ r => ?_, fun b xs r => ?_, fun b hb => ?_, fun b o u h => by rw [upd_ne (fun z : b = a => nt.nf o u (z ▸ h))]; exact h⟩, fun b hb => upd_ne fun z => (s.zs b hb).1 (z ▸ ma)⟩
    · have n : b ≠ a := fun z => nb (z ▸ ma)
      rcases r with r | ⟨ob, r⟩
      · exact .inl (by rw [upd_ne n]; exact r)
      · exact .inr ⟨ob, by rw [upd_ne n]; exact r⟩
    · have n : b ≠ a := fun z => nt.nt xs (z ▸ r)
      rcases r with r | ⟨ob, r⟩
      · exact .inl (by rw [upd_ne n]; exact r)
      · exact .inr ⟨ob, by rw [upd_ne n]; exact r⟩
    · by_cases z : b = a
      · rw [z]; exact MtL.live ⟨h, upd_same, mh⟩
      · unfold Live; rw [upd_ne z]; exact hb
  have tt : LamX.Tabs c.T (upd H a h) := by
    obtain ⟨i', o', _, _, r⟩ := s.there ma
    exact r.mt.tabs s.tb
  refine ⟨e, by simp [s.len], s.nd, fun j b x h1 h2 => ?_, by simpa using s.bnd, s.pb, fun n j x hn hj h2 => ?_, fun b hb => ⟨(s.zs b hb).1, e.dom b (s.zs b hb).2⟩, tt⟩
  · by_cases ij : j = i
    · subst ij
      rw [hi] at h1
      cases h1
      have hl : j < G.length := by rw [← s.len]; exact (List.getElem?_eq_some_iff.mp hi).1
      rw [List.getElem?_set_self hl] at h2
      cases h2
      exact ho e
    · rw [List.getElem?_set_ne (Ne.symm ij)] at h2
      have n : b ≠ a := fun z => by
        subst z
        have p1 := List.getElem?_eq_some_iff.mp hi
        have p2 := List.getElem?_eq_some_iff.mp h1
        obtain ⟨q1, e1⟩ := p1
        obtain ⟨q2, e2⟩ := p2
        exact ij ((List.getElem_inj s.nd).mp (e2.trans e1.symm))
      exact (s.obj j b x h1 h2).mono e (upd_ne n)
  · by_cases ij : j = i
    · subst ij
      have hl : j < G.length := by rw [← s.len]; exact (List.getElem?_eq_some_iff.mp hi).1
      rw [List.getElem?_set_self hl] at h2
      cases h2
      exact hc n hn hj
    · rw [List.getElem?_set_ne (Ne.symm ij)] at h2
      exact s.cl n j x hn hj h2
end

section
variable {c : C} {H : Hp} {ρ : List Addr} {G : Hd}
/-- a dict that was walked is what it was -/
theorem SR.unlock {i : Nat} {a : Addr} {ks vs : List D} {od : Obj} {kvs : List (Key × V)} (s : SR c H ρ G) (hi : ρ[i]? = some a) (hf : H a = some (.frz od (.dK kvs))) (hk : ks = kvs.map fun p => kD p.1) (hv : Rps c H ρ vs (kvs.map (·.2))) (hc : ∀ n, c.P n → i < n → closed.closeds n vs = true) :
    SR c (upd H a (.dK kvs)) ρ (G.set i (.dct ks vs)) ∧ (∀ ds us, Rps c H ρ ds us → Rps c (upd H a (.dK kvs)) ρ ds us) := by
  have ma : a ∈ ρ := List.mem_of_getElem? hi
  have e : ExtM c H ρ (upd H a (.dK kvs)) ρ := by
    refine ⟨⟨[], by simp, by simp⟩, fun b u nb _ _ r => ?_, fun b xs r => ?_⟩
    · have n : b ≠ a := fun z => nb (z ▸ ma)
      rcases r with r | ⟨ob, r⟩
      · exact .inl (by rw [upd_ne n]; exact r)
      · exact .inr ⟨ob, by rw [upd_ne n]; exact r⟩
    · have n : b ≠ a := fun z => by
        rw [z] at r
        rcases r with r | ⟨ob, r⟩ <;> (rw [hf] at r; cases r)
      rcases r with r | ⟨ob, r⟩
      · exact .inl (by rw [upd_ne n]; exact r)
      · exact .inr ⟨ob, by rw [upd_ne n]; exact r⟩
  have tt : LamX.Tabs c.T (upd H a (.dK kvs)) := MtL.tabs ⟨_, hf, trivial⟩ s.tb
  have hl : i < G.length := by rw [← s.len]; exact (List.getElem?_eq_some_iff.mp hi).1
  refine ⟨⟨by simp [s.len], s.nd, fun j b x h1 h2 => ?_, by simpa using s.bnd, s.pb, fun n j x hn hj h2 => ?_, fun b hb => ⟨(s.zs b hb).1, ?_⟩, tt⟩, fun ds us => Rps.monoM e ds us⟩
  · by_cases ij : j = i
    · subst ij
      rw [hi] at h1
      cases h1
      rw [List.getElem?_set_self hl] at h2
      cases h2
      exact ⟨kvs, upd_same, hk, Rps.monoM e _ _ hv⟩
    · rw [List.getElem?_set_ne (Ne.symm ij)] at h2
      have n : b ≠ a := fun z => by
        subst z
        obtain ⟨q1, e1⟩ := List.getElem?_eq_some_iff.mp hi
        obtain ⟨q2, e2⟩ := List.getElem?_eq_some_iff.mp h1
        exact ij ((List.getElem_inj s.nd).mp (e2.trans e1.symm))
      exact (s.obj j b x h1 h2).map c c rfl (upd_ne n) fun ds vs => Rps.monoM e ds vs
  · by_cases ij : j = i
    · subst ij
      rw [List.getElem?_set_self hl] at h2
      cases h2
      exact hc n hn hj
    · rw [List.getElem?_set_ne (Ne.symm ij)] at h2
      exact s.cl n j x hn hj h2
  · unfold Live
    rw [upd_ne (fun z : b = a => (s.zs b hb).1 (z ▸ ma))]
    exact (s.zs b hb).2
/-- all but the tables stay -/
theorem SR.extN {H1 : Hp} (s : SR c H ρ G) (e : LamX.ExtN H H1) (t : LamX.Tabs c.T H1) : Ext c H ρ H1 ρ ∧ SR c H1 ρ G := by
  have live : ∀ a, Live H a → H1 a = H a := fun a ⟨o, h, n⟩ => by rw [h]; exact e a o h n
  have rd : ∀ a u, (∀ ps, u ≠ .tbl ps) → Rd H a u → Rd H1 a u := fun a u n r => by
    rcases r with r | ⟨ob, r⟩
    · exact .inl (e a _ r n)
    · exact .inr ⟨ob, e a _ r (fun ps z => by cases z)⟩
  have ex : Ext c H ρ H1 ρ := ⟨⟨⟨[], by simp, by simp⟩, fun a u _ _ n r => rd a u n r, fun a xs r => rd a _ (fun ps z => by cases z) r, fun a h => by unfold Live; rw [live a h]; exact h, fun a o u h => e a _ h (fun ps z => by cases z)⟩, fun a h => live a (s.zs a h).2⟩
  exact ⟨ex, s.same ex (fun a h => live a (s.live h)) t⟩
end

/-! ### slots -/
structure EnvR (c : C) (H : Hp) (ρ : List Addr) (σ : St) (τ : Tau) : Prop where
  len : σ.length = τ.length
  val : ∀ (i : Nat) (d : D), τ[i]? = some (some d) → ∃ v, σ[i]? = some (some v) ∧ Rp c H ρ d v
theorem EnvR.ext {c : C} {H H1 : Hp} {ρ ρ1 : List Addr} {σ : St} {τ : Tau} (h : EnvR c H ρ σ τ) (e : Ext c H ρ H1 ρ1) : EnvR c H1 ρ1 σ τ :=
  ⟨h.len, fun i d k => let ⟨v, a, b⟩ := h.val i d k; ⟨v, a, Rp.mono e d v b⟩⟩
theorem EnvR.set {c : C} {H : Hp} {ρ : List Addr} {σ : St} {τ : Tau} (h : EnvR c H ρ σ τ) (i : Nat) {d : D} {v : V} (r : Rp c H ρ d v) : EnvR c H ρ (σ.set i (some v)) (τ.set i (some d)) := by
  refine ⟨by simpa using h.len, fun j x k => ?_⟩
  by_cases ij : j = i
  · subst ij
    have hj : j < τ.length := by
      have := (List.getElem?_eq_some_iff.mp k).1
      simpa using this
    rw [List.getElem?_set_self hj] at k
    cases k
    exact ⟨v, List.getElem?_set_self (by rw [h.len]; exact hj), r⟩
  · rw [List.getElem?_set_ne (Ne.symm ij)] at k ⊢
    exact h.val j x k
theorem EnvR.wipe {c : C} {H : Hp} {ρ : List Addr} {σ : St} {τ : Tau} (h : EnvR c H ρ σ τ) : ∀ vs : List Nat, EnvR c H ρ (wipe σ vs) (wipeD τ vs)
  | [] => h
  | v :: vs => by
    have q := EnvR.wipe h vs
    refine ⟨by unfold L2.wipe wipeD; simpa using q.len, fun j x k => ?_⟩
    unfold wipeD at k
    unfold L2.wipe
    by_cases ij : j = v
    · subst ij
      by_cases hj : j < (wipeD τ vs).length
      · rw [List.getElem?_set_self hj] at k; cases k
      · rw [List.getElem?_eq_none (by simpa using hj)] at k; cases k
    · rw [List.getElem?_set_ne (Ne.symm ij)] at k ⊢
      exact q.val j x k

theorem EnvR.map {c c' : C} {H H' : Hp} {ρ ρ' : List Addr} {σ : St} {τ : Tau} (h : EnvR c H ρ σ τ) (f : ∀ d v, Rp c H ρ d v → Rp c' H' ρ' d v) : EnvR c' H' ρ' σ τ :=
  ⟨h.len, fun i d k => let ⟨v, a, b⟩ := h.val i d k; ⟨v, a, f d v b⟩⟩
/-- what is set apart is changed -/
theorem Ext.setZ {c : C} {H : Hp} {ρ : List Addr} {p : Addr} {o o' : HO} (hH : H p = some o) (nt : Mt H p) (no : ∀ ps, o' ≠ .tbl ps := by intro _ z; cases z) : Ext0 (c.and p) H ρ (upd H p o') ρ := by
  refine ⟨⟨[], by simp, by simp⟩, fun a u _ z _ r => ?_, fun a xs r => ?_, fun a h => ?_, fun b o u h => by rw [upd_ne (fun z : b = p => nt.nf o u (z ▸ h))]; exact h⟩
  · have n : a ≠ p := fun e => z (by rw [e]; exact List.mem_cons_self)
    rcases r with r | ⟨ob, r⟩
    · exact .inl (by rw [upd_ne n]; exact r)
    · exact .inr ⟨ob, by rw [upd_ne n]; exact r⟩
  · have n : a ≠ p := fun e => nt.nt xs (e ▸ r)
    rcases r with r | ⟨ob, r⟩
    · exact .inl (by rw [upd_ne n]; exact r)
    · exact .inr ⟨ob, by rw [upd_ne n]; exact r⟩
  · by_cases e : a = p
    · rw [e]; exact ⟨o', upd_same, no⟩
    · unfold Live; rw [upd_ne e]; exact h
theorem SR.setZ {c : C} {H : Hp} {ρ : List Addr} {G : Hd} {p : Addr} {o o' : HO} (s : SR (c.and p) H ρ G) (hH : H p = some o) (nt : Mt H p) (no : ∀ ps, o' ≠ .tbl ps := by intro _ z; cases z) : SR (c.and p) (upd H p o') ρ G := by
  have e := Ext.setZ (c := c) (ρ := ρ) (o' := o') hH nt no
  have hp : p ∉ ρ := (s.zs p List.mem_cons_self).1
  refine ⟨s.len, s.nd, fun i a x h1 h2 => (s.obj i a x h1 h2).map (c.and p) (c.and p) rfl (upd_ne fun z => hp (z ▸ List.mem_of_getElem? h1)) fun ds vs => Rps.mono0 e ds vs, s.bnd, s.pb, s.cl, fun a h => ⟨(s.zs a h).1, e.dom a (s.zs a h).2⟩, nt.tabs s.tb⟩
/-- from ahead of p to behind its last change -/
theorem Ext.apart {c : C} {H H2 : Hp} {ρ ρ2 : List Addr} {p : Addr} {o o' : HO} (hp : H p = none) (hz : ∀ a ∈ c.Z, Live H a) (nt : Mt H2 p) (e : Ext0 (c.and p) (upd H p o) ρ H2 ρ2) (ez : ∀ a ∈ c.Z, H2 a = H a) : Ext c H ρ (upd H2 p o') ρ2 := by
  have ne : ∀ a, Live H a → a ≠ p := fun a h z => h.ne (by rw [z]; exact hp)
  refine ⟨⟨?_, fun a u h z nn r => ?_, fun a xs r => ?_, fun a h => ?_, fun a o' u h => by rw [upd_ne (ne a (Live.of h))]; exact e.frzs a o' u (by rw [upd_ne (ne a (Live.of h))]; exact h)⟩, fun a h => ?_⟩
  · obtain ⟨new, e1, e2⟩ := e.more
    refine ⟨new, e1, fun a ha => ?_⟩
    have := e2 a ha
    by_cases z : a = p
    · rw [z]; exact Live.no hp
    · unfold Live at this ⊢; rw [upd_ne z] at this; exact this
  · have n := ne a (rdSome r nn)
    have r' : Rd (upd H p o) a u := by
      rcases r with r | ⟨ob, r⟩
      · exact .inl (by rw [upd_ne n]; exact r)
      · exact .inr ⟨ob, by rw [upd_ne n]; exact r⟩
    have r2 := e.keep a u h (fun y => (List.mem_cons.mp y).elim n z) nn r'
    rcases r2 with r | ⟨ob, r⟩
    · exact .inl (by rw [upd_ne n]; exact r)
    · exact .inr ⟨ob, by rw [upd_ne n]; exact r⟩
  · have n := ne a (rdSome r)
    have r' : Rd (upd H p o) a (.tup xs) := by
      rcases r with r | ⟨ob, r⟩
      · exact .inl (by rw [upd_ne n]; exact r)
      · exact .inr ⟨ob, by rw [upd_ne n]; exact r⟩
    rcases e.tups a xs r' with r | ⟨ob, r⟩
    · exact .inl (by rw [upd_ne n]; exact r)
    · exact .inr ⟨ob, by rw [upd_ne n]; exact r⟩
  · have n := ne a h
    unfold Live
    rw [upd_ne n]
    exact e.dom a (by unfold Live; rw [upd_ne n]; exact h)
  · rw [upd_ne (ne a (hz a h))]
    exact ez a h

/-! ### what a computation gives, and what is wanted of it -/
def Fin {α β : Type} (c : C) (R : Hp → List Addr → α → β → Prop) (o : Out α) (H : Hp) (ρ : List Addr) (Q : β → Hp → Prop) : Prop := match o with
  | .ok a G => ∀ x H' ρ', Ext c H ρ H' ρ' → SR c H' ρ' G → R H' ρ' a x → Q x H'
  | .exc e G => ∀ H' ρ', Ext c H ρ H' ρ' → SR c H' ρ' G → c.EX e H'
  | .bad => False
section
variable {α β α' β' : Type} {c : C} {R : Hp → List Addr → α → β → Prop} {R' : Hp → List Addr → α' → β' → Prop} {H H1 : Hp} {ρ ρ1 : List Addr}
theorem Fin.ext {o : Out α} {Q : β → Hp → Prop} (h : Fin c R o H ρ Q) (e : Ext c H ρ H1 ρ1) : Fin c R o H1 ρ1 Q := by
  cases o with
  | ok a G => exact fun x H' ρ' e' s r => h x H' ρ' (e.trans e') s r
  | exc x G => exact fun H' ρ' e' s => h H' ρ' (e.trans e') s
  | bad => exact h
theorem Fin.mono {o : Out α} {Q Q' : β → Hp → Prop} (h : Fin c R o H ρ Q) (q : ∀ x H', Q x H' → Q' x H') : Fin c R o H ρ Q' := by
  cases o with
  | ok a G => exact fun x H' ρ' e' s r => q _ _ (h x H' ρ' e' s r)
  | exc x G => exact h
  | bad => exact h
/-- one after another -/
theorem Fin.then {o : Out α} {g : α → Hd → Out α'} {Q : β' → Hp → Prop} (h : Fin c R' (o.then g) H ρ Q) :
    Fin c R o H ρ fun x H1 => ∃ ρ1 G1 a, Ext c H ρ H1 ρ1 ∧ SR c H1 ρ1 G1 ∧ R H1 ρ1 a x ∧ Fin c R' (g a G1) H1 ρ1 Q := by
  cases o with
  | ok a G => exact fun x H' ρ' e' s r => ⟨ρ', G, a, e', s, r, Fin.ext (show Fin c R' (g a G) H ρ Q from h) e'⟩
  | exc x G => exact h
  | bad => exact h
theorem Fin.ok {a : α} {G : Hd} {Q : β → Hp → Prop} (h : Fin c R (.ok a G) H ρ Q) {x : β} {H' : Hp} {ρ' : List Addr} (e : Ext c H ρ H' ρ') (s : SR c H' ρ' G) (r : R H' ρ' a x) : Q x H' := h x H' ρ' e s r
theorem Fin.here {a : α} {G : Hd} {Q : β → Hp → Prop} (h : Fin c R (.ok a G) H ρ Q) {x : β} (s : SR c H ρ G) (r : R H ρ a x) : Q x H := h x H ρ Ext.refl s r
theorem Fin.lift {o : Option α} {G : Hd} {Q : β → Hp → Prop} (h : Fin c R (lift o G) H ρ Q) : ∃ a, o = some a ∧ Fin c R (.ok a G) H ρ Q := by
  cases o with
  | none => exact h.elim
  | some a => exact ⟨a, rfl, h⟩
end

/-- readings: an expression, a test, arguments, a statement (what is set apart and the bases: some) -/
abbrev C.zp (c : C) (Z : List Addr) (P : Nat → Prop) : C := { c with Z := Z, P := P }
def low (c : C) (f : Tau → Hd → Out D) : TE := fun σ H Q => ∃ Z P ρ G τ, SR (c.zp Z P) H ρ G ∧ EnvR (c.zp Z P) H ρ σ τ ∧ Fin (c.zp Z P) (Rp (c.zp Z P)) (f τ G) H ρ Q
def RB : Hp → List Addr → Bool → Bool → Prop := fun _ _ a b => a = b
def lowT (c : C) (f : Tau → Hd → Out Bool) : TT := fun σ H Q => ∃ Z P ρ G τ, SR (c.zp Z P) H ρ G ∧ EnvR (c.zp Z P) H ρ σ τ ∧ Fin (c.zp Z P) RB (f τ G) H ρ Q
def lowA (c : C) (f : Tau → Hd → Out (List D)) : TA := fun σ H Q => ∃ Z P ρ G τ, SR (c.zp Z P) H ρ G ∧ EnvR (c.zp Z P) H ρ σ τ ∧ Fin (c.zp Z P) (Rps (c.zp Z P)) (f τ G) H ρ Q
/-- how a statement ended -/
inductive Fv where
  | nx (σ : St) | rt (v : V) | bk (σ : St) | ct (σ : St)
def RF (c : C) : Hp → List Addr → Fl → Fv → Prop := fun H ρ a x => match a, x with
  | .nx τ, .nx σ => EnvR c H ρ σ τ
  | .rt d, .rt v => Rp c H ρ d v
  | .bk τ, .bk σ => EnvR c H ρ σ τ
  | .ct τ, .ct σ => EnvR c H ρ σ τ
  | _, _ => False
def endOf (D : Ends) : Fv → Hp → Prop
  | .nx σ => D.nx σ
  | .rt v => D.rt v
  | .bk σ => D.bk σ
  | .ct σ => D.ct σ
def lowS (c : C) (f : Tau → Hd → Out Fl) : TS := fun D σ H => ∃ Z P ρ G τ, SR (c.zp Z P) H ρ G ∧ EnvR (c.zp Z P) H ρ σ τ ∧ Fin (c.zp Z P) (RF (c.zp Z P)) (f τ G) H ρ (endOf D)

theorem _root_.L2.PE.weak {X : Cx} {e : Expr} {t t' : TE} (h : PE X e t) (k : ∀ σ H Q, t' σ H Q → t σ H Q) : PE X e t' := ⟨fun pins s σ H Q I q => h.run pins s σ H Q I (k σ H Q q)⟩
theorem _root_.L2.PT.weak {X : Cx} {e : Expr} {t t' : TT} (h : PT X e t) (k : ∀ σ H Q, t' σ H Q → t σ H Q) : PT X e t' := ⟨fun pins s σ H Q I q => h.run pins s σ H Q I (k σ H Q q)⟩
theorem _root_.L2.PW.weak {X : Cx} {e : Expr} {t t' : TT} (h : PW X e t) (k : ∀ σ H Q, t' σ H Q → t σ H Q) : PW X e t' := ⟨fun wh pins s σ H Q I q => h.run wh pins s σ H Q I (k σ H Q q)⟩
theorem _root_.L2.PA.weak {X : Cx} {e : List Expr} {t t' : TA} (h : PA X e t) (k : ∀ σ H Q, t' σ H Q → t σ H Q) : PA X e t' := ⟨fun pos pins s σ H Q I q => h.run pos pins s σ H Q I (k σ H Q q)⟩
theorem _root_.L2.PS.weak {X : Cx} {e : Stmt} {t t' : TS} (h : PS X e t) (k : ∀ D σ H, t' D σ H → t D σ H) : PS X e t' := ⟨fun pins s σ H D I q => h.run pins s σ H D I (k D σ H q)⟩
theorem _root_.L2.PSs.weak {X : Cx} {e : List Stmt} {t t' : TS} (h : PSs X e t) (k : ∀ D σ H, t' D σ H → t D σ H) : PSs X e t' := ⟨fun pins s σ H D I q => h.run pins s σ H D I (k D σ H q)⟩

/-! ### steps in a row -/
section
variable {c : C} {fa fb fd : Tau → Hd → Out D}
theorem low1 {k : D → Hd → Out D} {r : V → Hp → VK → Prop} (hr : ∀ Z P x H ρ G a Q, SR (c.zp Z P) H ρ G → Rp (c.zp Z P) H ρ a x → Fin (c.zp Z P) (Rp (c.zp Z P)) (k a G) H ρ Q → r x H Q) (σ : St) (H : Hp) (Q : VK)
    (h : low c (fun τ G => (fa τ G).then k) σ H Q) : tUn r (low c fa) σ H Q := by
  obtain ⟨Z, P, ρ, G, τ, s, v, f⟩ := h
  exact ⟨Z, P, ρ, G, τ, s, v, (Fin.then (R := Rp (c.zp Z P)) f).mono fun x H1 ⟨ρ1, G1, a, e1, s1, r1, f1⟩ => hr Z P x H1 ρ1 G1 a Q s1 r1 f1⟩
theorem low2 {k : D → D → Hd → Out D} {r : R2} (hr : ∀ Z P x y H ρ G a d Q, SR (c.zp Z P) H ρ G → Rp (c.zp Z P) H ρ a x → Rp (c.zp Z P) H ρ d y → Fin (c.zp Z P) (Rp (c.zp Z P)) (k a d G) H ρ Q → r x y H Q) (σ : St) (H : Hp) (Q : VK)
    (h : low c (fun τ G => (fa τ G).then fun a G => (fb τ G).then fun d G => k a d G) σ H Q) : tOp r (low c fa) (low c fb) σ H Q := by
  obtain ⟨Z, P, ρ, G, τ, s, v, f⟩ := h
  refine ⟨Z, P, ρ, G, τ, s, v, (Fin.then (R := Rp (c.zp Z P)) f).mono fun x H1 ⟨ρ1, G1, a, e1, s1, r1, f1⟩ => ?_⟩
  exact ⟨Z, P, ρ1, G1, τ, s1, v.ext e1, (Fin.then (R := Rp (c.zp Z P)) f1).mono fun y H2 ⟨ρ2, G2, d, e2, s2, r2, f2⟩ => hr Z P x y H2 ρ2 G2 a d Q s2 (Rp.mono e2 _ _ r1) r2 f2⟩
theorem lowT1 {k : D → Hd → Out Bool} {r : V → Hp → (Bool → Hp → Prop) → Prop} (hr : ∀ Z P x H ρ G a Q, SR (c.zp Z P) H ρ G → Rp (c.zp Z P) H ρ a x → Fin (c.zp Z P) RB (k a G) H ρ Q → r x H Q) (σ : St) (H : Hp) (Q : Bool → Hp → Prop)
    (h : lowT c (fun τ G => (fa τ G).then k) σ H Q) : low c fa σ H (fun x H1 => r x H1 Q) := by
  obtain ⟨Z, P, ρ, G, τ, s, v, f⟩ := h
  exact ⟨Z, P, ρ, G, τ, s, v, (Fin.then (R := Rp (c.zp Z P)) f).mono fun x H1 ⟨ρ1, G1, a, e1, s1, r1, f1⟩ => hr Z P x H1 ρ1 G1 a Q s1 r1 f1⟩
theorem lowA1 {ga : Tau → Hd → Out (List D)} {k : List D → Hd → Out D} {r : List V → Hp → VK → Prop} (hr : ∀ Z P xs H ρ G as Q, SR (c.zp Z P) H ρ G → Rps (c.zp Z P) H ρ as xs → Fin (c.zp Z P) (Rp (c.zp Z P)) (k as G) H ρ Q → r xs H Q) (σ : St) (H : Hp) (Q : VK)
    (h : low c (fun τ G => (ga τ G).then k) σ H Q) : lowA c ga σ H (fun xs H1 => r xs H1 Q) := by
  obtain ⟨Z, P, ρ, G, τ, s, v, f⟩ := h
  exact ⟨Z, P, ρ, G, τ, s, v, (Fin.then (R := Rps (c.zp Z P)) f).mono fun x H1 ⟨ρ1, G1, a, e1, s1, r1, f1⟩ => hr Z P x H1 ρ1 G1 a Q s1 r1 f1⟩
end
end U

set_option Elab.async false
set_option linter.all false
set_option maxRecDepth 100000
/-! UC0: a tuple times one, times nought. -/
namespace U
open PySem L2 PyProof.Rows
set_option maxHeartbeats 4000000 in
theorem tup_one (l : Addr) (items : Array Value) (n : Nat) (dd : Option Addr) (sl : Array (Option Value)) (x : Int) (u : Tok) (c0 : (decide (x < -(2 ^ 63)) || decide (x ≥ 2 ^ 63)) = false) (c1 : (items.isEmpty || x == 1) = true) :
    Meets (Builtin.«tuple.__mul__» ⟨[.ref l, .int x u], []⟩) (fun _ R s => s.heap.get? l = some { cls := .type "tuple", dict := dd, data := .seq items n, slots := sl } ∧ R (.ok (.ret (.ref l))) s) :=
  .of_wp fun prog w A R s h => by
    obtain ⟨hp, g, d, tk, os⟩ := s
    obtain ⟨hl, h⟩ := h
    have f1 := AutoSeq1.idx_int
    wp_walk using wpAny_loadPart' hl
    repeat (first
      | (refine wpAny_ite_false (decide_eq_false (by rw [c0]; exact Bool.false_ne_true)) ?_; wp_walk using wpAny_loadPart' hl)
      | (refine wpAny_ite_true (decide_eq_true c1) ?_; wp_walk using wpAny_loadPart' hl))
    exact ⟨_, rfl, h⟩
set_option maxHeartbeats 4000000 in
theorem tup_none (l : Addr) (items : Array Value) (n : Nat) (dd : Option Addr) (sl : Array (Option Value)) (x : Int) (u : Tok) (c0 : (decide (x < -(2 ^ 63)) || decide (x ≥ 2 ^ 63)) = false) (c1 : (items.isEmpty || x == 1) = false) (c2 : (decide (x ≤ 0) || items.isEmpty) = true) :
    Meets (Builtin.«tuple.__mul__» ⟨[.ref l, .int x u], []⟩) (fun _ R s => s.heap.get? l = some { cls := .type "tuple", dict := dd, data := .seq items n, slots := sl } ∧
      R (.ok (.ret (Value.ref s.heap.objs.size))) { s with heap := s.heap.push { cls := Value.type "tuple", data := Data.seq #[] }, toks := s.toks }) :=
  .of_wp fun prog w A R s h => by
    obtain ⟨hp, g, d, tk, os⟩ := s
    obtain ⟨hl, h⟩ := h
    have f1 := AutoSeq1.idx_int
    wp_walk using wpAny_loadPart' hl
    repeat (first
      | (refine wpAny_ite_false (decide_eq_false (by rw [c0]; exact Bool.false_ne_true)) ?_; wp_walk using wpAny_loadPart' hl)
      | (refine wpAny_ite_false (decide_eq_false (by rw [c1]; exact Bool.false_ne_true)) ?_; wp_walk using wpAny_loadPart' hl)
      | (refine wpAny_ite_true (decide_eq_true c2) ?_; wp_walk using wpAny_loadPart' hl))
    exact ⟨_, rfl, h⟩
/-- a tuple times one is that tuple; times nought or less an empty one -/
def rRepS (K : PySem.W.Frag) : R2 := fun x y H Q => ∃ l k xs, x = .ref l ∧ y = .int k ∧ SqT K H l xs ∧ (k = 1 ∨ k ≤ 0) ∧ -1000 ≤ k ∧ ((k = 1 ∨ xs = []) → Q (.ref l) H) ∧ ((k ≤ 0 ∧ xs ≠ []) → ∀ p, H p = none → Q (.ref p) (upd H p (.tup [])))
theorem op_repS {X : Cx} : OpR X (binaryOp .Mult) (rRepS X.K) := by
  intro pins s σ H x y v u Q I rx ry h
  obtain ⟨l, k, xs, e1, e2, hT, hk, hlo, q1, q0⟩ := h
  subst e1 e2
  cases rx
  obtain ⟨t, et⟩ := ry
  subst et
  obtain ⟨its, r, ⟨⟨cls, dd, data, sl⟩, ho, hc, n, hd⟩, hs⟩ := I.tuple hT
  simp only at hc hd
  subst hc hd
  have hle := r.length
  have c0 : (decide (k < -(2 ^ 63)) || decide (k ≥ 2 ^ 63)) = false := by simp only [Bool.or_eq_false_iff, decide_eq_false_iff_not]; omega
  by_cases hc1 : (its.toArray.isEmpty || k == 1) = true
  · refine wpAny_binaryOp_repeat_ref (T := "tuple") (U := "int") (by decide) ⟨_, ho, rfl⟩ (fun s' => typeIs_int s' k t) noFill_tuple_mul F.fills_int_mul F.slot_int_rmul repeat_tuple F.slot_int_index.lookup (call_meets F.slot_int_rmul (typeIs_int s k t) F.entry_int_rmul (F.args_int_rmul_2 _ _) (int_rmul_tuple k t l its.toArray n dd sl) ⟨ho, rfl, ⟨_, ho, rfl⟩, call_meets F.slot_tuple_mul ⟨_, ho, rfl⟩ F.entry_tuple_mul (F.args_tuple_mul_2 _ _) (tup_one l its.toArray n dd sl k t c0 hc1) ⟨ho, ?_⟩⟩)
    refine ⟨.ref l, H, I, rfl, q1 ?_⟩
    rw [Bool.or_eq_true] at hc1
    rcases hc1 with z | z
    · refine .inr (List.eq_nil_of_length_eq_zero ?_)
      have : its = [] := by simpa using z
      rw [hle, this]
      rfl
    · exact .inl (by simpa using z)
  · have hc1 : (its.toArray.isEmpty || k == 1) = false := by simpa using hc1
    have hne : xs ≠ [] := fun z => by
      have : its = [] := List.eq_nil_of_length_eq_zero (by rw [← hle, z]; rfl)
      rw [this] at hc1
      simp at hc1
    have hk0 : k ≤ 0 := by
      rw [Bool.or_eq_false_iff] at hc1
      have : k ≠ 1 := by simpa using hc1.2
      omega
    have c2 : (decide (k ≤ 0) || its.toArray.isEmpty) = true := by rw [decide_eq_true hk0]; rfl
    refine wpAny_binaryOp_repeat_ref (T := "tuple") (U := "int") (by decide) ⟨_, ho, rfl⟩ (fun s' => typeIs_int s' k t) noFill_tuple_mul F.fills_int_mul F.slot_int_rmul repeat_tuple F.slot_int_index.lookup (call_meets F.slot_int_rmul (typeIs_int s k t) F.entry_int_rmul (F.args_int_rmul_2 _ _) (int_rmul_tuple k t l its.toArray n dd sl) ⟨ho, rfl, ⟨_, ho, rfl⟩, call_meets F.slot_tuple_mul ⟨_, ho, rfl⟩ F.entry_tuple_mul (F.args_tuple_mul_2 _ _) (tup_none l its.toArray n dd sl k t c0 hc1 c2) ⟨ho, ?_⟩⟩)
    refine ⟨.ref s.heap.objs.size, _, I.laid (t' := s.toks) (o := .tup []) (fun b ob q => Heap.get?_push_of_some _ q) (Nat.le_refl _) ?_, rfl, q0 ⟨hk0, hne⟩ _ (I.hok.fresh (Nat.le_refl _))⟩
    exact ⟨Nat.zero_le _, [], .nil, IsTup.new _ _⟩
end U

set_option Elab.async false
set_option linter.all false
set_option maxRecDepth 100000
/-! UC: the operators upon plain data, as the layer's rules give them. -/
namespace U
open PySem L2 PyProof.Rows
variable {X : Cx} {c : C} {H : Hp} {ρ : List Addr} {G : Hd}

/-! ### new things -/
theorem newTup {ds : List D} {vs : List V} {p : Addr} {Q : VK} (s : SR c H ρ G) (hp : H p = none) (r : Rps c H ρ ds vs) (f : Fin c (Rp c) (.ok (.tup ds) G) H ρ Q) : Q (.ref p) (upd H p (.tup vs)) := by
  have e := s.ext (o := .tup vs) hp
  refine f.ok e (s.new hp) ?_
  unfold Rp
  exact ⟨p, vs, rfl, .inl (.inl upd_same), Rps.mono e ds vs r⟩
theorem SR.notZ (s : SR c H ρ G) {p : Addr} (hp : H p = none) : p ∉ ρ ∧ p ∉ c.Z := ⟨fun z => (s.live z).ne hp, fun z => (s.zs p z).2.ne hp⟩
theorem newLst {ds : List D} {vs : List V} {p : Addr} {Q : VK} (s : SR c H ρ G) (hp : H p = none) (r : Rps c H ρ ds vs) (f : Fin c (Rp c) (.ok (.lst ds) G) H ρ Q) : Q (.ref p) (upd H p (.lst vs)) := by
  have e := s.ext (o := .lst vs) hp
  refine f.ok e (s.new hp) ?_
  unfold Rp
  exact ⟨p, vs, rfl, .inl upd_same, s.notZ hp, Rps.mono e ds vs r⟩

/-! ### reading -/
theorem Rp.tup_of {ds : List D} {v : V} (h : Rp c H ρ (.tup ds) v) : ∃ a vs, v = .ref a ∧ SqT c.K H a vs ∧ Rps c H ρ ds vs := by unfold Rp at h; exact h
theorem Rp.lst_of {ds : List D} {v : V} (h : Rp c H ρ (.lst ds) v) : ∃ a vs, v = .ref a ∧ Rd H a (.lst vs) ∧ (a ∉ ρ ∧ a ∉ c.Z) ∧ Rps c H ρ ds vs := by unfold Rp at h; exact h
theorem Rp.ref_of {i : Nat} {v : V} (h : Rp c H ρ (.ref i) v) : ∃ a, ρ[i]? = some a ∧ v = .ref a := by unfold Rp at h; exact h
theorem rp_list {d : D} {v : V} {xs : List D} (s : SR c H ρ G) (h : Rp c H ρ d v) (e : listD G d = some xs) : ∃ a vs, v = .ref a ∧ Rd H a (.lst vs) ∧ Rps c H ρ xs vs := by
  cases d with
  | lst ys =>
    have e : some ys = some xs := e
    cases e
    obtain ⟨a, vs, r, q, _, t⟩ := h.lst_of
    exact ⟨a, vs, r, q, t⟩
  | ref i =>
    obtain ⟨a, ha, r⟩ := h.ref_of
    unfold listD at e
    cases g : G[i]? with
    | none => simp only [g] at e; cases e
    | some o =>
      simp only [g] at e
      cases o with
      | lst ys =>
        cases e
        obtain ⟨vs, q, t⟩ := s.obj i a _ ha g
        exact ⟨a, vs, r, .inl q, t⟩
      | _ => cases e
  | _ => cases e
theorem rp_seq {d : D} {v : V} {xs : List D} (s : SR c H ρ G) (h : Rp c H ρ d v) (e : seqD G d = some xs) : ∃ a vs, v = .ref a ∧ (Rd H a (.lst vs) ∨ SqT c.K H a vs) ∧ Rps c H ρ xs vs := by
  cases d with
  | tup ys =>
    have e : some ys = some xs := e
    cases e
    obtain ⟨a, vs, r, q, t⟩ := h.tup_of
    exact ⟨a, vs, r, .inr q, t⟩
  | lst ys =>
    obtain ⟨a, vs, r, q, t⟩ := rp_list s h e
    exact ⟨a, vs, r, .inl q, t⟩
  | ref i =>
    obtain ⟨a, vs, r, q, t⟩ := rp_list s h e
    exact ⟨a, vs, r, .inl q, t⟩
  | _ => cases e

/-! ### data, for == -/
mutual
theorem dp_of : ∀ (d : D) (v : V) (y : PyData), toPy d = some y → Rp c H ρ d v → Dp c.K H v y
  | .non, v, y, e, h => by
    have h : v = .non := h
    cases e
    rw [h]; exact .non
  | .bl b, v, y, e, h => by
    have h : v = .bl b := h
    cases e
    rw [h]; exact .bl b
  | .int b, v, y, e, h => by
    have h : v = .int b := h
    cases e
    rw [h]; exact .int b
  | .str b, v, y, e, h => by
    have h : v = .str b := h
    cases e
    rw [h]; exact .str b
  | .tup ds, v, y, e, h => by
    obtain ⟨a, vs, rfl, q, t⟩ := h.tup_of
    unfold toPy at e
    cases g : toPys ds with
    | none => rw [g] at e; cases e
    | some ys =>
      rw [g] at e
      cases e
      exact .tup q (dps_of ds vs ys g t)
  | .lst ds, v, y, e, h => by
    obtain ⟨a, vs, rfl, q, _, t⟩ := h.lst_of
    unfold toPy at e
    cases g : toPys ds with
    | none => rw [g] at e; cases e
    | some ys =>
      rw [g] at e
      cases e
      exact .lst (.inl q) (dps_of ds vs ys g t)
  | .dct _ _, _, _, e, _ => by cases e
  | .ins _ _ _, _, _, e, _ => by cases e
  | .ref _, _, _, e, _ => by cases e
  | .ty _, _, _, e, _ => by cases e
  | .glo _, _, _, e, _ => by cases e
  | .exc _, _, _, e, _ => by cases e
theorem dps_of : ∀ (ds : List D) (vs : List V) (ys : List PyData), toPys ds = some ys → Rps c H ρ ds vs → DpAll c.K H vs ys
  | [], vs, ys, e, h => by
    cases e
    rw [h.of_nil]; exact .nil
  | d :: ds, vs, ys, e, h => by
    obtain ⟨v, r, rfl, q, t⟩ := h.of_cons
    unfold toPys at e
    cases g : toPy d with
    | none => simp only [g] at e; cases e
    | some y =>
      cases g2 : toPys ds with
      | none => simp only [g, g2] at e; cases e
      | some zs =>
        simp only [g, g2] at e
        cases e
        exact .cons (dp_of d v y g q) (dps_of ds r zs g2 t)
end
theorem dpG_of {d : D} {v : V} {y : PyData} (s : SR c H ρ G) (e : toPyG G d = some y) (h : Rp c H ρ d v) : Dp c.K H v y := by
  cases d with
  | ref i =>
    obtain ⟨a, ha, rfl⟩ := h.ref_of
    unfold toPyG at e
    cases g : G[i]? with
    | none => simp only [g] at e; cases e
    | some o =>
      simp only [g] at e
      cases o with
      | lst ds =>
        obtain ⟨vs, q, t⟩ := s.obj i a _ ha g
        cases g2 : toPys ds with
        | none => simp only [g2] at e; cases e
        | some ys =>
          simp only [g2] at e
          cases e
          exact .lst (.inl (.inl q)) (dps_of ds vs ys g2 t)
      | _ => cases e
  | _ => exact dp_of _ v y e h

theorem two_eqD (hu : X.A.units + 64 < cLine) (hK : c.K = X.K) : OpR X (compareOp .Eq) (rEqD c.K) := by rw [hK]; exact op_eqD hu
theorem two_neD (hu : X.A.units + 64 < cLine) (hK : c.K = X.K) : OpR X (compareOp .NotEq) (rNeD c.K) := by rw [hK]; exact op_neD hu

/-! ### binary operators -/
/-- list + list, of lists that are read -/
def rCatL : R2 := fun x y H Q => ∃ l b xs zs, x = .ref l ∧ y = .ref b ∧ Rd H l (.lst xs) ∧ Rd H b (.lst zs) ∧ xs.length + zs.length ≤ sizeLine ∧ ∀ p, H p = none → Q (.ref p) (upd H p (.lst (xs ++ zs)))
theorem op_catL : OpR X (binaryOp .Add) rCatL := by
  intro pins s σ H x y v u Q I rx ry h
  obtain ⟨l, b, xs, zs, rfl, rfl, hH, hB, hz, q⟩ := h
  cases rx
  cases ry
  obtain ⟨z, its, n, r, e⟩ := (show ObjOk X.prog X.w H s.heap l (.lst xs) from hH.ok I.hok)
  obtain ⟨z2, its2, n2, r2, e2⟩ := (show ObjOk X.prog X.w H s.heap b (.lst zs) from hB.ok I.hok)
  have l1 := r.length
  have l2 := r2.length
  refine PySem.P.add_list e e2 ?_ (by rw [List.size_toArray, List.size_toArray]; omega)
  have ea : its.toArray ++ its2.toArray = (its ++ its2).toArray := by simp
  rw [ea]
  exact ⟨.ref _, _, I.lnew (t' := s.toks) (r.append r2) (by rw [List.length_append]; omega), rfl, q _ I.fresh⟩

/-- a list times an int, of a list that is read -/
def rRepL : R2 := fun x y H Q => ∃ l k xs, x = .ref l ∧ y = .int k ∧ Rd H l (.lst xs) ∧ 0 ≤ k ∧ k ≤ 1000 ∧ xs.length ≤ 1000 ∧ ∀ p, H p = none → Q (.ref p) (upd H p (.lst (List.replicate k.toNat xs).flatten))
theorem op_repL : OpR X (binaryOp .Mult) rRepL := by
  intro pins s σ H x y v u Q I rx ry h
  obtain ⟨l, k, xs, rfl, rfl, hH, h1, h2, h3, q⟩ := h
  cases rx
  obtain ⟨t, rfl⟩ := ry
  obtain ⟨z, its, n, r, e⟩ := (show ObjOk X.prog X.w H s.heap l (.lst xs) from hH.ok I.hok)
  have hl := r.length
  have hz : xs.length * k.toNat ≤ 1000 * 1000 := Nat.mul_le_mul h3 (by omega)
  have hs : (1000000 : Nat) ≤ sizeLine := by decide
  have hlen : its.toArray.size * k.toNat ≤ sizeLine := by rw [List.size_toArray, ← hl]; omega
  have hfit : ¬ (!Builtin.List.listFitsIndex k) = true := by rw [fitsIndex_both (by omega) (by omega)]; exact Bool.false_ne_true
  have below : ¬ its.toArray.size * k.toNat > (2 ^ 63 - 1) / 8 := by
    have h63 : (sizeLine : Nat) ≤ (2 ^ 63 - 1) / 8 := by decide
    omega
  have hlong : ¬ Builtin.List.listTooLong (its.toArray.size * k.toNat) = true := by rw [notLongL hlen]; exact Bool.false_ne_true
  have flatM : ∀ j : Nat, List.foldl (fun a b => a ++ b) #[] (List.replicate j its.toArray) = (List.replicate j its).flatten.toArray := fun j => by
    have g := foldl_rep its j []
    rwa [List.nil_append] at g
  have flatN : List.foldl (fun a b => a ++ b) #[] (List.replicate (if its.toArray.isEmpty = true then 0 else k.toNat) its.toArray) = (List.replicate k.toNat its).flatten.toArray := by
    rw [flatM]
    cases its with
    | nil => simp
    | cons a r' => rw [if_neg (by simp)]
  have tl : s.TypeIs (.ref l) "list" := ⟨_, e, rfl⟩
  refine wpAny_binaryOp_repeat_ref (T := "list") (U := "int") (by decide) tl (fun s' => typeIs_int s' k t) noFill_list_mul F.fills_int_mul F.slot_int_rmul repeat_list F.slot_int_index.lookup (call_meets F.slot_int_rmul (typeIs_int s k t) F.entry_int_rmul (F.args_int_rmul_2 _ _) (int___rmul___int_list k t l its.toArray n) ⟨e, rfl, tl, call_meets F.slot_list_mul tl F.entry_list_mul (F.args_list_mul_2 _ _) (AutoListH.list___mul___list_int_3 l its.toArray n k t hfit below hlong) ⟨e, ?_⟩⟩)
  rw [flatN]
  exact ⟨.ref _, _, I.lnew (t' := s.toks) (r.rep k.toNat) (by rw [PyProof.Rows.lm_len_rep_flat, Nat.mul_comm]; omega), rfl, q _ I.fresh⟩

theorem op_fdivU : OpR X (binaryOp .FloorDiv) (rI (fun _ j => j ≠ 0 ∧ j.natAbs.log2 < 9000) fun i j => .int (i.fdiv j)) := opI fun _ _ _ _ _ _ _ hc q => floordiv_int hc.1 q (.inl (PyProof.noPylong_of_log2 hc.2))
theorem mulOk_ok {i j : Int} (h : mulOk i j = true) : IntMulOk i j := by
  unfold mulOk at h
  simp only [Bool.or_eq_true, decide_eq_true_eq] at h
  rcases h with (h | h) | h
  · exact .of_left (intBits_le_64 (by omega) (by omega))
  · exact .of_right (intBits_le_64 (by omega) (by omega))
  · exact CMulW.ok h
theorem op_mulU : OpR X (binaryOp .Mult) (rI (fun i j => mulOk i j = true) fun i j => .int (i * j)) := opI fun _ _ _ _ _ _ _ hc q => mul_int q (mulOk_ok hc)

def rBin (K : PySem.W.Frag) : BOp → R2
  | .add => fun x y H Q => ((rI0 fun i j => .int (i + j)) x y H Q ∨ (∃ i j, x = .str i ∧ y = .str j ∧ i.length + j.length ≤ sizeLine ∧ Q (.str (i ++ j)) H)) ∨ (rCatA K x y H Q ∨ rCatL x y H Q)
  | .sub => rI0 fun i j => .int (i - j)
  | .mul => fun x y H Q => (rI (fun i j => mulOk i j = true) fun i j => .int (i * j)) x y H Q ∨ ((rRepT K x y H Q ∨ rRepS K x y H Q) ∨ rRepL x y H Q)
  | .fdiv => rI (fun _ j => j ≠ 0 ∧ j.natAbs.log2 < 9000) fun i j => .int (i.fdiv j)
  | .mod => rI (fun _ j => j ≠ 0) fun i j => .int (i.fmod j)
  | .pow => rI CPow fun i j => .int (i ^ j.toNat)
def opPy : BOp → Operator
  | .add => .Add
  | .sub => .Sub
  | .mul => .Mult
  | .fdiv => .FloorDiv
  | .mod => .Mod
  | .pow => .Pow
theorem op_bin (o : BOp) : OpR X (binaryOp (opPy o)) (rBin X.K o) := by
  cases o with
  | add => exact (op_add.or op_add_str).or (op_catA.or op_catL)
  | sub => exact op_sub
  | mul => exact op_mulU.or ((op_repT.or op_repS).or op_repL)
  | fdiv => exact op_fdivU
  | mod => exact op_modN
  | pow => exact op_pow
theorem ite_some {α : Type} {p : Prop} [Decidable p] {a z : α} (e : (if p then some a else none) = some z) : p ∧ a = z := by
  split at e
  · exact ⟨by assumption, Option.some.inj e⟩
  · cases e
theorem line_eq : sizeLine = line := sizeLine_eq

theorem bin_ok {o : BOp} {x y : V} {a d : D} {Q : VK} (s : SR c H ρ G) (ra : Rp c H ρ a x) (rd : Rp c H ρ d y) (f : Fin c (Rp c) (lift (binD G o a d) G) H ρ Q) : rBin c.K o x y H Q := by
  obtain ⟨z, e, f⟩ := f.lift
  have lists : ∀ {xs ys : List D}, listD G a = some xs → listD G d = some ys → (if xs.length + ys.length ≤ line then some (D.lst (xs ++ ys)) else none) = some z → rCatL x y H Q := by
    intro xs ys h1 h2 e
    obtain ⟨p, vs, rfl, q1, t1⟩ := rp_list s ra h1
    obtain ⟨p2, us, rfl, q2, t2⟩ := rp_list s rd h2
    split at e
    · rename_i hl
      cases e
      refine ⟨p, p2, vs, us, rfl, rfl, q1, q2, by rw [t1.length, t2.length, line_eq]; exact hl, fun q hq => newLst s hq (t1.append t2) f⟩
    · cases e
  have listc : (match listD G a, listD G d with
    | some xs, some ys => if xs.length + ys.length ≤ line then some (D.lst (xs ++ ys)) else none
    | _, _ => none) = some z → rCatL x y H Q := by
    intro e
    cases h1 : listD G a with
    | none => rw [h1] at e; cases e
    | some xs =>
      cases h2 : listD G d with
      | none => rw [h1, h2] at e; cases e
      | some ys =>
        rw [h1, h2] at e
        exact lists h1 h2 e
  cases o with
  | add =>
    cases a with
    | int i =>
      have hx : x = .int i := ra
      cases d with
      | int j =>
        have hy : y = .int j := rd
        cases e
        exact .inl (.inl ⟨i, j, hx, hy, f.here s rfl⟩)
      | _ => exact .inr (.inr (listc e))
    | str i =>
      have hx : x = .str i := ra
      cases d with
      | str j =>
        have hy : y = .str j := rd
        obtain ⟨hl, rfl⟩ := ite_some e
        exact .inl (.inr ⟨i, j, hx, hy, by rw [line_eq]; exact hl, f.here s rfl⟩)
      | _ => exact .inr (.inr (listc e))
    | tup xs =>
      cases d with
      | tup ys =>
        obtain ⟨hl, rfl⟩ := ite_some e
        obtain ⟨p, vs, rfl, q1, t1⟩ := ra.tup_of
        obtain ⟨p2, us, rfl, q2, t2⟩ := rd.tup_of
        refine .inr (.inl ⟨p, p2, vs, us, rfl, rfl, q1, q2, by rw [t1.length, t2.length, line_eq]; exact hl, fun z => ?_, fun _ z => ?_, fun _ _ q hq => newTup s hq (t1.append t2) f⟩)
        · have e0 : xs = [] := List.eq_nil_of_length_eq_zero (by rw [← t1.length, z]; rfl)
          subst e0
          exact f.here s rd
        · have e0 : ys = [] := List.eq_nil_of_length_eq_zero (by rw [← t2.length, z]; rfl)
          subst e0
          rw [List.append_nil] at f
          exact f.here s ra
      | _ => exact .inr (.inr (listc e))
    | _ => exact .inr (.inr (listc e))
  | sub =>
    cases a with
    | int i =>
      cases d with
      | int j =>
        cases e
        exact ⟨i, j, ra, rd, f.here s rfl⟩
      | _ => cases e
    | _ => cases e
  | mul =>
    cases a with
    | int i =>
      cases d with
      | int j =>
        obtain ⟨hl, rfl⟩ := ite_some e
        exact .inl ⟨i, j, ra, rd, hl, f.here s rfl⟩
      | _ => cases e
    | tup xs =>
      cases d with
      | int n =>
        obtain ⟨p, vs, rfl, q1, t1⟩ := ra.tup_of
        have e : (if n = 1 then some (D.tup xs) else if n ≤ 0 ∧ -1000 ≤ n then some (D.tup []) else if (!xs.isEmpty && (decide (xs.length ≤ 1000) && (decide (2 ≤ n) && decide (n ≤ 1000)))) = true then some (D.tup (List.replicate n.toNat xs).flatten) else none) = some z := e
        have nil : vs = [] → xs = [] := fun z => List.eq_nil_of_length_eq_zero (by rw [← t1.length, z]; rfl)
        by_cases hn1 : n = 1
        · rw [if_pos hn1] at e
          cases e
          exact .inr (.inl (.inr ⟨p, n, vs, rfl, rd, q1, .inl hn1, by omega, fun _ => f.here s ra, fun hh => absurd hh.1 (by omega)⟩))
        rw [if_neg hn1] at e
        by_cases hn0 : n ≤ 0 ∧ -1000 ≤ n
        · rw [if_pos hn0] at e
          cases e
          refine .inr (.inl (.inr ⟨p, n, vs, rfl, rd, q1, .inr hn0.1, hn0.2, fun hh => ?_, fun _ q hq => newTup s hq .nil f⟩))
          rcases hh with hh | hh
          · exact absurd hh hn1
          · have e0 := nil hh
            rw [e0] at ra
            exact f.here s ra
        rw [if_neg hn0] at e
        obtain ⟨hl, rfl⟩ := ite_some e
        simp only [Bool.and_eq_true, decide_eq_true_eq] at hl
        obtain ⟨h1, h2, h3, h4⟩ := hl
        refine .inr (.inl (.inl ⟨p, n, vs, rfl, rd, q1, fun z => ?_, h3, h4, by rw [t1.length]; exact h2, fun q hq => newTup s hq ?_ f⟩))
        · have e0 : xs = [] := List.eq_nil_of_length_eq_zero (by rw [← t1.length, z]; rfl)
          subst e0
          simp at h1
        · generalize n.toNat = m
          induction m with
          | zero => exact .nil
          | succ m ih => exact t1.append ih
      | _ => cases e
    | lst xs =>
      cases d with
      | int n =>
        obtain ⟨p, vs, rfl, q1, _, t1⟩ := ra.lst_of
        obtain ⟨hl, rfl⟩ := ite_some e
        simp only [Bool.and_eq_true, decide_eq_true_eq] at hl
        obtain ⟨h2, h3, h4⟩ := hl
        refine .inr (.inr ⟨p, n, vs, rfl, rd, q1, h3, h4, by rw [t1.length]; exact h2, fun q hq => newLst s hq ?_ f⟩)
        generalize n.toNat = m
        induction m with
        | zero => exact .nil
        | succ m ih => exact t1.append ih
      | _ => cases e
    | _ => cases e
  | fdiv =>
    cases a with
    | int i =>
      cases d with
      | int j =>
        obtain ⟨hl, rfl⟩ := ite_some e
        unfold divOk at hl
        simp only [Bool.and_eq_true, decide_eq_true_eq] at hl
        exact ⟨i, j, ra, rd, hl, f.here s rfl⟩
      | _ => cases e
    | _ => cases e
  | mod =>
    cases a with
    | int i =>
      cases d with
      | int j =>
        obtain ⟨hl, rfl⟩ := ite_some e
        exact ⟨i, j, ra, rd, hl, f.here s rfl⟩
      | _ => cases e
    | _ => cases e
  | pow =>
    cases a with
    | int i =>
      cases d with
      | int j =>
        obtain ⟨hl, rfl⟩ := ite_some e
        unfold powOk at hl
        simp only [Bool.and_eq_true, decide_eq_true_eq] at hl
        exact ⟨i, j, ra, rd, ⟨hl.1.1, hl.1.2, hl.2⟩, f.here s rfl⟩
      | _ => cases e
    | _ => cases e
end U

set_option Elab.async false
set_option linter.all false
set_option maxRecDepth 100000
/-! UD: comparisons, truth, places, slices, built-ins upon plain data. -/
namespace U
open PySem L2 PyProof.Rows
variable {X : Cx} {c : C} {H : Hp} {ρ : List Addr} {G : Hd}

/-! ### flat values -/
def vOf : D → V
  | .bl b => .bl b
  | .int i => .int i
  | .str x => .str x
  | _ => .non
theorem flat_of {d : D} {v : V} (f : flatD d = true) (h : Rp c H ρ d v) : v = vOf d ∧ flatV v = true := by
  cases d with
  | non => have h : v = .non := h; subst h; exact ⟨rfl, rfl⟩
  | bl b => have h : v = .bl b := h; subst h; exact ⟨rfl, rfl⟩
  | int b => have h : v = .int b := h; subst h; exact ⟨rfl, rfl⟩
  | str b => have h : v = .str b := h; subst h; exact ⟨rfl, rfl⟩
  | _ => cases f
theorem flats_of : ∀ {ds : List D} {vs : List V}, ds.all flatD = true → Rps c H ρ ds vs → vs = ds.map vOf ∧ vs.all flatV = true
  | [], vs, _, h => by rw [h.of_nil]; exact ⟨rfl, rfl⟩
  | d :: ds, vs, f, h => by
    obtain ⟨v, r, rfl, q, t⟩ := h.of_cons
    rw [List.all_cons, Bool.and_eq_true] at f
    obtain ⟨a, b⟩ := flat_of f.1 q
    obtain ⟨a2, b2⟩ := flats_of f.2 t
    rw [List.map_cons, List.all_cons, ← a, ← a2, b, b2]
    exact ⟨rfl, rfl⟩
theorem flatEq_of {a b : D} (fa : flatD a = true) (fb : flatD b = true) : eqV (vOf a) (vOf b) = flatEq a b := by
  cases a <;> cases b <;> first | rfl | (cases fa; done) | (cases fb; done)
theorem inV_of {x : D} (fx : flatD x = true) : ∀ {ds : List D}, ds.all flatD = true → inV (vOf x) (ds.map vOf) = ds.any fun z => flatEq z x
  | [], _ => rfl
  | d :: ds, f => by
    rw [List.all_cons, Bool.and_eq_true] at f
    have ih := inV_of fx f.2
    unfold inV at ih ⊢
    rw [List.map_cons, List.any_cons, List.any_cons, ih, flatEq_of f.1 fx]

/-! ### keys -/
theorem key_of {d : D} {v : V} (f : keyD d = true) (h : Rp c H ρ d v) : ∃ k : Key, d = kD k ∧ v = kV k := by
  cases d with
  | int i => exact ⟨.inl i, rfl, h⟩
  | str x => exact ⟨.inr x, rfl, h⟩
  | _ => cases f
theorem keyEq_kD (a b : Key) : keyEq (kD a) (kD b) = decide (a = b) := by
  cases a with
  | inl i => cases b with
    | inl j => exact Bool.eq_iff_iff.mpr (by simp [keyEq, kD])
    | inr y => exact Bool.eq_iff_iff.mpr (by simp [keyEq, kD])
  | inr x => cases b with
    | inl j => exact Bool.eq_iff_iff.mpr (by simp [keyEq, kD])
    | inr y => exact Bool.eq_iff_iff.mpr (by simp [keyEq, kD])
theorem dictGet_of (k : Key) : ∀ {kvs : List (Key × V)} {ds : List D}, Rps c H ρ ds (kvs.map (·.2)) →
    (match dictGet (kvs.map fun p => kD p.1) ds (kD k) with
      | some d => ∃ v, valV kvs k = some v ∧ Rp c H ρ d v
      | none => valV kvs k = none)
  | [], ds, h => by
    have : dictGet (([] : List (Key × V)).map fun p => kD p.1) ds (kD k) = none := by cases ds <;> rfl
    rw [this]
    rfl
  | (q, w) :: kvs, [], h => by
    have := h.of_nil
    simp at this
  | (q, w) :: kvs, d :: ds, h => by
    obtain ⟨v, r, e, y, t⟩ := h.of_cons
    simp only [List.map_cons, List.cons.injEq] at e
    obtain ⟨rfl, rfl⟩ := e
    have ih := dictGet_of k t
    unfold dictGet
    simp only [List.map_cons, keyEq_kD]
    unfold valV
    rw [List.find?_cons]
    by_cases hk : q = k
    · simp only [hk, decide_true, if_true]
      exact ⟨w, rfl, y⟩
    · simp only [hk, decide_false, if_false, Bool.false_eq_true]
      exact ih
theorem any_keys (k : Key) : ∀ kvs : List (Key × V), (kvs.map fun p => kD p.1).any (fun q => keyEq q (kD k)) = kvs.any fun kv => decide (kv.1 = k)
  | [] => rfl
  | p :: r => by rw [List.map_cons, List.any_cons, List.any_cons, keyEq_kD, any_keys k r]
theorem swap_of {k : Key} {y : D} {v : V} (hy : Rp c H ρ y v) : ∀ {kvs : List (Key × V)} {ds : List D}, Rps c H ρ ds (kvs.map (·.2)) →
    Rps c H ρ (swapV (kD k) y (kvs.map fun p => kD p.1) ds) ((kvs.map fun kv => if kv.1 = k then (kv.1, v) else kv).map (·.2)) ∧ ((kvs.map fun kv => if kv.1 = k then (kv.1, v) else kv).map fun p => kD p.1) = kvs.map fun p => kD p.1
  | [], ds, h => ⟨.nil, rfl⟩
  | (q, w) :: kvs, [], h => by
    have := h.of_nil
    simp at this
  | (q, w) :: kvs, d :: ds, h => by
    obtain ⟨v', r, e, y', t⟩ := h.of_cons
    simp only [List.map_cons, List.cons.injEq] at e
    obtain ⟨rfl, rfl⟩ := e
    obtain ⟨i1, i2⟩ := swap_of (k := k) hy t
    simp only [List.map_cons]
    rw [i2]
    unfold swapV
    rw [keyEq_kD]
    by_cases hk : q = k
    · simp only [hk, decide_true, if_true]
      exact ⟨.cons hy i1, trivial⟩
    · simp only [hk, decide_false, if_false, Bool.false_eq_true]
      exact ⟨.cons y' i1, trivial⟩
theorem put_of {k : Key} {y : D} {v : V} (hy : Rp c H ρ y v) {kvs : List (Key × V)} {ds : List D} (h : Rps c H ρ ds (kvs.map (·.2))) :
    (dictPut (kvs.map fun p => kD p.1) ds (kD k) y).1 = (putK kvs k v).map (fun p => kD p.1) ∧ Rps c H ρ (dictPut (kvs.map fun p => kD p.1) ds (kD k) y).2 ((putK kvs k v).map (·.2)) := by
  unfold dictPut putK
  rw [any_keys]
  split
  · obtain ⟨i1, i2⟩ := swap_of (k := k) hy h
    exact ⟨i2.symm, i1⟩
  · simp only [List.map_append, List.map_cons, List.map_nil]
    exact ⟨trivial, h.append (.cons hy .nil)⟩

/-! ### comparisons -/
def rDIn : R2 := fun y x H Q => ∃ a o, x = .ref a ∧ DGet H a y o ∧ Q (.bl o.isSome) H
def rDNotIn : R2 := fun y x H Q => ∃ a o, x = .ref a ∧ DGet H a y o ∧ Q (.bl (!o.isSome)) H
theorem op_din (hu : X.A.units + 1 < cLine) : OpR X (compareOp .In) rDIn := by
  intro pins s σ H y x iv u Q I ry rx h
  obtain ⟨a, o, rfl, g, q⟩ := h
  obtain rfl : u = Value.ref a := rx
  exact d_in hu I g ry fun s3 I3 => ⟨.bl o.isSome, H, I3, rfl, q⟩
theorem op_dnotin (hu : X.A.units + 1 < cLine) : OpR X (compareOp .NotIn) rDNotIn := by
  intro pins s σ H y x iv u Q I ry rx h
  obtain ⟨a, o, rfl, g, q⟩ := h
  obtain rfl : u = Value.ref a := rx
  exact d_notIn hu I g ry fun s3 I3 => ⟨.bl (!o.isSome), H, I3, rfl, q⟩
def rCmp (K : PySem.W.Frag) : COp → R2
  | .eq => rEqD K
  | .ne => rNeD K
  | .lt => fun x y H Q => (rI0 fun i j => .bl (decide (i < j))) x y H Q ∨ ∃ i j, x = .str i ∧ y = .str j ∧ Q (.bl (decide (i.cps.toList < j.cps.toList))) H
  | .le => rI0 fun i j => .bl (decide (i ≤ j))
  | .gt => rI0 fun i j => .bl (decide (j < i))
  | .ge => rI0 fun i j => .bl (decide (j ≤ i))
  | .isn => fun x y H Q => y = .non ∧ Q (.bl (decide (x = .non))) H
  | .notn => fun x y H Q => y = .non ∧ Q (.bl (!decide (x = .non))) H
  | .isin => fun x y H Q => (∃ k z, x = .str ⟨#[k]⟩ ∧ y = .str z ∧ Q (.bl (decide (k ∈ z.cps.toList))) H) ∨ (rIn K false x y H Q ∨ rDIn x y H Q)
  | .nin => fun x y H Q => (∃ k z, x = .str ⟨#[k]⟩ ∧ y = .str z ∧ Q (.bl (!decide (k ∈ z.cps.toList))) H) ∨ (rIn K true x y H Q ∨ rDNotIn x y H Q)
def cmpPy : COp → CmpOp
  | .eq => .Eq
  | .ne => .NotEq
  | .lt => .Lt
  | .le => .LtE
  | .gt => .Gt
  | .ge => .GtE
  | .isn => .Is
  | .notn => .IsNot
  | .isin => .In
  | .nin => .NotIn
theorem op_cmp (hu : X.A.units + 64 < cLine) (o : COp) : OpR X (compareOp (cmpPy o)) (rCmp X.K o) := by
  cases o with
  | eq => exact op_eqD hu
  | ne => exact op_neD hu
  | lt => exact op_lt.or op_lt_str
  | le => exact op_le
  | gt => exact op_gt
  | ge => exact op_ge
  | isn => exact op_isN
  | notn => exact op_notN
  | isin => exact op_in_sign.or (op_in_seq.or (op_din (by omega)))
  | nin => exact op_notIn_sign.or (op_notIn_seq.or (op_dnotin (by omega)))

theorem rp_dict {d : D} {v : V} {ks vs : List D} (s : SR c H ρ G) (h : Rp c H ρ d v) (e : dictOf G d = some (ks, vs)) : ∃ a kvs, v = .ref a ∧ Rd H a (.dK kvs) ∧ ks = kvs.map (fun p => kD p.1) ∧ Rps c H ρ vs (kvs.map (·.2)) := by
  cases d with
  | dct ks' vs' =>
    have e : some (ks', vs') = some (ks, vs) := e
    cases e
    unfold Rp at h
    obtain ⟨a, kvs, r, q, _, k, t⟩ := h
    exact ⟨a, kvs, r, q, k, t⟩
  | ref i =>
    obtain ⟨a, ha, r⟩ := h.ref_of
    unfold dictOf at e
    cases g : G[i]? with
    | none => simp only [g] at e; cases e
    | some o =>
      simp only [g] at e
      cases o with
      | dct ks' vs' =>
        cases e
        obtain ⟨kvs, q, k, t⟩ := s.obj i a _ ha g
        exact ⟨a, kvs, r, .inl q, k, t⟩
      | lkd ks' vs' =>
        cases e
        obtain ⟨o, kvs, q, k, t⟩ := s.obj i a _ ha g
        exact ⟨a, kvs, r, .inr ⟨o, q⟩, k, t⟩
      | _ => cases e
  | _ => cases e
theorem rp_get {d x : D} {v y : V} {ks vs : List D} (s : SR c H ρ G) (h : Rp c H ρ d v) (e : dictOf G d = some (ks, vs)) (kx : keyD x = true) (hx : Rp c H ρ x y) :
    ∃ a o, v = .ref a ∧ DGet H a y o ∧ (match dictGet ks vs x with
      | some z => ∃ w, o = some w ∧ Rp c H ρ z w
      | none => o = none) := by
  obtain ⟨a, kvs, rfl, q, rfl, t⟩ := rp_dict s h e
  obtain ⟨k, rfl, rfl⟩ := key_of kx hx
  have g := dictGet_of k t
  refine ⟨a, valV kvs k, rfl, .inl ⟨kvs, k, q, rfl, rfl⟩, ?_⟩
  split
  · rename_i z ez
    rw [ez] at g
    exact g
  · rename_i ez
    rw [ez] at g
    exact g
theorem rp_non {d : D} {v : V} (h : Rp c H ρ d v) : decide (v = .non) = isNonD d := by
  cases d with
  | non => have h : v = .non := h; subst h; rfl
  | bl b => have h : v = .bl b := h; subst h; rfl
  | int b => have h : v = .int b := h; subst h; rfl
  | str b => have h : v = .str b := h; subst h; rfl
  | ty b => have h : v = .ty b := h; subst h; rfl
  | tup b => obtain ⟨a, vs, rfl, _⟩ := h.tup_of; rfl
  | lst b => obtain ⟨a, vs, rfl, _⟩ := h.lst_of; rfl
  | dct b d => unfold Rp at h; obtain ⟨a, vs, rfl, _⟩ := h; rfl
  | ins b d e => unfold Rp at h; obtain ⟨a, C, dx, vs, rfl, _⟩ := h; rfl
  | ref b => obtain ⟨a, _, rfl⟩ := h.ref_of; rfl
  | glo b => unfold Rp at h; obtain ⟨a, _, rfl⟩ := h; rfl
  | exc b => unfold Rp at h; obtain ⟨a, C, rfl, _⟩ := h; rfl
theorem in_ok {neg : Bool} {x y : V} {a d : D} {k : Bool} {Q : VK} (s : SR c H ρ G) (ra : Rp c H ρ a x) (rd : Rp c H ρ d y) (e : inD G a d = some k) (q : Q (.bl (if neg then !k else k)) H) :
    (∃ k z, x = .str ⟨#[k]⟩ ∧ y = .str z ∧ Q (.bl (if neg then !decide (k ∈ z.cps.toList) else decide (k ∈ z.cps.toList))) H) ∨ (rIn c.K neg x y H Q ∨ ∃ a o, y = .ref a ∧ DGet H a x o ∧ Q (.bl (if neg then !o.isSome else o.isSome)) H) := by
  have other : (match dictOf G d with
    | some (ks, vs) => if keyD a then some (dictGet ks vs a).isSome else none
    | none => (seqD G d).bind (inSeq a)) = some k → (rIn c.K neg x y H Q ∨ ∃ a o, y = .ref a ∧ DGet H a x o ∧ Q (.bl (if neg then !o.isSome else o.isSome)) H) := by
    intro e
    cases g : dictOf G d with
    | some p =>
      obtain ⟨ks, vs⟩ := p
      rw [g] at e
      obtain ⟨ka, rfl⟩ := ite_some e
      obtain ⟨p, o, rfl, dg, m⟩ := rp_get s rd g ka ra
      refine .inr ⟨p, o, rfl, dg, ?_⟩
      have eo : o.isSome = (dictGet ks vs a).isSome := by
        cases z : dictGet ks vs a with
        | none => rw [z] at m; rw [m]; rfl
        | some w => rw [z] at m; obtain ⟨w', m, _⟩ := m; rw [m]; rfl
      rw [eo]
      exact q
    | none =>
      rw [g] at e
      cases g2 : seqD G d with
      | none => rw [g2] at e; cases e
      | some ys =>
        rw [g2] at e
        obtain ⟨hf, rfl⟩ := ite_some e
        rw [Bool.and_eq_true] at hf
        obtain ⟨p, vs, rfl, sq, t⟩ := rp_seq s rd g2
        obtain ⟨e1, f1⟩ := flat_of hf.1 ra
        obtain ⟨e2, f2⟩ := flats_of hf.2 t
        refine .inl ⟨p, vs, rfl, ?_, f1, f2, ?_⟩
        · rcases sq with sq | sq
          · exact .inl (.inl sq)
          · exact .inr sq
        · rw [e1, e2, inV_of hf.1 hf.2]
          exact q
  cases d with
  | str z =>
    have hy : y = .str z := rd
    cases a with
    | str w =>
      have hx : x = .str w := ra
      have e : (signOf (.str w)).map (fun k => decide (k ∈ z.cps.toList)) = some k := e
      unfold signOf at e
      cases g : w.cps.toList with
      | nil => simp only [g] at e; cases e
      | cons n r =>
        cases r with
        | nil =>
          simp only [g] at e
          cases e
          refine .inl ⟨n, z, ?_, hy, q⟩
          rw [hx]
          congr 1
          obtain ⟨⟨l⟩⟩ := w
          have g : l = [n] := g
          rw [g]
        | cons m r => simp only [g] at e; cases e
    | _ => cases e
  | _ => exact .inr (other e)
theorem cmp_ok {o : COp} {x y : V} {a d : D} {Q : VK} (s : SR c H ρ G) (ra : Rp c H ρ a x) (rd : Rp c H ρ d y) {k : Bool} (e : cmpD G o a d = some k) (q : Q (.bl k) H) : rCmp c.K o x y H Q := by
  have eqs : ∀ {k : Bool}, eqD G a d = some k → ∃ p r, Dp c.K H x p ∧ Dp c.K H y r ∧ SeqAt.shaped p = true ∧ SeqAt.shaped r = true ∧ PyData.eqv p r = k := by
    intro k e
    unfold eqD at e
    cases g1 : toPyG G a with
    | none => rw [g1] at e; cases e
    | some p =>
      cases g2 : toPyG G d with
      | none => rw [g1, g2] at e; cases e
      | some r =>
        rw [g1, g2] at e
        obtain ⟨hs, e⟩ := ite_some e
        rw [Bool.and_eq_true] at hs
        exact ⟨p, r, dpG_of s g1 ra, dpG_of s g2 rd, hs.1, hs.2, e⟩
  cases o with
  | eq =>
    obtain ⟨p, r, h1, h2, h3, h4, rfl⟩ := eqs e
    exact ⟨p, r, h1, h2, h3, h4, q⟩
  | ne =>
    have e : (eqD G a d).map (!·) = some k := e
    cases g : eqD G a d with
    | none => rw [g] at e; cases e
    | some b =>
      rw [g] at e
      cases e
      obtain ⟨p, r, h1, h2, h3, h4, rfl⟩ := eqs g
      exact ⟨p, r, h1, h2, h3, h4, q⟩
  | lt =>
    cases a with
    | int i =>
      cases d with
      | int j => cases e; exact .inl ⟨i, j, ra, rd, q⟩
      | _ => cases e
    | str i =>
      cases d with
      | str j => cases e; exact .inr ⟨i, j, ra, rd, q⟩
      | _ => cases e
    | _ => cases e
  | le =>
    cases a with
    | int i =>
      cases d with
      | int j => cases e; exact ⟨i, j, ra, rd, q⟩
      | _ => cases e
    | _ => cases e
  | gt =>
    cases a with
    | int i =>
      cases d with
      | int j => cases e; exact ⟨i, j, ra, rd, q⟩
      | _ => cases e
    | _ => cases e
  | ge =>
    cases a with
    | int i =>
      cases d with
      | int j => cases e; exact ⟨i, j, ra, rd, q⟩
      | _ => cases e
    | _ => cases e
  | isn =>
    cases d with
    | non =>
      refine ⟨rd, ?_⟩
      rw [rp_non ra]
      have e : some (isNonD a) = some k := by cases a <;> exact e
      cases e
      exact q
    | _ => cases a <;> cases e
  | notn =>
    cases d with
    | non =>
      refine ⟨rd, ?_⟩
      rw [rp_non ra]
      have e : some (!isNonD a) = some k := by cases a <;> exact e
      cases e
      exact q
    | _ => cases a <;> cases e
  | isin => exact in_ok (neg := false) s ra rd (by cases a <;> exact e) q
  | nin =>
    have e : (inD G a d).map (!·) = some k := by cases a <;> exact e
    cases g : inD G a d with
    | none => rw [g] at e; cases e
    | some b =>
      rw [g] at e
      cases e
      exact in_ok (neg := true) s ra rd g q
end U

set_option Elab.async false
set_option linter.all false
set_option maxRecDepth 100000
/-! UE: truth, places, slices, built-ins, stores upon plain data. -/
namespace U
open PySem L2 PyProof.Rows
variable {X : Cx} {c : C} {H : Hp} {ρ : List Addr} {G : Hd}

theorem isEmpty_of {ds : List D} {vs : List V} (t : Rps c H ρ ds vs) : (!vs.isEmpty) = !ds.isEmpty := by
  have := t.length
  cases vs <;> cases ds <;> first | rfl | (simp at this; done)
theorem tru_ok {a : D} {x : V} {k : Bool} (s : SR c H ρ G) (ra : Rp c H ρ a x) (e : truD G a = some k) : TruV c.K x H k := by
  have lists : (listD G a).map (fun xs => !xs.isEmpty) = some k → TruV c.K x H k := by
    intro e
    cases g : listD G a with
    | none => rw [g] at e; cases e
    | some xs =>
      rw [g] at e
      cases e
      obtain ⟨p, vs, rfl, q, t⟩ := rp_list s ra g
      exact .inl ⟨vs, .inl q, (isEmpty_of t).symm⟩
  cases a with
  | non => have h : x = .non := ra; subst h; cases e; rfl
  | bl b => have h : x = .bl b := ra; subst h; cases e; rfl
  | int i => have h : x = .int i := ra; subst h; cases e; rfl
  | str z =>
    have h : x = .str z := ra
    subst h
    obtain ⟨h1, rfl⟩ := ite_some e
    exact ⟨by rw [line_eq]; exact h1, rfl⟩
  | tup xs =>
    cases e
    obtain ⟨p, vs, rfl, q, t⟩ := ra.tup_of
    exact .inr (.inl ⟨vs, q, (isEmpty_of t).symm⟩)
  | _ => exact lists e

theorem len_ok {a : D} {x : V} {n : Nat} (s : SR c H ρ G) (ra : Rp c H ρ a x) (e : lenD G a = some n) : LenV c.K x H n := by
  have seqs : (seqD G a).map List.length = some n → LenV c.K x H n := by
    intro e
    cases g : seqD G a with
    | none => rw [g] at e; cases e
    | some xs =>
      rw [g] at e
      cases e
      obtain ⟨p, vs, rfl, q, t⟩ := rp_seq s ra g
      rcases q with q | q
      · exact .inl ⟨vs, .inl q, t.length.symm⟩
      · exact .inr ⟨vs, q, t.length.symm⟩
  cases a with
  | str z =>
    have h : x = .str z := ra
    subst h
    obtain ⟨h1, rfl⟩ := ite_some e
    exact ⟨by rw [line_eq]; exact h1, rfl⟩
  | _ => exact seqs e

/-! ### places -/
def rDGet : R2 := fun x y H Q => ∃ a v, x = .ref a ∧ DGet H a y (some v) ∧ Q v H
theorem ix_dict (hu : X.A.units + 1 < cLine) : IxR X rDGet := by
  intro value slice pins s σ H x y v u Q I rx ry h hs
  obtain ⟨a, w, rfl, g, q⟩ := h
  obtain rfl : v = Value.ref a := rx
  exact tail_any (dict_typeIs I g) PySem.F.slot_dict_getitem.lookup (d_getItem hu I g ry fun w' s3 I3 rw' => ⟨w, H, I3, rw', q⟩) hs
theorem IxR.or {r r' : R2} (h : IxR X r) (h' : IxR X r') : IxR X (fun x y H Q => r x y H Q ∨ r' x y H Q) := by
  intro value slice pins s σ H x y v u Q I rx ry q hs
  rcases q with q | q
  · exact h value slice pins s σ H x y v u Q I rx ry q hs
  · exact h' value slice pins s σ H x y v u Q I rx ry q hs
def rIx (K : PySem.W.Frag) : R2 := fun x y H Q => (rIxL K x y H Q ∨ rIxT K x y H Q) ∨ (rIxS x y H Q ∨ rDGet x y H Q)
theorem ix_any (hu : X.A.units + 64 < cLine) : IxR X (rIx X.K) := (ix_list.or ix_tup).or (ix_str.or (ix_dict (by omega)))
theorem ix_ok {x y : V} {a d z : D} {Q : VK} (s : SR c H ρ G) (ra : Rp c H ρ a x) (rd : Rp c H ρ d y) (e : ixD G a d = some z) (f : Fin c (Rp c) (.ok z G) H ρ Q) : rIx c.K x y H Q := by
  have other : (match dictOf G a with
    | some (ks, vs) => if keyD d then dictGet ks vs d else none
    | none => (seqD G a).bind fun xs => ixSeq xs d) = some z → rIx c.K x y H Q := by
    intro e
    cases g : dictOf G a with
    | some p =>
      obtain ⟨ks, vs⟩ := p
      rw [g] at e
      have e : (if keyD d then dictGet ks vs d else none) = some z := e
      by_cases kd : keyD d = true
      · rw [if_pos kd] at e
        obtain ⟨p, o, rfl, dg, m⟩ := rp_get s ra g kd rd
        rw [e] at m
        obtain ⟨w, rfl, rw'⟩ := m
        exact .inr (.inr ⟨p, w, rfl, dg, f.here s rw'⟩)
      · rw [if_neg kd] at e
        cases e
    | none =>
      rw [g] at e
      cases g2 : seqD G a with
      | none => rw [g2] at e; cases e
      | some xs =>
        rw [g2] at e
        have e : ixSeq xs d = some z := e
        obtain ⟨p, vs, rfl, q, t⟩ := rp_seq s ra g2
        cases d with
        | int j =>
          have hy : y = .int j := rd
          have e : ((L2.ixN xs.length j).bind fun k => xs[k]?) = some z := e
          cases g3 : L2.ixN xs.length j with
          | none => rw [g3] at e; cases e
          | some k =>
            rw [g3] at e
            obtain ⟨w, hw, rw'⟩ := t.get (show xs[k]? = some z from e)
            have ea : atI vs j = some w := by
              unfold atI
              rw [t.length, g3]
              exact hw
            rcases q with q | q
            · exact .inl (.inl ⟨p, vs, j, w, rfl, hy, .inl q, ea, f.here s rw'⟩)
            · exact .inl (.inr ⟨p, vs, j, w, rfl, hy, q, ea, f.here s rw'⟩)
        | _ => cases e
  cases a with
  | str w =>
    cases d with
    | int j =>
      have hx : x = .str w := ra
      have hy : y = .int j := rd
      have e : (if w.length ≤ line then (L2.ixN w.length j).bind fun k => w.cps.toList[k]?.map fun c => D.str ⟨#[c]⟩ else none) = some z := e
      by_cases hl : w.length ≤ line
      · rw [if_pos hl] at e
        cases g3 : L2.ixN w.length j with
        | none => rw [g3] at e; cases e
        | some k =>
          rw [g3] at e
          cases g4 : w.cps.toList[k]? with
          | none =>
            have e : w.cps.toList[k]?.map (fun c => D.str ⟨#[c]⟩) = some z := e
            rw [g4] at e
            cases e
          | some n =>
            have e : w.cps.toList[k]?.map (fun c => D.str ⟨#[c]⟩) = some z := e
            rw [g4] at e
            cases e
            refine .inr (.inl ⟨w, j, n, hx, hy, by rw [line_eq]; exact hl, ?_, f.here s rfl⟩)
            unfold atI
            have hz : w.cps.toList.length = w.length := by simp [PySem.Str.length]
            rw [hz, g3]
            exact g4
      · rw [if_neg hl] at e
        cases e
    | _ => cases e
  | _ => exact other e

/-! ### slices -/
theorem cut_of {ds : List D} {vs : List V} (lo hi : Option Int) (t : Rps c H ρ ds vs) : Rps c H ρ (cutD ds lo hi) (cutV vs lo hi) := by
  unfold cutV cutD
  rw [t.length]
  exact (t.drop _).take _
def rSl (K : PySem.W.Frag) : V → Option Int → Option Int → Hp → VK → Prop := fun x lo hi H Q => rSlL K x lo hi H Q ∨ rSlA K x lo hi H Q
theorem sl_any : SlR X (rSl X.K) := by
  intro pins s σ H x v vl vu lo hi sl Q I rx hs p1 p2 q
  rcases q with q | q
  · exact sl_list pins s σ H x v vl vu lo hi sl Q I rx hs p1 p2 q
  · exact sl_tupA pins s σ H x v vl vu lo hi sl Q I rx hs p1 p2 q
theorem sl_ok {x : V} {a z : D} {lo hi : Option Int} {Q : VK} (s : SR c H ρ G) (ra : Rp c H ρ a x) (e : slD G a lo hi = some z) (f : Fin c (Rp c) (.ok z G) H ρ Q) : rSl c.K x lo hi H Q := by
  have lists : (listD G a).map (fun xs => D.lst (cutD xs lo hi)) = some z → rSl c.K x lo hi H Q := by
    intro e
    cases g : listD G a with
    | none => rw [g] at e; cases e
    | some xs =>
      rw [g] at e
      cases e
      obtain ⟨p, vs, rfl, q, t⟩ := rp_list s ra g
      exact .inl ⟨p, vs, rfl, .inl q, fun r hr => newLst s hr (cut_of lo hi t) f⟩
  cases a with
  | tup xs =>
    cases e
    obtain ⟨p, vs, rfl, q, t⟩ := ra.tup_of
    refine .inr ⟨p, vs, rfl, q, fun ⟨h1, h2⟩ => ?_, fun _ r hr => newTup s hr (cut_of lo hi t) f⟩
    have ee : cutD xs lo hi = xs := by
      unfold cutD
      rw [t.length] at h1 h2
      rw [h1, h2]
      simp
    rw [ee] at f
    exact f.here s ra
  | _ => exact lists e

/-! ### built-ins by value -/
theorem type_ok {a : D} {x : V} {t : String} (s : SR c H ρ G) (ra : Rp c H ρ a x) (e : typeD G a = some t) : TyX c.K H x (.type t) := by
  cases a with
  | non => have h : x = .non := ra; subst h; cases e; exact .base .non
  | bl b => have h : x = .bl b := ra; subst h; cases e; exact .base (.bl b)
  | int i => have h : x = .int i := ra; subst h; cases e; exact .base (.int i)
  | str z => have h : x = .str z := ra; subst h; cases e; exact .base (.str z)
  | tup xs =>
    cases e
    obtain ⟨p, vs, rfl, q, _⟩ := ra.tup_of
    rcases q with (q | ⟨o, q⟩) | ⟨o, its, n, q, cl, _⟩
    · exact .base (.tup q)
    · exact .fTuple q
    · exact .kTuple q cl
  | lst xs =>
    cases e
    obtain ⟨p, vs, rfl, q, _⟩ := ra.lst_of
    rcases q with q | ⟨o, q⟩
    · exact .base (.lst q)
    · exact .base (.frz q)
  | dct ks vs =>
    cases e
    unfold Rp at ra
    obtain ⟨p, kvs, rfl, q, _⟩ := ra
    rcases q with q | ⟨o, q⟩
    · exact .base (.dK q)
    · exact .fDict q
  | ref i =>
    obtain ⟨p, hp, rfl⟩ := ra.ref_of
    unfold typeD at e
    cases g : G[i]? with
    | none => simp only [g] at e; cases e
    | some o =>
      simp only [g] at e
      have ob := s.obj i p o hp g
      cases o with
      | lst ds => cases e; obtain ⟨vs, q, _⟩ := ob; exact .base (.lst q)
      | dct ks ds => cases e; obtain ⟨vs, q, _⟩ := ob; exact .base (.dK q)
      | lkd ks ds => cases e; obtain ⟨oo, vs, q, _⟩ := ob; exact .fDict q
      | ins _ _ _ => cases e
  | _ => cases e
theorem typeD_mem {a : D} {t : String} (e : typeD G a = some t) : t ∈ ["NoneType", "bool", "int", "str", "tuple", "list", "dict"] := by
  cases a with
  | ref i =>
    unfold typeD at e
    cases g : G[i]? with
    | none => simp only [g] at e; cases e
    | some o =>
      simp only [g] at e
      cases o <;> cases e <;> decide
  | _ => first | (cases e; decide) | cases e
theorem isi_tab : ∀ t ∈ ["NoneType", "bool", "int", "str", "tuple", "list", "dict"], ∀ n ∈ ["int", "bool", "str", "tuple", "list"], isiD t n = kitB t n := by decide +kernel
theorem isi_ok {a : D} {t n : String} {k : Bool} (e : typeD G a = some t) (e2 : isiD t n = some k) : kitB t n = some k := by
  have hn : n ∈ ["int", "bool", "str", "tuple", "list"] := by
    unfold isiD at e2
    have := (ite_some e2).1
    exact List.contains_iff_mem.mp this
  rw [← isi_tab t (typeD_mem e) n hn]
  exact e2
theorem bools_ok : ∀ {ds : List D} {vs : List V} {bs : List Bool}, Rps c H ρ ds vs → boolsD ds = some bs → vs = bs.map V.bl
  | [], vs, bs, t, e => by cases e; exact t.of_nil
  | d :: ds, vs, bs, t, e => by
    obtain ⟨v, r, rfl, q, t1⟩ := t.of_cons
    cases d with
    | bl b =>
      have e : (boolsD ds).map (b :: ·) = some bs := e
      cases g : boolsD ds with
      | none => rw [g] at e; cases e
      | some cs =>
        rw [g] at e
        cases e
        have ih := bools_ok t1 g
        rw [List.map_cons, ← ih]
        have q : v = .bl b := q
        rw [q]
    | _ => cases e

def rBi (X : Cx) : BI → List V → Hp → VK → Prop
  | .len => fun xs H Q => ∃ x n, xs = [x] ∧ LenV X.K x H n ∧ Q (.int n) H
  | .abs => fun xs H Q => ∃ i, xs = [.int i] ∧ Q (.int (if i < 0 then -i else i)) H
  | .isi => rIsi X.K
  | .all => rAll X.K
  | .any => rAny X.K
  | .tuple => fun xs H Q => ∃ p ys, xs = [V.ref p] ∧ ((SqL X.K H p ys ∧ ∀ (l : Addr), H l = none → Q (V.ref l) (upd H l (HO.tup ys))) ∨ SqT X.K H p ys ∧ Q (V.ref p) H)
  | .list => fun xs H Q => ∃ p ys, xs = [V.ref p] ∧ (SqL X.K H p ys ∨ SqT X.K H p ys) ∧ ∀ (l : Addr), H l = none → Q (V.ref l) (upd H l (HO.lst ys))
  | _ => fun _ _ _ => False
/-- the built-in as a value, its name -/
def biV : BI → Value
  | .len => .builtin "len"
  | .abs => .builtin "abs"
  | .isi => .builtin "isinstance"
  | .all => .builtin "all"
  | .any => .builtin "any"
  | .sum => .builtin "sum"
  | .min => .builtin "min"
  | .max => .builtin "max"
  | .tuple => .type "tuple"
  | .list => .type "list"
  | .dict => .type "dict"
  | .int => .type "int"
  | .str => .type "str"
theorem bi_call (hc : X.calm = true) (o : BI) : CallR X (biV o) (rBi X o) := by
  cases o with
  | len => exact call_len
  | abs => exact call_abs
  | isi => exact call_isi
  | all => exact cr_all hc
  | any => exact cr_any hc
  | tuple => exact call_tuple_of
  | list => exact call_list_of
  | _ => exact fun _ _ _ _ _ _ _ _ _ h => h.elim
theorem arg1_some {f : D → Option D} {as : List D} {z : D} (e : arg1 f as = some z) : ∃ a, as = [a] ∧ f a = some z := by
  match as, e with
  | [a], e => exact ⟨a, rfl, e⟩
theorem arg2_some {f : D → D → Option D} {as : List D} {z : D} (e : arg2 f as = some z) : ∃ a b, as = [a, b] ∧ f a b = some z := by
  match as, e with
  | [a, b], e => exact ⟨a, b, rfl, e⟩
theorem map_some {α β : Type} {f : α → β} {o : Option α} {z : β} (e : o.map f = some z) : ∃ a, o = some a ∧ f a = z := by
  cases o with
  | none => cases e
  | some a => exact ⟨a, rfl, Option.some.inj e⟩
theorem bind_some {α β : Type} {f : α → Option β} {o : Option α} {z : β} (e : o.bind f = some z) : ∃ a, o = some a ∧ f a = some z := by
  cases o with
  | none => cases e
  | some a => exact ⟨a, rfl, e⟩
theorem bi_ok (hK : c.K = X.K) {o : BI} {xs : List V} {as : List D} {z : D} {Q : VK} (s : SR c H ρ G) (ra : Rps c H ρ as xs) (e : biD G o as = some z) (f : Fin c (Rp c) (.ok z G) H ρ Q) : rBi X o xs H Q := by
  cases o with
  | len =>
    obtain ⟨a, rfl, e⟩ := arg1_some e
    obtain ⟨x, r, rfl, q, t⟩ := ra.of_cons
    obtain rfl := t.of_nil
    obtain ⟨n, g, rfl⟩ := map_some e
    exact ⟨x, n, rfl, hK ▸ len_ok s q g, f.here s rfl⟩
  | abs =>
    obtain ⟨a, rfl, e⟩ := arg1_some e
    obtain ⟨x, r, rfl, q, t⟩ := ra.of_cons
    obtain rfl := t.of_nil
    cases a with
    | int i =>
      cases e
      have q : x = .int i := q
      exact ⟨i, by rw [q], f.here s rfl⟩
    | _ => cases e
  | isi =>
    obtain ⟨a, b, rfl, e⟩ := arg2_some e
    obtain ⟨x, r, rfl, q, t⟩ := ra.of_cons
    obtain ⟨x2, r2, rfl, q2, t2⟩ := t.of_cons
    obtain rfl := t2.of_nil
    obtain ⟨n, g0, e⟩ := bind_some e
    obtain ⟨tn, g, e⟩ := bind_some e
    obtain ⟨k, g2, rfl⟩ := map_some e
    cases b with
    | ty m =>
      cases g0
      have q2 : x2 = .ty n := q2
      subst q2
      exact ⟨x, .ty n, .type tn, .type n, k, rfl, .ty n, hK ▸ type_ok s q g, kit_ty (isi_ok g g2), f.here s rfl⟩
    | _ => cases g0
  | all =>
    obtain ⟨a, rfl, e⟩ := arg1_some e
    obtain ⟨x, r, rfl, q, t⟩ := ra.of_cons
    obtain rfl := t.of_nil
    obtain ⟨bs, e1, rfl⟩ := map_some e
    obtain ⟨ds, g, g2⟩ := bind_some e1
    obtain ⟨p, vs, rfl, q, t⟩ := rp_list s q g
    have := bools_ok t g2
    subst this
    exact ⟨p, bs, rfl, .inl q, f.here s rfl⟩
  | any =>
    obtain ⟨a, rfl, e⟩ := arg1_some e
    obtain ⟨x, r, rfl, q, t⟩ := ra.of_cons
    obtain rfl := t.of_nil
    obtain ⟨bs, e1, rfl⟩ := map_some e
    obtain ⟨ds, g, g2⟩ := bind_some e1
    obtain ⟨p, vs, rfl, q, t⟩ := rp_list s q g
    have := bools_ok t g2
    subst this
    exact ⟨p, bs, rfl, .inl q, f.here s rfl⟩
  | tuple =>
    obtain ⟨a, rfl, e⟩ := arg1_some e
    obtain ⟨x, r, rfl, q, t⟩ := ra.of_cons
    obtain rfl := t.of_nil
    obtain ⟨ds, g, rfl⟩ := map_some e
    obtain ⟨p, vs, rfl, q', t⟩ := rp_seq s q g
    refine ⟨p, vs, rfl, ?_⟩
    rcases q' with q' | q'
    · exact .inl ⟨.inl q', fun l hl => newTup s hl t f⟩
    · refine .inr ⟨hK ▸ q', f.here s ?_⟩
      unfold Rp
      exact ⟨p, vs, rfl, q', t⟩
  | list =>
    obtain ⟨a, rfl, e⟩ := arg1_some e
    obtain ⟨x, r, rfl, q, t⟩ := ra.of_cons
    obtain rfl := t.of_nil
    obtain ⟨ds, g, rfl⟩ := map_some e
    obtain ⟨p, vs, rfl, q', t⟩ := rp_seq s q g
    refine ⟨p, vs, rfl, ?_, fun l hl => newLst s hl t f⟩
    rcases q' with q' | q'
    · exact .inl (.inl q')
    · exact .inr (hK ▸ q')
  | sum => cases e
  | dict => cases e
  | int => cases e
  | str => cases e
  | min => cases e
  | max => cases e

/-! ### stores -/
theorem store_cl {b i : Nat} {x : D} (hP : ∀ n, c.P n → n ≤ b) (h : storeOk b i x = true) {n : Nat} (hn : c.P n) (hi : i < n) : closed n x = true := by
  unfold storeOk at h
  rw [Bool.or_eq_true, decide_eq_true_eq] at h
  rcases h with h | h
  · have := hP n hn
    omega
  · exact closed_le (Nat.zero_le _) x h
theorem append_ok {o x : D} {v y : V} {Q : VK} (s : SR c H ρ G) (ro : Rp c H ρ o v) (rx : Rp c H ρ x y) (f : Fin c (Rp c) (appendD c.b o x G) H ρ Q) : rAppend v [y] H Q := by
  unfold appendD at f
  cases o with
  | ref i =>
    obtain ⟨a, ha, rfl⟩ := ro.ref_of
    cases g : G[i]? with
    | none => simp only [g] at f; exact f.elim
    | some ob =>
      simp only [g] at f
      cases ob with
      | lst xs =>
        by_cases hc : (storeOk c.b i x && decide (xs.length < line)) = true
        · simp only [hc, if_true] at f
          rw [Bool.and_eq_true, decide_eq_true_eq] at hc
          obtain ⟨vs, q, t⟩ := s.obj i a _ ha g
          refine ⟨a, vs, y, rfl, rfl, q, by rw [t.length, line_eq]; exact hc.2, ?_⟩
          obtain ⟨e, s'⟩ := s.write (o := .lst (xs ++ [x])) (h := .lst (vs ++ [y])) ha ⟨_, q, trivial⟩
            (fun n hn hi => closeds_append (s.cl n i _ hn hi g) (Bool.and_eq_true_iff.mpr ⟨store_cl s.pb hc.1 hn hi, rfl⟩))
            (fun e => ⟨vs ++ [y], upd_same, (Rps.mono e _ _ t).append (.cons (Rp.mono e _ _ rx) .nil)⟩)
          exact f.ok e s' rfl
        · simp only [hc, if_false, Bool.false_eq_true] at f
          exact f.elim
      | _ => exact f.elim
  | _ => exact f.elim
theorem PSet.or {t t' : TSet} (h : PSet X t) (h' : PSet X t') : PSet X (fun o i v H Q => t o i v H Q ∨ t' o i v H Q) := by
  intro pins s σ H o i v ov iv u Q I r1 r2 r3 q
  rcases q with q | q
  · exact h pins s σ H o i v ov iv u Q I r1 r2 r3 q
  · exact h' pins s σ H o i v ov iv u Q I r1 r2 r3 q
def rDPut : TSet := fun x y v H Q => ∃ a H4, x = .ref a ∧ DPut H a y v H4 ∧ Q H4
theorem set_dict (hu : X.A.units + 1 < cLine) : PSet X rDPut := by
  intro pins s σ H o i v ov iv u Q I r1 r2 r3 q
  obtain ⟨a, H4, rfl, g, q⟩ := q
  obtain rfl : ov = Value.ref a := r1
  exact d_setItem hu I g r2 r3 fun s4 I4 => ⟨H4, I4, q⟩
def rSet : TSet := fun o i v H Q => rSetL o i v H Q ∨ rDPut o i v H Q
theorem set_any (hu : X.A.units + 64 < cLine) : PSet X rSet := PSet.or set_list (set_dict (by omega))
theorem closeds_swap {n : Nat} {k y : D} (h : closed n y = true) : ∀ {ks vs : List D}, closed.closeds n vs = true → closed.closeds n (swapV k y ks vs) = true
  | [], _, _ => by unfold swapV; rfl
  | _ :: _, [], _ => by unfold swapV; rfl
  | q :: ks, v :: vs, e => by
    unfold swapV
    obtain ⟨e1, e2⟩ := Bool.and_eq_true_iff.mp e
    refine Bool.and_eq_true_iff.mpr ⟨?_, closeds_swap h e2⟩
    split
    · exact h
    · exact e1
theorem closeds_put {n : Nat} {k y : D} {ks vs : List D} (h : closed n y = true) (e : closed.closeds n vs = true) : closed.closeds n (dictPut ks vs k y).2 = true := by
  unfold dictPut
  split
  · exact closeds_swap h e
  · exact closeds_append e (Bool.and_eq_true_iff.mpr ⟨h, rfl⟩)
theorem put_ok {o k x : D} {v w y : V} {Q : Unit → Hp → Prop} (s : SR c H ρ G) (ro : Rp c H ρ o v) (rk : Rp c H ρ k w) (rx : Rp c H ρ x y) (f : Fin c (fun _ _ _ _ => True) (putD c.b o k x G) H ρ Q) : rSet v w y H (fun H' => Q () H') := by
  unfold putD at f
  cases o with
  | ref i =>
    obtain ⟨a, ha, rfl⟩ := ro.ref_of
    cases g : G[i]? with
    | none => simp only [g] at f; exact f.elim
    | some ob =>
      simp only [g] at f
      cases ob with
      | dct ks vs =>
        by_cases hc : (storeOk c.b i x && keyD k && decide (ks.length < line)) = true
        · simp only [hc, if_true] at f
          rw [Bool.and_eq_true, decide_eq_true_eq, Bool.and_eq_true] at hc
          obtain ⟨kvs, q, rfl, t⟩ := s.obj i a _ ha g
          obtain ⟨kk, rfl, rfl⟩ := key_of hc.1.2 rk
          obtain ⟨e, s'⟩ := s.write (o := .dct (dictPut (kvs.map fun p => kD p.1) vs (kD kk) x).1 (dictPut (kvs.map fun p => kD p.1) vs (kD kk) x).2) (h := .dK (putK kvs kk y)) ha ⟨_, q, trivial⟩
            (fun n hn hi => closeds_put (store_cl s.pb hc.1.1 hn hi) (s.cl n i _ hn hi g))
            (fun e => ⟨putK kvs kk y, upd_same, (put_of (k := kk) (Rp.mono e _ _ rx) (Rps.mono e _ _ t)).1, (put_of (k := kk) (Rp.mono e _ _ rx) (Rps.mono e _ _ t)).2⟩)
          refine .inr ⟨a, _, rfl, .inl ⟨kvs, kk, q, rfl, ?_, rfl⟩, f.ok e s' trivial⟩
          have := hc.2
          rw [List.length_map] at this
          rw [line_eq]
          exact this
        · simp only [hc, if_false, Bool.false_eq_true] at f
          exact f.elim
      | lst xs =>
        cases k with
        | int j =>
          have rk : w = .int j := rk
          subst rk
          simp only at f
          cases g2 : L2.ixN xs.length j with
          | none => simp only [g2] at f; exact f.elim
          | some n =>
            simp only [g2] at f
            by_cases hc : storeOk c.b i x = true
            · simp only [hc, if_true] at f
              obtain ⟨vs, q, t⟩ := s.obj i a _ ha g
              obtain ⟨e, s'⟩ := s.write (o := .lst (xs.set n x)) (h := .lst (vs.set n y)) ha ⟨_, q, trivial⟩
                (fun m hn hi => closeds_set (store_cl s.pb hc hn hi) n (s.cl m i _ hn hi g))
                (fun e => ⟨vs.set n y, upd_same, Rps.set (Rp.mono e _ _ rx) n (Rps.mono e _ _ t)⟩)
              exact .inl ⟨a, vs, j, n, rfl, rfl, q, by rw [t.length]; exact g2, f.ok e s' trivial⟩
            · simp only [hc, if_false, Bool.false_eq_true] at f
              exact f.elim
        | _ => exact f.elim
      | ins _ _ _ => exact f.elim
      | lkd _ _ => exact f.elim
  | _ => exact f.elim
end U

set_option Elab.async false
set_option linter.all false
set_option maxRecDepth 100000
/-! UF: expressions. -/
namespace U
open PySem L2 PyProof.Rows

/-- an exception of the program's own, by its class's name -/
def exK (mg : Str → Option Value) (EX : Str → Hp → Prop) : XK := fun cls d H => ∃ e C, mg e = some (.ref C) ∧ cls = .ref C ∧ d = none ∧ EX e H
/-- what a function promises, by a function upon plain data -/
def lowSp (K : PySem.W.Frag) (mg : Str → Option Value) (T : List (Addr × Str)) (n : Nat) (F : List D → Hd → Out D) : Sp := fun vs H Q E => ∃ (EX : Str → Hp → Prop) (b : Nat) (P : Nat → Prop) (Z : List Addr) (ρ : List Addr) (G : Hd) (ds : List D),
  (∀ cls d H', exK mg EX cls d H' → E cls d H') ∧ SR ⟨K, mg, EX, b, P, Z, T⟩ H ρ G ∧ Rps ⟨K, mg, EX, b, P, Z, T⟩ H ρ ds vs ∧ vs.length = n ∧ Fin ⟨K, mg, EX, b, P, Z, T⟩ (Rp ⟨K, mg, EX, b, P, Z, T⟩) (F ds G) H ρ Q

def bltNames : List Str := ["len", "abs", "isinstance", "all", "any", "sum", "min", "max", "tuple", "list", "dict", "int", "str", "bool", "range", "enumerate", "zip", "sorted", "set", "reversed", "ValueError"]

def excSub (x y : Str) : Bool := x == y || y == ("UnitError" : Str) || y == ("ValueError" : Str)
def veB : List Value := [.type "ValueError", .type "Exception", .type "BaseException", .type "object"]
/-- x is an exception class of the program's own -/
structure ExcOk (K : PySem.W.Frag) (mg : Str → Option Value) (cons : Str → Option D) (x : Str) : Prop where
  ex : ∃ C, mg x = some (.ref C) ∧ PySem.W.excIn K C veB "ValueError.__new__" = true ∧ PySem.W.keepIn K (.ref C) = true ∧ PySem.W.subIn K (.ref C) (.type "BaseException") = some true ∧ PySem.W.typeIn K (.ref C) = some (.type "type") ∧ ExcC K C ∧
    PySem.W.kitOne K (.ref C) (.type "ValueError") = some true ∧ ∀ y, cons y = some (.glo y) → ∃ D, mg y = some (.ref D) ∧ PySem.W.kitOne K (.ref C) (.ref D) = some (excSub x y) ∧ PySem.W.exmOne K (.ref C) (.ref D) = some (excSub x y)
structure XOk (Φ : Fn) (fns : Str → Option (List Str)) (cons : Str → Option D) (X : Cx) (c : C) : Prop where
  K : c.K = X.K
  mg : c.mg = X.mg
  calm : X.calm = true
  units : X.A.units + 64 < cLine
  nd : X.N.Nodup
  kind : X.env.scope.kind = .function
  con : ∀ x d, cons x = some d → ∃ u v, X.mg x = some u ∧ RelV v u ∧ ∀ c' : C, c'.K = X.K → c'.mg = X.mg → ∀ H ρ, Rp c' H ρ d v
  blt : ∀ x ∈ bltNames, X.mg x = none
  fn : ∀ f ps, fns f = some ps → ∃ a fd k, X.mg f = some (.ref a) ∧ PySem.W.keepIn X.K (.ref a) = true ∧ (∀ n, n ≤ ps.length → KBn X.K fd ps n (ps.drop n) (fun us ws => us ++ ws) (fun us ws => us ++ ws)) ∧
    FnOk X.prog X.w X.K X.mg X.base (L2.CX X.prog X.w) k a fd ps (lowSp X.K X.mg c.T ps.length (Φ f)) ∧ Room k X.A
  exc : ∀ x, cons x = some (.glo x) → ExcOk X.K X.mg cons x
  tk : Takes X (fun cls d _ H => exK c.mg c.EX cls d H)
  own : PassesOwn (model X.prog X.w) X.A X.env X.xe

section
variable {Φ : Fn} {fns : Str → Option (List Str)} {cons : Str → Option D} {X : Cx} {c : C} {pos : Pos}

theorem XOk.pass (ok : XOk Φ fns cons X c) : Passes (L2.CX X.prog X.w) X (exK c.mg c.EX) := passes_call ok.tk fun _ _ _ _ h => h

theorem se_var {i : Nat} {x : Str} (hN : X.N[i]? = some x) (hv : Vis X.env.scope x) (hd : (x == ("__debug__" : Str)) = false) (hcd : (x == ("__classdict__" : Str)) = false) : PE X (.Name x pos) (low c (evE Φ c.b (.var i))) :=
  (pe_var hN hv hd hcd).weak fun σ H Q ⟨Z, P, ρ, G, τ, s, v, f⟩ => by
    unfold evE at f
    cases g : τ[i]? with
    | none => simp only [g] at f; exact f.elim
    | some o =>
      cases o with
      | none => simp only [g] at f; exact f.elim
      | some d =>
        simp only [g] at f
        obtain ⟨u, hu, r⟩ := v.val i d g
        exact ⟨u, hu, f.here s r⟩
theorem se_lit {e : Expr} {d : D} {v : V} (h : PE X e (tC v)) (r : ∀ c' : C, ∀ H ρ, Rp c' H ρ d v) : PE X e (low c (evE Φ c.b (.con d))) :=
  h.weak fun σ H Q ⟨Z, P, ρ, G, τ, s, w, f⟩ => by
    unfold evE at f
    exact f.here s (r _ H ρ)
theorem se_glob (ok : XOk Φ fns cons X c) {x : Str} {d : D} (hg : Gl X x) (h : cons x = some d) (hd : (x == ("__debug__" : Str)) = false) : PE X (.Name x pos) (low c (evE Φ c.b (.con d))) := by
  obtain ⟨u, v, hm, r, q⟩ := ok.con x d h
  refine (pe_glob hg hm r hd).weak fun σ H Q ⟨Z, P, ρ, G, τ, s, w, f⟩ => ?_
  unfold evE at f
  exact f.here s (q (c.zp Z P) ok.K ok.mg H ρ)
theorem se_ty {x : Str} {n : String} (hg : Gl X x) (hm : X.mg x = none) (hv : bootBuiltins x = some (.type n)) (hn : x ≠ "__name__") (hd : (x == ("__debug__" : Str)) = false) : PE X (.Name x pos) (low c (evE Φ c.b (.con (.ty n)))) :=
  se_lit (pe_bltn (v := .ty n) hg hm hv rfl hn hd) fun _ _ _ => rfl

/-! ### arguments -/
theorem sa_nil : PA X [] (lowA c (evEs Φ c.b .nil)) := pa_nil.weak fun σ H Q ⟨Z, P, ρ, G, τ, s, w, f⟩ => by
  unfold evEs at f
  exact f.here s .nil
theorem sa_cons {e : Expr} {es : List Expr} {m : ME} {ms : MEs} (h : PE X e (low c (evE Φ c.b m))) (hs : PA X es (lowA c (evEs Φ c.b ms))) (he : starEach (e :: es) X.env = (false, eval e X.env) :: starEach es X.env) : PA X (e :: es) (lowA c (evEs Φ c.b (.cons m ms))) :=
  (pa_cons h hs he).weak fun σ H Q ⟨Z, P, ρ, G, τ, s, w, f⟩ => by
    unfold evEs at f
    refine ⟨Z, P, ρ, G, τ, s, w, (Fin.then (R := Rp (c.zp Z P)) f).mono fun x H1 ⟨ρ1, G1, a, e1, s1, r1, f1⟩ => ?_⟩
    refine ⟨Z, P, ρ1, G1, τ, s1, w.ext e1, (Fin.then (R := Rps (c.zp Z P)) f1).mono fun y H2 ⟨ρ2, G2, d, e2, s2, r2, f2⟩ => ?_⟩
    exact f2.here s2 (.cons (Rp.mono e2 _ _ r1) r2)
def MEs.length : MEs → Nat
  | .nil => 0
  | .cons _ r => r.length + 1
theorem evEs_len {b : Nat} : ∀ {ms : MEs} {τ : Tau} {G G' : Hd} {ds : List D}, evEs Φ b ms τ G = .ok ds G' → ds.length = ms.length
  | .nil, τ, G, G', ds, h => by
    unfold evEs at h
    cases h
    rfl
  | .cons m ms, τ, G, G', ds, h => by
    unfold evEs at h
    cases g : evE Φ b m τ G with
    | ok d G1 =>
      rw [g] at h
      simp only [Out.then_ok] at h
      cases g2 : evEs Φ b ms τ G1 with
      | ok ds2 G2 =>
        rw [g2] at h
        simp only [Out.then_ok] at h
        cases h
        rw [List.length_cons, evEs_len g2]
        rfl
      | exc _ _ => rw [g2] at h; cases h
      | bad => rw [g2] at h; cases h
    | exc _ _ => rw [g] at h; cases h
    | bad => rw [g] at h; cases h

/-! ### displays -/
theorem se_tup {es : List Expr} {k : Nat} {ms : MEs} (h : PA X es (lowA c (evEs Φ c.b ms))) (hl : ms.length ≤ 1000) : PE X (.Tuple es k pos) (low c (evE Φ c.b (.tup ms))) :=
  (pe_tup h).weak fun σ H Q ⟨Z, P, ρ, G, τ, s, w, f⟩ => by
    unfold evE at f
    refine ⟨Z, P, ρ, G, τ, s, w, ?_⟩
    cases g : evEs Φ c.b ms τ G with
    | ok ds G1 =>
      rw [g] at f
      intro xs H1 ρ1 e1 s1 r1
      refine ⟨by rw [r1.length, evEs_len g, line_eq]; exact Nat.le_trans hl (by decide), fun p hp => newTup s1 hp r1 (Fin.ext f e1)⟩
    | exc _ _ => rw [g] at f; exact f
    | bad => rw [g] at f; exact f
/-- a reading that hands on a new list or dict, fresh -/
def lowFr (c : C) (f : Tau → Hd → Out D) : TE := fun σ H Q => ∃ Z P ρ G τ, SR (c.zp Z P) H ρ G ∧ EnvR (c.zp Z P) H ρ σ τ ∧ match f τ G with
  | .ok d G' => ∃ o, objOf d = some o ∧ ∀ p H' ρ', Ext (c.zp Z P) H ρ H' ρ' → ¬ Live H p → SR ((c.zp Z P).and p) H' ρ' G' → RepO ((c.zp Z P).and p) H' ρ' p o → Q (.ref p) H'
  | .exc e G' => ∀ H' ρ', Ext (c.zp Z P) H ρ H' ρ' → SR (c.zp Z P) H' ρ' G' → c.EX e H'
  | .bad => False
theorem rp_obj {d : D} {o : DO} {p : Addr} {H H' : Hp} {ρ ρ' : List Addr} (e : objOf d = some o) (hz : p ∉ ρ' ∧ p ∉ c.Z) (h : RepO (c.and p) H' ρ' p o) : Rp c H' ρ' d (.ref p) := by
  cases d with
  | lst xs =>
    cases e
    obtain ⟨vs, q, t⟩ := h
    unfold Rp
    exact ⟨p, vs, rfl, .inl q, hz, Rps.off _ _ t⟩
  | dct ks xs =>
    cases e
    obtain ⟨kvs, q, k, t⟩ := h
    unfold Rp
    exact ⟨p, kvs, rfl, .inl q, hz, k, Rps.off _ _ t⟩
  | _ => cases e
/-- .. as a value that stays -/
theorem fr_low_imp {f : Tau → Hd → Out D} (hf : ∀ τ G d G', f τ G = .ok d G' → ∃ o, objOf d = some o) (σ : L2.St) (H : Hp) (Q : VK) (h : low c f σ H Q) : lowFr c f σ H Q := by
    obtain ⟨Z, P, ρ, G, τ, s, w, q⟩ := h
    refine ⟨Z, P, ρ, G, τ, s, w, ?_⟩
    cases g : f τ G with
    | ok d G' =>
      rw [g] at q
      obtain ⟨o, eo⟩ := hf τ G d G' g
      refine ⟨o, eo, fun p H' ρ' ex hp s' r => q (.ref p) H' ρ' ex s'.off ?_⟩
      refine rp_obj (H := H) (ρ := ρ) eo ⟨(s'.zs p List.mem_cons_self).1, fun z => hp (s.zs p z).2⟩ r
    | exc _ _ => rw [g] at q; exact q
    | bad => rw [g] at q; exact q
/-- .. as one that may change -/
theorem fr_alloc_imp {f : Tau → Hd → Out D} (σ : L2.St) (H : Hp) (Q : VK) (h : low c (fun τ G => (f τ G).then allocD) σ H Q) : lowFr c f σ H Q := by
    obtain ⟨Z, P, ρ, G, τ, s, w, q⟩ := h
    refine ⟨Z, P, ρ, G, τ, s, w, ?_⟩
    have q : Fin (c.zp Z P) (Rp (c.zp Z P)) ((f τ G).then allocD) H ρ Q := q
    cases g : f τ G with
    | ok d G' =>
      rw [g] at q
      simp only [Out.then_ok] at q
      unfold allocD at q
      cases eo : objOf d with
      | none => simp only [eo] at q; exact q.elim
      | some o =>
        simp only [eo] at q
        refine ⟨o, eo, fun p H' ρ' ex hp s' r => ?_⟩
        have hz : p ∉ (c.zp Z P).Z := fun z => hp (s.zs p z).2
        refine q (.ref p) H' (ρ' ++ [p]) ?_ (s'.own hz r) ?_
        · obtain ⟨new, rfl, hn⟩ := ex.more
          refine ⟨⟨⟨new ++ [p], by rw [List.append_assoc], fun a ha => ?_⟩, ex.keep, ex.tups, ex.dom, ex.frzs⟩, ex.zs⟩
          rcases List.mem_append.mp ha with ha | ha
          · exact hn a ha
          · rw [List.mem_singleton.mp ha]; exact hp
        · unfold Rp
          refine ⟨p, ?_, rfl⟩
          rw [← s'.len, List.getElem?_append_right (Nat.le_refl _)]
          simp
    | exc _ _ => rw [g] at q; exact q
    | bad => rw [g] at q; exact q
theorem fr_low {e : Expr} {f : Tau → Hd → Out D} (h : PE X e (lowFr c f)) (hf : ∀ τ G d G', f τ G = .ok d G' → ∃ o, objOf d = some o) : PE X e (low c f) := h.weak (fr_low_imp hf)
theorem fr_alloc {e : Expr} {m : ME} (h : PE X e (lowFr c (evE Φ c.b m))) : PE X e (low c (evE Φ c.b (.alloc m))) := h.weak fun σ H Q q => fr_alloc_imp σ H Q (by
  have e : evE Φ c.b (.alloc m) = fun τ G => (evE Φ c.b m τ G).then allocD := by
    funext τ G
    rw [evE]
  rw [e] at q
  exact q)
theorem newFr {c : C} {H H1 : Hp} {ρ ρ1 : List Addr} {G1 : Hd} {o : DO} {h : HO} {Q : VK} {p : Addr} (s1 : SR c H1 ρ1 G1) (e1 : Ext c H ρ H1 ρ1) (hp : H1 p = none) (ho : RepO (c.and p) (upd H1 p h) ρ1 p o)
    (q : ∀ p H' ρ', Ext c H ρ H' ρ' → ¬ Live H p → SR (c.and p) H' ρ' G1 → RepO (c.and p) H' ρ' p o → Q (.ref p) H') : Q (.ref p) (upd H1 p h) :=
  q p _ ρ1 (e1.trans (s1.ext hp)) (fun z => (e1.dom p z).ne hp) (s1.and hp (by intro ps z; subst z; exact (show ¬ MtL (upd H1 p (.tbl ps)) p from fun ⟨o, e, m⟩ => by rw [upd_same] at e; cases e; exact m) ho.mt)) ho
theorem sf_lst {es : List Expr} {ms : MEs} (h : PA X es (lowA c (evEs Φ c.b ms))) (hl : ms.length ≤ 1000) : PE X (.List es pos) (lowFr c (evE Φ c.b (.lst ms))) :=
  (pe_lst h).weak fun σ H Q ⟨Z, P, ρ, G, τ, s, w, f⟩ => by
    unfold evE at f
    refine ⟨Z, P, ρ, G, τ, s, w, ?_⟩
    cases g : evEs Φ c.b ms τ G with
    | ok ds G1 =>
      rw [g] at f
      obtain ⟨o, eo, q⟩ := f
      cases eo
      intro xs H1 ρ1 e1 s1 r1
      refine ⟨by rw [r1.length, evEs_len g, line_eq]; exact Nat.le_trans hl (by decide), fun p hp => newFr (o := .lst ds) s1 e1 hp ⟨xs, upd_same, Rps.and hp (s1.ext hp) _ _ r1⟩ q⟩
    | exc _ _ => rw [g] at f; exact f
    | bad => rw [g] at f; exact f
theorem of_lst {ms : MEs} (τ : Tau) (G : Hd) (d : D) (G' : Hd) (h : evE Φ c.b (.lst ms) τ G = .ok d G') : ∃ o, objOf d = some o := by
  unfold evE at h
  cases g : evEs Φ c.b ms τ G with
  | ok ds G1 => rw [g] at h; cases h; exact ⟨_, rfl⟩
  | exc _ _ => rw [g] at h; cases h
  | bad => rw [g] at h; cases h

/-! ### operators -/
theorem se_bin (ok : XOk Φ fns cons X c) {a b : Expr} {ma mb : ME} {o : BOp} (ha : PE X a (low c (evE Φ c.b ma))) (hb : PE X b (low c (evE Φ c.b mb))) : PE X (.BinOp a (opPy o) b pos) (low c (evE Φ c.b (.bin o ma mb))) := by
  refine (pe_op (op_bin o) ha hb).weak fun σ H Q h => low2 (k := fun x y G => lift (binD G o x y) G) (fun Z P x y H ρ G a d Q s ra rd f => ?_) σ H Q (by
    have e : evE Φ c.b (.bin o ma mb) = fun τ G => (evE Φ c.b ma τ G).then fun x G => (evE Φ c.b mb τ G).then fun y G => lift (binD G o x y) G := by
      funext τ G
      rw [evE]
    rw [e] at h
    exact h)
  have := bin_ok s ra rd f
  rw [← ok.K]
  exact this
end
end U

set_option Elab.async false
set_option linter.all false
set_option maxRecDepth 100000
/-! UG: expressions, further; calls. -/
namespace U
open PySem L2 PyProof.Rows
section
variable {Φ : Fn} {fns : Str → Option (List Str)} {cons : Str → Option D} {X : Cx} {c : C} {pos : Pos}

theorem int_of {d : D} {i : Int} {v : V} {H : Hp} {ρ : List Addr} (e : intD d = some i) (h : Rp c H ρ d v) : v = .int i := by
  cases d with
  | int j => cases e; exact h
  | _ => cases e
theorem se_neg {a : Expr} {ma : ME} (ha : PE X a (low c (evE Φ c.b ma))) : PE X (.UnaryOp .USub a pos) (low c (evE Φ c.b (.neg ma))) := by
  refine (pe_un un_neg ha).weak fun σ H Q h => low1 (k := fun x G => lift ((intD x).map fun i => D.int (-i)) G) (fun Z P x H ρ G a Q s ra f => ?_) σ H Q (by
    have e : evE Φ c.b (.neg ma) = fun τ G => (evE Φ c.b ma τ G).then fun x G => lift ((intD x).map fun i => D.int (-i)) G := by
      funext τ G
      rw [evE]
    rw [e] at h
    exact h)
  obtain ⟨z, e, f⟩ := f.lift
  obtain ⟨i, e1, rfl⟩ := map_some e
  exact ⟨i, int_of e1 ra, f.here s rfl⟩
theorem se_cmp (ok : XOk Φ fns cons X c) {a b : Expr} {ma mb : ME} {o : COp} (ha : PE X a (low c (evE Φ c.b ma))) (hb : PE X b (low c (evE Φ c.b mb))) (hm : behindInMarks (cmpPy o) b = false) : PE X (.Compare a [cmpPy o] [b] pos) (low c (evE Φ c.b (.cmp o ma mb))) := by
  refine (pe_cmpR (op_cmp ok.units o) ha hb hm).weak fun σ H Q h => low2 (k := fun x y G => lift ((cmpD G o x y).map .bl) G) (fun Z P x y H ρ G a d Q s ra rd f => ?_) σ H Q (by
    have e : evE Φ c.b (.cmp o ma mb) = fun τ G => (evE Φ c.b ma τ G).then fun x G => (evE Φ c.b mb τ G).then fun y G => lift ((cmpD G o x y).map .bl) G := by
      funext τ G
      rw [evE]
    rw [e] at h
    exact h)
  obtain ⟨z, e, f⟩ := f.lift
  obtain ⟨k, e1, rfl⟩ := map_some e
  have := cmp_ok s ra rd e1 (f.here s rfl)
  rw [← ok.K]
  exact this
theorem se_chain (ok : XOk Φ fns cons X c) {a b d : Expr} {ma mb md : ME} {o p : COp} (ha : PE X a (low c (evE Φ c.b ma))) (hb : PE X b (low c (evE Φ c.b mb))) (hd : PE X d (low c (evE Φ c.b md))) (hm : lastMarks [cmpPy o, cmpPy p] [b, d] = false) :
    PE X (.Compare a [cmpPy o, cmpPy p] [b, d] pos) (low c (evE Φ c.b (.chain o p ma mb md))) := by
  refine (pe_chain (op_cmp ok.units o) (op_cmp ok.units p) ha hb hd hm).weak fun σ H Q ⟨Z, P, ρ, G, τ, s, w, f⟩ => ?_
  rw [evE] at f
  refine ⟨Z, P, ρ, G, τ, s, w, (Fin.then (R := Rp (c.zp Z P)) f).mono fun x H1 ⟨ρ1, G1, xa, e1, s1, r1, f1⟩ => ?_⟩
  refine ⟨Z, P, ρ1, G1, τ, s1, w.ext e1, (Fin.then (R := Rp (c.zp Z P)) f1).mono fun y H2 ⟨ρ2, G2, xb, e2, s2, r2, f2⟩ => ?_⟩
  have r1' := Rp.mono e2 _ _ r1
  rw [← (show (c.zp Z P).K = X.K from ok.K)]
  cases g : cmpD G2 o xa xb with
  | none => simp only [g] at f2; exact f2.elim
  | some k =>
    cases k with
    | false =>
      simp only [g] at f2
      exact cmp_ok s2 r1' r2 g ⟨false, rfl, by rw [if_neg (by decide)]; exact f2.here s2 rfl⟩
    | true =>
      simp only [g] at f2
      refine cmp_ok s2 r1' r2 g ⟨true, rfl, ?_⟩
      rw [if_pos rfl]
      refine ⟨Z, P, ρ2, G2, τ, s2, (w.ext e1).ext e2, (Fin.then (R := Rp (c.zp Z P)) f2).mono fun z H3 ⟨ρ3, G3, xd, e3, s3, r3, f3⟩ => ?_⟩
      obtain ⟨q, e, f3⟩ := f3.lift
      obtain ⟨k, e4, rfl⟩ := map_some e
      exact cmp_ok s3 (Rp.mono e3 _ _ r2) r3 e4 (f3.here s3 rfl)
theorem se_ix (ok : XOk Φ fns cons X c) {a b : Expr} {ma mb : ME} (ha : PE X a (low c (evE Φ c.b ma))) (hb : PE X b (low c (evE Φ c.b mb))) (hp : PlainIx b) : PE X (.Subscript a b pos) (low c (evE Φ c.b (.ix ma mb))) := by
  refine (pe_ix (ix_any ok.units) ha hb hp).weak fun σ H Q h => low2 (k := fun x y G => lift (ixD G x y) G) (fun Z P x y H ρ G a d Q s ra rd f => ?_) σ H Q (by
    have e : evE Φ c.b (.ix ma mb) = fun τ G => (evE Φ c.b ma τ G).then fun x G => (evE Φ c.b mb τ G).then fun y G => lift (ixD G x y) G := by
      funext τ G
      rw [evE]
    rw [e] at h
    exact h)
  obtain ⟨z, e, f⟩ := f.lift
  have := ix_ok s ra rd e f
  rw [← ok.K]
  exact this
/-- an end of a slice -/
def RI : Hp → List Addr → Option Int → Option Int → Prop := fun _ _ a b => a = b
def lowO (c : C) (f : Tau → Hd → Out (Option Int)) : TO := fun σ H Q => ∃ Z P ρ G τ, SR (c.zp Z P) H ρ G ∧ EnvR (c.zp Z P) H ρ σ τ ∧ Fin (c.zp Z P) RI (f τ G) H ρ Q
theorem so_no : PO X none (lowO c (evO Φ c.b .no)) := ⟨fun pins s σ H Q I ⟨Z, P, ρ, G, τ, sr, w, f⟩ => po_none.run pins s σ H Q I (by rw [evO] at f; exact f.here sr rfl)⟩
theorem so_yes {e : Expr} {m : ME} (h : PE X e (low c (evE Φ c.b m))) : PO X (some e) (lowO c (evO Φ c.b (.yes m))) := ⟨fun pins s σ H Q I ⟨Z, P, ρ, G, τ, sr, w, f⟩ => (po_some h).run pins s σ H Q I (by
  rw [evO] at f
  refine ⟨Z, P, ρ, G, τ, sr, w, (Fin.then (R := Rp (c.zp Z P)) f).mono fun x H1 ⟨ρ1, G1, xa, e1, s1, r1, f1⟩ => ?_⟩
  obtain ⟨z, e, f1⟩ := f1.lift
  obtain ⟨i, e4, rfl⟩ := map_some e
  exact ⟨i, int_of e4 r1, f1.here s1 rfl⟩)⟩
theorem se_sl (ok : XOk Φ fns cons X c) {a : Expr} {lo hi : Option Expr} {ma : ME} {ml mh : MO} {p2 : Pos} (ha : PE X a (low c (evE Φ c.b ma))) (hl : PO X lo (lowO c (evO Φ c.b ml))) (hh : PO X hi (lowO c (evO Φ c.b mh))) :
    PE X (.Subscript a (.Slice lo hi none p2) pos) (low c (evE Φ c.b (.sl ma ml mh))) := by
  refine (pe_slice sl_any ha hl hh).weak fun σ H Q ⟨Z, P, ρ, G, τ, s, w, f⟩ => ?_
  rw [evE] at f
  refine ⟨Z, P, ρ, G, τ, s, w, (Fin.then (R := Rp (c.zp Z P)) f).mono fun x H1 ⟨ρ1, G1, xa, e1, s1, r1, f1⟩ => ?_⟩
  refine ⟨Z, P, ρ1, G1, τ, s1, w.ext e1, (Fin.then (R := RI) f1).mono fun l H2 ⟨ρ2, G2, xl, e2, s2, r2, f2⟩ => ?_⟩
  refine ⟨Z, P, ρ2, G2, τ, s2, (w.ext e1).ext e2, (Fin.then (R := RI) f2).mono fun u H3 ⟨ρ3, G3, xh, e3, s3, r3, f3⟩ => ?_⟩
  have r2 : xl = l := r2
  have r3 : xh = u := r3
  subst r2 r3
  obtain ⟨z, e, f3⟩ := f3.lift
  rw [← (show (c.zp Z P).K = X.K from ok.K)]
  exact sl_ok s3 (Rp.mono e3 _ _ (Rp.mono e2 _ _ r1)) e f3

/-! ### tests -/
theorem RB.eq {H : Hp} {ρ : List Addr} {a b : Bool} (h : RB H ρ a b) : a = b := h
theorem st_val (ok : XOk Φ fns cons X c) {a : Expr} {ma : ME} (ha : PE X a (low c (evE Φ c.b ma))) (he : ∀ whole, isTrue a X.env whole = (do let v ← whole; standAt a.pos; holding [v] (truthy v))) : PT X a (lowT c (evT Φ c.b (.val ma))) :=
  (pt_truth ha he).weak fun σ H Q ⟨Z, P, ρ, G, τ, s, w, f⟩ => by
    rw [evT] at f
    refine ⟨Z, P, ρ, G, τ, s, w, (Fin.then (R := Rp (c.zp Z P)) f).mono fun x H1 ⟨ρ1, G1, xa, e1, s1, r1, f1⟩ => ?_⟩
    obtain ⟨k, e, f1⟩ := f1.lift
    exact ⟨k, by rw [← (show (c.zp Z P).K = X.K from ok.K)]; exact tru_ok s1 r1 e, f1.here s1 rfl⟩
theorem st_cmp (ok : XOk Φ fns cons X c) {a b : Expr} {ma mb : ME} {o : COp} (ha : PE X a (low c (evE Φ c.b ma))) (hb : PE X b (low c (evE Φ c.b mb))) (hm : behindInMarks (cmpPy o) b = false) : PT X (.Compare a [cmpPy o] [b] pos) (lowT c (evT Φ c.b (.val (.cmp o ma mb)))) := by
  refine (pt_cmpR (op_cmp ok.units o) ha hb hm).weak fun σ H Q ⟨Z, P, ρ, G, τ, s, w, f⟩ => ?_
  rw [evT, evE] at f
  have f : Fin (c.zp Z P) RB ((evE Φ c.b ma τ G).then fun x G => ((evE Φ c.b mb τ G).then fun y G => lift ((cmpD G o x y).map .bl) G).then fun x G => lift (truD G x) G) H ρ Q := by
    cases g : evE Φ c.b ma τ G <;> (rw [g] at f; exact f)
  refine ⟨Z, P, ρ, G, τ, s, w, (Fin.then (R := Rp (c.zp Z P)) f).mono fun x H1 ⟨ρ1, G1, xa, e1, s1, r1, f1⟩ => ?_⟩
  have f1 : Fin (c.zp Z P) RB ((evE Φ c.b mb τ G1).then fun y G => (lift ((cmpD G o xa y).map .bl) G).then fun x G => lift (truD G x) G) H1 ρ1 Q := by
    cases g : evE Φ c.b mb τ G1 <;> (rw [g] at f1; exact f1)
  refine ⟨Z, P, ρ1, G1, τ, s1, w.ext e1, (Fin.then (R := Rp (c.zp Z P)) f1).mono fun y H2 ⟨ρ2, G2, xb, e2, s2, r2, f2⟩ => ?_⟩
  rw [← (show (c.zp Z P).K = X.K from ok.K)]
  cases g : cmpD G2 o xa xb with
  | none => simp only [g] at f2; exact f2.elim
  | some k =>
    simp only [g] at f2
    exact cmp_ok s2 (Rp.mono e2 _ _ r1) r2 g ⟨k, rfl, Fin.here (show Fin (c.zp Z P) RB (.ok k G2) H2 ρ2 Q from f2) s2 rfl⟩
theorem st_chain (ok : XOk Φ fns cons X c) {a b d : Expr} {ma mb md : ME} {o p : COp} (ha : PE X a (low c (evE Φ c.b ma))) (hb : PE X b (low c (evE Φ c.b mb))) (hd : PE X d (low c (evE Φ c.b md))) (hm : lastMarks [cmpPy o, cmpPy p] [b, d] = false) :
    PT X (.Compare a [cmpPy o, cmpPy p] [b, d] pos) (lowT c (evT Φ c.b (.val (.chain o p ma mb md)))) := by
  refine (pt_chain (op_cmp ok.units o) (op_cmp ok.units p) ha hb hd hm).weak fun σ H Q ⟨Z, P, ρ, G, τ, s, w, f⟩ => ?_
  rw [evT, evE] at f
  have f : Fin (c.zp Z P) RB ((evE Φ c.b ma τ G).then fun x G => ((evE Φ c.b mb τ G).then fun y G => match cmpD G o x y with
    | some true => (evE Φ c.b md τ G).then fun z G => lift ((cmpD G p y z).map D.bl) G
    | some false => Out.ok (D.bl false) G
    | none => Out.bad).then fun x G => lift (truD G x) G) H ρ Q := by
    cases g : evE Φ c.b ma τ G <;> (rw [g] at f; exact f)
  refine ⟨Z, P, ρ, G, τ, s, w, (Fin.then (R := Rp (c.zp Z P)) f).mono fun x H1 ⟨ρ1, G1, xa, e1, s1, r1, f1⟩ => ?_⟩
  have f1 : Fin (c.zp Z P) RB ((evE Φ c.b mb τ G1).then fun y G => (match cmpD G o xa y with
    | some true => (evE Φ c.b md τ G).then fun z G => lift ((cmpD G p y z).map D.bl) G
    | some false => Out.ok (D.bl false) G
    | none => Out.bad).then fun x G => lift (truD G x) G) H1 ρ1 Q := by
    cases g : evE Φ c.b mb τ G1 <;> (rw [g] at f1; exact f1)
  refine ⟨Z, P, ρ1, G1, τ, s1, w.ext e1, (Fin.then (R := Rp (c.zp Z P)) f1).mono fun y H2 ⟨ρ2, G2, xb, e2, s2, r2, f2⟩ => ?_⟩
  have r1' := Rp.mono e2 _ _ r1
  rw [← (show (c.zp Z P).K = X.K from ok.K)]
  cases g : cmpD G2 o xa xb with
  | none => simp only [g] at f2; exact f2.elim
  | some k =>
    cases k with
    | false =>
      simp only [g] at f2
      exact cmp_ok s2 r1' r2 g ⟨false, rfl, by rw [if_neg (by decide)]; exact ⟨false, rfl, Fin.here (show Fin (c.zp Z P) RB (.ok false G2) H2 ρ2 Q from f2) s2 rfl⟩⟩
    | true =>
      simp only [g] at f2
      refine cmp_ok s2 r1' r2 g ⟨true, rfl, ?_⟩
      rw [if_pos rfl]
      have f2 : Fin (c.zp Z P) RB ((evE Φ c.b md τ G2).then fun z G => (lift ((cmpD G p xb z).map .bl) G).then fun x G => lift (truD G x) G) H2 ρ2 Q := by
        cases g : evE Φ c.b md τ G2 <;> (rw [g] at f2; exact f2)
      refine ⟨Z, P, ρ2, G2, τ, s2, (w.ext e1).ext e2, (Fin.then (R := Rp (c.zp Z P)) f2).mono fun z H3 ⟨ρ3, G3, xd, e3, s3, r3, f3⟩ => ?_⟩
      cases g : cmpD G3 p xb xd with
      | none => simp only [g] at f3; exact f3.elim
      | some k =>
        simp only [g] at f3
        exact cmp_ok s3 (Rp.mono e3 _ _ r2) r3 g ⟨k, rfl, Fin.here (show Fin (c.zp Z P) RB (.ok k G3) H3 ρ3 Q from f3) s3 rfl⟩
theorem st_not {a : Expr} {m : MB} (h : PT X a (lowT c (evT Φ c.b m))) : PT X (.UnaryOp .Not a pos) (lowT c (evT Φ c.b (.not m))) :=
  (pt_not h).weak fun σ H Q ⟨Z, P, ρ, G, τ, s, w, f⟩ => by
    rw [evT] at f
    refine ⟨Z, P, ρ, G, τ, s, w, (Fin.then (R := RB) f).mono fun x H1 ⟨ρ1, G1, xa, e1, s1, r1, f1⟩ => ?_⟩
    have r1 : xa = x := r1
    subst r1
    exact f1.here s1 rfl
theorem sw_one {a : Expr} {m : MB} {o : BoolOp} (h : PT X a (lowT c (evT Φ c.b m))) : PW X (.BoolOp o [a] pos) (lowT c (evT Φ c.b m)) := by
  cases o with
  | And => exact pw_and1 h
  | Or => exact pw_or1 h
theorem sw_and {a b : Expr} {rest : List Expr} {m n : MB} (ha : PT X a (lowT c (evT Φ c.b m))) (hb : PW X (.BoolOp .And (b :: rest) pos) (lowT c (evT Φ c.b n))) : PW X (.BoolOp .And (a :: b :: rest) pos) (lowT c (evT Φ c.b (.and m n))) :=
  (pw_and ha hb).weak fun σ H Q ⟨Z, P, ρ, G, τ, s, w, f⟩ => by
    rw [evT] at f
    refine ⟨Z, P, ρ, G, τ, s, w, (Fin.then (R := RB) f).mono fun x H1 ⟨ρ1, G1, xa, e1, s1, r1, f1⟩ => ?_⟩
    have r1 : xa = x := r1
    subst r1
    cases xa with
    | true => rw [if_pos rfl] at f1 ⊢; exact ⟨Z, P, ρ1, G1, τ, s1, w.ext e1, f1⟩
    | false => rw [if_neg (by decide)] at f1 ⊢; exact f1.here s1 rfl
theorem sw_or {a b : Expr} {rest : List Expr} {m n : MB} (ha : PT X a (lowT c (evT Φ c.b m))) (hb : PW X (.BoolOp .Or (b :: rest) pos) (lowT c (evT Φ c.b n))) : PW X (.BoolOp .Or (a :: b :: rest) pos) (lowT c (evT Φ c.b (.or m n))) :=
  (pw_or ha hb).weak fun σ H Q ⟨Z, P, ρ, G, τ, s, w, f⟩ => by
    rw [evT] at f
    refine ⟨Z, P, ρ, G, τ, s, w, (Fin.then (R := RB) f).mono fun x H1 ⟨ρ1, G1, xa, e1, s1, r1, f1⟩ => ?_⟩
    have r1 : xa = x := r1
    subst r1
    cases xa with
    | true => rw [if_pos rfl] at f1 ⊢; exact f1.here s1 rfl
    | false => rw [if_neg (by decide)] at f1 ⊢; exact ⟨Z, P, ρ1, G1, τ, s1, w.ext e1, f1⟩
/-- not, and, or, if as values -/
theorem se_not (ok : XOk Φ fns cons X c) {a : Expr} {m : ME} (h : PE X a (low c (evE Φ c.b m))) : PE X (.UnaryOp .Not a pos) (low c (evE Φ c.b (.not m))) :=
  (pe_notT h).weak fun σ H Q ⟨Z, P, ρ, G, τ, s, w, f⟩ => by
    rw [evE] at f
    refine ⟨Z, P, ρ, G, τ, s, w, (Fin.then (R := Rp (c.zp Z P)) f).mono fun x H1 ⟨ρ1, G1, xa, e1, s1, r1, f1⟩ => ?_⟩
    obtain ⟨z, e, f1⟩ := f1.lift
    obtain ⟨k, e4, rfl⟩ := map_some e
    exact ⟨k, by rw [← (show (c.zp Z P).K = X.K from ok.K)]; exact tru_ok s1 r1 e4, f1.here s1 rfl⟩
theorem se_and {a b : Expr} {rest : List Expr} {m n : ME} (ha : PE X a (low c (evE Φ c.b m))) (hb : PE X (.BoolOp .And (b :: rest) pos) (low c (evE Φ c.b n))) : PE X (.BoolOp .And (a :: b :: rest) pos) (low c (evE Φ c.b (.and m n))) :=
  (pe_and ha hb).weak fun σ H Q ⟨Z, P, ρ, G, τ, s, w, f⟩ => by
    rw [evE] at f
    refine ⟨Z, P, ρ, G, τ, s, w, (Fin.then (R := Rp (c.zp Z P)) f).mono fun x H1 ⟨ρ1, G1, xa, e1, s1, r1, f1⟩ => ?_⟩
    cases xa with
    | bl k =>
      cases k with
      | true => exact ⟨true, r1, by rw [if_pos rfl]; exact ⟨Z, P, ρ1, G1, τ, s1, w.ext e1, f1⟩⟩
      | false => exact ⟨false, r1, by rw [if_neg (by decide)]; exact f1.here s1 rfl⟩
    | _ => exact f1.elim
theorem se_or {a b : Expr} {rest : List Expr} {m n : ME} (ha : PE X a (low c (evE Φ c.b m))) (hb : PE X (.BoolOp .Or (b :: rest) pos) (low c (evE Φ c.b n))) : PE X (.BoolOp .Or (a :: b :: rest) pos) (low c (evE Φ c.b (.or m n))) :=
  (pe_or ha hb).weak fun σ H Q ⟨Z, P, ρ, G, τ, s, w, f⟩ => by
    rw [evE] at f
    refine ⟨Z, P, ρ, G, τ, s, w, (Fin.then (R := Rp (c.zp Z P)) f).mono fun x H1 ⟨ρ1, G1, xa, e1, s1, r1, f1⟩ => ?_⟩
    cases xa with
    | bl k =>
      cases k with
      | true => exact ⟨true, r1, by rw [if_pos rfl]; exact f1.here s1 rfl⟩
      | false => exact ⟨false, r1, by rw [if_neg (by decide)]; exact ⟨Z, P, ρ1, G1, τ, s1, w.ext e1, f1⟩⟩
    | _ => exact f1.elim
theorem se_ifx {t a b : Expr} {mt : MB} {m n : ME} (ht : PT X t (lowT c (evT Φ c.b mt))) (ha : PE X a (low c (evE Φ c.b m))) (hb : PE X b (low c (evE Φ c.b n))) : PE X (.IfExp t a b pos) (low c (evE Φ c.b (.ifx mt m n))) :=
  (pe_ifExp ht ha hb).weak fun σ H Q ⟨Z, P, ρ, G, τ, s, w, f⟩ => by
    rw [evE] at f
    refine ⟨Z, P, ρ, G, τ, s, w, (Fin.then (R := RB) f).mono fun x H1 ⟨ρ1, G1, xa, e1, s1, r1, f1⟩ => ?_⟩
    have r1 : xa = x := r1
    subst r1
    cases xa with
    | true => rw [if_pos rfl] at f1 ⊢; exact ⟨Z, P, ρ1, G1, τ, s1, w.ext e1, f1⟩
    | false => rw [if_neg (by decide)] at f1 ⊢; exact ⟨Z, P, ρ1, G1, τ, s1, w.ext e1, f1⟩
end
end U

set_option Elab.async false
set_option linter.all false
set_option maxRecDepth 100000
/-! UH: calls. -/
namespace U
open PySem L2 PyProof.Rows
section
variable {Φ : Fn} {fns : Str → Option (List Str)} {cons : Str → Option D} {X : Cx} {c : C} {pos : Pos}

theorem lowSp_of (hK : c.K = X.K) (hm : c.mg = X.mg) {F : List D → Hd → Out D} {n : Nat} {Z : List Addr} {P : Nat → Prop} {H : Hp} {ρ : List Addr} {G : Hd} {ds : List D} {vs : List V} {Q : VK} (s : SR (c.zp Z P) H ρ G) (r : Rps (c.zp Z P) H ρ ds vs) (hl : vs.length = n)
    (f : Fin (c.zp Z P) (Rp (c.zp Z P)) (F ds G) H ρ Q) : lowSp X.K X.mg c.T n F vs H Q (exK c.mg c.EX) := by
  obtain ⟨K, mg, EX, b, P0, Z0, T0⟩ := c
  have hK : K = X.K := hK
  have hm : mg = X.mg := hm
  subst hK hm
  exact ⟨EX, b, P, Z, ρ, G, ds, fun _ _ _ h => h, s, r, hl, f⟩

/-- no star -/
def plainE : Expr → Bool
  | .Starred .. => false
  | _ => true
theorem star_one {e : Expr} {es : List Expr} {env : Env} (h : plainE e = true) : starEach (e :: es) env = (false, eval e env) :: starEach es env := by
  cases e <;> first | rfl | cases h
theorem star_any {env : Env} : ∀ {es : List Expr}, es.all plainE = true → (backTo pos (starEach es env)).any (·.1) = false
  | [], _ => rfl
  | e :: es, h => by
    rw [List.all_cons, Bool.and_eq_true] at h
    rw [star_one h.1]
    have ih := star_any (env := env) h.2
    unfold backTo at ih ⊢
    simp only [List.map_cons, List.any_cons]
    rw [ih]
    rfl

section call
variable {x : Str} {p : Pos} {e : Expr} {es : List Expr} {kws : List Keyword} {ms : MEs} {ps : List Str}
theorem run_call (ok : XOk Φ fns cons X c) (hf : fns x = some ps) (hl : ms.length = ps.length) {σ : L2.St} {H : Hp} {Q : VK} (h : low c (evE Φ c.b (.call x ms)) σ H Q) : lowA c (evEs Φ c.b ms) σ H fun vs H1 => vs.length = ps.length ∧ lowSp X.K X.mg c.T ps.length (Φ x) vs H1 Q (exK c.mg c.EX) := by
  obtain ⟨Z, P, ρ, G, τ, s, w, f⟩ := h
  rw [evE] at f
  refine ⟨Z, P, ρ, G, τ, s, w, ?_⟩
  cases g : evEs Φ c.b ms τ G with
  | ok ds G1 =>
    rw [g] at f
    intro xs H1 ρ1 e1 s1 r1
    have el : xs.length = ps.length := by rw [r1.length, evEs_len g, hl]
    exact ⟨el, lowSp_of ok.K ok.mg s1 r1 el (Fin.ext f e1)⟩
  | exc _ _ => rw [g] at f; exact f
  | bad => rw [g] at f; exact f
theorem binds_of {K : PySem.W.Frag} {fd : FuncData} {ps : List Str} (h : KBn K fd ps ps.length (ps.drop ps.length) (fun us ws => us ++ ws) (fun us ws => us ++ ws)) : Binds K fd ps [] := by
  intro s us hk hl
  rw [List.append_nil] at hl ⊢
  have := h.to s us [] hk hl (by rw [List.drop_length]; rfl)
  rw [List.append_nil, List.zip_nil_right] at this
  exact this
theorem se_call0 (ok : XOk Φ fns cons X c) (hg : Gl X x) (hf : fns x = some []) (hd : (x == ("__debug__" : Str)) = false) : PE X (.Call (.Name x p) [] [] pos) (low c (evE Φ c.b (.call x .nil))) := by
  obtain ⟨a, fd, k, hm, hk, hb, F, hr⟩ := ok.fn x [] hf
  refine (pe_call0 F hr hg hm hk (binds_of (hb _ (Nat.le_refl _))) .nil ok.pass hd).weak fun σ H Q h => ?_
  obtain ⟨Z, P, ρ, G, τ, s, w, f⟩ := run_call ok hf rfl h
  rw [evEs] at f
  exact (f.here s .nil).2
theorem se_call (ok : XOk Φ fns cons X c) (hg : Gl X x) (hf : fns x = some ps) (hl : ms.length = ps.length) (hd : (x == ("__debug__" : Str)) = false) (ha : PA X (e :: es) (lowA c (evEs Φ c.b ms))) (hp : (e :: es).all plainE = true) :
    PE X (.Call (.Name x p) (e :: es) [] pos) (low c (evE Φ c.b (.call x ms))) := by
  obtain ⟨a, fd, k, hm, hk, hb, F, hr⟩ := ok.fn x ps hf
  rw [List.all_cons, Bool.and_eq_true] at hp
  refine (pe_call F hr hg hm hk (binds_of (hb _ (Nat.le_refl _))) .nil ok.pass ha hd (star_one hp.1) (star_any hp.2)).weak fun σ H Q h => ?_
  obtain ⟨Z, P, ρ, G, τ, s, w, f⟩ := run_call ok hf hl h
  refine ⟨Z, P, ρ, G, τ, s, w, f.mono fun vs H1 q => ?_⟩
  show lowSp _ _ _ _ _ (vs ++ []) _ _ _
  rw [List.append_nil]
  exact q.2
/-- keywords, the last parameters in their order -/
theorem sk_nil : PK X [] (lowA c (evEs Φ c.b .nil)) := ⟨fun pos pins s σ H Q I ⟨Z, P, ρ, G, τ, sr, w, f⟩ => pk_nil.run pos pins s σ H Q I (by rw [evEs] at f; exact f.here sr .nil)⟩
theorem sk_cons {nm : Option Str} {kpos : Pos} {m : ME} (h : PE X e (low c (evE Φ c.b m))) (hs : PK X kws (lowA c (evEs Φ c.b ms))) : PK X (⟨nm, e, kpos⟩ :: kws) (lowA c (evEs Φ c.b (.cons m ms))) :=
  ⟨fun pos pins s σ H Q I ⟨Z, P, ρ, G, τ, sr, w, f⟩ => (pk_cons h hs).run pos pins s σ H Q I (by
    rw [evEs] at f
    refine ⟨Z, P, ρ, G, τ, sr, w, (Fin.then (R := Rp (c.zp Z P)) f).mono fun x H1 ⟨ρ1, G1, a, e1, s1, r1, f1⟩ => ?_⟩
    refine ⟨Z, P, ρ1, G1, τ, s1, w.ext e1, (Fin.then (R := Rps (c.zp Z P)) f1).mono fun y H2 ⟨ρ2, G2, d, e2, s2, r2, f2⟩ => ?_⟩
    exact f2.here s2 (.cons (Rp.mono e2 _ _ r1) r2))⟩
def MEs.app : MEs → MEs → MEs
  | .nil, r => r
  | .cons e es, r => .cons e (es.app r)
theorem MEs.app_length : ∀ (a b : MEs), (a.app b).length = a.length + b.length
  | .nil, b => by simp [MEs.app, MEs.length]
  | .cons _ a, b => by simp [MEs.app, MEs.length, MEs.app_length a b]; omega
theorem then_assoc {α β γ : Type} (o : Out α) (f : α → Hd → Out β) (g : β → Hd → Out γ) : (o.then f).then g = o.then fun a G => (f a G).then g := by
  cases o <;> rfl
theorem evEs_app {b : Nat} {τ : Tau} : ∀ (m n : MEs) (G : Hd), evEs Φ b (m.app n) τ G = (evEs Φ b m τ G).then fun ds G => (evEs Φ b n τ G).then fun es G => .ok (ds ++ es) G
  | .nil, n, G => by
    simp only [MEs.app, evEs, Out.then_ok, List.nil_append]
    cases evEs Φ b n τ G <;> rfl
  | .cons a m, n, G => by
    simp only [MEs.app, evEs, then_assoc, Out.then_ok, List.cons_append]
    congr 1
    funext d G1
    rw [evEs_app m n G1, then_assoc]
    congr 1
    funext ds G2
    rw [then_assoc]
    rfl
def kwNames : List Keyword → Option (List Str)
  | [] => some []
  | ⟨some n, _, _⟩ :: r => (kwNames r).map (n :: ·)
  | ⟨none, _, _⟩ :: _ => none
theorem kw_all {env : Env} {pos : Pos} : ∀ {kws : List Keyword} {ks : List Str}, kwNames kws = some ks → (backToKw pos (keywordEach kws env)).all (·.1.isSome) = true ∧ (backToKw pos (keywordEach kws env)).filterMap (·.1) = ks ∧ (backToKw pos (keywordEach kws env)).any (·.1.isNone) = false
  | [], ks, h => by cases h; exact ⟨rfl, rfl, rfl⟩
  | ⟨some n, e, p⟩ :: r, ks, h => by
    obtain ⟨ks', h1, rfl⟩ := map_some (show (kwNames r).map (n :: ·) = some ks from h)
    obtain ⟨a, b, d⟩ := kw_all (env := env) (pos := pos) h1
    unfold keywordEach
    unfold backToKw at a b d ⊢
    simp only [List.map_cons, List.all_cons, List.filterMap_cons, List.any_cons, Option.isSome_some, Option.isNone_some, Bool.true_and, Bool.false_or]
    exact ⟨a, by rw [b], d⟩
  | ⟨none, _, _⟩ :: _, _, h => by cases h
theorem kw_len : ∀ {kws : List Keyword} {ks : List Str}, kwNames kws = some ks → ks.length = kws.length
  | [], ks, h => by cases h; rfl
  | ⟨some n, e, p⟩ :: r, ks, h => by
    obtain ⟨ks', h1, rfl⟩ := map_some (show (kwNames r).map (n :: ·) = some ks from h)
    simp [kw_len h1]
  | ⟨none, _, _⟩ :: _, _, h => by cases h
theorem run_callk (ok : XOk Φ fns cons X c) (hf : fns x = some ps) {mk : MEs} (hl : ms.length + mk.length = ps.length) {σ : L2.St} {H : Hp} {Q : VK} (h : low c (evE Φ c.b (.call x (ms.app mk))) σ H Q) :
    lowA c (evEs Φ c.b ms) σ H fun vs H1 => lowA c (evEs Φ c.b mk) σ H1 fun zs H2 => vs.length = ms.length ∧ zs.length = mk.length ∧ lowSp X.K X.mg c.T ps.length (Φ x) (vs ++ zs) H2 Q (exK c.mg c.EX) := by
  obtain ⟨Z, P, ρ, G, τ, s, w, f⟩ := h
  rw [evE, evEs_app, then_assoc] at f
  refine ⟨Z, P, ρ, G, τ, s, w, ?_⟩
  cases g : evEs Φ c.b ms τ G with
  | ok ds G1 =>
    rw [g] at f
    simp only [Out.then_ok, then_assoc] at f
    intro xs H1 ρ1 e1 s1 r1
    refine ⟨Z, P, ρ1, G1, τ, s1, w.ext e1, ?_⟩
    have f := Fin.ext f e1
    cases g2 : evEs Φ c.b mk τ G1 with
    | ok es G2 =>
      rw [g2] at f
      simp only [Out.then_ok] at f
      intro ys H2 ρ2 e2 s2 r2
      have l1 : xs.length = ms.length := by rw [r1.length, evEs_len g]
      have l2 : ys.length = mk.length := by rw [r2.length, evEs_len g2]
      exact ⟨l1, l2, lowSp_of ok.K ok.mg s2 ((Rps.mono e2 _ _ r1).append r2) (by rw [List.length_append, l1, l2, hl]) (Fin.ext f e2)⟩
    | exc _ _ => rw [g2] at f; exact f
    | bad => rw [g2] at f; exact f
  | exc _ _ => rw [g] at f; exact f
  | bad => rw [g] at f; exact f
theorem se_callk (ok : XOk Φ fns cons X c) (hg : Gl X x) (hf : fns x = some ps) {mk : MEs} {ks : List Str} (hks : kwNames kws = some ks) (hd : (x == ("__debug__" : Str)) = false) (ha : PA X (e :: es) (lowA c (evEs Φ c.b ms))) (hp : (e :: es).all plainE = true) (hkw : PK X kws (lowA c (evEs Φ c.b mk)))
    (hn : ms.length ≤ ps.length) (hkn : ps.drop ms.length = ks) (hml : mk.length = kws.length) : PE X (.Call (.Name x p) (e :: es) kws pos) (low c (evE Φ c.b (.call x (ms.app mk)))) := by
  obtain ⟨a, fd, k, hm, hk, hb, F, hr⟩ := ok.fn x ps hf
  have hl : ms.length + mk.length = ps.length := by
    rw [hml, ← kw_len hks, ← hkn, List.length_drop]
    omega
  have hb := hb ms.length hn
  rw [hkn] at hb
  obtain ⟨k1, k2, k3⟩ := kw_all (env := X.env) (pos := pos) hks
  have hp0 := hp
  rw [List.all_cons, Bool.and_eq_true] at hp
  refine (pe_callN F hr hg hm hk hb ok.pass ha hkw k1 k2 hd (star_one hp.1) (by rw [k3, star_any hp0]; rfl)).weak fun σ H Q h => ?_
  obtain ⟨Z, P, ρ, G, τ, s, w, f⟩ := run_callk ok hf hl h
  refine ⟨Z, P, ρ, G, τ, s, w, f.mono fun vs H1 ⟨Z1, P1, ρ1, G1, τ1, s1, w1, f1⟩ => ⟨Z1, P1, ρ1, G1, τ1, s1, w1, f1.mono fun zs H2 ⟨l1, l2, q⟩ => ⟨l1, ?_, q⟩⟩⟩
  rw [l2, hml, kw_len hks]
/-- .. without others -/
theorem se_callk0 (ok : XOk Φ fns cons X c) (hg : Gl X x) (hf : fns x = some ps) {mk : MEs} (hks : kwNames kws = some ps) (hd : (x == ("__debug__" : Str)) = false) (hkw : PK X kws (lowA c (evEs Φ c.b mk))) (hml : mk.length = kws.length) :
    PE X (.Call (.Name x p) [] kws pos) (low c (evE Φ c.b (.call x mk))) := by
  obtain ⟨a, fd, k, hm, hk, hb, F, hr⟩ := ok.fn x ps hf
  have hb := hb 0 (Nat.zero_le _)
  rw [List.drop_zero] at hb
  obtain ⟨k1, k2, k3⟩ := kw_all (env := X.env) (pos := pos) hks
  refine ⟨fun pins s σ H Q I h => ?_⟩
  obtain ⟨Z, P, ρ, G, τ, s0, w, f⟩ := run_call ok hf (by rw [hml, kw_len hks]) h
  refine wpAny_Call_Name_kw (ld_glob I hg hm ?_ hd)
  refine PySem.W.callWith_KW0 (h₀ := X.base) I.ok.mod.kin hk k1 (thn (hkw.run pos pins s σ H _ I ⟨Z, P, ρ, G, τ, s0, w, f⟩) fun ws s2 ⟨zs, H2, I2, rz, l2, q2⟩ => ⟨I2.kIn, ?_⟩) (by rw [k3]; rfl)
  rw [k2]
  exact run_fnN (n := 0) (vs := []) (us := []) F hr hb ok.pass I2 .nil rz rfl l2 q2
end call

/-! ### built-ins -/
def biName (x : Str) : Option BI := ([("len", .len), ("abs", .abs), ("isinstance", .isi), ("all", .all), ("any", .any), ("sum", .sum), ("tuple", .tuple), ("list", .list), ("dict", .dict), ("int", .int), ("str", .str), ("min", .min), ("max", .max)] : List (Str × BI)).lookup x
def biTab : List (Str × BI) := [("len", .len), ("abs", .abs), ("isinstance", .isi), ("all", .all), ("any", .any), ("sum", .sum), ("tuple", .tuple), ("list", .list), ("dict", .dict), ("int", .int), ("str", .str), ("min", .min), ("max", .max)]
theorem biTab_ok : ∀ p ∈ biTab, bootBuiltins p.1 = some (biV p.2) ∧ p.1 ∈ bltNames ∧ p.1 ≠ ("__name__" : Str) ∧ (p.1 == ("__debug__" : Str)) = false := by
  intro p hp
  unfold biTab at hp
  simp only [List.mem_cons, List.not_mem_nil, or_false] at hp
  rcases hp with rfl | rfl | rfl | rfl | rfl | rfl | rfl | rfl | rfl | rfl | rfl | rfl | rfl <;> exact ⟨by decide +kernel, by decide +kernel, by decide +kernel, by decide +kernel⟩
theorem lookup_mem {α β : Type} [BEq α] [LawfulBEq α] : ∀ {l : List (α × β)} {x : α} {y : β}, l.lookup x = some y → (x, y) ∈ l
  | [], _, _, h => by cases h
  | (a, b) :: l, x, y, h => by
    rw [List.lookup_cons] at h
    cases g : (x == a) with
    | true =>
      rw [g] at h
      cases h
      rw [eq_of_beq g]
      exact List.mem_cons_self
    | false =>
      rw [g] at h
      exact List.mem_cons_of_mem _ (lookup_mem h)
section bi
variable {x : Str} {o : BI} {p : Pos} {e : Expr} {es : List Expr} {ms : MEs}
theorem bi_facts (ok : XOk Φ fns cons X c) (h : biName x = some o) : bootBuiltins x = some (biV o) ∧ X.mg x = none ∧ x ≠ ("__name__" : Str) ∧ (x == ("__debug__" : Str)) = false := by
  have m : (x, o) ∈ biTab := lookup_mem h
  obtain ⟨a, b, d, e⟩ := biTab_ok _ m
  exact ⟨a, ok.blt _ b, d, e⟩
theorem pe_bi (ok : XOk Φ fns cons X c) (h : biName x = some o) (hg : Gl X x) {t : TA} (ha : PA X (e :: es) t) (hp : (e :: es).all plainE = true) : PE X (.Call (.Name x p) (e :: es) [] pos) (tCB (rBi X o) t) := by
  obtain ⟨a, b, d, dd⟩ := bi_facts ok h
  rw [List.all_cons, Bool.and_eq_true] at hp
  have r := bi_call (X := X) ok.calm o
  cases o with
  | tuple => exact pe_callTy r hg b a ha d dd (star_one hp.1) (star_any hp.2)
  | list => exact pe_callTy r hg b a ha d dd (star_one hp.1) (star_any hp.2)
  | dict => exact pe_callTy r hg b a ha d dd (star_one hp.1) (star_any hp.2)
  | int => exact pe_callTy r hg b a ha d dd (star_one hp.1) (star_any hp.2)
  | str => exact pe_callTy r hg b a ha d dd (star_one hp.1) (star_any hp.2)
  | _ => exact pe_callB r hg b a ha d dd (star_one hp.1) (star_any hp.2)
theorem se_bi (ok : XOk Φ fns cons X c) (h : biName x = some o) (hg : Gl X x) (ha : PA X (e :: es) (lowA c (evEs Φ c.b ms))) (hp : (e :: es).all plainE = true) : PE X (.Call (.Name x p) (e :: es) [] pos) (low c (evE Φ c.b (.bi o ms))) := by
  refine (pe_bi ok h hg ha hp).weak fun σ H Q q => lowA1 (ga := evEs Φ c.b ms) (k := fun ds G => lift (biD G o ds) G) (r := rBi X o) (fun Z P xs H ρ G as Q s ra f => ?_) σ H Q (by
    have e : evE Φ c.b (.bi o ms) = fun τ G => (evEs Φ c.b ms τ G).then fun ds G => lift (biD G o ds) G := by
      funext τ G
      rw [evE]
    rw [e] at q
    exact q)
  obtain ⟨z, e, f⟩ := f.lift
  exact bi_ok (c := c.zp Z P) ok.K s ra e f
/-- list(..), fresh -/
theorem sf_list (ok : XOk Φ fns cons X c) (h : biName x = some .list) (hg : Gl X x) (ha : PA X (e :: es) (lowA c (evEs Φ c.b ms))) (hp : (e :: es).all plainE = true) : PE X (.Call (.Name x p) (e :: es) [] pos) (lowFr c (evE Φ c.b (.bi .list ms))) := by
  refine (pe_bi ok h hg ha hp).weak fun σ H Q ⟨Z, P, ρ, G, τ, s, w, f⟩ => ?_
  rw [evE] at f
  refine ⟨Z, P, ρ, G, τ, s, w, ?_⟩
  cases g : evEs Φ c.b ms τ G with
  | ok ds G1 =>
    rw [g] at f
    simp only [Out.then_ok] at f
    intro xs H1 ρ1 e1 s1 r1
    cases g2 : biD G1 .list ds with
    | none => rw [g2] at f; exact f.elim
    | some z =>
      rw [g2] at f
      obtain ⟨o, eo, q⟩ := f
      obtain ⟨a, rfl, e2⟩ := arg1_some g2
      obtain ⟨y, r, rfl, ry, t⟩ := r1.of_cons
      obtain rfl := t.of_nil
      obtain ⟨es', g3, rfl⟩ := map_some e2
      cases eo
      obtain ⟨pp, vs, rfl, q', t⟩ := rp_seq s1 ry g3
      refine ⟨pp, vs, rfl, ?_, fun l hl => newFr (o := .lst es') s1 e1 hl ⟨vs, upd_same, Rps.and hl (s1.ext hl) _ _ t⟩ q⟩
      rcases q' with q' | q'
      · exact .inl (.inl q')
      · exact .inr ((show (c.zp Z P).K = X.K from ok.K) ▸ q')
  | exc _ _ => rw [g] at f; exact f
  | bad => rw [g] at f; exact f
theorem of_list (τ : Tau) (G : Hd) (d : D) (G' : Hd) (h : evE Φ c.b (.bi .list ms) τ G = .ok d G') : ∃ o, objOf d = some o := by
  rw [evE] at h
  cases g : evEs Φ c.b ms τ G with
  | ok ds G1 =>
    rw [g] at h
    simp only [Out.then_ok] at h
    cases g2 : biD G1 .list ds with
    | none => rw [g2] at h; cases h
    | some z =>
      rw [g2] at h
      cases h
      obtain ⟨a, rfl, e2⟩ := arg1_some g2
      obtain ⟨es', g3, rfl⟩ := map_some e2
      exact ⟨_, rfl⟩
  | exc _ _ => rw [g] at h; cases h
  | bad => rw [g] at h; cases h
end bi

/-! ### methods -/
/-- not super() -/
def notSuper : Expr → Bool
  | .Call (.Name _ _) [] [] _ => false
  | _ => true
theorem base_ok {o : Expr} {m : Str} {env : Env} (h : notSuper o = true) : attributeBase o m env (eval o env) = eval o env := by
  unfold attributeBase
  split
  · cases h
  · rfl
section meth
variable {o e f : Expr} {apos cpos : Pos} {mo me mf : ME}
theorem m2_ok {m : Str} (h1 : notSuper o = true) (h2 : plainE e = true) (h3 : plainE f = true) (h4 : (apos.endLine == cpos.line) = true) : M2 X o m apos e f cpos := by
  have s : starEach [e, f] X.env = [(false, eval e X.env), (false, eval f X.env)] := by rw [star_one h2, star_one h3]; rfl
  exact ⟨base_ok h1, by rw [s]; rfl, h4, by rw [s]; rfl⟩
theorem rdD {H : Hp} {ρ : List Addr} {G : Hd} {d : D} {v : V} {ks vs : List D} (s : SR c H ρ G) (h : Rp c H ρ d v) (e : dictOf G d = some (ks, vs)) : ∃ a, v = .ref a ∧ IsD H a := by
  obtain ⟨a, kvs, rfl, q, _⟩ := rp_dict s h e
  exact ⟨a, rfl, .inl ⟨kvs, q⟩⟩
theorem se_get (ok : XOk Φ fns cons X c) (ho : PE X o (low c (evE Φ c.b mo))) (he : PE X e (low c (evE Φ c.b me))) (hf : PE X f (low c (evE Φ c.b mf))) (h1 : notSuper o = true) (h2 : plainE e = true) (h3 : plainE f = true) (h4 : (apos.endLine == cpos.line) = true) :
    PE X (.Call (.Attribute o "get" apos) [e, f] [] cpos) (low c (evE Φ c.b (.get mo me mf))) := by
  refine (pe_dget2 (by have := ok.units; omega) ho he hf (m2_ok h1 h2 h3 h4)).weak fun σ H Q ⟨Z, P, ρ, G, τ, s, w, q⟩ => ?_
  rw [evE] at q
  refine ⟨Z, P, ρ, G, τ, s, w, (Fin.then (R := Rp (c.zp Z P)) q).mono fun x H1 ⟨ρ1, G1, xo, e1, s1, r1, f1⟩ => ?_⟩
  cases g : dictOf G1 xo with
  | none => simp only [g] at f1; exact f1.elim
  | some p =>
    obtain ⟨ks0, vs0⟩ := p
    simp only [g] at f1
    obtain ⟨a, rfl, ad⟩ := rdD s1 r1 g
    refine ⟨a, rfl, ad, Z, P, ρ1, G1, τ, s1, w.ext e1, (Fin.then (R := Rp (c.zp Z P)) f1).mono fun y H2 ⟨ρ2, G2, xk, e2, s2, r2, f2⟩ => ?_⟩
    refine ⟨Z, P, ρ2, G2, τ, s2, (w.ext e1).ext e2, (Fin.then (R := Rp (c.zp Z P)) f2).mono fun z H3 ⟨ρ3, G3, xd, e3, s3, r3, f3⟩ => ?_⟩
    obtain ⟨v, ev, f3⟩ := f3.lift
    have r1' := Rp.mono e3 _ _ (Rp.mono e2 _ _ r1)
    have r2' := Rp.mono e3 _ _ r2
    unfold getD at ev
    cases g3 : dictOf G3 xo with
    | none => rw [g3] at ev; cases ev
    | some p =>
      obtain ⟨ks, vs⟩ := p
      rw [g3] at ev
      obtain ⟨kk, rfl⟩ := ite_some ev
      obtain ⟨a', oo, ea, dg, m⟩ := rp_get s3 r1' g3 kk r2'
      cases ea
      refine ⟨oo, dg, f3.here s3 ?_⟩
      cases g4 : dictGet ks vs xk with
      | none => rw [g4] at m; rw [m]; exact r3
      | some zz => rw [g4] at m; obtain ⟨ww, m, mr⟩ := m; rw [m]; exact mr
theorem few1 {env : Env} (h2 : plainE e = true) : (((backTo cpos (starEach [e] env)).all (fun x => !x.1) && (backToKw cpos (keywordEach [] env)).all fun x => x.1.isSome) && decide (([e].length + ([] : List Keyword).length + if ([] : List Keyword).isEmpty = true then 0 else 1) < 30)) = true := by
  rw [star_one h2]
  rfl
theorem se_append (ok : XOk Φ fns cons X c) (ho : PE X o (low c (evE Φ c.b mo))) (he : PE X e (low c (evE Φ c.b me))) (h1 : notSuper o = true) (h2 : plainE e = true) (h4 : (apos.endLine == cpos.line) = true) :
    PE X (.Call (.Attribute o "append" apos) [e] [] cpos) (low c (evE Φ c.b (.append mo me))) := by
  have ha : PA X [e] (lowA c (evEs Φ c.b (.cons me .nil))) := sa_cons he sa_nil (star_one h2)
  refine (pe_bm PySem.F.plainAttrs_list PySem.F.slot_list_append PySem.F.type_list_append mt_append ho ha (base_ok h1) (few1 h2) h4 (star_one h2) rfl).weak fun σ H Q ⟨Z, P, ρ, G, τ, s, w, q⟩ => ?_
  rw [evE] at q
  refine ⟨Z, P, ρ, G, τ, s, w, (Fin.then (R := Rp (c.zp Z P)) q).mono fun x H1 ⟨ρ1, G1, xo, e1, s1, r1, f1⟩ => ?_⟩
  cases g : listD G1 xo with
  | none => simp only [g] at f1; exact f1.elim
  | some ys0 =>
    simp only [g] at f1
    refine ⟨?_, Z, P, ρ1, G1, τ, s1, w.ext e1, ?_⟩
    · obtain ⟨a, vs, rfl, qq, _⟩ := rp_list s1 r1 g
      exact .inl ⟨rfl, vs, .inl qq⟩
    · have ev : evEs Φ c.b (.cons me .nil) τ G1 = (evE Φ c.b me τ G1).then fun d G => .ok [d] G := by
        simp only [evEs, Out.then_ok]
      show Fin (c.zp Z P) (Rps (c.zp Z P)) (evEs Φ c.b (.cons me .nil) τ G1) H1 ρ1 _
      rw [ev]
      have f2 := Fin.then (R := Rp (c.zp Z P)) f1
      cases g2 : evE Φ c.b me τ G1 with
      | ok d G2 =>
        rw [g2] at f2
        intro xs H2 ρ2 e2 s2 r2
        obtain ⟨y, r, rfl, ry, t⟩ := r2.of_cons
        obtain rfl := t.of_nil
        rw [g2] at f1
        simp only [Out.then_ok] at f1
        exact append_ok (c := c.zp Z P) s2 (Rp.mono e2 _ _ r1) ry (Fin.ext f1 e2)
      | exc _ _ => rw [g2] at f2; exact f2
      | bad => rw [g2] at f2; exact f2
end meth
end
end U

set_option Elab.async false
set_option linter.all false
set_option maxRecDepth 100000
/-! UI: targets, what is walked, loops, comprehensions. -/
namespace U
open PySem L2 PyProof.Rows

/-! ### another wish about exceptions -/
section
variable {c c' : C} {H : Hp} {ρ : List Addr} {G : Hd}
mutual
theorem Rp.cx (hK : c'.K = c.K) (hm : c'.mg = c.mg) (hZ : c'.Z = c.Z) : ∀ (d : D) (v : V), Rp c H ρ d v → Rp c' H ρ d v
  | .non, _, h => h
  | .bl _, _, h => h
  | .int _, _, h => h
  | .str _, _, h => h
  | .ty _, _, h => h
  | .exc n, v, h => by
    unfold Rp at h ⊢
    obtain ⟨a, C, r, q, s, m⟩ := h
    exact ⟨a, C, r, by rw [hm]; exact q, s, by rw [hZ]; exact m⟩
  | .ref i, v, h => h
  | .glo x, v, h => by
    unfold Rp at h ⊢
    rw [hm]
    exact h
  | .tup ds, v, h => by
    unfold Rp at h ⊢
    obtain ⟨a, vs, r, s, t⟩ := h
    exact ⟨a, vs, r, by rw [hK]; exact s, Rps.cx hK hm hZ ds vs t⟩
  | .lst ds, v, h => by
    unfold Rp at h ⊢
    obtain ⟨a, vs, r, s, m, t⟩ := h
    exact ⟨a, vs, r, s, by rw [hZ]; exact m, Rps.cx hK hm hZ ds vs t⟩
  | .dct ks ds, v, h => by
    unfold Rp at h ⊢
    obtain ⟨a, kvs, r, s, m, q, t⟩ := h
    exact ⟨a, kvs, r, s, by rw [hZ]; exact m, q, Rps.cx hK hm hZ ds _ t⟩
  | .ins nm fs ds, v, h => by
    unfold Rp at h ⊢
    obtain ⟨a, C, dx, fvs, r, q, s, m, j, t⟩ := h
    exact ⟨a, C, dx, fvs, r, by rw [hm]; exact q, s, by rw [hZ]; exact m, j, Rps.cx hK hm hZ ds _ t⟩
theorem Rps.cx (hK : c'.K = c.K) (hm : c'.mg = c.mg) (hZ : c'.Z = c.Z) : ∀ (ds : List D) (vs : List V), Rps c H ρ ds vs → Rps c' H ρ ds vs
  | [], _, h => h
  | d :: ds, vs, h => by
    unfold Rps at h ⊢
    obtain ⟨v, r, x, y, z⟩ := h
    exact ⟨v, r, x, Rp.cx hK hm hZ d v y, Rps.cx hK hm hZ ds r z⟩
end
end
/-- nothing leaves -/
abbrev C.nox (c : C) : C := { c with EX := fun _ _ => False }
section
variable {c : C} {H H' : Hp} {ρ ρ' : List Addr} {G : Hd} {σ : L2.St} {τ : Tau} {Z : List Addr} {P : Nat → Prop}
theorem SR.nox (s : SR (c.zp Z P) H ρ G) : SR (c.nox.zp Z P) H ρ G :=
  ⟨s.len, s.nd, fun i a o h1 h2 => (s.obj i a o h1 h2).map (c.zp Z P) (c.nox.zp Z P) rfl rfl fun ds vs => Rps.cx (c := c.zp Z P) (c' := c.nox.zp Z P) rfl rfl rfl ds vs, s.bnd, s.pb, s.cl, s.zs, s.tb⟩
theorem SR.unx (s : SR (c.nox.zp Z P) H ρ G) : SR (c.zp Z P) H ρ G :=
  ⟨s.len, s.nd, fun i a o h1 h2 => (s.obj i a o h1 h2).map (c.nox.zp Z P) (c.zp Z P) rfl rfl fun ds vs => Rps.cx (c := c.nox.zp Z P) (c' := c.zp Z P) rfl rfl rfl ds vs, s.bnd, s.pb, s.cl, s.zs, s.tb⟩
theorem EnvR.nox (h : EnvR (c.zp Z P) H ρ σ τ) : EnvR (c.nox.zp Z P) H ρ σ τ := h.map fun d v => Rp.cx (c := c.zp Z P) (c' := c.nox.zp Z P) rfl rfl rfl d v
theorem Ext.nox (e : Ext (c.zp Z P) H ρ H' ρ') : Ext (c.nox.zp Z P) H ρ H' ρ' := ⟨⟨e.more, e.keep, e.tups, e.dom, e.frzs⟩, e.zs⟩
theorem Ext.unx (e : Ext (c.nox.zp Z P) H ρ H' ρ') : Ext (c.zp Z P) H ρ H' ρ' := ⟨⟨e.more, e.keep, e.tups, e.dom, e.frzs⟩, e.zs⟩
end

/-! ### targets -/
def slotsT : MT → List Nat
  | .nam i => [i]
  | .tp0 => []
  | .tpc t r => slotsT t ++ slotsT r
structure SameOff (l : List Nat) (σ σ' : L2.St) : Prop where
  len : σ'.length = σ.length
  off : ∀ j, j ∉ l → σ'[j]? = σ[j]?
theorem SameOff.trans {l m : List Nat} {a b d : L2.St} (h : SameOff l a b) (k : SameOff m b d) : SameOff (l ++ m) a d :=
  ⟨k.len.trans h.len, fun j hj => (k.off j fun z => hj (List.mem_append_right _ z)).trans (h.off j fun z => hj (List.mem_append_left _ z))⟩
/-- d, which stands as v, is bound -/
def lowG (t : MT) : TG := fun v σ H Q => ∃ c ρ d τ τ', EnvR c H ρ σ τ ∧ Rp c H ρ d v ∧ bindT t d τ = some τ' ∧ ∀ σ', EnvR c H ρ σ' τ' → SameOff (slotsT t) σ σ' → Q σ' H
def lowGs (K : PySem.W.Frag) (t : MT) : TGs := fun vs σ H Q => ∃ c ρ ds τ τ', c.K = K ∧ EnvR c H ρ σ τ ∧ Rps c H ρ ds vs ∧ bindT t (.tup ds) τ = some τ' ∧ ∀ σ', EnvR c H ρ σ' τ' → SameOff (slotsT t) σ σ' → Q σ' H
section
variable {X : Cx} {pos : Pos}
theorem _root_.L2.PG.weak {e : Expr} {t t' : TG} (h : PG X e t) (k : ∀ v σ H Q, t' v σ H Q → t v σ H Q) : PG X e t' := ⟨fun pins s σ H v u Q I r q => h.run pins s σ H v u Q I r (k v σ H Q q)⟩
theorem _root_.L2.PGs.weak {e : List Expr} {t t' : TGs} (h : PGs X e t) (k : ∀ v σ H Q, t' v σ H Q → t v σ H Q) : PGs X e t' := ⟨fun pins s σ H v u Q I r q => h.run pins s σ H v u Q I r (k v σ H Q q)⟩
theorem sg_name {i : Nat} {x : Str} (hN : X.N.Nodup) (hi : X.N[i]? = some x) (hx : Loc X.env.scope x) (hf : X.fn x = true ∨ X.env.scope.names.lookup x = some .local) : PG X (.Name x pos) (lowG (.nam i)) :=
  (pg_name hN hi hx hf).weak fun v σ H Q ⟨c, ρ, d, τ, τ', w, r, e, q⟩ => by
    cases e
    refine q _ (w.set i r) ⟨by simp, fun j hj => ?_⟩
    rw [List.getElem?_set_ne]
    intro z
    exact hj (by rw [← z]; exact List.mem_singleton.mpr rfl)
end
/-- a target of K's own (tuples are read there) -/
def lowGK (K : PySem.W.Frag) (t : MT) : TG := fun v σ H Q => ∃ c ρ d τ τ', c.K = K ∧ EnvR c H ρ σ τ ∧ Rp c H ρ d v ∧ bindT t d τ = some τ' ∧ ∀ σ', EnvR c H ρ σ' τ' → SameOff (slotsT t) σ σ' → Q σ' H
section
variable {X : Cx} {pos : Pos}
theorem sgk_name {i : Nat} {x : Str} (hN : X.N.Nodup) (hi : X.N[i]? = some x) (hx : Loc X.env.scope x) (hf : X.fn x = true ∨ X.env.scope.names.lookup x = some .local) : PG X (.Name x pos) (lowGK X.K (.nam i)) :=
  (sg_name hN hi hx hf).weak fun v σ H Q ⟨c, ρ, d, τ, τ', _, h⟩ => ⟨c, ρ, d, τ, τ', h⟩
theorem sgs_nil : PGs X [] (lowGs X.K .tp0) := pgs_nil.weak fun vs σ H Q ⟨c, ρ, ds, τ, τ', _, w, r, e, q⟩ => by
  cases ds with
  | nil =>
    cases e
    exact ⟨r.of_nil, q _ w ⟨rfl, fun _ _ => rfl⟩⟩
  | cons _ _ => cases e
theorem sgs_cons {e : Expr} {es : List Expr} {t r : MT} (h : PG X e (lowGK X.K t)) (hs : PGs X es (lowGs X.K r)) (he : (assignEach (e :: es) X.env).map (·.2) = assign e X.env :: (assignEach es X.env).map (·.2)) : PGs X (e :: es) (lowGs X.K (.tpc t r)) :=
  (pgs_cons h hs he).weak fun vs σ H Q ⟨c, ρ, ds, τ, τ', hK, w, rr, e, q⟩ => by
    cases ds with
    | nil => cases e
    | cons d ds =>
      obtain ⟨v, vr, rfl, rv, rt⟩ := rr.of_cons
      obtain ⟨τ1, e1, e2⟩ := bind_some (show (bindT t d τ).bind (fun τ' => bindT r (.tup ds) τ') = some τ' from e)
      refine ⟨v, vr, rfl, c, ρ, d, τ, τ1, hK, w, rv, e1, fun σ1 w1 o1 => ?_⟩
      exact ⟨c, ρ, ds, τ1, τ', hK, w1, rt, e2, fun σ2 w2 o2 => q σ2 w2 (o1.trans o2)⟩
def lenT : MT → Nat
  | .tpc _ r => lenT r + 1
  | _ => 0
def isTup : MT → Bool
  | .tp0 => true
  | .tpc _ r => isTup r
  | .nam _ => false
theorem bindT_len : ∀ {t : MT} {ds : List D} {τ τ' : Tau}, isTup t = true → bindT t (.tup ds) τ = some τ' → ds.length = lenT t
  | .tp0, ds, τ, τ', _, e => by
    cases ds with
    | nil => rfl
    | cons _ _ => cases e
  | .tpc t r, ds, τ, τ', h, e => by
    cases ds with
    | nil => cases e
    | cons d ds =>
      obtain ⟨τ1, e1, e2⟩ := bind_some (show (bindT t d τ).bind (fun τ' => bindT r (.tup ds) τ') = some τ' from e)
      rw [List.length_cons, bindT_len (t := r) h e2]
      rfl
  | .nam _, _, _, _, h, _ => by cases h
theorem bindT_tup {t : MT} {d : D} {τ τ' : Tau} (h : isTup t = true) (e : bindT t d τ = some τ') : ∃ ds, d = .tup ds := by
  cases t with
  | nam _ => cases h
  | tp0 => cases d <;> first | exact ⟨_, rfl⟩ | cases e
  | tpc t r => cases d <;> first | exact ⟨_, rfl⟩ | cases e
theorem sgk_tup {es : List Expr} {k : Nat} {t : MT} (hc : X.calm = true) (h : PGs X es (lowGs X.K t)) (ht : isTup t = true) (hn : (assignEach es X.env).length = lenT t) (hst : (assignEach es X.env).findIdx? (·.1) = none) : PG X (.Tuple es k pos) (lowGK X.K t) :=
  (pg_tup hc h hn hst).weak fun v σ H Q ⟨c, ρ, d, τ, τ', hK, w, r, e, q⟩ => by
    obtain ⟨ds, rfl⟩ := bindT_tup ht e
    obtain ⟨a, vs, rfl, sq, t2⟩ := r.tup_of
    exact ⟨a, vs, rfl, hK ▸ sq, by rw [t2.length]; exact bindT_len ht e, c, ρ, ds, τ, τ', hK, w, t2, e, q⟩
end
theorem wipe_off : ∀ {l : List Nat} {σ σ' : L2.St}, SameOff l σ σ' → ∀ (vs : List Nat), (∀ i ∈ l, i ∈ vs) → wipe σ' vs = wipe σ vs := by
  intro l σ σ' h vs hs
  have key : ∀ (ρ : L2.St) (vs : List Nat) (j : Nat), (wipe ρ vs)[j]? = if j ∈ vs then (if j < ρ.length then some none else none) else ρ[j]? := by
    intro ρ vs
    induction vs with
    | nil => intro j; simp [wipe]
    | cons v vs ih =>
      intro j
      unfold wipe
      have hl : (wipe ρ vs).length = ρ.length := wipe_length ρ vs
      by_cases e : j = v
      · subst e
        by_cases hj : j < ρ.length
        · rw [List.getElem?_set_self (by omega), if_pos List.mem_cons_self, if_pos hj]
        · rw [List.getElem?_eq_none (by simp; omega), if_pos List.mem_cons_self, if_neg hj]
      · rw [List.getElem?_set_ne (Ne.symm e), ih j]
        by_cases hj : j ∈ vs
        · rw [if_pos hj, if_pos (List.mem_cons_of_mem _ hj)]
        · rw [if_neg hj, if_neg (by simp [e, hj])]
  apply List.ext_getElem?
  intro j
  rw [key, key, h.len]
  by_cases hj : j ∈ vs
  · rw [if_pos hj, if_pos hj]
  · rw [if_neg hj, if_neg hj]
    exact h.off j fun z => hj (hs j z)
theorem wipe_wipe (σ : L2.St) (vs : List Nat) : wipe (wipe σ vs) vs = wipe σ vs := by
  have h : SameOff vs σ (wipe σ vs) := ⟨wipe_length σ vs, fun j hj => wipe_out hj⟩
  exact wipe_off h vs fun i hi => hi
end U

set_option Elab.async false
set_option linter.all false
set_option maxRecDepth 100000
/-! UJ: enumerate of a tuple. -/
namespace PySem
set_option maxHeartbeats 1000000 in
/-- enumerate(v) of anything that begins: the rule of enumerate's own start at nought -/
theorem u_enum_new {v : Value} {o : Obj} {H : Heap → Prop} (B : Begins v o H) :
    Meets (Builtin.«enumerate.__new__» ⟨[.type "enumerate", v], []⟩) (fun _ R s => H s.heap ∧
      R (.ok (.ret (.ref (s.heap.push o).objs.size))) { s with heap := (s.heap.push o).push { cls := .type "enumerate", data := .fields #[.none, .bool false, .ref s.heap.objs.size, rawInt 0, .none, .none] } }) :=
  .of_wp fun prog w A R s h => by
    obtain ⟨hp, g, d, tk, os⟩ := s; obtain ⟨h1, h⟩ := h
    have hsub := sub_enumerate
    have q1 : ∀ {A' : Around} {E : Value → Shared → Prop} {Q : Value → Shared → Prop}, Q (.ref hp.objs.size) ⟨hp.push o, g, d, tk, os⟩ → wpAny (model prog w) A' (pyIter v) Q E ⟨hp, g, d, tk, os⟩ :=
      fun q => B.iter prog w _ _ ⟨hp, g, d, tk, os⟩ _ h1 q
    wp_walk using q1
    refine wpAny_stack_any fun st => wpAny_pure ?_
    split
    · rename_i c _ _ _ _ _
      cases (c == Value.type "enumerate")
      · wp_walk using q1
        exact ⟨_, rfl, h⟩
      · wp_walk using q1
        exact ⟨_, rfl, h⟩
    · wp_walk using q1
      exact ⟨_, rfl, h⟩
theorem u_enum_call {prog : Program} {w : World} {A : Around} {E : Value → Shared → Prop} {s : Shared} {v : Value} {o : Obj} {H : Heap → Prop} {Q : Value → Shared → Prop} (B : Begins v o H) (h1 : H s.heap)
    (h : ∀ h', IsEnum h' (s.heap.objs.size + 1) s.heap.objs.size 0 .none → h'.get? s.heap.objs.size = some o → h'.objs.size = s.heap.objs.size + 2 →
      (∀ b o, s.heap.get? b = some o → h'.get? b = some o) → Q (.ref (s.heap.objs.size + 1)) { s with heap := h' }) :
    wpAny (model prog w) A (call (.type "enumerate") [v]) Q E s := by
  refine callType_new F.called_enumerate (by decide) (F.typeCall_enumerate_1 _) (F.newCall_enumerate_1 _) (fun obj => F.args_object_init_2 obj _) F.entry_enumerate_new
    (u_enum_new B) ⟨h1, ?_⟩
  have hz : (s.heap.push o).objs.size = s.heap.objs.size + 1 := Heap.size_push ..
  show _ ∧ _
  rw [hz]
  have he : IsEnum ((s.heap.push o).push { cls := .type "enumerate", data := .fields #[.none, .bool false, .ref s.heap.objs.size, rawInt 0, .none, .none] }) (s.heap.objs.size + 1) s.heap.objs.size 0 .none := by
    have := Heap.get?_push_size (s.heap.push o) (o := { cls := .type "enumerate", data := .fields #[.none, .bool false, .ref s.heap.objs.size, rawInt 0, .none, .none] }) rfl
    rw [hz] at this; exact this
  refine ⟨⟨_, he, rfl⟩, h _ he (Heap.get?_push_of_some _ (Heap.get?_push_size _ B.free)) (by rw [Heap.size_push, hz]) fun b o x => Heap.get?_push_of_some _ (Heap.get?_push_of_some _ x)⟩
end PySem
namespace U
open PySem L2 PyProof.Rows
/-- the tuple at a, each item in a new pair with its place -/
def Itet (K : PySem.W.Frag) (a : Addr) : It :=
  ⟨fun i H => ∃ (xs : List V) (x : V), SqT K H a xs ∧ xs[i]? = some x, fun i H v H' => ∃ T x, v = .ref T ∧ H T = none ∧ H' = upd H T (.tup [.int (i : Nat), x]) ∧ ∀ xs, SqT K H a xs → xs[i]? = some x, fun i H => ∃ xs : List V, SqT K H a xs ∧ xs.length = i⟩
theorem turn_enumT {P : Program} {w : World} {K : PySem.W.Frag} {elts : List Expr} {kk : Nat} {tpos : Pos} (a e it : Addr) :
    Turn P w K (.Tuple elts kk tpos) (Itet K a) [e, it] e (fun i h => (∃ old, IsEnum h e it ((i : Nat) : Int) old) ∧ h.IsTupleIter it a i ∧ e ≠ it ∧ a ≠ it ∧ e ≠ a) where
  mem := by simp
  obj := fun i h st b hb => by
    obtain ⟨⟨old, he⟩, ⟨o, ho, hc, hd⟩, _⟩ := st
    have e' : b = e ∨ b = it := by simpa using hb
    rcases e' with z | z
    · rw [z]; exact ⟨_, he, fun v q => nomatch q⟩
    · rw [z]; exact ⟨o, ho, fun v q => by rw [hd] at q; cases q⟩
  keep := fun i h h' st k => let ⟨⟨old, he⟩, hi, hne⟩ := st; ⟨⟨old, k e (by simp) _ he⟩, hi.at fun o q => k it (by simp) o q, hne⟩
  item := by
    intro X hP hw hK hc i pins s σ H E I hf st hg
    subst hP hw hK
    obtain ⟨⟨old, he⟩, hit, hne, hai, hea⟩ := st
    obtain ⟨xs, x, hq, hx⟩ := hg
    obtain ⟨its, rv, p, hz⟩ := I.tuple hq
    obtain ⟨u, hu, ru⟩ := rv.get hx
    have hel : e < s.heap.objs.size := Heap.lt_size he
    have hil : it < s.heap.objs.size := by obtain ⟨_, q, _⟩ := hit; exact Heap.lt_size q
    have lt : i < its.toArray.size := by
      have := (List.getElem?_eq_some_iff.mp hu).1
      simpa using this
    refine wpAny_pyNext_enum_itemD (Draws.tuple (prog := X.prog) (w := X.w) (A := X.A.in1) (by exact I.ok.hd hc) it a hai its.toArray) he ⟨hit, p⟩ lt hne (by simp [hne, hea]) fun y h' tk hy ho hit' hT hsz hk => ?_
    have ey : y = u := by
      have : its.toArray[i]? = some u := by simpa using hu
      rw [this] at hy
      exact (Option.some.inj hy).symm
    subst ey
    refine ⟨_, rfl, wpAny_letOwnedTupleGo_enum (s := { s with heap := h', toks := tk + 1 }) ho fun h'' he' sb => ?_⟩
    have hT2 : h''.get? s.heap.objs.size = some { cls := .type "tuple", data := .seq #[.int i tk, y] } := (sb.2 _ (Nat.ne_of_gt hel)).trans hT
    have new : ObjOk X.prog X.w (upd H s.heap.objs.size (.tup [.int (i : Nat), x])) h'' s.heap.objs.size (.tup [.int (i : Nat), x]) :=
      ⟨by show 2 ≤ sizeLine; decide, [.int i tk, y], .cons ⟨_, rfl⟩ (.cons ru .nil), ⟨_, hT2, rfl, _, rfl⟩⟩
    have I1 : Inv X pins σ (upd H s.heap.objs.size (.tup [.int (i : Nat), x])) { s with heap := h'', toks := tk + 1 } :=
      I.turnedNew (ch := [e, it]) (fun b ob hb q => (sb.2 b (fun z => hb (by simp [z]))).trans (hk b ob (fun z => hb (by simp [z])) (fun z => hb (by simp [z])) q)) hf (Nat.le_refl _) new
    refine ⟨.ref s.heap.objs.size, _, I1, rfl, ⟨_, x, rfl, I.hok.fresh (Nat.le_refl _), rfl, fun ys hy => by rw [I.tuple_inj hy hq]; exact hx⟩, ⟨⟨y, ?_⟩, hit'.1.at fun o q => (sb.2 it (Ne.symm hne)).trans q, hne, hai, hea⟩, fun b hb => ?_⟩
    · have e1 : ((i + 1 : Nat) : Int) = (i : Int) + 1 := by omega
      rw [e1]; exact he'
    · have hb' : b < s.heap.objs.size := by
        have e' : b = e ∨ b = it := by simpa using hb
        rcases e' with z | z
        · rw [z]; exact hel
        · rw [z]; exact hil
      rw [upd_ne (Nat.ne_of_lt hb')]
      exact (hf b hb).1
  done := by
    intro X hP hw hK hc i pins s σ H E I hf st hg
    subst hP hw hK
    obtain ⟨⟨old, he⟩, hit, hne, hai, hea⟩ := st
    obtain ⟨xs, hq, hx⟩ := hg
    obtain ⟨its, rv, p, hz⟩ := I.tuple hq
    obtain ⟨f0, f1, f2, f3, f4, f5⟩ := hf it (by simp)
    have hl : its.toArray.size = i := by rw [← hx, rv.length]; simp
    have hit' : s.heap.IsTupleIter it a its.toArray.size := by rw [hl]; exact hit
    exact wpAny_pyNext_enum_endD (Draws.tuple (prog := X.prog) (w := X.w) (A := X.A.in1) (by exact I.ok.hd hc) it a hai its.toArray) he ⟨hit', p⟩ fun h' eb => ⟨rfl, I.turned (t' := s.toks) (fun b o hb q => eb b o hb q) f0 f1 f3 f4 f5⟩
  self := fun A i s Q E st h => let ⟨⟨_, he⟩, _⟩ := st; wpAny_pyIter_enum he h
def iEnumT (K : PySem.W.Frag) (ta : TA) : TI := fun σ H R => ta σ H fun vs H1 => ∃ a xs, vs = [.ref a] ∧ SqT K H1 a xs ∧ R (Itet K a) H1
theorem pi_enumT {X : Cx} {e : Expr} {ta : TA} {p pos tpos : Pos} {elts : List Expr} {kk : Nat} (hg : Gl X "enumerate") (hm : X.mg "enumerate" = none) (ha : PA X [e] ta) (hs : starEach [e] X.env = [(false, eval e X.env)]) :
    PI X (.Tuple elts kk tpos) (.Call (.Name "enumerate" p) [e] [] pos) (iEnumT X.K ta) := by
  refine ⟨fun pins s σ H R I h => ?_⟩
  refine Call_ (ld_blt I hg hm boot_enumerate (PyProof.Rows.callWith_type1 (thn (ha.run pos pins s σ H _ I h) fun us s1 ⟨vs, H1, I1, r1, q1⟩ => ?_) hs rfl))
  obtain ⟨a, xs, ex, hq, q⟩ := q1
  subst ex
  cases r1 with
  | cons r rr =>
    cases rr
    cases r
    obtain ⟨its, rv, p', hz⟩ := I1.tuple hq
    have pa : s1.heap.IsTuple a its.toArray := p'
    have hal : a < s1.heap.objs.size := p'.lt
    refine u_enum_call (begins_tuple a its.toArray) pa fun h' he hit hsz hk => wpAny_pyIter_enum he ?_
    have I2 : Inv X pins σ H1 { s1 with heap := h' } := I1.kept (t' := s1.toks) hk
    refine ⟨s1.heap.objs.size + 1, [s1.heap.objs.size + 1, s1.heap.objs.size], _, _, H1, rfl, I2, turn_enumT a (s1.heap.objs.size + 1) s1.heap.objs.size, ⟨⟨.none, he⟩, ⟨_, hit, rfl, rfl⟩, Nat.succ_ne_self _, Nat.ne_of_lt hal, Nat.ne_of_gt (Nat.lt_succ_of_lt hal)⟩, fun b hb => ?_, q⟩
    have e' : b = s1.heap.objs.size + 1 ∨ b = s1.heap.objs.size := by simpa using hb
    have hle : s1.heap.objs.size ≤ b := by
      rcases e' with z | z
      · rw [z]; exact Nat.le_add_right _ _
      · rw [z]; exact Nat.le_refl _
    exact I1.fpOk hle (I1.hok.fresh hle)

/-! ### what is walked, by plain data -/
/-- what a walk leans on: values that stand, or a dict that is walked -/
inductive Sr where
  | of (S : List (D × V)) | lk (a : Addr) (o : Obj) (kvs : List (Key × V))
def Sr.at (c : C) (H : Hp) (ρ : List Addr) : Sr → Prop
  | .of S => ∀ p ∈ S, Rp c H ρ p.1 p.2
  | .lk a o kvs => H a = some (.frz o (.dK kvs))
theorem Sr.mono0 {c : C} {H H' : Hp} {ρ ρ' : List Addr} (e : Ext0 c H ρ H' ρ') : ∀ {S : Sr}, S.at c H ρ → S.at c H' ρ'
  | .of S, h => fun p hp => Rp.mono0 e _ _ (h p hp)
  | .lk a o kvs, h => e.frzs a o _ h
theorem Sr.mono {c : C} {H H' : Hp} {ρ ρ' : List Addr} (e : Ext c H ρ H' ρ') {S : Sr} (h : S.at c H ρ) : S.at c H' ρ' := Sr.mono0 e.toExt0 h
theorem Sr.and {c : C} {H H' : Hp} {ρ ρ' : List Addr} {p : Addr} (hp : H p = none) (e : Ext c H ρ H' ρ') : ∀ {S : Sr}, S.at c H ρ → S.at (c.and p) H' ρ'
  | .of S, h => fun q hq => Rp.and hp e _ _ (h q hq)
  | .lk a o kvs, h => e.frzs a o _ h
/-- the walk J goes over the items ds while the sources S stand -/
def JR (K : PySem.W.Frag) (S : Sr) (ds : List D) (J : It) : Prop := ∀ (c : C) (H : Hp) (ρ : List Addr), c.K = K → S.at c H ρ →
  (∀ i d, ds[i]? = some d → J.go i H ∧ ∀ x H', J.yld i H x H' → (H' = H ∧ Rp c H ρ d x) ∨ ∃ T vs es, x = .ref T ∧ H T = none ∧ H' = upd H T (.tup vs) ∧ d = .tup es ∧ Rps c H ρ es vs) ∧ J.stop ds.length H
def RJ (c : C) : Hp → List Addr → DI → It → Prop := fun H ρ di J => match di with
  | .items ds => ∃ S : Sr, S.at c H ρ ∧ JR c.K S ds J
  | .dyn i => ∃ a, ρ[i]? = some a ∧ J = Itl c.K a
  | .lock _ _ _ => False
def lowI (c : C) (f : Tau → Hd → Out DI) : TI := fun σ H R => ∃ Z P ρ G τ, SR (c.zp Z P) H ρ G ∧ EnvR (c.zp Z P) H ρ σ τ ∧ Fin (c.zp Z P) (RJ (c.zp Z P)) (f τ G) H ρ R
theorem _root_.L2.PI.weak {X : Cx} {tg e : Expr} {t t' : TI} (h : PI X tg e t) (k : ∀ σ H R, t' σ H R → t σ H R) : PI X tg e t' := ⟨fun pins s σ H R I q => h.run pins s σ H R I (k σ H R q)⟩
theorem _root_.L2.PI.or {X : Cx} {tg e : Expr} {t t' : TI} (h : PI X tg e t) (h' : PI X tg e t') : PI X tg e (fun σ H R => t σ H R ∨ t' σ H R) := ⟨fun pins s σ H R I q => q.elim (h.run pins s σ H R I) (h'.run pins s σ H R I)⟩

theorem jr_list {K : PySem.W.Frag} {ds : List D} {a : Addr} : JR K (.of [(.lst ds, .ref a)]) ds (Itl K a) := by
  intro c H ρ hK hS
  obtain ⟨a', vs, e, q, _, t⟩ := (hS _ List.mem_cons_self).lst_of
  cases e
  have sq : SqL K H a vs := .inl q
  refine ⟨fun i d hd => ?_, ⟨vs, sq, by rw [t.length]; exact Nat.le_refl _⟩⟩
  obtain ⟨v, hv, rv⟩ := t.get hd
  refine ⟨⟨vs, v, sq, hv⟩, fun x H' ⟨e, hx⟩ => .inl ⟨e, ?_⟩⟩
  have := hx vs sq
  rw [hv] at this
  cases this
  exact rv
theorem jr_tup {K : PySem.W.Frag} {ds : List D} {a : Addr} : JR K (.of [(.tup ds, .ref a)]) ds (Itt K a) := by
  intro c H ρ hK hS
  obtain ⟨a', vs, e, sq, t⟩ := (hS _ List.mem_cons_self).tup_of
  cases e
  rw [hK] at sq
  refine ⟨fun i d hd => ?_, ⟨vs, sq, by rw [t.length]; exact Nat.le_refl _⟩⟩
  obtain ⟨v, hv, rv⟩ := t.get hd
  refine ⟨⟨vs, v, sq, hv⟩, fun x H' ⟨e, hx⟩ => .inl ⟨e, ?_⟩⟩
  have := hx vs sq
  rw [hv] at this
  cases this
  exact rv
theorem jr_str {K : PySem.W.Frag} {z : Str} : JR K (.of []) (z.cps.toList.map fun c => D.str ⟨#[c]⟩) (Its z) := by
  intro c H ρ hK hS
  refine ⟨fun i d hd => ?_, by show z.cps.size ≤ _; simp⟩
  rw [List.getElem?_map] at hd
  obtain ⟨k, hk, rfl⟩ := map_some hd
  have hk' : z.cps[i]? = some k := by simpa using hk
  refine ⟨(Array.getElem?_eq_some_iff.mp hk').1, fun x H' ⟨e, n, hn, ex⟩ => .inl ⟨e, ?_⟩⟩
  rw [hk'] at hn
  cases hn
  exact ex
theorem jr_range {K : PySem.W.Frag} {lo : Int} {n : Nat} : JR K (.of []) ((List.range n).map fun (k : Nat) => D.int (lo + k)) (Itr lo n) := by
  intro c H ρ hK hS
  refine ⟨fun i d hd => ?_, by show n ≤ _; simp⟩
  rw [List.getElem?_map] at hd
  obtain ⟨k, hk, rfl⟩ := map_some hd
  have hi : i < n := by
    have := (List.getElem?_eq_some_iff.mp hk).1
    simpa using this
  have ek : k = i := by
    rw [List.getElem?_range hi] at hk
    exact (Option.some.inj hk).symm
  subst ek
  exact ⟨hi, fun x H' ⟨e, ex⟩ => .inl ⟨e, ex⟩⟩
theorem enum_get : ∀ (ds : List D) (n i : Nat), (enumFrom n ds)[i]? = ds[i]?.map fun d => D.tup [.int ((n + i : Nat) : Int), d]
  | [], n, i => by simp [enumFrom]
  | d :: ds, n, 0 => by simp [enumFrom]
  | d :: ds, n, i + 1 => by
    simp only [enumFrom, List.getElem?_cons_succ]
    rw [enum_get ds (n + 1) i]
    congr 1
    funext e
    have : n + 1 + i = n + (i + 1) := by omega
    rw [this]
theorem enum_len : ∀ (ds : List D) (n : Nat), (enumFrom n ds).length = ds.length
  | [], n => rfl
  | d :: ds, n => by simp [enumFrom, enum_len ds (n + 1)]
theorem jr_enumL {K : PySem.W.Frag} {ds : List D} {a : Addr} : JR K (.of [(.lst ds, .ref a)]) (enumFrom 0 ds) (Ite K a) := by
  intro c H ρ hK hS
  obtain ⟨a', vs, e, q, _, t⟩ := (hS _ List.mem_cons_self).lst_of
  cases e
  have sq : SqL K H a vs := .inl q
  refine ⟨fun i d hd => ?_, ⟨vs, sq, by rw [t.length, enum_len]; exact Nat.le_refl _⟩⟩
  rw [enum_get] at hd
  obtain ⟨d0, h0, rfl⟩ := map_some hd
  obtain ⟨v, hv, rv⟩ := t.get h0
  refine ⟨⟨vs, v, sq, hv⟩, fun x H' ⟨T, y, e1, e2, e3, hx⟩ => .inr ⟨T, [.int i, y], _, e1, e2, e3, rfl, ?_⟩⟩
  have := hx vs sq
  rw [hv] at this
  cases this
  rw [Nat.zero_add]
  exact .cons rfl (.cons rv .nil)
theorem jr_enumT {K : PySem.W.Frag} {ds : List D} {a : Addr} : JR K (.of [(.tup ds, .ref a)]) (enumFrom 0 ds) (Itet K a) := by
  intro c H ρ hK hS
  obtain ⟨a', vs, e, sq, t⟩ := (hS _ List.mem_cons_self).tup_of
  cases e
  rw [hK] at sq
  refine ⟨fun i d hd => ?_, ⟨vs, sq, by rw [t.length, enum_len]⟩⟩
  rw [enum_get] at hd
  obtain ⟨d0, h0, rfl⟩ := map_some hd
  obtain ⟨v, hv, rv⟩ := t.get h0
  refine ⟨⟨vs, v, sq, hv⟩, fun x H' ⟨T, y, e1, e2, e3, hx⟩ => .inr ⟨T, [.int i, y], _, e1, e2, e3, rfl, ?_⟩⟩
  have := hx vs sq
  rw [hv] at this
  cases this
  rw [Nat.zero_add]
  exact .cons rfl (.cons rv .nil)
theorem zip_get : ∀ (ds es : List D) (i : Nat) (d : D), (zipD ds es)[i]? = some d → ∃ a b, ds[i]? = some a ∧ es[i]? = some b ∧ d = .tup [a, b]
  | [], es, i, d, h => by simp [zipD] at h
  | _ :: _, [], i, d, h => by simp [zipD] at h
  | a :: ds, b :: es, 0, d, h => by
    simp [zipD] at h
    exact ⟨a, b, rfl, rfl, h.symm⟩
  | a :: ds, b :: es, i + 1, d, h => by
    simp only [zipD, List.getElem?_cons_succ] at h ⊢
    exact zip_get ds es i d h
theorem zip_len : ∀ (ds es : List D), (zipD ds es).length = min ds.length es.length
  | [], es => by simp [zipD]
  | _ :: _, [] => by simp [zipD]
  | a :: ds, b :: es => by simp only [zipD, List.length_cons, zip_len ds es]; omega
theorem jr_zipL {K : PySem.W.Frag} {ds es : List D} {a b : Addr} : JR K (.of [(.lst ds, .ref a), (.lst es, .ref b)]) (zipD ds es) (Itz K a b) := by
  intro c H ρ hK hS
  obtain ⟨a', vs, e, q, _, t⟩ := (hS _ List.mem_cons_self).lst_of
  cases e
  obtain ⟨b', us, e, q2, _, t2⟩ := (hS _ (List.mem_cons_of_mem _ List.mem_cons_self)).lst_of
  cases e
  have sq : SqL K H a vs := .inl q
  have sq2 : SqL K H b us := .inl q2
  refine ⟨fun i d hd => ?_, ⟨vs, us, sq, sq2, by rw [t.length, t2.length, zip_len]; omega⟩⟩
  obtain ⟨d0, d1, h0, h1, rfl⟩ := zip_get ds es i d hd
  obtain ⟨v, hv, rv⟩ := t.get h0
  obtain ⟨u, hu, ru⟩ := t2.get h1
  refine ⟨⟨vs, us, v, u, sq, sq2, hv, hu⟩, fun x H' ⟨T, y, z, e1, e2, e3, hx, hy⟩ => .inr ⟨T, [y, z], _, e1, e2, e3, rfl, ?_⟩⟩
  have h3 := hx vs sq
  rw [hv] at h3
  cases h3
  have h4 := hy us sq2
  rw [hu] at h4
  cases h4
  exact .cons rv (.cons ru .nil)
theorem jr_zipT {K : PySem.W.Frag} {ds es : List D} {a b : Addr} : JR K (.of [(.tup ds, .ref a), (.tup es, .ref b)]) (zipD ds es) (RZ.ItzT K a b) := by
  intro c H ρ hK hS
  obtain ⟨a', vs, e, sq, t⟩ := (hS _ List.mem_cons_self).tup_of
  cases e
  obtain ⟨b', us, e, sq2, t2⟩ := (hS _ (List.mem_cons_of_mem _ List.mem_cons_self)).tup_of
  cases e
  rw [hK] at sq sq2
  refine ⟨fun i d hd => ?_, ⟨vs, us, sq, sq2, by rw [t.length, t2.length, zip_len]; omega⟩⟩
  obtain ⟨d0, d1, h0, h1, rfl⟩ := zip_get ds es i d hd
  obtain ⟨v, hv, rv⟩ := t.get h0
  obtain ⟨u, hu, ru⟩ := t2.get h1
  refine ⟨⟨vs, us, v, u, sq, sq2, hv, hu⟩, fun x H' ⟨T, y, z, e1, e2, e3, hx, hy⟩ => .inr ⟨T, [y, z], _, e1, e2, e3, rfl, ?_⟩⟩
  have h3 := hx vs sq
  rw [hv] at h3
  cases h3
  have h4 := hy us sq2
  rw [hu] at h4
  cases h4
  exact .cons rv (.cons ru .nil)
/-- the keys of a dict that is walked -/
theorem jr_keys {K : PySem.W.Frag} {a : Addr} {o : Obj} {kvs : List (Key × V)} : JR K (.lk a o kvs) (kvs.map fun p => kD p.1) (Itk a o kvs) := by
  intro c H ρ hK hS
  have hS : H a = some (.frz o (.dK kvs)) := hS
  refine ⟨fun i d hd => ?_, ⟨hS, by simp⟩⟩
  rw [List.getElem?_map] at hd
  obtain ⟨q, hq, rfl⟩ := map_some hd
  have hi : i < kvs.length := (List.getElem?_eq_some_iff.mp hq).1
  refine ⟨⟨hS, hi⟩, fun x H' ⟨e, k, v, h1, h2⟩ => .inl ⟨e, ?_⟩⟩
  rw [hq] at h1
  cases h1
  rw [h2]
  cases k <;> rfl
end U

set_option Elab.async false
set_option linter.all false
set_option maxRecDepth 100000
/-! UK: walks, loops, comprehensions upon plain data. -/
namespace U
open PySem L2 PyProof.Rows
section
variable {Φ : Fn} {fns : Str → Option (List Str)} {cons : Str → Option D} {X : Cx} {c : C} {pos : Pos} {tg : Expr}

theorem si_val (ok : XOk Φ fns cons X c) {e : Expr} {m : ME} (h : PE X e (low c (evE Φ c.b m))) : PI X tg e (lowI c (evI Φ c.b (.val m))) := by
  refine (((pi_list h).or (pi_tup h)).or (pi_str h)).weak fun σ H R ⟨Z, P, ρ, G, τ, s, w, f⟩ => ?_
  rw [evI] at f
  have hK : (c.zp Z P).K = X.K := ok.K
  cases g : evE Φ c.b m τ G with
  | ok d G1 =>
    rw [g] at f
    simp only [Out.then_ok] at f
    obtain ⟨J, eJ, f⟩ := f.lift
    have base : ∀ {t : VK}, (∀ x H1 ρ1, Ext (c.zp Z P) H ρ H1 ρ1 → SR (c.zp Z P) H1 ρ1 G1 → Rp (c.zp Z P) H1 ρ1 d x → t x H1) → low c (evE Φ c.b m) σ H t := fun ht => ⟨Z, P, ρ, G, τ, s, w, by rw [g]; exact ht⟩
    cases d with
    | lst ds =>
      cases eJ
      refine .inl (.inl (base fun x H1 ρ1 e1 s1 r1 => ?_))
      obtain ⟨a, vs, rfl, q, _, t⟩ := r1.lst_of
      refine ⟨a, rfl, ⟨vs, .inl q⟩, f (Itl X.K a) H1 ρ1 e1 s1 ⟨.of [(.lst ds, .ref a)], fun p hp => ?_, by rw [hK]; exact jr_list⟩⟩
      rw [List.mem_singleton.mp hp]
      exact r1
    | tup ds =>
      cases eJ
      refine .inl (.inr (base fun x H1 ρ1 e1 s1 r1 => ?_))
      obtain ⟨a, vs, rfl, q, t⟩ := r1.tup_of
      refine ⟨a, rfl, ⟨vs, hK ▸ q⟩, f (Itt X.K a) H1 ρ1 e1 s1 ⟨.of [(.tup ds, .ref a)], fun p hp => ?_, by rw [hK]; exact jr_tup⟩⟩
      rw [List.mem_singleton.mp hp]
      exact r1
    | str z =>
      cases eJ
      refine .inr (base fun x H1 ρ1 e1 s1 r1 => ?_)
      exact ⟨z, r1, f (Its z) H1 ρ1 e1 s1 ⟨.of [], fun p hp => (nomatch hp), jr_str⟩⟩
    | ref i =>
      cases g2 : G1[i]? with
      | none => simp only [iterD, g2] at eJ; cases eJ
      | some ob =>
        cases ob with
        | lst ds =>
          simp only [iterD, g2] at eJ
          cases eJ
          refine .inl (.inl (base fun x H1 ρ1 e1 s1 r1 => ?_))
          obtain ⟨a, ha, rfl⟩ := r1.ref_of
          obtain ⟨vs, q, t⟩ := s1.obj i a _ ha g2
          exact ⟨a, rfl, ⟨vs, .inl (.inl q)⟩, f (Itl X.K a) H1 ρ1 e1 s1 ⟨a, ha, by rw [hK]⟩⟩
        | dct _ _ => simp only [iterD, g2] at eJ; cases eJ
        | ins _ _ _ => simp only [iterD, g2] at eJ; cases eJ
        | lkd _ _ => simp only [iterD, g2] at eJ; cases eJ
    | _ => cases eJ
  | exc _ _ => rw [g] at f; exact .inl (.inl ⟨Z, P, ρ, G, τ, s, w, by rw [g]; exact f⟩)
  | bad => rw [g] at f; exact .inl (.inl ⟨Z, P, ρ, G, τ, s, w, by rw [g]; exact f⟩)
theorem args1 {a : Expr} {m : ME} (ha : PE X a (low c (evE Φ c.b m))) (hp : plainE a = true) : PA X [a] (lowA c (evEs Φ c.b (.cons m .nil))) := sa_cons ha sa_nil (star_one hp)
theorem args2 {a b : Expr} {m n : ME} (ha : PE X a (low c (evE Φ c.b m))) (hb : PE X b (low c (evE Φ c.b n))) (hp : plainE a = true) (hq : plainE b = true) : PA X [a, b] (lowA c (evEs Φ c.b (.cons m (.cons n .nil)))) := sa_cons ha (args1 hb hq) (star_one hp)
theorem fin1 {m : ME} {α : Type} {β : Type} {R : Hp → List Addr → α → β → Prop} {c : C} {k : D → Hd → Out α} {τ : Tau} {G : Hd} {H : Hp} {ρ : List Addr} {Q : β → Hp → Prop} {b : Nat} (f : Fin c R ((evE Φ b m τ G).then k) H ρ Q) :
    Fin c (Rps c) (evEs Φ b (.cons m .nil) τ G) H ρ fun vs H1 => ∃ ρ1 G1 d v, vs = [v] ∧ Ext c H ρ H1 ρ1 ∧ SR c H1 ρ1 G1 ∧ Rp c H1 ρ1 d v ∧ Fin c R (k d G1) H1 ρ1 Q := by
  have e : evEs Φ b (.cons m .nil) τ G = (evE Φ b m τ G).then fun d G => .ok [d] G := by simp only [evEs, Out.then_ok]
  rw [e]
  cases g : evE Φ b m τ G with
  | ok d G1 =>
    rw [g] at f
    intro vs H1 ρ1 e1 s1 r1
    obtain ⟨v, r, rfl, rv, t⟩ := r1.of_cons
    obtain rfl := t.of_nil
    exact ⟨ρ1, G1, d, v, rfl, e1, s1, rv, Fin.ext f e1⟩
  | exc _ _ => rw [g] at f; exact f
  | bad => rw [g] at f; exact f
theorem fin2 {m n : ME} {α : Type} {β : Type} {R : Hp → List Addr → α → β → Prop} {c : C} {k : D → D → Hd → Out α} {τ : Tau} {G : Hd} {H : Hp} {ρ : List Addr} {Q : β → Hp → Prop} {b : Nat} (f : Fin c R ((evE Φ b m τ G).then fun x G => (evE Φ b n τ G).then fun y G => k x y G) H ρ Q) :
    Fin c (Rps c) (evEs Φ b (.cons m (.cons n .nil)) τ G) H ρ fun vs H1 => ∃ ρ1 G1 d v d2 v2, vs = [v, v2] ∧ Ext c H ρ H1 ρ1 ∧ SR c H1 ρ1 G1 ∧ Rp c H1 ρ1 d v ∧ Rp c H1 ρ1 d2 v2 ∧ Fin c R (k d d2 G1) H1 ρ1 Q := by
  have e : evEs Φ b (.cons m (.cons n .nil)) τ G = (evE Φ b m τ G).then fun d G => (evE Φ b n τ G).then fun d2 G => .ok [d, d2] G := by
    simp only [evEs, Out.then_ok, then_assoc]
  rw [e]
  cases g : evE Φ b m τ G with
  | ok d G1 =>
    rw [g] at f
    simp only [Out.then_ok] at f ⊢
    cases g2 : evE Φ b n τ G1 with
    | ok d2 G2 =>
      rw [g2] at f
      intro vs H1 ρ1 e1 s1 r1
      obtain ⟨v, r, rfl, rv, t⟩ := r1.of_cons
      obtain ⟨v2, r2, rfl, rv2, t2⟩ := t.of_cons
      obtain rfl := t2.of_nil
      exact ⟨ρ1, G2, d, v, d2, v2, rfl, e1, s1, rv, rv2, Fin.ext f e1⟩
    | exc _ _ => rw [g2] at f; exact f
    | bad => rw [g2] at f; exact f
  | exc _ _ => rw [g] at f; exact f
  | bad => rw [g] at f; exact f
theorem si_rng1 (ok : XOk Φ fns cons X c) {a : Expr} {m : ME} {p : Pos} (hg : Gl X "range") (ha : PE X a (low c (evE Φ c.b m))) (hp : plainE a = true) : PI X tg (.Call (.Name "range" p) [a] [] pos) (lowI c (evI Φ c.b (.rng1 m))) := by
  refine (pi_range1 hg (ok.blt _ (by decide +kernel)) (args1 ha hp) (star_one hp)).weak fun σ H R ⟨Z, P, ρ, G, τ, s, w, f⟩ => ?_
  rw [evI] at f
  refine ⟨Z, P, ρ, G, τ, s, w, (fin1 f).mono fun vs H1 ⟨ρ1, G1, d, v, ev, e1, s1, r1, f1⟩ => ?_⟩
  obtain ⟨di, eJ, f1⟩ := f1.lift
  obtain ⟨J, eJ1, rfl⟩ := map_some eJ
  obtain ⟨n, en, eJ2⟩ := bind_some eJ1
  obtain ⟨hb, rfl⟩ := ite_some eJ2
  refine ⟨n, by rw [ev, int_of en r1], hb.2.2.1, hb.2.2.2, f1 _ H1 ρ1 Ext.refl s1 ⟨.of [], fun p hp => (nomatch hp), ?_⟩⟩
  rw [Int.sub_zero]
  exact jr_range
theorem si_rng2 (ok : XOk Φ fns cons X c) {a b : Expr} {m n : ME} {p : Pos} (hg : Gl X "range") (ha : PE X a (low c (evE Φ c.b m))) (hb : PE X b (low c (evE Φ c.b n))) (hp : plainE a = true) (hq : plainE b = true) : PI X tg (.Call (.Name "range" p) [a, b] [] pos) (lowI c (evI Φ c.b (.rng2 m n))) := by
  refine (pi_range2 hg (ok.blt _ (by decide +kernel)) (args2 ha hb hp hq) (by rw [star_one hp, star_one hq]; rfl) (star_one hq)).weak fun σ H R ⟨Z, P, ρ, G, τ, s, w, f⟩ => ?_
  rw [evI] at f
  refine ⟨Z, P, ρ, G, τ, s, w, (fin2 f).mono fun vs H1 ⟨ρ1, G1, d, v, d2, v2, ev, e1, s1, r1, r2, f1⟩ => ?_⟩
  obtain ⟨di, eJ, f1⟩ := f1.lift
  obtain ⟨J, eJ1, rfl⟩ := map_some eJ
  obtain ⟨i, ei, eJ2⟩ := bind_some eJ1
  obtain ⟨j, ej, eJ3⟩ := bind_some eJ2
  obtain ⟨hb, rfl⟩ := ite_some eJ3
  exact ⟨i, j, by rw [ev, int_of ei r1, int_of ej r2], hb, f1 _ H1 ρ1 Ext.refl s1 ⟨.of [], fun p hp => (nomatch hp), jr_range⟩⟩
theorem si_enum (ok : XOk Φ fns cons X c) {a : Expr} {m : ME} {p tpos : Pos} {elts : List Expr} {kk : Nat} (hg : Gl X "enumerate") (ha : PE X a (low c (evE Φ c.b m))) (hp : plainE a = true) : PI X (.Tuple elts kk tpos) (.Call (.Name "enumerate" p) [a] [] pos) (lowI c (evI Φ c.b (.enum m))) := by
  have hm : X.mg "enumerate" = none := ok.blt _ (by decide +kernel)
  refine ((pi_enum hg hm (args1 ha hp) (star_one hp)).or (pi_enumT hg hm (args1 ha hp) (star_one hp))).weak fun σ H R ⟨Z, P, ρ, G, τ, s, w, f⟩ => ?_
  rw [evI] at f
  have hK : (c.zp Z P).K = X.K := ok.K
  have go := fin1 f
  have ev : evEs Φ c.b (.cons m .nil) τ G = (evE Φ c.b m τ G).then fun d G => .ok [d] G := by simp only [evEs, Out.then_ok]
  cases g : evE Φ c.b m τ G with
  | ok d G1 =>
    rw [g] at f
    simp only [Out.then_ok] at f
    obtain ⟨di, eJ, f⟩ := f.lift
    obtain ⟨ds, e2, rfl⟩ := map_some eJ
    cases d with
    | lst xs =>
      cases e2
      refine .inl ⟨Z, P, ρ, G, τ, s, w, ?_⟩
      rw [ev, g]
      intro vs H1 ρ1 e1 s1 r1
      obtain ⟨v, r, rfl, rv, t⟩ := r1.of_cons
      obtain rfl := t.of_nil
      obtain ⟨q, us, rfl, sq, _, t⟩ := rv.lst_of
      refine ⟨q, us, rfl, .inl sq, f _ H1 ρ1 e1 s1 ⟨.of [(.lst ds, .ref q)], fun p hp => ?_, by rw [hK]; exact jr_enumL⟩⟩
      rw [List.mem_singleton.mp hp]
      exact rv
    | tup xs =>
      cases e2
      refine .inr ⟨Z, P, ρ, G, τ, s, w, ?_⟩
      rw [ev, g]
      intro vs H1 ρ1 e1 s1 r1
      obtain ⟨v, r, rfl, rv, t⟩ := r1.of_cons
      obtain rfl := t.of_nil
      obtain ⟨q, us, rfl, sq, t⟩ := rv.tup_of
      refine ⟨q, us, rfl, hK ▸ sq, f _ H1 ρ1 e1 s1 ⟨.of [(.tup ds, .ref q)], fun p hp => ?_, by rw [hK]; exact jr_enumT⟩⟩
      rw [List.mem_singleton.mp hp]
      exact rv
    | _ => cases e2
  | exc _ _ => rw [g] at f; exact .inl ⟨Z, P, ρ, G, τ, s, w, by rw [ev, g]; exact f⟩
  | bad => rw [g] at f; exact f.elim
theorem si_zip (ok : XOk Φ fns cons X c) {a b : Expr} {m n : ME} {p tpos : Pos} {elts : List Expr} {kk : Nat} (hg : Gl X "zip") (ha : PE X a (low c (evE Φ c.b m))) (hb : PE X b (low c (evE Φ c.b n))) (hp : plainE a = true) (hq : plainE b = true) : PI X (.Tuple elts kk tpos) (.Call (.Name "zip" p) [a, b] [] pos) (lowI c (evI Φ c.b (.zip m n))) := by
  refine (RZ.pi_zipA hg (ok.blt _ (by decide +kernel)) (args2 ha hb hp hq) (star_one hp) (by rw [star_one hq]; rfl)).weak fun σ H R ⟨Z, P, ρ, G, τ, s, w, f⟩ => ?_
  rw [evI] at f
  have hK : (c.zp Z P).K = X.K := ok.K
  refine ⟨Z, P, ρ, G, τ, s, w, (fin2 f).mono fun vs H1 ⟨ρ1, G1, d, v, d2, v2, ev, e1, s1, r1, r2, f1⟩ => ?_⟩
  obtain ⟨di, eJ, f1⟩ := f1.lift
  obtain ⟨J, eJ1, rfl⟩ := map_some eJ
  cases d with
  | lst xs =>
    cases d2 with
    | lst ys =>
      cases eJ1
      obtain ⟨q, us, rfl, sq, _, t⟩ := r1.lst_of
      obtain ⟨q2, us2, rfl, sq2, _, t2⟩ := r2.lst_of
      refine ⟨q, q2, us, us2, ev, .inl ⟨.inl sq, .inl sq2, f1 _ H1 ρ1 Ext.refl s1 ⟨.of [(.lst xs, .ref q), (.lst ys, .ref q2)], fun p hp => ?_, by rw [hK]; exact jr_zipL⟩⟩⟩
      simp only [List.mem_cons, List.not_mem_nil, or_false] at hp
      rcases hp with rfl | rfl
      · exact r1
      · exact r2
    | _ => cases eJ1
  | tup xs =>
    cases d2 with
    | tup ys =>
      cases eJ1
      obtain ⟨q, us, rfl, sq, t⟩ := r1.tup_of
      obtain ⟨q2, us2, rfl, sq2, t2⟩ := r2.tup_of
      refine ⟨q, q2, us, us2, ev, .inr ⟨hK ▸ sq, hK ▸ sq2, f1 _ H1 ρ1 Ext.refl s1 ⟨.of [(.tup xs, .ref q), (.tup ys, .ref q2)], fun p hp => ?_, by rw [hK]; exact jr_zipT⟩⟩⟩
      simp only [List.mem_cons, List.not_mem_nil, or_false] at hp
      rcases hp with rfl | rfl
      · exact r1
      · exact r2
    | _ => cases eJ1
  | _ => cases eJ1
end
end U

set_option Elab.async false
set_option linter.all false
set_option maxRecDepth 100000
/-! UL: for, while, comprehensions upon plain data. -/
namespace U
open PySem L2 PyProof.Rows
section
variable {Φ : Fn} {fns : Str → Option (List Str)} {cons : Str → Option D} {X : Cx} {c : C} {pos : Pos} {tg : Expr}

/-- one item comes -/
theorem step_item {c : C} {H H' : Hp} {ρ : List Addr} {G : Hd} {d : D} {x : V} (s : SR c H ρ G) (y : (H' = H ∧ Rp c H ρ d x) ∨ ∃ T vs es, x = .ref T ∧ H T = none ∧ H' = upd H T (.tup vs) ∧ d = .tup es ∧ Rps c H ρ es vs) : Ext c H ρ H' ρ ∧ SR c H' ρ G ∧ Rp c H' ρ d x := by
  rcases y with ⟨rfl, r⟩ | ⟨T, vs, es, rfl, hT, rfl, rfl, r⟩
  · exact ⟨Ext.refl, s, r⟩
  · refine ⟨s.ext hT, s.new hT, ?_⟩
    unfold Rp
    exact ⟨T, vs, rfl, .inl (.inl upd_same), Rps.mono (s.ext hT) _ _ r⟩
theorem drop_get {α : Type} {l : List α} {i : Nat} {x : α} (h : l[i]? = some x) : l.drop i = x :: l.drop (i + 1) := by
  obtain ⟨hi, e⟩ := List.getElem?_eq_some_iff.mp h
  rw [List.drop_eq_getElem_cons hi, e]

theorem ss_for (ok : XOk Φ fns cons X c) {iter : Expr} {body : List Stmt} {mi : MI} {t : MT} {ms : MSs} (hi : PI X tg iter (lowI c (evI Φ c.b mi))) (hg : PG X tg (lowGK X.K t)) (hb : PSs X body (lowS c (evSs Φ c.b ms)))
    (hs : ∀ x, foldedSetIterable iter X.env x = pure x) : PS X (.For tg iter body [] pos) (lowS c (evS Φ c.b (.forr t mi ms))) := by
  refine (ps_for ok.own ok.calm hi hg hb hs).weak fun E σ H ⟨Z, P, ρ, G, τ, s, w, f⟩ => ?_
  rw [evS] at f
  have hK : (c.zp Z P).K = X.K := ok.K
  refine ⟨Z, P, ρ, G, τ, s, w, (Fin.then (R := RJ (c.zp Z P)) f).mono fun J H1 ⟨ρ1, G1, di, e1, s1, rj, f1⟩ => ?_⟩
  have w1 := w.ext e1
  -- what a turn is
  have turn_ok : ∀ {d : D} {x : V} {σ : L2.St} {τ : Tau} {H H' : Hp} {ρ : List Addr} {G : Hd} {N : L2.St → Hp → Prop} {k : Tau → Hd → Out Fl}, SR (c.zp Z P) H ρ G → EnvR (c.zp Z P) H ρ σ τ →
      ((H' = H ∧ Rp (c.zp Z P) H ρ d x) ∨ ∃ T vs es, x = .ref T ∧ H T = none ∧ H' = upd H T (.tup vs) ∧ d = .tup es ∧ Rps (c.zp Z P) H ρ es vs) →
      Fin (c.zp Z P) (RF (c.zp Z P)) ((match bindT t d τ with | some τ' => evSs Φ c.b ms τ' G | none => .bad).then fun f G' => match f with
        | .nx τ' => k τ' G'
        | .ct τ' => k τ' G'
        | .bk τ' => .ok (.nx τ') G'
        | .rt d => .ok (.rt d) G') H ρ (endOf E) →
      (∀ σ' H' ρ' G' τ', Ext (c.zp Z P) H ρ H' ρ' → SR (c.zp Z P) H' ρ' G' → EnvR (c.zp Z P) H' ρ' σ' τ' → Fin (c.zp Z P) (RF (c.zp Z P)) (k τ' G') H' ρ' (endOf E) → N σ' H') →
      lowGK X.K t x σ H' fun σ2 H2 => lowS c (evSs Φ c.b ms) { E with nx := N, ct := N, bk := E.nx } σ2 H2 := by
    intro d x σ τ H H' ρ G N k s w y f hN
    obtain ⟨ex, s', r⟩ := step_item s y
    cases g : bindT t d τ with
    | none => simp only [g] at f; exact f.elim
    | some τ' =>
      simp only [g] at f
      refine ⟨c.zp Z P, ρ, d, τ, τ', hK, w.ext ex, r, g, fun σ2 w2 _ => ?_⟩
      refine ⟨Z, P, ρ, G, τ', s', w2, (Fin.then (R := RF (c.zp Z P)) (f.ext ex)).mono fun fv H3 ⟨ρ3, G3, fl, e3, s3, r3, f3⟩ => ?_⟩
      cases fl with
      | nx τ3 =>
        cases fv with
        | nx σ3 => exact hN σ3 H3 ρ3 G3 τ3 (ex.trans e3) s3 r3 f3
        | _ => exact r3.elim
      | ct τ3 =>
        cases fv with
        | ct σ3 => exact hN σ3 H3 ρ3 G3 τ3 (ex.trans e3) s3 r3 f3
        | _ => exact r3.elim
      | bk τ3 =>
        cases fv with
        | bk σ3 => exact Fin.here (x := Fv.nx σ3) f3 s3 r3
        | _ => exact r3.elim
      | rt d3 =>
        cases fv with
        | rt v3 => exact Fin.here (x := Fv.rt v3) f3 s3 r3
        | _ => exact r3.elim
  cases di with
  | lock _ _ _ => exact rj.elim
  | items ds =>
    obtain ⟨S, hS, jr⟩ := rj
    simp only at f1
    refine ⟨fun i m σ H => m + i = ds.length ∧ ∃ ρ G τ, SR (c.zp Z P) H ρ G ∧ EnvR (c.zp Z P) H ρ σ τ ∧ S.at (c.zp Z P) H ρ ∧ Fin (c.zp Z P) (RF (c.zp Z P)) (forGo (fun x τ G => match bindT t x τ with | some τ' => evSs Φ c.b ms τ' G | none => .bad) (ds.drop i) τ G) H ρ (endOf E),
      ⟨ds.length, by omega, ρ1, G1, τ, s1, w1, hS, f1⟩, fun i m σ H ⟨hm, ρ, G, τ, s, w, hS, f⟩ => ?_⟩
    obtain ⟨ji, js⟩ := jr (c.zp Z P) H ρ rfl hS
    by_cases hi : i < ds.length
    · obtain ⟨jg, jy⟩ := ji i ds[i] (List.getElem?_eq_getElem hi)
      rw [drop_get (List.getElem?_eq_getElem hi)] at f
      simp only [forGo] at f
      refine .inr ⟨jg, fun σ' H' => ∃ ρ G τ, SR (c.zp Z P) H' ρ G ∧ EnvR (c.zp Z P) H' ρ σ' τ ∧ S.at (c.zp Z P) H' ρ ∧ Fin (c.zp Z P) (RF (c.zp Z P)) (forGo (fun x τ G => match bindT t x τ with | some τ' => evSs Φ c.b ms τ' G | none => .bad) (ds.drop (i + 1)) τ G) H' ρ (endOf E),
        fun σ' H' h => ⟨m - 1, by omega, by omega, h⟩, fun x H' y => turn_ok s w (jy x H' y) f fun σ' H' ρ' G' τ' ex s' w' f' => ⟨ρ', G', τ', s', w', Sr.mono ex hS, f'⟩⟩
    · have ei : i = ds.length := by omega
      subst ei
      rw [List.drop_length] at f
      exact .inl ⟨js, Fin.here (x := Fv.nx σ) f s w⟩
  | dyn id =>
    obtain ⟨a, ha, rfl⟩ := rj
    simp only at f1
    cases g : G1[id]? with
    | none => simp only [g] at f1; exact f1.elim
    | some ob =>
      cases ob with
      | lst ds =>
        simp only [g] at f1
        refine ⟨fun i m σ H => ∃ ρ G τ, SR (c.zp Z P) H ρ G ∧ EnvR (c.zp Z P) H ρ σ τ ∧ ρ[id]? = some a ∧ Fin (c.zp Z P) (RF (c.zp Z P)) (forDyn (fun x τ G => match bindT t x τ with | some τ' => evSs Φ c.b ms τ' G | none => .bad) id m i τ G) H ρ (endOf E),
          ⟨ds.length, ρ1, G1, τ, s1, w1, ha, f1⟩, fun i m σ H ⟨ρ, G, τ, s, w, ha, f⟩ => ?_⟩
        cases m with
        | zero =>
          unfold forDyn at f
          cases g2 : G[id]? with
          | none => simp only [g2] at f; exact f.elim
          | some ob =>
            cases ob with
            | lst es =>
              simp only [g2] at f
              by_cases hl : es.length ≤ i
              · rw [if_pos hl] at f
                obtain ⟨vs, q, tt⟩ := s.obj id a _ ha g2
                exact .inl ⟨⟨vs, .inl (.inl q), by rw [tt.length]; exact hl⟩, Fin.here (x := Fv.nx σ) f s w⟩
              · rw [if_neg hl] at f
                exact f.elim
            | dct _ _ => simp only [g2] at f; exact f.elim
            | ins _ _ _ => simp only [g2] at f; exact f.elim
            | lkd _ _ => simp only [g2] at f; exact f.elim
        | succ m =>
          unfold forDyn at f
          cases g2 : G[id]? with
          | none => simp only [g2] at f; exact f.elim
          | some ob =>
            cases ob with
            | lst es =>
              simp only [g2] at f
              cases g3 : es[i]? with
              | none => simp only [g3] at f; exact f.elim
              | some d =>
                simp only [g3] at f
                obtain ⟨vs, q, tt⟩ := s.obj id a _ ha g2
                obtain ⟨v, hv, rv⟩ := tt.get g3
                refine .inr ⟨⟨vs, v, .inl (.inl q), hv⟩, fun σ' H' => ∃ ρ G τ, SR (c.zp Z P) H' ρ G ∧ EnvR (c.zp Z P) H' ρ σ' τ ∧ ρ[id]? = some a ∧ Fin (c.zp Z P) (RF (c.zp Z P)) (forDyn (fun x τ G => match bindT t x τ with | some τ' => evSs Φ c.b ms τ' G | none => .bad) id m (i + 1) τ G) H' ρ (endOf E),
                  fun σ' H' h => ⟨m, by omega, h⟩, fun x H' ⟨e1, y⟩ => turn_ok s w (.inl ⟨e1, ?_⟩) f fun σ' H' ρ' G' τ' ex s' w' f' => ⟨ρ', G', τ', s', w', ex.get ha, f'⟩⟩
                have := y vs (.inl (.inl q))
                rw [hv] at this
                cases this
                exact rv
            | dct _ _ => simp only [g2] at f; exact f.elim
            | ins _ _ _ => simp only [g2] at f; exact f.elim
            | lkd _ _ => simp only [g2] at f; exact f.elim
      | dct _ _ => simp only [g] at f1; exact f1.elim
      | ins _ _ _ => simp only [g] at f1; exact f1.elim
      | lkd _ _ => simp only [g] at f1; exact f1.elim

theorem ss_while (ok : XOk Φ fns cons X c) {t : Expr} {body : List Stmt} {mt : MB} {ms : MSs} (ht : PT X t (lowT c (evT Φ c.b mt))) (hb : PSs X body (lowS c (evSs Φ c.b ms))) : PS X (.While t body [] pos) (lowS c (evS Φ c.b (.whl mt ms))) := by
  refine (ps_while ok.own ht hb).weak fun E σ H ⟨Z, P, ρ, G, τ, s, w, f⟩ => ?_
  rw [evS] at f
  refine ⟨fun m σ H => ∃ ρ G τ, SR (c.zp Z P) H ρ G ∧ EnvR (c.zp Z P) H ρ σ τ ∧ Fin (c.zp Z P) (RF (c.zp Z P)) (whileGo (fun τ G => evT Φ c.b mt τ G) (fun τ G => evSs Φ c.b ms τ G) m τ G) H ρ (endOf E), ⟨wFuel, ρ, G, τ, s, w, f⟩, fun m σ H ⟨ρ, G, τ, s, w, f⟩ => ?_⟩
  cases m with
  | zero => unfold whileGo at f; exact f.elim
  | succ m =>
    unfold whileGo at f
    refine ⟨Z, P, ρ, G, τ, s, w, (Fin.then (R := RB) f).mono fun b H1 ⟨ρ1, G1, k, e1, s1, r1, f1⟩ => ?_⟩
    have r1 : k = b := r1
    subst r1
    cases k with
    | false => rw [if_neg (by decide)] at f1 ⊢; exact Fin.here (x := Fv.nx σ) f1 s1 (w.ext e1)
    | true =>
      rw [if_pos rfl] at f1 ⊢
      refine ⟨fun σ' H' => ∃ ρ G τ, SR (c.zp Z P) H' ρ G ∧ EnvR (c.zp Z P) H' ρ σ' τ ∧ Fin (c.zp Z P) (RF (c.zp Z P)) (whileGo (fun τ G => evT Φ c.b mt τ G) (fun τ G => evSs Φ c.b ms τ G) m τ G) H' ρ (endOf E), fun σ' H' h => ⟨m, by omega, h⟩, ?_⟩
      refine ⟨Z, P, ρ1, G1, τ, s1, w.ext e1, (Fin.then (R := RF (c.zp Z P)) f1).mono fun fv H3 ⟨ρ3, G3, fl, e3, s3, r3, f3⟩ => ?_⟩
      cases fl with
      | nx τ3 =>
        cases fv with
        | nx σ3 => exact ⟨ρ3, G3, τ3, s3, r3, f3⟩
        | _ => exact r3.elim
      | ct τ3 =>
        cases fv with
        | ct σ3 => exact ⟨ρ3, G3, τ3, s3, r3, f3⟩
        | _ => exact r3.elim
      | bk τ3 =>
        cases fv with
        | bk σ3 => exact Fin.here (x := Fv.nx σ3) f3 s3 r3
        | _ => exact r3.elim
      | rt d3 =>
        cases fv with
        | rt v3 => exact Fin.here (x := Fv.rt v3) f3 s3 r3
        | _ => exact r3.elim
end
end U

set_option Elab.async false
set_option linter.all false
set_option maxRecDepth 100000
/-! UM: list comprehensions upon plain data. -/
namespace U
open PySem L2 PyProof.Rows
/-- what a fresh thing is wanted for, from the start H ρ on -/
def Fr (c : C) (o : Out D) (H : Hp) (ρ : List Addr) (Q : VK) : Prop := match o with
  | .ok d G' => ∃ o, objOf d = some o ∧ ∀ p H' ρ', Ext c H ρ H' ρ' → ¬ Live H p → SR (c.and p) H' ρ' G' → RepO (c.and p) H' ρ' p o → Q (.ref p) H'
  | .exc e G' => ∀ H' ρ', Ext c H ρ H' ρ' → SR c H' ρ' G' → c.EX e H'
  | .bad => False
section
variable {Φ : Fn} {fns : Str → Option (List Str)} {cons : Str → Option D} {X : Cx} {c : C} {pos : Pos} {tg : Expr}

/-- the state within a comprehension whose new list stands at L: what was made, as the list stands -/
structure LcAt (c : C) (Z : List Addr) (P : Nat → Prop) (L : Addr) (H1 : Hp) (ρ1 : List Addr) (σ : L2.St) (τ : Tau) (S : Sr) (acc : List D) (H : Hp) (ρ : List Addr) (G : Hd) : Prop where
  s : SR ((c.zp Z P).and L) H ρ G
  l : ∃ vs, H L = some (.lst vs) ∧ Rps ((c.zp Z P).and L) H ρ acc vs
  w : EnvR ((c.zp Z P).and L) H ρ σ τ
  src : S.at ((c.zp Z P).and L) H ρ
  ext : Ext0 ((c.zp Z P).and L) (upd H1 L (.lst [])) ρ1 H ρ
  zs : ∀ a ∈ Z, H a = H1 a

def lcTurn (Φ : Fn) (b : Nat) (e : ME) (t : MT) (mc : MB) (own : List Nat) (τ : Tau) : D → Hd → Out (Option D) := fun x G => match bindT t x (wipeD τ own) with
  | some τ' => noexc ((evT Φ b mc τ' G).then fun k G => if k then (evE Φ b e τ' G).then fun y G => .ok (some y) G else .ok none G)
  | none => .bad

theorem LcAt.go {Z : List Addr} {P : Nat → Prop} {L : Addr} {H1 H H' : Hp} {ρ1 ρ ρ' : List Addr} {σ : L2.St} {τ : Tau} {S : Sr} {acc : List D} {G G' : Hd} (a : LcAt c Z P L H1 ρ1 σ τ S acc H ρ G) (e : Ext ((c.zp Z P).and L) H ρ H' ρ') (s : SR ((c.zp Z P).and L) H' ρ' G') : LcAt c Z P L H1 ρ1 σ τ S acc H' ρ' G' := by
  obtain ⟨vs, h, r⟩ := a.l
  exact ⟨s, ⟨vs, (e.zs L List.mem_cons_self).trans h, Rps.mono e _ _ r⟩, a.w.ext e, Sr.mono e a.src, a.ext.trans e.toExt0, fun b hb => (e.zs b (List.mem_cons_of_mem _ hb)).trans (a.zs b hb)⟩
theorem LcAt.push {Z : List Addr} {P : Nat → Prop} {L : Addr} {H1 H : Hp} {ρ1 ρ : List Addr} {σ : L2.St} {τ : Tau} {S : Sr} {acc : List D} {G : Hd} {y : D} {v : V} {vs : List V} (a : LcAt c Z P L H1 ρ1 σ τ S acc H ρ G) (hL : H L = some (.lst vs)) (hz : L ∉ Z) (ry : Rp ((c.zp Z P).and L) H ρ y v) : LcAt c Z P L H1 ρ1 σ τ S (acc ++ [y]) (upd H L (.lst (vs ++ [v]))) ρ G := by
  obtain ⟨vs', h, r⟩ := a.l
  rw [hL] at h
  cases h
  have nt : Mt H L := ⟨_, hL, trivial⟩
  have e := Ext.setZ (c := c.zp Z P) (ρ := ρ) (o' := .lst (vs ++ [v])) hL nt
  refine ⟨a.s.setZ hL nt, ⟨vs ++ [v], upd_same, (Rps.mono0 e _ _ r).append (.cons (Rp.mono0 e _ _ ry) .nil)⟩, a.w.map fun d u => Rp.mono0 e d u, Sr.mono0 e a.src, a.ext.trans e, fun b hb => ?_⟩
  rw [upd_ne (fun z : b = L => hz (z ▸ hb))]
  exact a.zs b hb

theorem lc_imp {K : PySem.W.Frag} (hK : c.K = K) {os : List Nat} {mi : MI} {t : MT} {mc : MB} {me : ME} (hsub : ∀ i ∈ slotsT t, i ∈ os) (σ : L2.St) (H0 : Hp) (Q : VK) (h : lowFr c (evE Φ c.b (.lc me t mi mc os)) σ H0 Q) :
    tLc (lowI c (evI Φ c.b mi)) (lowGK K t) (lowT c.nox (evT Φ c.b mc)) (low c.nox (evE Φ c.b me)) os σ H0 Q := by
  obtain ⟨Z, P, ρ0, G0, τ, s0, w0, f⟩ := h
  have hK : (c.zp Z P).K = K := hK
  have f : Fr (c.zp Z P) (evE Φ c.b (.lc me t mi mc (os)) τ G0) H0 ρ0 Q := f
  rw [evE] at f
  refine ⟨Z, P, ρ0, G0, τ, s0, w0, ?_⟩
  cases gi : evI Φ c.b mi τ G0 with
  | exc _ _ => rw [gi] at f; exact f
  | bad => rw [gi] at f; exact f
  | ok di G1 =>
    rw [gi] at f
    simp only [Out.then_ok] at f
    intro J H1 ρ1 e1 s1 rj L hL
    have w1 := w0.ext e1
    have hLZ : L ∉ Z := fun z => (s1.zs L z).2.ne hL
    have start : ∀ {S : Sr}, S.at (c.zp Z P) H1 ρ1 → LcAt c Z P L H1 ρ1 σ τ S [] (upd H1 L (.lst [])) ρ1 G1 := fun hS =>
      ⟨s1.and hL, ⟨[], upd_same, .nil⟩, w1.map fun d v => Rp.and hL (s1.ext hL) d v, Sr.and hL (s1.ext hL) hS, Ext0.refl, fun a ha => upd_ne fun z => hLZ (z ▸ ha)⟩
    -- the end
    have done : ∀ {S : Sr} {acc : List D} {H : Hp} {ρ : List Addr} {G : Hd}, LcAt c Z P L H1 ρ1 σ τ S acc H ρ G → Fr (c.zp Z P) (.ok (.lst acc) G) H0 ρ0 Q → Q (.ref L) H := by
      intro S acc H ρ G a f
      obtain ⟨o, eo, f⟩ := f
      cases eo
      obtain ⟨vs, hv, rv⟩ := a.l
      have nt : Mt H L := ⟨_, hv, trivial⟩
      have e2 : Ext (c.zp Z P) H1 ρ1 (upd H L (.lst vs)) ρ := Ext.apart hL (fun b hb => (s1.zs b hb).2) nt a.ext a.zs
      have eH : upd H L (.lst vs) = H := by
        funext b
        by_cases hb : b = L
        · rw [hb, upd_same, hv]
        · rw [upd_ne hb]
      rw [eH] at e2
      exact f L H ρ (e1.trans e2) (fun z => (e1.dom L z).ne hL) a.s ⟨vs, hv, rv⟩
    -- one turn
    have turn_ok : ∀ {S : Sr} {acc : List D} {H H' : Hp} {ρ : List Addr} {G : Hd} {d : D} {x : V} {k : List D → Hd → Out (List D)} {Nx : Hp → Prop}, LcAt c Z P L H1 ρ1 σ τ S acc H ρ G → acc.length < line →
        ((H' = H ∧ Rp ((c.zp Z P).and L) H ρ d x) ∨ ∃ T vs es, x = .ref T ∧ H T = none ∧ H' = upd H T (.tup vs) ∧ d = .tup es ∧ Rps ((c.zp Z P).and L) H ρ es vs) →
        Fr (c.zp Z P) (((lcTurn Φ c.b me t mc (os) τ d G).then fun r G' => match r with
          | some y => k (acc ++ [y]) G'
          | none => k acc G').then fun ds G => .ok (.lst ds) G) H0 ρ0 Q →
        (∀ acc' H' ρ' G', LcAt c Z P L H1 ρ1 σ τ S acc' H' ρ' G' → acc'.length ≤ acc.length + 1 → Fr (c.zp Z P) ((k acc' G').then fun ds G => .ok (.lst ds) G) H0 ρ0 Q → Nx H') →
        lowGK K t x (wipe σ (os)) H' fun σ2 H2 => wipe σ2 (os) = wipe σ (os) ∧ lowT c.nox (evT Φ c.b mc) σ2 H2 fun b H3 =>
          if b = true then low c.nox (evE Φ c.b me) σ2 H3 fun y H4 => ∃ acc, H4 L = some (.lst acc) ∧ acc.length < sizeLine ∧ Nx (upd H4 L (.lst (acc ++ [y]))) else Nx H3 := by
      intro S acc H H' ρ G d x k Nx a hlen y f hN
      obtain ⟨ex, s', r⟩ := step_item a.s y
      have a' := a.go ex s'
      unfold lcTurn at f
      cases g : bindT t d (wipeD τ (os)) with
      | none => simp only [g] at f; exact f.elim
      | some τ' =>
        simp only [g] at f
        refine ⟨(c.zp Z P).and L, ρ, d, _, τ', hK, a'.w.wipe _, r, g, fun σ2 w2 off => ⟨?_, ?_⟩⟩
        · rw [wipe_off off _ hsub, wipe_wipe]
        · refine ⟨L :: Z, P, ρ, G, τ', SR.nox (c := c) (Z := L :: Z) (P := P) s', EnvR.nox (c := c) (Z := L :: Z) (P := P) w2, ?_⟩
          cases g2 : evT Φ c.b mc τ' G with
          | exc _ _ => rw [g2] at f; exact f.elim
          | bad => rw [g2] at f; exact f.elim
          | ok kb G2 =>
            rw [g2] at f
            intro b H3 ρ3 e3 s3 rb
            have rb : kb = b := rb
            subst rb
            have e3 : Ext ((c.zp Z P).and L) H' ρ H3 ρ3 := Ext.unx (c := c) (Z := L :: Z) (P := P) e3
            have s3' : SR ((c.zp Z P).and L) H3 ρ3 G2 := SR.unx (c := c) (Z := L :: Z) (P := P) s3
            have a3 := a'.go e3 s3'
            cases kb with
            | false =>
              rw [if_neg (by decide)]
              exact hN acc H3 ρ3 G2 a3 (by omega) f
            | true =>
              rw [if_pos rfl]
              refine ⟨L :: Z, P, ρ3, G2, τ', s3, EnvR.nox (c := c) (Z := L :: Z) (P := P) (EnvR.ext (c := (c.zp Z P).and L) w2 e3), ?_⟩
              simp only [Out.then_ok, if_true] at f
              cases g4 : evE Φ c.b me τ' G2 with
              | exc _ _ => rw [g4] at f; exact f.elim
              | bad => rw [g4] at f; exact f.elim
              | ok yd G4 =>
                rw [g4] at f
                intro yv H4 ρ4 e4 s4 r4
                have e4 : Ext ((c.zp Z P).and L) H3 ρ3 H4 ρ4 := Ext.unx (c := c) (Z := L :: Z) (P := P) e4
                have s4' : SR ((c.zp Z P).and L) H4 ρ4 G4 := SR.unx (c := c) (Z := L :: Z) (P := P) s4
                have a4 := a3.go e4 s4'
                obtain ⟨vs, hv, rv⟩ := a4.l
                have r4' : Rp ((c.zp Z P).and L) H4 ρ4 yd yv := Rp.cx (c := c.nox.zp (L :: Z) P) (c' := (c.zp Z P).and L) rfl rfl rfl _ _ r4
                refine ⟨vs, hv, by rw [rv.length, line_eq]; exact hlen, hN (acc ++ [yd]) _ ρ4 G4 (a4.push hv hLZ r4') (by rw [List.length_append]; exact Nat.le_refl _) f⟩
    cases di with
    | lock _ _ _ => exact rj.elim
    | items ds =>
      obtain ⟨S, hS, jr⟩ := rj
      simp only at f
      by_cases hl : ds.length ≤ line
      · rw [if_pos hl] at f
        refine ⟨fun i m H => m + i = ds.length ∧ ∃ acc ρ G, LcAt c Z P L H1 ρ1 σ τ S acc H ρ G ∧ acc.length ≤ i ∧ Fr (c.zp Z P) ((lcGo (lcTurn Φ c.b me t mc (os) τ) (ds.drop i) acc G).then fun ds G => .ok (.lst ds) G) H0 ρ0 Q,
          ⟨ds.length, by omega, [], ρ1, G1, start hS, Nat.le_refl _, f⟩, fun i m H ⟨hm, acc, ρ, G, a, hacc, f⟩ => ?_⟩
        obtain ⟨ji, js⟩ := jr ((c.zp Z P).and L) H ρ rfl a.src
        by_cases hi : i < ds.length
        · obtain ⟨jg, jy⟩ := ji i ds[i] (List.getElem?_eq_getElem hi)
          rw [drop_get (List.getElem?_eq_getElem hi)] at f
          simp only [lcGo] at f
          refine .inr ⟨jg, fun H => ∃ acc ρ G, LcAt c Z P L H1 ρ1 σ τ S acc H ρ G ∧ acc.length ≤ i + 1 ∧ Fr (c.zp Z P) ((lcGo (lcTurn Φ c.b me t mc (os) τ) (ds.drop (i + 1)) acc G).then fun ds G => .ok (.lst ds) G) H0 ρ0 Q,
            fun H' h => ⟨m - 1, by omega, by omega, h⟩, fun x H' y => turn_ok a (by omega) (jy x H' y) (k := fun acc G => lcGo (lcTurn Φ c.b me t mc (os) τ) (ds.drop (i + 1)) acc G) f fun acc' H' ρ' G' a' ha' f' => ⟨acc', ρ', G', a', by omega, f'⟩⟩
        · have ei : i = ds.length := by omega
          subst ei
          rw [List.drop_length] at f
          exact .inl ⟨js, done a f⟩
      · rw [if_neg hl] at f
        exact f.elim
    | dyn id =>
      obtain ⟨a0, ha0, rfl⟩ := rj
      simp only at f
      cases g : G1[id]? with
      | none => simp only [g] at f; exact f.elim
      | some ob =>
        cases ob with
        | lst ds =>
          simp only [g] at f
          by_cases hl : ds.length ≤ line
          · rw [if_pos hl] at f
            refine ⟨fun i m H => ∃ acc ρ G, LcAt c Z P L H1 ρ1 σ τ (.of []) acc H ρ G ∧ acc.length ≤ i ∧ m + i = ds.length ∧ Fr (c.zp Z P) ((lcDyn (lcTurn Φ c.b me t mc (os) τ) id m i acc G).then fun ds G => .ok (.lst ds) G) H0 ρ0 Q,
              ⟨ds.length, [], ρ1, G1, start (fun p hp => (nomatch hp)), Nat.le_refl _, by omega, f⟩, fun i m H ⟨acc, ρ, G, a, hacc, hm, f⟩ => ?_⟩
            have ha : ρ[id]? = some a0 := a.ext.get ha0
            cases m with
            | zero =>
              unfold lcDyn at f
              cases g2 : G[id]? with
              | none => simp only [g2] at f; exact f.elim
              | some ob =>
                cases ob with
                | lst es =>
                  simp only [g2] at f
                  by_cases hl : es.length ≤ i
                  · rw [if_pos hl] at f
                    obtain ⟨vs, q, tt⟩ := a.s.obj id a0 _ ha g2
                    exact .inl ⟨⟨vs, .inl (.inl q), by rw [tt.length]; exact hl⟩, done a f⟩
                  · rw [if_neg hl] at f
                    exact f.elim
                | dct _ _ => simp only [g2] at f; exact f.elim
                | ins _ _ _ => simp only [g2] at f; exact f.elim
                | lkd _ _ => simp only [g2] at f; exact f.elim
            | succ m =>
              unfold lcDyn at f
              cases g2 : G[id]? with
              | none => simp only [g2] at f; exact f.elim
              | some ob =>
                cases ob with
                | lst es =>
                  simp only [g2] at f
                  cases g3 : es[i]? with
                  | none => simp only [g3] at f; exact f.elim
                  | some d =>
                    simp only [g3] at f
                    obtain ⟨vs, q, tt⟩ := a.s.obj id a0 _ ha g2
                    obtain ⟨v, hv, rv⟩ := tt.get g3
                    refine .inr ⟨⟨vs, v, .inl (.inl q), hv⟩, fun H => ∃ acc ρ G, LcAt c Z P L H1 ρ1 σ τ (.of []) acc H ρ G ∧ acc.length ≤ i + 1 ∧ m + (i + 1) = ds.length ∧ Fr (c.zp Z P) ((lcDyn (lcTurn Φ c.b me t mc (os) τ) id m (i + 1) acc G).then fun ds G => .ok (.lst ds) G) H0 ρ0 Q,
                      fun H' h => ⟨m, by omega, h⟩, fun x H' ⟨e1, y⟩ => turn_ok a (by omega) (.inl ⟨e1, ?_⟩) (k := fun acc G => lcDyn (lcTurn Φ c.b me t mc (os) τ) id m (i + 1) acc G) f fun acc' H' ρ' G' a' ha' f' => ⟨acc', ρ', G', a', by omega, by omega, f'⟩⟩
                    have := y vs (.inl (.inl q))
                    rw [hv] at this
                    cases this
                    exact rv
                | dct _ _ => simp only [g2] at f; exact f.elim
                | ins _ _ _ => simp only [g2] at f; exact f.elim
                | lkd _ _ => simp only [g2] at f; exact f.elim
          · rw [if_neg hl] at f
            exact f.elim
        | dct _ _ => simp only [g] at f; exact f.elim
        | ins _ _ _ => simp only [g] at f; exact f.elim
        | lkd _ _ => simp only [g] at f; exact f.elim
theorem sf_lc (ok : XOk Φ fns cons X c) {elt iter : Expr} {ifs : List Expr} {scope : Scope} {own : List (Str × Nat)} {os : List Nat} (hos : own.map (·.2) = os) {mi : MI} {t : MT} {mc : MB} {me : ME} (hi : PI X tg iter (lowI c (evI Φ c.b mi))) (bk : BlkOk X.N X.env.scope scope own)
    (hg : ∀ (s : Shared) (H : Hp) (C : Addr) (cl : List (Str × Addr)) (fp : List Addr), PG (X.blk s H scope (compEnvC scope cl C X.env) fp) tg (lowGK X.K t))
    (ht : ∀ (s : Shared) (H : Hp) (C : Addr) (cl : List (Str × Addr)) (fp : List Addr), PTs (X.blk s H scope (compEnvC scope cl C X.env) fp) ifs (lowT c.nox (evT Φ c.b mc)))
    (he : ∀ (s : Shared) (H : Hp) (C : Addr) (cl : List (Str × Addr)) (fp : List Addr), PE (X.blk s H scope (compEnvC scope cl C X.env) fp) elt (low c.nox (evE Φ c.b me)))
    (hs : ∀ x, foldedSetIterable iter X.env x = pure x) (hsub : ∀ i ∈ slotsT t, i ∈ os) :
    PE X (.ListComp elt [⟨tg, iter, ifs, 0⟩] scope pos) (lowFr c (evE Φ c.b (.lc me t mi mc os))) := by
  have pl := pe_lc (pos := pos) ok.calm ok.nd hi bk hg ht he hs
  rw [hos] at pl
  exact pl.weak fun σ H0 Q h => lc_imp ok.K hsub σ H0 Q h
theorem then_lst {o : Out (List D)} {d : D} {G' : Hd} (h : (o.then fun ds G => .ok (.lst ds) G) = .ok d G') : ∃ ob, objOf d = some ob := by
  cases o with
  | ok ds G2 => cases h; exact ⟨_, rfl⟩
  | exc _ _ => cases h
  | bad => cases h
theorem of_lc {os : List Nat} {mi : MI} {t : MT} {mc : MB} {me : ME} (τ : Tau) (G : Hd) (d : D) (G' : Hd) (h : evE Φ c.b (.lc me t mi mc os) τ G = .ok d G') : ∃ o, objOf d = some o := by
  rw [evE] at h
  cases g : evI Φ c.b mi τ G with
  | exc _ _ => rw [g] at h; cases h
  | bad => rw [g] at h; cases h
  | ok di G1 =>
    rw [g] at h
    simp only [Out.then_ok] at h
    exact then_lst h
end
end U

set_option Elab.async false
set_option linter.all false
set_option maxRecDepth 100000
/-! UN: statements. -/
namespace U
open PySem L2 PyProof.Rows
section
variable {Φ : Fn} {fns : Str → Option (List Str)} {cons : Str → Option D} {X : Cx} {c : C} {pos : Pos} {tg : Expr}

theorem ss_pass : PS X (.Pass pos) (lowS c (evS Φ c.b .pass)) := ps_pass.weak fun E σ H ⟨Z, P, ρ, G, τ, s, w, f⟩ => by
  rw [evS] at f
  exact Fin.here (x := Fv.nx σ) f s w
theorem ss_never {st : Stmt} : PS X st (lowS c (evS Φ c.b .never)) := ps_never.weak fun E σ H ⟨Z, P, ρ, G, τ, s, w, f⟩ => by
  rw [evS] at f
  exact f
theorem ss_ret {e : Expr} {m : ME} (h : PE X e (low c (evE Φ c.b m))) : PS X (.Return (some e) pos) (lowS c (evS Φ c.b (.ret m))) := (ps_ret h).weak fun E σ H ⟨Z, P, ρ, G, τ, s, w, f⟩ => by
  rw [evS] at f
  exact ⟨Z, P, ρ, G, τ, s, w, (Fin.then (R := Rp (c.zp Z P)) f).mono fun x H1 ⟨ρ1, G1, a, e1, s1, r1, f1⟩ => Fin.here (x := Fv.rt x) f1 s1 r1⟩
theorem ss_exp {e : Expr} {m : ME} (h : PE X e (low c (evE Φ c.b m))) (hs : swapsWith e none pos.line X.env = pure false) : PS X (.Expr e pos) (lowS c (evS Φ c.b (.exp m))) := (ps_expr h hs).weak fun E σ H ⟨Z, P, ρ, G, τ, s, w, f⟩ => by
  rw [evS] at f
  exact ⟨Z, P, ρ, G, τ, s, w, (Fin.then (R := Rp (c.zp Z P)) f).mono fun x H1 ⟨ρ1, G1, a, e1, s1, r1, f1⟩ => Fin.here (x := Fv.nx σ) f1 s1 (w.ext e1)⟩
theorem ss_if {t : Expr} {a b : List Stmt} {mt : MB} {m n : MSs} (ht : PT X t (lowT c (evT Φ c.b mt))) (ha : PSs X a (lowS c (evSs Φ c.b m))) (hb : PSs X b (lowS c (evSs Φ c.b n))) : PS X (.If t a b pos) (lowS c (evS Φ c.b (.iff mt m n))) :=
  (ps_if ht ha hb).weak fun E σ H ⟨Z, P, ρ, G, τ, s, w, f⟩ => by
    rw [evS] at f
    refine ⟨Z, P, ρ, G, τ, s, w, (Fin.then (R := RB) f).mono fun x H1 ⟨ρ1, G1, k, e1, s1, r1, f1⟩ => ?_⟩
    have r1 : k = x := r1
    subst r1
    cases k with
    | true => rw [if_pos rfl] at f1 ⊢; exact ⟨Z, P, ρ1, G1, τ, s1, w.ext e1, f1⟩
    | false => rw [if_neg (by decide)] at f1 ⊢; exact ⟨Z, P, ρ1, G1, τ, s1, w.ext e1, f1⟩
theorem sss_nil : PSs X [] (lowS c (evSs Φ c.b .nil)) := pss_nil.weak fun E σ H ⟨Z, P, ρ, G, τ, s, w, f⟩ => by
  rw [evSs] at f
  exact Fin.here (x := Fv.nx σ) f s w
theorem sss_cons {st : Stmt} {sts : List Stmt} {m : MS} {ms : MSs} (h : PS X st (lowS c (evS Φ c.b m))) (hs : PSs X sts (lowS c (evSs Φ c.b ms))) : PSs X (st :: sts) (lowS c (evSs Φ c.b (.cons m ms))) := (pss_cons h hs).weak fun E σ H ⟨Z, P, ρ, G, τ, s, w, f⟩ => by
  rw [evSs] at f
  refine ⟨Z, P, ρ, G, τ, s, w, (Fin.then (R := RF (c.zp Z P)) f).mono fun fv H1 ⟨ρ1, G1, fl, e1, s1, r1, f1⟩ => ?_⟩
  cases fl with
  | nx τ1 =>
    cases fv with
    | nx σ1 => exact ⟨Z, P, ρ1, G1, τ1, s1, r1, f1⟩
    | _ => exact r1.elim
  | rt d =>
    cases fv with
    | rt v => exact Fin.here (x := Fv.rt v) f1 s1 r1
    | _ => exact r1.elim
  | bk τ1 =>
    cases fv with
    | bk σ1 => exact Fin.here (x := Fv.bk σ1) f1 s1 r1
    | _ => exact r1.elim
  | ct τ1 =>
    cases fv with
    | ct σ1 => exact Fin.here (x := Fv.ct σ1) f1 s1 r1
    | _ => exact r1.elim
theorem asg_imp {K : PySem.W.Frag} (hK : c.K = K) {t : MT} {m : ME} (E : Ends) (σ : L2.St) (H : Hp) (h : lowS c (evS Φ c.b (.set t m)) E σ H) : low c (evE Φ c.b m) σ H fun x H1 => lowGK K t x σ H1 E.nx := by
  obtain ⟨Z, P, ρ, G, τ, s, w, f⟩ := h
  rw [evS] at f
  refine ⟨Z, P, ρ, G, τ, s, w, (Fin.then (R := Rp (c.zp Z P)) f).mono fun x H1 ⟨ρ1, G1, d, e1, s1, r1, f1⟩ => ?_⟩
  obtain ⟨fl, ef, f1⟩ := f1.lift
  obtain ⟨τ', e2, rfl⟩ := map_some ef
  exact ⟨c.zp Z P, ρ1, d, τ, τ', hK, w.ext e1, r1, e2, fun σ' w' _ => Fin.here (x := Fv.nx σ') f1 s1 w'⟩
theorem ss_set (ok : XOk Φ fns cons X c) {e : Expr} {t : MT} {m : ME} (h : PE X e (low c (evE Φ c.b m))) (hg : PG X tg (lowGK X.K t)) (hs : swapsWithSole [tg] e pos.line X.env = pure false) (hw : swappedStores [tg] e X.env = pure none)
    (h1 : (assignEach [tg] X.env).map (·.2) = [assign tg X.env]) : PS X (.Assign [tg] e pos) (lowS c (evS Φ c.b (.set t m))) := (ps_asg h hg hs hw h1).weak fun E σ H q => asg_imp ok.K E σ H q
/-- name = [..], exchanged stores -/
theorem ss_setLc (ok : XOk Φ fns cons X c) {elt iter : Expr} {ifs : List Expr} {scope : Scope} {own : List (Str × Nat)} {os : List Nat} (hos : own.map (·.2) = os) {mi : MI} {t : MT} {mc : MB} {me m : ME} {i : Nat} {y : Str} {py lpos spos : Pos}
    (hm : m = .lc me t mi mc os ∨ m = .alloc (.lc me t mi mc os)) (hy : X.N[i]? = some y) (hyl : X.env.scope.names.lookup y = some .local) (hsw : swapsWith (.ListComp elt [⟨tg, iter, ifs, 0⟩] scope lpos) (some (.Name y py)) spos.line X.env = pure true)
    (hi : PI X tg iter (lowI c (evI Φ c.b mi))) (bk : BlkOk X.N X.env.scope scope own)
    (hg : ∀ (s : Shared) (H : Hp) (C : Addr) (cl : List (Str × Addr)) (fp : List Addr), PG (X.blk s H scope (compEnvC scope cl C X.env) fp) tg (lowGK X.K t))
    (ht : ∀ (s : Shared) (H : Hp) (C : Addr) (cl : List (Str × Addr)) (fp : List Addr), PTs (X.blk s H scope (compEnvC scope cl C X.env) fp) ifs (lowT c.nox (evT Φ c.b mc)))
    (he : ∀ (s : Shared) (H : Hp) (C : Addr) (cl : List (Str × Addr)) (fp : List Addr), PE (X.blk s H scope (compEnvC scope cl C X.env) fp) elt (low c.nox (evE Φ c.b me)))
    (hs : ∀ x, foldedSetIterable iter X.env x = pure x) (hsub : ∀ i ∈ slotsT t, i ∈ os) :
    PS X (.Assign [.Name y py] (.ListComp elt [⟨tg, iter, ifs, 0⟩] scope lpos) spos) (lowS c (evS Φ c.b (.set (.nam i) m))) := by
  have pl := ps_setLc (spos := spos) ok.calm ok.nd hy hyl hsw hi bk hg ht he hs
  rw [hos] at pl
  refine pl.weak fun E σ H q => ?_
  have q := asg_imp (K := c.K) rfl E σ H q
  have fin : ∀ x H1, lowGK c.K (.nam i) x σ H1 E.nx → gName i x σ H1 E.nx := fun x H1 ⟨c', ρ, d, τ, τ', _, w, r, e, q⟩ => by
    cases e
    refine q _ (w.set i r) ⟨by simp, fun j hj => ?_⟩
    rw [List.getElem?_set_ne]
    intro z
    exact hj (by rw [← z]; exact List.mem_singleton.mpr rfl)
  have q : low c (evE Φ c.b m) σ H fun x H1 => gName i x σ H1 E.nx := by
    obtain ⟨Z, P, ρ, G, τ, s, w, f⟩ := q
    exact ⟨Z, P, ρ, G, τ, s, w, f.mono fin⟩
  refine lc_imp (Φ := Φ) ok.K hsub σ H _ ?_
  rcases hm with rfl | rfl
  · exact fr_low_imp of_lc σ H _ q
  · refine fr_alloc_imp σ H _ ?_
    have e : evE Φ c.b (.alloc (.lc me t mi mc os)) = fun τ G => (evE Φ c.b (.lc me t mi mc os) τ G).then allocD := by
      funext τ G
      rw [evE]
    rw [e] at q
    exact q
theorem ss_par2 (ok : XOk Φ fns cons X c) {i j : Nat} {x y : Str} {a b : Expr} {ma mb : ME} {px py pt : Pos} {kt k2 pt2} (hi : X.N[i]? = some x) (hj : X.N[j]? = some y) (hij : i ≠ j) (hx : X.env.scope.names.lookup x = some .local) (hy : X.env.scope.names.lookup y = some .local)
    (ha : PE X a (low c (evE Φ c.b ma))) (hb : PE X b (low c (evE Φ c.b mb))) (pa : plainE a = true) (pb : plainE b = true)
    (hw : swappedStores [.Tuple [.Name x px, .Name y py] kt pt] (.Tuple [a, b] k2 pt2) X.env = pure (some [x, y])) : PS X (.Assign [.Tuple [.Name x px, .Name y py] kt pt] (.Tuple [a, b] k2 pt2) pos) (lowS c (evS Φ c.b (.par [i, j] (.cons ma (.cons mb .nil))))) :=
  (ps_par ok.calm ok.nd hi hj hij hx hy (args2 ha hb pa pb) hw rfl).weak fun E σ H ⟨Z, P, ρ, G, τ, s, w, f⟩ => by
    rw [evS] at f
    refine ⟨Z, P, ρ, G, τ, s, w, ?_⟩
    have e : evEs Φ c.b (.cons ma (.cons mb .nil)) τ G = (evE Φ c.b ma τ G).then fun d G => (evE Φ c.b mb τ G).then fun d2 G => .ok [d, d2] G := by
      simp only [evEs, Out.then_ok, then_assoc]
    rw [e] at f ⊢
    cases g : evE Φ c.b ma τ G with
    | exc _ _ => rw [g] at f; exact f
    | bad => rw [g] at f; exact f
    | ok d G1 =>
      rw [g] at f
      simp only [Out.then_ok] at f ⊢
      cases g2 : evE Φ c.b mb τ G1 with
      | exc _ _ => rw [g2] at f; exact f
      | bad => rw [g2] at f; exact f
      | ok d2 G2 =>
        rw [g2] at f
        simp only [Out.then_ok] at f ⊢
        intro vs H1 ρ1 e1 s1 r1
        obtain ⟨v, r, rfl, rv, t⟩ := r1.of_cons
        obtain ⟨v2, r2, rfl, rv2, t2⟩ := t.of_cons
        obtain rfl := t2.of_nil
        refine ⟨v, v2, rfl, ?_⟩
        obtain ⟨fl, ef, f⟩ := f.lift
        obtain ⟨τ', e2, rfl⟩ := map_some ef
        cases e2
        exact f (Fv.nx _) H1 ρ1 e1 s1 (((w.ext e1).set i rv).set j rv2)
theorem ss_setix (ok : XOk Φ fns cons X c) {o i e : Expr} {mo mi me : ME} {p : Pos} (ho : PE X o (low c (evE Φ c.b mo))) (hi : PE X i (low c (evE Φ c.b mi))) (he : PE X e (low c (evE Φ c.b me)))
    (hs : swapsWithSole [.Subscript o i p] e pos.line X.env = pure false) (hw : swappedStores [.Subscript o i p] e X.env = pure none) (h1 : (assignEach [.Subscript o i p] X.env).map (·.2) = [assign (.Subscript o i p) X.env])
    (ha : ∀ v, assign (.Subscript o i p) X.env v = (do
      let ov ← holding [v] (eval o X.env)
      let iv ← holding [v, ov] (eval i X.env)
      standAt p
      holding [v, ov, iv] (setItem ov iv v)
      release [v, ov, iv] [])) : PS X (.Assign [.Subscript o i p] e pos) (lowS c (evS Φ c.b (.setix mo mi me))) :=
  (ps_asg he (pg_sub ho hi (set_any ok.units) ha) hs hw h1).weak fun E σ H ⟨Z, P, ρ, G, τ, s, w, f⟩ => by
    rw [evS] at f
    refine ⟨Z, P, ρ, G, τ, s, w, (Fin.then (R := Rp (c.zp Z P)) f).mono fun x H1 ⟨ρ1, G1, d, e1, s1, r1, f1⟩ => ?_⟩
    refine ⟨Z, P, ρ1, G1, τ, s1, w.ext e1, (Fin.then (R := Rp (c.zp Z P)) f1).mono fun y H2 ⟨ρ2, G2, xo, e2, s2, r2, f2⟩ => ?_⟩
    refine ⟨Z, P, ρ2, G2, τ, s2, (w.ext e1).ext e2, (Fin.then (R := Rp (c.zp Z P)) f2).mono fun z H3 ⟨ρ3, G3, xi, e3, s3, r3, f3⟩ => ?_⟩
    have w3 := ((w.ext e1).ext e2).ext e3
    have fp := Fin.then (R := fun _ _ (_ : Unit) (_ : Unit) => True) f3
    have q := put_ok (c := c.zp Z P) s3 (Rp.mono e3 _ _ r2) r3 (Rp.mono e3 _ _ (Rp.mono e2 _ _ r1)) fp
    have fin : ∀ H4, (∃ (ρ4 : List Addr) (G4 : Hd) (u : Unit), Ext (c.zp Z P) H3 ρ3 H4 ρ4 ∧ SR (c.zp Z P) H4 ρ4 G4 ∧ True ∧ Fin (c.zp Z P) (RF (c.zp Z P)) (.ok (.nx τ) G4) H4 ρ4 (endOf E)) → E.nx σ H4 := fun H4 ⟨ρ4, G4, u, e4, s4, _, f4⟩ => Fin.here (x := Fv.nx σ) f4 s4 (w3.ext e4)
    rcases q with ⟨p, xs, k, j, a1, a2, a3, a4, a5⟩ | ⟨a, H4, a1, a2, a3⟩
    · exact .inl ⟨p, xs, k, j, a1, a2, a3, a4, fin _ a5⟩
    · exact .inr ⟨a, H4, a1, a2, fin _ a3⟩
theorem ss_aug (ok : XOk Φ fns cons X c) {i : Nat} {x : Str} {e : Expr} {m : ME} {p : Pos} (o : BOp) (ho : o = .add ∨ o = .sub ∨ o = .mul) (hi : X.N[i]? = some x) (hx : Loc X.env.scope x) (hf : X.fn x = true ∨ X.env.scope.names.lookup x = some .local) (h : PE X e (low c (evE Φ c.b m))) :
    PS X (.AugAssign (.Name x p) (opPy o) e pos) (lowS c (evS Φ c.b (.aug i o m))) := by
  have hop : PIp X (opPy o) (fun x y H Q => ∃ i j, x = .int i ∧ y = .int j ∧ (match o with
    | .add => Q (.int (i + j)) H
    | .sub => Q (.int (i - j)) H
    | .mul => mulOk i j = true ∧ Q (.int (i * j)) H
    | _ => False)) := by
    rcases ho with rfl | rfl | rfl
    · exact ip_add
    · exact ip_sub
    · intro pins s σ H x y v u Q I r1 r2 ⟨i, j, e1, e2, hm, q⟩
      subst e1; subst e2
      obtain ⟨t, rfl⟩ := r1
      obtain ⟨t', rfl⟩ := r2
      exact imul_int ⟨.int _, H, I.tok _, ⟨_, rfl⟩, q⟩ (mulOk_ok hm)
  refine (ps_aug ok.nd hi hx h hop hf).weak fun E σ H ⟨Z, P, ρ, G, τ, s, w, f⟩ => ?_
  rw [evS] at f
  cases g : τ[i]? with
  | none => simp only [g] at f; exact f.elim
  | some o1 =>
    cases o1 with
    | none => simp only [g] at f; exact f.elim
    | some d =>
      cases d with
      | int a =>
        simp only [g] at f
        obtain ⟨v, hv, rv⟩ := w.val i _ g
        have rv : v = .int a := rv
        subst rv
        refine ⟨.int a, hv, Z, P, ρ, G, τ, s, w, (Fin.then (R := Rp (c.zp Z P)) f).mono fun y H1 ⟨ρ1, G1, d, e1, s1, r1, f1⟩ => ?_⟩
        cases d with
        | int b =>
          simp only at f1
          obtain ⟨fl, ef, f1⟩ := f1.lift
          obtain ⟨z, e2, rfl⟩ := map_some ef
          refine ⟨a, b, rfl, r1, ?_⟩
          rcases ho with rfl | rfl | rfl
          · cases e2
            exact Fin.here (x := Fv.nx _) f1 s1 ((w.ext e1).set i (d := .int (a + b)) rfl)
          · cases e2
            exact Fin.here (x := Fv.nx _) f1 s1 ((w.ext e1).set i (d := .int (a - b)) rfl)
          · obtain ⟨hm, rfl⟩ := ite_some e2
            exact ⟨hm, Fin.here (x := Fv.nx _) f1 s1 ((w.ext e1).set i (d := .int (a * b)) rfl)⟩
        | _ => exact f1.elim
      | _ => simp only [g] at f; exact f.elim

/-! ### dict displays -/
theorem sf_dct0 : PE X (.Dict [] [] pos) (lowFr c (evE Φ c.b (.dct .nil))) := pe_dnewK.weak fun σ H Q ⟨Z, P, ρ, G, τ, s, w, f⟩ => by
  rw [evE, evEs] at f
  obtain ⟨o, eo, f⟩ := f
  cases eo
  intro p hp
  exact newFr (o := .dct [] []) s Ext.refl hp ⟨[], upd_same, rfl, .nil⟩ f
/-- keys and values in turn -/
inductive KVs (Φ : Fn) (X : Cx) (c : C) : List (Option Expr) → List Expr → MEs → Prop where
  | nil : KVs Φ X c [] [] .nil
  | cons {k v : Expr} {ks : List (Option Expr)} {vs : List Expr} {mk mv : ME} {ms : MEs} (hk : PE X k (low c (evE Φ c.b mk))) (hv : PE X v (low c (evE Φ c.b mv))) (r : KVs Φ X c ks vs ms) : KVs Φ X c (some k :: ks) (v :: vs) (.cons mk (.cons mv ms))
def trsOf (Φ : Fn) (c : C) : MEs → List (TE × TE)
  | .cons k (.cons v r) => (low c (evE Φ c.b k), low c (evE Φ c.b v)) :: trsOf Φ c r
  | _ => []
theorem KVs.pps {ks : List (Option Expr)} {vs : List Expr} {ms : MEs} (h : KVs Φ X c ks vs ms) : PPs X pos ks vs (trsOf Φ c ms) := by
  induction h with
  | nil => exact pps_nil
  | cons hk hv _ ih => exact pps_cons hk hv ih
theorem KVs.lens {ks : List (Option Expr)} {vs : List Expr} {ms : MEs} (h : KVs Φ X c ks vs ms) : ks.length = vs.length ∧ (ks.all fun x => x.isSome) = true := by
  induction h with
  | nil => exact ⟨rfl, rfl⟩
  | cons hk hv _ ih => exact ⟨by simp [ih.1], by simp only [List.all_cons, Option.isSome_some, Bool.true_and]; exact ih.2⟩
/-- the pairs of a display -/
def pairsD : List D → Option (List (D × D))
  | k :: v :: r => if keyD k then (pairsD r).map ((k, v) :: ·) else none
  | [] => some []
  | _ => none
theorem dispD_pairs : ∀ (ds : List D) (acc : List D × List D), dispD ds acc = (pairsD ds).map fun ps => ps.foldl (fun a p => dictPut a.1 a.2 p.1 p.2) acc
  | [], acc => rfl
  | [_], acc => rfl
  | k :: v :: r, acc => by
    unfold dispD pairsD
    split
    · rw [dispD_pairs r]
      cases pairsD r <;> rfl
    · rfl
theorem tPairs_ok {Z : List Addr} {P : Nat → Prop} {σ : L2.St} {τ : Tau} : ∀ {ms : MEs} {ks : List (Option Expr)} {vs : List Expr}, KVs Φ X c ks vs ms → ∀ {H : Hp} {ρ : List Addr} {G : Hd} {Q : List (V × V) → Hp → Prop}, SR (c.zp Z P) H ρ G → EnvR (c.zp Z P) H ρ σ τ →
    Fin (c.zp Z P) (Rps (c.zp Z P)) (evEs Φ c.b ms τ G) H ρ (fun us H' => ∀ ps, us = ps.flatMap (fun p => [p.1, p.2]) → Q ps H') → tPairs (trsOf Φ c ms) σ H Q := by
  intro ms ks vs h
  induction h with
  | nil =>
    intro H ρ G Q s w f
    rw [evEs] at f
    exact f.here s .nil [] rfl
  | @cons k v ks vs mk mv ms hk hv _ ih =>
    intro H ρ G Q s w f
    rw [evEs] at f
    refine ⟨Z, P, ρ, G, τ, s, w, (Fin.then (R := Rp (c.zp Z P)) f).mono fun x H1 ⟨ρ1, G1, d, e1, s1, r1, f1⟩ => ?_⟩
    rw [evEs, then_assoc] at f1
    refine ⟨Z, P, ρ1, G1, τ, s1, w.ext e1, (Fin.then (R := Rp (c.zp Z P)) f1).mono fun y H2 ⟨ρ2, G2, d2, e2, s2, r2, f2⟩ => ?_⟩
    refine ih s2 ((w.ext e1).ext e2) ?_
    rw [then_assoc] at f2
    refine (Fin.then (R := Rps (c.zp Z P)) f2).mono fun us H3 ⟨ρ3, G3, ds, e3, s3, r3, f3⟩ => ?_
    intro ps hps
    simp only [Out.then_ok] at f3
    exact f3.here s3 (.cons (Rp.mono e3 _ _ (Rp.mono e2 _ _ r1)) (.cons (Rp.mono e3 _ _ r2) r3)) ((x, y) :: ps) (by rw [hps]; rfl)
theorem flat_pairs {c : C} {H : Hp} {ρ : List Addr} : ∀ {ds : List D} {us : List V} {qs : List (D × D)}, Rps c H ρ ds us → pairsD ds = some qs → ∃ kvs : List (Key × V), us = (kvs.map fun kv => (kV kv.1, kv.2)).flatMap (fun p => [p.1, p.2]) ∧ qs.map (·.1) = kvs.map (fun p => kD p.1) ∧ Rps c H ρ (qs.map (·.2)) (kvs.map (·.2)) ∧ qs.length = kvs.length
  | [], us, qs, r, e => by
    cases e
    exact ⟨[], r.of_nil, rfl, .nil, rfl⟩
  | [_], us, qs, r, e => by cases e
  | k :: v :: ds, us, qs, r, e => by
    have e : (if keyD k then (pairsD ds).map ((k, v) :: ·) else none) = some qs := by rw [pairsD] at e; exact e
    by_cases hk : keyD k = true
    · rw [if_pos hk] at e
      obtain ⟨q2, e2, rfl⟩ := map_some e
      obtain ⟨x, r1, rfl, rk, t⟩ := r.of_cons
      obtain ⟨y, r2, rfl, rv, t2⟩ := t.of_cons
      obtain ⟨kvs, h1, h2, h3, h4⟩ := flat_pairs t2 e2
      obtain ⟨kk, rfl, rfl⟩ := key_of hk rk
      refine ⟨(kk, y) :: kvs, ?_, ?_, ?_, ?_⟩
      · rw [h1]; rfl
      · rw [List.map_cons, List.map_cons, h2]
      · exact .cons rv h3
      · rw [List.length_cons, List.length_cons, h4]
    · rw [if_neg hk] at e
      cases e
theorem merge_of {c : C} {H : Hp} {ρ : List Addr} : ∀ {qs : List (D × D)} {kvs : List (Key × V)} {acc : List D × List D} {kacc : List (Key × V)}, qs.map (·.1) = kvs.map (fun p => kD p.1) → Rps c H ρ (qs.map (·.2)) (kvs.map (·.2)) → acc.1 = kacc.map (fun p => kD p.1) → Rps c H ρ acc.2 (kacc.map (·.2)) →
    (qs.foldl (fun a p => dictPut a.1 a.2 p.1 p.2) acc).1 = (mergeK kacc kvs).map (fun p => kD p.1) ∧ Rps c H ρ (qs.foldl (fun a p => dictPut a.1 a.2 p.1 p.2) acc).2 ((mergeK kacc kvs).map (·.2))
  | [], [], acc, kacc, _, _, h1, h2 => ⟨h1, h2⟩
  | [], _ :: _, acc, kacc, h, _, _, _ => by simp at h
  | _ :: _, [], acc, kacc, h, _, _, _ => by simp at h
  | (k, v) :: qs, (kk, w) :: kvs, (a1, a2), kacc, h, r, h1, h2 => by
    simp only [List.map_cons, List.cons.injEq] at h
    obtain ⟨rfl, h⟩ := h
    obtain ⟨w', r', e, rv, rt⟩ := r.of_cons
    simp only [List.map_cons, List.cons.injEq] at e
    obtain ⟨rfl, rfl⟩ := e
    have h1 : a1 = kacc.map (fun p => kD p.1) := h1
    subst h1
    have p := put_of (k := kk) rv h2
    exact merge_of (acc := dictPut (kacc.map fun p => kD p.1) a2 (kD kk) v) (kacc := putK kacc kk w) h rt p.1 p.2
theorem apart_same {c : C} {H H2 : Hp} {ρ ρ2 : List Addr} {G : Hd} {p : Addr} {o o2 : HO} (s : SR c H ρ G) (hp : H p = none) (hz : p ∉ c.Z) (e : Ext (c.and p) (upd H p o) ρ H2 ρ2) (h2 : H2 p = some o2) (nt : Mt H2 p) : Ext c H ρ H2 ρ2 := by
  have e2 : Ext c H ρ (upd H2 p o2) ρ2 := Ext.apart hp (fun b hb => (s.zs b hb).2) nt e.toExt0 fun b hb => (e.zs b (List.mem_cons_of_mem _ hb)).trans (upd_ne (fun z : b = p => hz (z ▸ hb)))
  have eH : upd H2 p o2 = H2 := by
    funext b
    by_cases hb : b = p
    · rw [hb, upd_same, h2]
    · rw [upd_ne hb]
  rw [eH] at e2
  exact e2
theorem flat_inj : ∀ {ps qs : List (V × V)}, ps.flatMap (fun p => [p.1, p.2]) = qs.flatMap (fun p => [p.1, p.2]) → ps = qs
  | [], [], _ => rfl
  | [], (_, _) :: _, h => by simp at h
  | (_, _) :: _, [], h => by simp at h
  | (a, b) :: ps, (a', b') :: qs, h => by
    simp only [List.flatMap_cons, List.cons_append, List.nil_append, List.cons.injEq] at h
    obtain ⟨rfl, rfl, h⟩ := h
    rw [flat_inj h]
theorem pairs_len : ∀ {ds : List D} {qs : List (D × D)}, pairsD ds = some qs → ds.length = 2 * qs.length
  | [], qs, e => by cases e; rfl
  | [_], qs, e => by cases e
  | k :: v :: ds, qs, e => by
    have e : (if keyD k then (pairsD ds).map ((k, v) :: ·) else none) = some qs := by rw [pairsD] at e; exact e
    by_cases hk : keyD k = true
    · rw [if_pos hk] at e
      obtain ⟨q2, e2, rfl⟩ := map_some e
      have := pairs_len e2
      simp only [List.length_cons]
      omega
    · rw [if_neg hk] at e
      cases e
theorem KVs.lens2 {ks : List (Option Expr)} {vs : List Expr} {ms : MEs} (h : KVs Φ X c ks vs ms) : ms.length = 2 * ks.length := by
  induction h with
  | nil => rfl
  | cons hk hv _ ih => simp only [MEs.length, List.length_cons]; omega
theorem of_dct {ms : MEs} (τ : Tau) (G : Hd) (d : D) (G' : Hd) (h : evE Φ c.b (.dct ms) τ G = .ok d G') : ∃ o, objOf d = some o := by
  rw [evE] at h
  cases g : evEs Φ c.b ms τ G with
  | exc _ _ => rw [g] at h; cases h
  | bad => rw [g] at h; cases h
  | ok ds G1 =>
    rw [g] at h
    simp only [Out.then_ok] at h
    cases g2 : dispD ds ([], []) with
    | none => rw [g2] at h; cases h
    | some q => rw [g2] at h; cases h; exact ⟨_, rfl⟩
theorem sf_dct {ks : List (Option Expr)} {vs : List Expr} {ms : MEs} (h : KVs Φ X c ks vs ms) (hne : ks ≠ []) (hl : ks.length ≤ 15) : PE X (.Dict ks vs pos) (lowFr c (evE Φ c.b (.dct ms))) := by
  refine (pe_disp (KVs.pps h) (KVs.lens h).2 (KVs.lens h).1 hne hl).weak fun σ H0 Q ⟨Z, P, ρ0, G0, τ, s0, w0, f⟩ => ?_
  have f : Fr (c.zp Z P) (evE Φ c.b (.dct ms) τ G0) H0 ρ0 Q := f
  rw [evE] at f
  intro p hp
  have hpZ : p ∉ Z := fun z => (s0.zs p z).2.ne hp
  have sp := s0.and (o := .dK []) hp
  have wp : EnvR ((c.zp Z P).and p) (upd H0 p (.dK [])) ρ0 σ τ := w0.map fun d v => Rp.and hp (s0.ext hp) d v
  refine tPairs_ok (Z := p :: Z) (P := P) h sp wp ?_
  cases g : evEs Φ c.b ms τ G0 with
  | exc e G' =>
    rw [g] at f
    intro H' ρ' e' s'
    have e' : Ext ((c.zp Z P).and p) (upd H0 p (.dK [])) ρ0 H' ρ' := e'
    have hp1 : H' p = some (.dK []) := (e'.zs p List.mem_cons_self).trans upd_same
    have s' : SR ((c.zp Z P).and p) H' ρ' G' := s'
    exact f H' ρ' (apart_same s0 hp hpZ e' hp1 ⟨_, hp1, trivial⟩) s'.off
  | bad => rw [g] at f; exact f
  | ok ds G1 =>
    rw [g] at f
    simp only [Out.then_ok] at f
    intro us H1 ρ1 e1 s1 r1 ps hps
    have e1 : Ext ((c.zp Z P).and p) (upd H0 p (.dK [])) ρ0 H1 ρ1 := e1
    have hp1 : H1 p = some (.dK []) := (e1.zs p List.mem_cons_self).trans upd_same
    refine ⟨hp1, ?_⟩
    rw [dispD_pairs] at f
    cases g2 : pairsD ds with
    | none => rw [g2] at f; exact f.elim
    | some qs =>
      rw [g2] at f
      obtain ⟨o, eo, f⟩ := f
      cases eo
      obtain ⟨kvs, h1, h2, h3, h4⟩ := flat_pairs r1 g2
      have eps : ps = kvs.map fun kv => (kV kv.1, kv.2) := flat_inj (hps.symm.trans h1)
      have nt : Mt H1 p := ⟨_, hp1, trivial⟩
      have hlen : kvs.length ≤ 15 := by
        have a1 := evEs_len g
        have a2 := KVs.lens2 h
        have a3 := pairs_len g2
        omega
      refine ⟨kvs, eps, hlen, f p _ ρ1 (Ext.apart hp (fun b hb => (s0.zs b hb).2) nt e1.toExt0 fun b hb => ?_) (Live.no hp) (SR.setZ (c := c.zp Z P) s1 hp1 nt) ⟨mergeK [] kvs, upd_same, ?_⟩⟩
      · exact (e1.zs b (List.mem_cons_of_mem _ hb)).trans (upd_ne (fun z : b = p => hpZ (z ▸ hb)))
      · have ex := Ext.setZ (c := c.zp Z P) (ρ := ρ1) (o' := .dK (mergeK [] kvs)) hp1 nt
        have h3' : Rps ((c.zp Z P).and p) (upd H1 p (.dK (mergeK [] kvs))) ρ1 (qs.map (·.2)) (kvs.map (·.2)) := Rps.mono0 ex _ _ h3
        exact merge_of (acc := ([], [])) (kacc := []) h2 h3' rfl .nil
end
end U

set_option Elab.async false
set_option linter.all false
set_option maxRecDepth 100000
set_option maxHeartbeats 1000000
/-! UX0: dict(zip(a, b)) over tuples and lists in any mix. -/
namespace U
open PySem L2 PyProof.Rows
section
variable {prog : Program} {w : World} {A : Around} {E : Value → Shared → Prop} {s : Shared} {z TI TO T i1 i2 : Addr} {fp1 fp2 : List Addr} {n1 n2 i : Nat} {P1 P2 : Nat → Value → Prop} {St1 St2 : Nat → Heap → Prop} {f : Bool} {oT : Obj}
theorem zH_item {Q : Value → Shared → Prop} (S : ZipSep2 z TI TO i1 i2 fp1 fp2) (D1 : Draws prog w A i1 fp1 n1 P1 St1) (D2 : Draws prog w A i2 fp2 n2 P2 St2) (hz : IsZipHeld s.heap z TI TO T f) (hT : s.heap.get? T = some oT) (hTI : IsTupOf2 s.heap TI (.ref i1) (.ref i2)) (st1 : St1 i s.heap) (st2 : St2 i s.heap) (l1 : i < n1) (l2 : i < n2)
    (hQ : ∀ x y h' tk, P1 i x → P2 i y → IsZipHeld h' z TI TO T true → St1 (i + 1) h' → St2 (i + 1) h' → IsTupOf2 h' s.heap.objs.size x y → (∀ c o, c ≠ z → c ≠ i1 → c ≠ i2 → s.heap.get? c = some o → h'.get? c = some o) → Q (.ref s.heap.objs.size) { s with heap := h', toks := tk }) :
    wpAny (model prog w) A (Builtin.«zip.__next__» ⟨[.ref z], []⟩) (fun fin s' => ∃ v, fin = .done (.ret v) ∧ Q v s') E s := by
  obtain ⟨hp, g, d, tk0, os⟩ := s
  show wpAny _ _ (field (.ref z) 2 >>= _) _ _ _
  refine wpAny_bind (wpAny_field hz rfl (x := .bool false) rfl ?_)
  show wpAny _ _ (field (.ref z) 3 >>= _) _ _ _
  refine wpAny_bind (wpAny_field hz rfl (x := .ref TI) rfl (wpAny_bind (wpAny_seqItems hTI rfl ?_)))
  show wpAny _ _ (Builtin.SmallTypes.ownedTupleIsFree (.ref z) >>= _) _ _ _
  refine wpAny_bind (wpAny_tupleHeld_zip hz hT fun h₁ hz₁ hs₁ => ?_)
  simp only [Bool.false_eq_true, if_false]
  refine wpAny_bind ?_
  rw [← Array.forIn_toList]
  simp only [List.forIn_cons, List.forIn_nil]
  refine wpAny_bind (wpAny_bind (wpAny_holding ?_))
  show wpAny _ _ (Builtin.SmallTypes.nextOf (.ref i1) >>= _) _ _ ⟨h₁, g, d, tk0, os⟩
  refine wpAny_bind (D1.item i ⟨h₁, g, d, tk0, os⟩ _ _ l1 (D1.over st1 hs₁ S.zf1) fun x h₂ tk2 px s1₂ hs₂ => wpAny_pure (wpAny_pure (wpAny_bind (wpAny_bind (wpAny_holding ?_)))))
  show wpAny _ _ (Builtin.SmallTypes.nextOf (.ref i2) >>= _) _ _ ⟨h₂, g, d, tk2, os⟩
  refine wpAny_bind (D2.item i ⟨h₂, g, d, tk2, os⟩ _ _ l2 (D2.over (D2.over st2 hs₁ S.zf2) hs₂ S.sep1_2) fun y h₃ tk3 py s2₃ hs₃ => wpAny_pure (wpAny_pure (wpAny_pure ?_)))
  show wpAny _ _ (newTuple [x, y] >>= _) _ _ ⟨h₃, g, d, tk3, os⟩
  refine wpAny_bind (wpAny_newTuple (wpAny_pure ⟨_, rfl, ?_⟩))
  have hs₁ : Heap.SameBut z hp h₁ := hs₁
  have hs₂ : Heap.SameBut i1 h₁ h₂ := hs₂
  have hs₃ : Heap.SameBut i2 h₂ h₃ := hs₃
  have hsz : h₃.objs.size = hp.objs.size := by rw [hs₃.1, hs₂.1, hs₁.1]
  have hz₃ : IsZipHeld h₃ z TI TO T true := hs₃.extBut _ _ S.zi2 (hs₂.extBut _ _ S.zi1 hz₁)
  have pair : IsTupOf2 (h₃.push { cls := .type "tuple", data := .seq #[x, y] }) h₃.objs.size x y := Heap.get?_push_size _ rfl
  show Q (.ref h₃.objs.size) _
  rw [hsz] at pair ⊢
  exact hQ x y _ tk3 px py (Heap.get?_push_of_some _ hz₃) (D1.frame _ _ _ (D1.over s1₂ hs₃ S.sep2_1) fun b _ o e => Heap.get?_push_of_some _ e) (D2.frame _ _ _ s2₃ fun b _ o e => Heap.get?_push_of_some _ e) pair
    fun c o c1 c2 c3 e => Heap.get?_push_of_some _ (hs₃.extBut _ _ c3 (hs₂.extBut _ _ c2 (hs₁.extBut _ _ c1 e)))
theorem zH_end {Q : PySem.Fin → Shared → Prop} (S : ZipSep2 z TI TO i1 i2 fp1 fp2) (D1 : Draws prog w A i1 fp1 n1 P1 St1) (D2 : Draws prog w A i2 fp2 n2 P2 St2) (hz : IsZipHeld s.heap z TI TO T f) (hT : s.heap.get? T = some oT) (hTI : IsTupOf2 s.heap TI (.ref i1) (.ref i2)) (st1 : St1 i s.heap) (st2 : St2 i s.heap) (hend : i = n1 ∨ (i < n1 ∧ i = n2))
    (hE : ∀ h' e tk, (∀ c o, c ≠ z → c ≠ i1 → c ≠ i2 → s.heap.get? c = some o → h'.get? c = some o) → (∃ o, h'.get? e = some o ∧ o.cls = .type "StopIteration") → E (.ref e) { s with heap := h', toks := tk }) :
    wpAny (model prog w) A (Builtin.«zip.__next__» ⟨[.ref z], []⟩) Q E s := by
  obtain ⟨hp, g, d, tk0, os⟩ := s
  show wpAny _ _ (field (.ref z) 2 >>= _) _ _ _
  refine wpAny_bind (wpAny_field hz rfl (x := .bool false) rfl ?_)
  show wpAny _ _ (field (.ref z) 3 >>= _) _ _ _
  refine wpAny_bind (wpAny_field hz rfl (x := .ref TI) rfl (wpAny_bind (wpAny_seqItems hTI rfl ?_)))
  show wpAny _ _ (Builtin.SmallTypes.ownedTupleIsFree (.ref z) >>= _) _ _ _
  refine wpAny_bind (wpAny_tupleHeld_zip hz hT fun h₁ hz₁ hs₁ => ?_)
  simp only [Bool.false_eq_true, if_false]
  refine wpAny_bind ?_
  rw [← Array.forIn_toList]
  simp only [List.forIn_cons, List.forIn_nil]
  refine wpAny_bind (wpAny_bind (wpAny_holding ?_))
  show wpAny _ _ (Builtin.SmallTypes.nextOf (.ref i1) >>= _) _ _ ⟨h₁, g, d, tk0, os⟩
  have hs₁ : Heap.SameBut z hp h₁ := hs₁
  rcases hend with h0 | ⟨hl, h0⟩
  · refine wpAny_bind (D1.done ⟨h₁, g, d, tk0, os⟩ _ _ (by rw [← h0]; exact D1.over st1 hs₁ S.zf1) fun h₂ e hs₂ he => ?_)
    exact hE h₂ e tk0 (fun c o c1 c2 _ x => hs₂ _ _ c2 (hs₁.extBut _ _ c1 x)) he
  · refine wpAny_bind (D1.item i ⟨h₁, g, d, tk0, os⟩ _ _ hl (D1.over st1 hs₁ S.zf1) fun x h₂ tk2 px s1₂ hs₂ => wpAny_pure (wpAny_pure (wpAny_bind (wpAny_bind (wpAny_holding ?_)))))
    show wpAny _ _ (Builtin.SmallTypes.nextOf (.ref i2) >>= _) _ _ ⟨h₂, g, d, tk2, os⟩
    have hs₂ : Heap.SameBut i1 h₁ h₂ := hs₂
    refine wpAny_bind (D2.done ⟨h₂, g, d, tk2, os⟩ _ _ (by rw [← h0]; exact D2.over (D2.over st2 hs₁ S.zf2) hs₂ S.sep1_2) fun h₃ e hs₃ he => ?_)
    exact hE h₃ e tk2 (fun c o c1 c2 c3 x => hs₃ _ _ c3 (hs₂.extBut _ _ c2 (hs₁.extBut _ _ c1 x))) he
theorem nH_item {Q : Option Value → Shared → Prop} (S : ZipSep2 z TI TO i1 i2 fp1 fp2) (D1 : Draws prog w A.in1 i1 fp1 n1 P1 St1) (D2 : Draws prog w A.in1 i2 fp2 n2 P2 St2) (hz : IsZipHeld s.heap z TI TO T f) (hT : s.heap.get? T = some oT) (hTI : IsTupOf2 s.heap TI (.ref i1) (.ref i2)) (st1 : St1 i s.heap) (st2 : St2 i s.heap) (l1 : i < n1) (l2 : i < n2)
    (hQ : ∀ x y h' tk, P1 i x → P2 i y → IsZipHeld h' z TI TO T true → St1 (i + 1) h' → St2 (i + 1) h' → IsTupOf2 h' s.heap.objs.size x y → (∀ c o, c ≠ z → c ≠ i1 → c ≠ i2 → s.heap.get? c = some o → h'.get? c = some o) → Q (some (.ref s.heap.objs.size)) { s with heap := h', toks := tk }) :
    wpAny (model prog w) A (pyNext (.ref z)) Q E s := by
  have hTy : s.TypeIs (.ref z) "zip" := ⟨_, hz, rfl⟩
  unfold pyNext
  exact wpAny_bind (wpAny_attempt (wpAny_callSpecial?_slot (name := Str.ofString "__next__") hTy F.slot_zip_next (wpAny_call_entry F.slot_zip_next hTy F.entry_zip_next (zH_item S D1 D2 hz hT hTI st1 st2 l1 l2 fun x y h' tk a1 a2 a3 a4 a5 a6 a7 => wpAny_pure (hQ x y h' tk a1 a2 a3 a4 a5 a6 a7)) (F.args_zip_next_1 _))))
theorem nH_end {Q : Option Value → Shared → Prop} (S : ZipSep2 z TI TO i1 i2 fp1 fp2) (D1 : Draws prog w A.in1 i1 fp1 n1 P1 St1) (D2 : Draws prog w A.in1 i2 fp2 n2 P2 St2) (hz : IsZipHeld s.heap z TI TO T f) (hT : s.heap.get? T = some oT) (hTI : IsTupOf2 s.heap TI (.ref i1) (.ref i2)) (st1 : St1 i s.heap) (st2 : St2 i s.heap) (hend : i = n1 ∨ (i < n1 ∧ i = n2))
    (hQ : ∀ h' tk, (∀ c o, c ≠ z → c ≠ i1 → c ≠ i2 → s.heap.get? c = some o → h'.get? c = some o) → Q none { s with heap := h', toks := tk }) : wpAny (model prog w) A (pyNext (.ref z)) Q E s := by
  have hTy : s.TypeIs (.ref z) "zip" := ⟨_, hz, rfl⟩
  unfold pyNext
  refine wpAny_bind (wpAny_attempt (wpAny_callSpecial?_slot (name := Str.ofString "__next__") hTy F.slot_zip_next (wpAny_call_entry F.slot_zip_next hTy F.entry_zip_next (zH_end S D1 D2 hz hT hTI st1 st2 hend fun h' e tk hk he => ?_) (F.args_zip_next_1 _))))
  obtain ⟨o, ho, hc⟩ := he
  exact wpAny_bind (wpAny_isInstance (T := "StopIteration") (b := true) ⟨o, ho, hc⟩ isSubtype_stop (wpAny_pure (hQ _ tk hk)))
/-- a zip just made, over two iterators -/
theorem pairZip (S : ZipSep2 z TI TO i1 i2 fp1 fp2) (D1 : ∀ A : Around, A.handled = none → Draws prog w A i1 fp1 n1 P1 St1) (D2 : ∀ A : Around, A.handled = none → Draws prog w A i2 fp2 n2 P2 St2) (t1 : ∀ h, St1 0 h → ∀ b ∈ fp1, ∃ o, h.get? b = some o) (t2 : ∀ h, St2 0 h → ∀ b ∈ fp2, ∃ o, h.get? b = some o) :
    PairArg prog w "zip" z ([z, TI, TO] ++ (fp1 ++ fp2)) [z, TO, i1, i2] (min n1 n2) (fun i k v => P1 i k ∧ P2 i v) (fun h => IsZip h z TI TO .none ∧ IsTupOf2 h TI (.ref i1) (.ref i2) ∧ (∃ a b, IsTupOf2 h TO a b) ∧ St1 0 h ∧ St2 0 h) where
  type := fun s ok => ⟨_, ok.1, rfl⟩
  notDict := by decide
  keep := fun h h' ok hk => by
    obtain ⟨hz, hTI, ⟨a, b, hTO⟩, h1, h2⟩ := ok
    exact ⟨hk _ _ hz, hk _ _ hTI, ⟨a, b, hk _ _ hTO⟩, (D1 callerA rfl).frame _ _ _ h1 fun b _ o e => hk _ o e, (D2 callerA rfl).frame _ _ _ h2 fun b _ o e => hk _ o e⟩
  there := fun h ok b hb => by
    obtain ⟨hz, hTI, ⟨a, c, hTO⟩, h1, h2⟩ := ok
    rcases List.mem_append.mp hb with q | q
    · simp only [List.mem_cons, List.not_mem_nil, or_false] at q
      rcases q with q | q | q
      · rw [q]; exact ⟨_, hz⟩
      · rw [q]; exact ⟨_, hTI⟩
      · rw [q]; exact ⟨_, hTO⟩
    · rcases List.mem_append.mp q with q | q
      · exact t1 h h1 b q
      · exact t2 h h2 b q
  sub := fun b hb => by
    simp only [List.mem_cons, List.not_mem_nil, or_false] at hb
    have m1 := S.mem1
    have m2 := S.mem2
    rcases hb with q | q | q | q <;> subst q <;> simp [m1, m2]
  noKeys := fun A s Q E hA ok h => getAttrOr_miss_zip ok.1 rfl rfl rfl zip_no_keys (by decide +kernel) hA h
  iter := fun A s d Q E hA ok hd hdf h => by
    obtain ⟨hz, hTI, ⟨a, b, hTO⟩, h1, h2⟩ := ok
    simp only [List.mem_append, List.mem_cons, List.not_mem_nil, or_false, not_or] at hdf
    obtain ⟨⟨dz, dTI, dTO⟩, d1, d2⟩ := hdf
    have di1 : d ≠ i1 := fun e => d1 (e ▸ S.mem1)
    have di2 : d ≠ i2 := fun e => d2 (e ▸ S.mem2)
    have E1 := D1 A.in1 hA
    have E2 := D2 A.in1 hA
    refine wpAny_pyIter_zip hz (h z [z, TO, i1, i2] (fun i h => IsTupOf2 h TI (.ref i1) (.ref i2) ∧ St1 i h ∧ St2 i h ∧ ((IsZip h z TI TO .none ∧ ∃ a b, IsTupOf2 h TO a b) ∨ ∃ T f oT, IsZipHeld h z TI TO T f ∧ h.get? T = some oT ∧ T ≠ z ∧ T ≠ i1 ∧ T ≠ i2 ∧ T ≠ d)) s.heap s.toks ?_ ⟨hTI, h1, h2, .inl ⟨hz, a, b, hTO⟩⟩ (fun _ _ e => e) fun b hb => .inl hb)
    refine ⟨fun hm => ?_, fun i h₁ h₂ st hk => ?_, fun i s₁ Q₁ E₁ hi st hds hQ => ?_, fun s₁ Q₁ E₁ st hQ => ?_⟩
    · simp only [List.mem_cons, List.not_mem_nil, or_false] at hm
      rcases hm with e | e | e | e
      · exact dz e
      · exact dTO e
      · exact di1 e
      · exact di2 e
    · obtain ⟨hTI, h1, h2, hz⟩ := st
      refine ⟨hk _ _ (Ne.symm dTI) hTI, E1.frame _ _ _ h1 fun b hb o e => hk _ o (fun q => d1 (q ▸ hb)) e, E2.frame _ _ _ h2 fun b hb o e => hk _ o (fun q => d2 (q ▸ hb)) e, ?_⟩
      rcases hz with ⟨hz, a, b, hTO⟩ | ⟨T, f, oT, hz, hT, r1, r2, r3, r4⟩
      · exact .inl ⟨hk _ _ (Ne.symm dz) hz, a, b, hk _ _ (Ne.symm dTO) hTO⟩
      · exact .inr ⟨T, f, oT, hk _ _ (Ne.symm dz) hz, hk _ _ r4 hT, r1, r2, r3, r4⟩
    · obtain ⟨hTI, h1, h2, hz⟩ := st
      have l1 : i < n1 := Nat.lt_of_lt_of_le hi (Nat.min_le_left ..)
      have l2 : i < n2 := Nat.lt_of_lt_of_le hi (Nat.min_le_right ..)
      have lt : ∀ {c o}, s₁.heap.get? c = some o → s₁.heap.objs.size ≠ c := fun e => Nat.ne_of_gt (Heap.lt_size e)
      have m1 : s₁.heap.objs.size ≠ i1 := let ⟨_, e⟩ := E1.live _ _ h1; lt e
      have m2 : s₁.heap.objs.size ≠ i2 := let ⟨_, e⟩ := E2.live _ _ h2; lt e
      rcases hz with ⟨hz, a, b, hTO⟩ | ⟨T, f, oT, hz, hT, r1, r2, r3, r4⟩
      · refine wpAny_pyNext_zipD2_item S E1 E2 hz hTI hTO h1 h2 l1 l2 fun x y h' tk p1 p2 a1 a2 a3 a4 a5 a6 hk => ?_
        exact hQ s₁.heap.objs.size x y h' tk ⟨p1, p2⟩ (.inl ⟨_, a5, rfl, _, rfl⟩) ⟨hk _ _ S.TIz S.TITO S.TIi1 S.TIi2 hTI, a3, a4, .inr ⟨s₁.heap.objs.size, false, _, a1, a5, lt hz, m1, m2, Nat.ne_of_gt hds⟩⟩
          fun c o hc e => hk c o (fun x => hc (by simp [x])) (fun x => hc (by simp [x])) (fun x => hc (by simp [x])) (fun x => hc (by simp [x])) e
      · refine nH_item S E1 E2 hz hT hTI h1 h2 l1 l2 fun x y h' tk p1 p2 a1 a3 a4 a5 hk => ?_
        exact hQ s₁.heap.objs.size x y h' tk ⟨p1, p2⟩ (.inl ⟨_, a5, rfl, _, rfl⟩) ⟨hk _ _ S.TIz S.TIi1 S.TIi2 hTI, a3, a4, .inr ⟨T, true, oT, a1, hk _ _ r1 r2 r3 hT, r1, r2, r3, r4⟩⟩
          fun c o hc e => hk c o (fun x => hc (by simp [x])) (fun x => hc (by simp [x])) (fun x => hc (by simp [x])) e
    · obtain ⟨hTI, h1, h2, hz⟩ := st
      have hend : min n1 n2 = n1 ∨ (min n1 n2 < n1 ∧ min n1 n2 = n2) := by omega
      rcases hz with ⟨hz, a, b, hTO⟩ | ⟨T, f, oT, hz, hT, r1, r2, r3, r4⟩
      · exact wpAny_pyNext_zipD2_end S E1 E2 hz hTI hTO h1 h2 (by omega) (by omega) (by omega) fun h' tk hk => hQ h' tk fun c o hc e => hk c o (fun x => hc (by simp [x])) (fun x => hc (by simp [x])) (fun x => hc (by simp [x])) (fun x => hc (by simp [x])) e
      · exact nH_end S E1 E2 hz hT hTI h1 h2 hend fun h' tk hk => hQ h' tk fun c o hc e => hk c o (fun x => hc (by simp [x])) (fun x => hc (by simp [x])) (fun x => hc (by simp [x])) e
end
section
variable {X : Cx} {e e2 : Expr} {ta : TA} {p p2 p3 pos : Pos}
theorem kv_zip : ∀ {ks : List Key} {xs : List V} {us : List Value}, Vals xs us → KV (ks.zip xs) (ks.zip us)
  | [], _, _, _ => .nil
  | k :: ks, _, _, .nil => .nil
  | k :: ks, _, _, .cons r rr => .cons ⟨rfl, r⟩ (kv_zip rr)
theorem keys_at : ∀ {ks : List Key} {us : List Value} {i : Nat} {u : Value}, Vals (ks.map kV) us → us[i]? = some u → ∃ k, ks[i]? = some k ∧ RelV (kV k) u
  | [], _, i, u, r, h => by
    cases r
    simp at h
  | k :: ks, _, 0, u, r, h => by
    cases r with
    | cons a b =>
      cases h
      exact ⟨k, rfl, a⟩
  | k :: ks, _, i + 1, u, r, h => by
    cases r with
    | cons a b =>
      obtain ⟨q, e1, e2⟩ := keys_at (ks := ks) b (show _ = _ by simpa using h)
      exact ⟨q, by simpa using e1, e2⟩
theorem pe_dzip (hcalm : X.calm = true) (hgd : Gl X "dict") (hmd : X.mg "dict" = none) (hgz : Gl X "zip") (hmz : X.mg "zip" = none) (ha : PA X [e, e2] ta) (hs : starEach [e, e2] X.env = (false, eval e X.env) :: starEach [e2] X.env) (hpl : (backTo p3 (starEach [e2] X.env)).any (·.1) = false) :
    PE X (.Call (.Name "dict" p) [.Call (.Name "zip" p2) [e, e2] [] p3] [] pos) (fun σ H Q => ta σ H fun vs H1 => ∃ (a b : Addr) (ks : List Key) (xs : List V), vs = [.ref a, .ref b] ∧ SqT X.K H1 a (ks.map kV) ∧ SqT X.K H1 b xs ∧ ∀ q, H1 q = none → Q (.ref q) (upd H1 q (.dK (mergeK [] (ks.zip xs))))) := by
  refine ⟨fun pins s σ H Q I h => ?_⟩
  refine wpAny_Call_Name_kw (ld_blt I hgd hmd boot_dict ?_ (by decide) (by decide))
  refine callWith_type1 ?_ (by rfl) (by rfl)
  show wpAny _ _ (spliced ((false, eval (.Call (.Name "zip" p2) [e, e2] [] p3) X.env) :: backTo pos (starEach [] X.env))) _ _ s
  refine Calls.spliced_cons (wpAny_Call_Name_kw (ld_blt I hgz hmz boot_zip ?_ (by decide) (by decide)))
  refine callWith_type1 (thn (ha.run p3 pins s σ H _ I h) fun us s1 ⟨vs, H1, I1, r1, q1⟩ => ?_) hs hpl
  obtain ⟨a, b, ks, xs, ev, ta1, tb1, q⟩ := q1
  subst ev
  cases r1 with
  | cons ra rr =>
    cases rr with
    | cons rb rr =>
      cases rr
      cases ra
      cases rb
      obtain ⟨its1, rv1, pt1, z1⟩ := I1.tuple ta1
      obtain ⟨its2, rv2, pt2, z2⟩ := I1.tuple tb1
      have lt1 := pt1.lt
      have lt2 := pt2.lt
      refine zip_begins2 (begins_tuple a its1.toArray) (begins_tuple b its2.toArray) pt1 pt2 fun h' hz hTI hTO g1 g2 hsz hk => ?_
      refine Calls.spliced_nil ?_
      have I2 : Inv X pins σ H1 { s1 with heap := h' } := I1.kept (t' := s1.toks) hk
      have S : ZipSep2 (s1.heap.objs.size + 4) (s1.heap.objs.size + 2) (s1.heap.objs.size + 3) s1.heap.objs.size (s1.heap.objs.size + 1) [s1.heap.objs.size, a] [s1.heap.objs.size + 1, b] := zip_sep2 (fp1 := [a]) (fp2 := [b]) (fun c hc => by rw [List.mem_singleton.mp hc]; exact lt1) (fun c hc => by rw [List.mem_singleton.mp hc]; exact lt2)
      have na : a ≠ s1.heap.objs.size := Nat.ne_of_lt lt1
      have nb : b ≠ s1.heap.objs.size + 1 := Nat.ne_of_lt (Nat.lt_succ_of_lt lt2)
      have live : ∀ {it t : Addr} {items : Array Value} (h : Heap), (h.IsTupleIter it t 0 ∧ h.IsTuple t items) → ∀ c ∈ [it, t], ∃ o, h.get? c = some o := by
        intro it t items h ⟨⟨o1, e1, _⟩, o2, e2, _⟩ c hc
        simp only [List.mem_cons, List.not_mem_nil, or_false] at hc
        rcases hc with z | z
        · rw [z]; exact ⟨_, e1⟩
        · rw [z]; exact ⟨_, e2⟩
      have P := pairZip (prog := X.prog) (w := X.w) S (fun A hA => Draws.tuple hA s1.heap.objs.size a na its1.toArray) (fun A hA => Draws.tuple hA (s1.heap.objs.size + 1) b nb its2.toArray) (fun h => live h) (fun h => live h)
      have l1 : its1.length = ks.length := by rw [← rv1.length, List.length_map]
      have l2 : its2.length = xs.length := rv2.length.symm
      have kv := kv_zip (ks := ks) rv2
      refine PySem.call_dict_pairs (knd := mixKind X.prog X.w) (kvs := ks.zip its2) P (I.ok.hd hcalm) ⟨hz, hTI, ⟨_, _, hTO⟩, ⟨⟨_, g1, rfl, rfl⟩, Heap.IsTuple.at pt1 fun o e => hk _ o e⟩, ⟨⟨_, g2, rfl, rfl⟩, Heap.IsTuple.at pt2 fun o e => hk _ o e⟩⟩ ⟨?_, fun i key v hr => ?_⟩ ?_ fun h'' tk hd' k2 => ?_
      · rw [List.length_zip, List.size_toArray, List.size_toArray, l1]
      · obtain ⟨x1, x2⟩ := hr
        have x1 : its1[i]? = some key := by simpa using x1
        have x2 : its2[i]? = some v := by simpa using x2
        obtain ⟨k, e1, rk⟩ := keys_at rv1 x1
        refine ⟨k, ?_, kV_is rk⟩
        rw [List.getElem?_zip_eq_some]
        exact ⟨e1, x2⟩
      · rw [List.size_toArray, List.size_toArray, l2]
        exact Nat.le_trans (Nat.min_le_right _ _) z2
      · have keepB : ∀ c o, s1.heap.get? c = some o → h''.get? c = some o := fun c o e => k2 c o (fun z => by
          have lc := Heap.lt_size e
          simp only [List.mem_cons, List.not_mem_nil, or_false] at z
          rcases z with z | z | z | z <;> rw [z] at lc
          · exact absurd lc (Nat.not_lt.mpr (Nat.le_add_right _ _))
          · exact absurd lc (Nat.not_lt.mpr (Nat.le_add_right _ _))
          · exact absurd lc (Nat.lt_irrefl _)
          · exact absurd lc (Nat.not_lt.mpr (Nat.le_add_right _ _))) (hk c o e)
        have fr : s1.heap.objs.size ≤ h'.objs.size := by omega
        have hm : (h'.objs.size == sysModules) = false := beq_eq_false_iff_ne.mpr (Nat.ne_of_gt I2.big)
        have hlen : (mergeK [] (ks.zip xs)).length ≤ sizeLine := by
          refine Nat.le_trans (length_mergeK _ []) ?_
          rw [List.length_nil, Nat.zero_add, List.length_zip]
          exact Nat.le_trans (Nat.min_le_right _ _) z2
        exact ⟨.ref h'.objs.size, upd H1 h'.objs.size (.dK (mergeK [] (ks.zip xs))), I1.laid (t' := tk) keepB fr (show ObjOk X.prog X.w _ _ _ (.dK (mergeK [] (ks.zip xs))) from ⟨hlen, hm, merged [] (ks.zip its2), KV.merge kv .nil, hd'⟩), rfl, q _ (I1.hok.fresh fr)⟩
end
end U

set_option Elab.async false
set_option linter.all false
set_option maxRecDepth 100000
set_option maxHeartbeats 1000000
/-! UZ: zip of three lists. -/
namespace U
open PySem L2 PyProof.Rows
/-- the lists at a, b, e as they stand at each turn, the items in new triples -/
def Itz3 (K : PySem.W.Frag) (a b e : Addr) : It :=
  ⟨fun i H => ∃ (xs ys zs : List V) (x y z : V), SqL K H a xs ∧ SqL K H b ys ∧ SqL K H e zs ∧ xs[i]? = some x ∧ ys[i]? = some y ∧ zs[i]? = some z,
    fun i H v H' => ∃ T x y z, v = .ref T ∧ H T = none ∧ H' = upd H T (.tup [x, y, z]) ∧ (∀ xs, SqL K H a xs → xs[i]? = some x) ∧ (∀ ys, SqL K H b ys → ys[i]? = some y) ∧ ∀ zs, SqL K H e zs → zs[i]? = some z,
    fun i H => ∃ xs ys zs : List V, SqL K H a xs ∧ SqL K H b ys ∧ SqL K H e zs ∧ i ≤ xs.length ∧ i ≤ ys.length ∧ i ≤ zs.length ∧ (i = xs.length ∨ i = ys.length ∨ i = zs.length)⟩
section
variable {P : Program} {w : World} {K : PySem.W.Frag} {elts : List Expr} {kk : Nat} {tpos : Pos} {a b e z TI TO i1 i2 i3 : Addr}
theorem turn_zip3 (S : ZipSep3 z TI TO i1 i2 i3 [i1, a] [i2, b] [i3, e]) :
    Turn P w K (.Tuple elts kk tpos) (Itz3 K a b e) [z, TI, TO, i1, i2, i3] z (fun i h => IsZip h z TI TO .none ∧ IsTupOf3 h TI (.ref i1) (.ref i2) (.ref i3) ∧ (∃ x y u, IsTupOf3 h TO x y u) ∧ h.IsListIter i1 a i ∧ h.IsListIter i2 b i ∧ h.IsListIter i3 e i) where
  mem := by simp
  obj := fun i h st c hc => by
    obtain ⟨hz, hTI, ⟨x, y, u, hTO⟩, ⟨o1, e1, _, d1⟩, ⟨o2, e2, _, d2⟩, ⟨o3, e3, _, d3⟩⟩ := st
    have q' : c = z ∨ c = TI ∨ c = TO ∨ c = i1 ∨ c = i2 ∨ c = i3 := by simpa using hc
    rcases q' with q | q | q | q | q | q <;> rw [q]
    · exact ⟨_, hz, fun v q => nomatch q⟩
    · exact ⟨_, hTI, fun v q => nomatch q⟩
    · exact ⟨_, hTO, fun v q => nomatch q⟩
    · exact ⟨o1, e1, fun v q => by rw [d1] at q; cases q⟩
    · exact ⟨o2, e2, fun v q => by rw [d2] at q; cases q⟩
    · exact ⟨o3, e3, fun v q => by rw [d3] at q; cases q⟩
  keep := fun i h h' st k => by
    obtain ⟨hz, hTI, ⟨x, y, u, hTO⟩, h1, h2, h3⟩ := st
    exact ⟨k z (by simp) _ hz, k TI (by simp) _ hTI, ⟨x, y, u, k TO (by simp) _ hTO⟩, h1.at fun o q => k i1 (by simp) o q, h2.at fun o q => k i2 (by simp) o q, h3.at fun o q => k i3 (by simp) o q⟩
  item := by
    intro X hP hw hK hc i pins s σ H E I hf st hg
    subst hP hw hK
    obtain ⟨hz, hTI, ⟨x0, y0, u0, hTO⟩, h1, h2, h3⟩ := st
    obtain ⟨xs, ys, zs, x, y, u, hqx, hqy, hqz, hx, hy, hu⟩ := hg
    obtain ⟨its, rv, p, _⟩ := I.list hqx
    obtain ⟨its2, rv2, p2, _⟩ := I.list hqy
    obtain ⟨its3, rv3, p3, _⟩ := I.list hqz
    obtain ⟨u1, hu1, ru1⟩ := rv.get hx
    obtain ⟨u2, hu2, ru2⟩ := rv2.get hy
    obtain ⟨u3, hu3, ru3⟩ := rv3.get hu
    have hzl : z < s.heap.objs.size := Heap.lt_size hz
    have hh := I.ok.hd hc
    have ne : ∀ {i l : Addr} {k : Nat} {its : List Value}, s.heap.IsListIter i l k → s.heap.IsList l its.toArray → l ≠ i := by
      rintro i l k its ⟨o, q1, q2, _⟩ ⟨o', q3, q4, _⟩ rfl
      rw [q1] at q3
      cases q3
      rw [q2] at q4
      injection q4 with q5
      exact absurd q5 (by decide)
    have D1 := Draws.list (prog := X.prog) (w := X.w) (A := X.A.in1) hh i1 a (ne h1 p.isList) its.toArray
    have D2 := Draws.list (prog := X.prog) (w := X.w) (A := X.A.in1) hh i2 b (ne h2 p2.isList) its2.toArray
    have D3 := Draws.list (prog := X.prog) (w := X.w) (A := X.A.in1) hh i3 e (ne h3 p3.isList) its3.toArray
    have l1 : i < its.toArray.size := by simpa using (List.getElem?_eq_some_iff.mp hu1).1
    have l2 : i < its2.toArray.size := by simpa using (List.getElem?_eq_some_iff.mp hu2).1
    have l3 : i < its3.toArray.size := by simpa using (List.getElem?_eq_some_iff.mp hu3).1
    refine wpAny_pyNext_zipD3_item S D1 D2 D3 hz hTI hTO ⟨h1, p.isList⟩ ⟨h2, p2.isList⟩ ⟨h3, p3.isList⟩ l1 l2 l3 fun w1 w2 w3 h' tk q1 q2 q3 z' TO' h1' h2' h3' hT hsz hk => ?_
    have q1 : w1 = u1 := by have : its.toArray[i]? = some w1 := q1; rw [List.getElem?_toArray, hu1] at this; cases this; rfl
    have q2 : w2 = u2 := by have : its2.toArray[i]? = some w2 := q2; rw [List.getElem?_toArray, hu2] at this; cases this; rfl
    have q3 : w3 = u3 := by have : its3.toArray[i]? = some w3 := q3; rw [List.getElem?_toArray, hu3] at this; cases this; rfl
    subst q1 q2 q3
    refine ⟨_, rfl, wpAny_letOwnedTupleGo_zip (s := { s with heap := h', toks := tk }) z' fun h'' z'' sb => ?_⟩
    have hT2 : h''.get? s.heap.objs.size = some { cls := .type "tuple", data := .seq #[w1, w2, w3] } := (sb.2 _ (Nat.ne_of_gt hzl)).trans hT
    have new : ObjOk X.prog X.w (upd H s.heap.objs.size (.tup [x, y, u])) h'' s.heap.objs.size (.tup [x, y, u]) := ⟨by show 3 ≤ sizeLine; decide, [w1, w2, w3], .cons ru1 (.cons ru2 (.cons ru3 .nil)), ⟨_, hT2, rfl, _, rfl⟩⟩
    have I1 : Inv X pins σ (upd H s.heap.objs.size (.tup [x, y, u])) { s with heap := h'', toks := tk } :=
      I.turnedNew (t' := tk) (ch := [z, TI, TO, i1, i2, i3]) (fun c o hb q => (sb.2 c (fun q' => hb (by simp [q']))).trans (hk c o (fun q' => hb (by simp [q'])) (fun q' => hb (by simp [q'])) (fun q' => hb (by simp [q'])) (fun q' => hb (by simp [q'])) (fun q' => hb (by simp [q'])) q)) hf (Nat.le_refl _) new
    refine ⟨.ref s.heap.objs.size, _, I1, rfl, ⟨_, x, y, u, rfl, I.hok.fresh (Nat.le_refl _), rfl, fun l hl => by rw [I.list_inj hl hqx]; exact hx, fun l hl => by rw [I.list_inj hl hqy]; exact hy, fun l hl => by rw [I.list_inj hl hqz]; exact hu⟩, ⟨z'', ?_, ⟨w1, w2, w3, ?_⟩, ?_, ?_, ?_⟩, fun c hcm => ?_⟩
    · exact (sb.2 _ S.TIz).trans (hk _ _ S.TIz S.TITO S.TIi1 S.TIi2 S.TIi3 hTI)
    · exact (sb.2 _ S.TOz).trans TO'
    · exact h1'.1.at fun o q => (sb.2 _ S.zi1.symm).trans q
    · exact h2'.1.at fun o q => (sb.2 _ S.zi2.symm).trans q
    · exact h3'.1.at fun o q => (sb.2 _ S.zi3.symm).trans q
    · have hlt : c < s.heap.objs.size := by
        have q' : c = z ∨ c = TI ∨ c = TO ∨ c = i1 ∨ c = i2 ∨ c = i3 := by simpa using hcm
        rcases q' with q | q | q | q | q | q <;> rw [q]
        · exact hzl
        · exact Heap.lt_size hTI
        · exact Heap.lt_size hTO
        · obtain ⟨_, e1, _⟩ := h1; exact Heap.lt_size e1
        · obtain ⟨_, e1, _⟩ := h2; exact Heap.lt_size e1
        · obtain ⟨_, e1, _⟩ := h3; exact Heap.lt_size e1
      rw [upd_ne (Nat.ne_of_lt hlt)]
      exact (hf c hcm).1
  done := by
    intro X hP hw hK hc i pins s σ H E I hf st hg
    subst hP hw hK
    obtain ⟨hz, hTI, ⟨x0, y0, u0, hTO⟩, h1, h2, h3⟩ := st
    obtain ⟨xs, ys, zs, hqx, hqy, hqz, m1, m2, m3, hend⟩ := hg
    obtain ⟨its, rv, p, _⟩ := I.list hqx
    obtain ⟨its2, rv2, p2, _⟩ := I.list hqy
    obtain ⟨its3, rv3, p3, _⟩ := I.list hqz
    have l1 := rv.length
    have l2 := rv2.length
    have l3 := rv3.length
    have hh := I.ok.hd hc
    have ne : ∀ {i l : Addr} {k : Nat} {its : List Value}, s.heap.IsListIter i l k → s.heap.IsList l its.toArray → l ≠ i := by
      rintro i l k its ⟨o, q1, q2, _⟩ ⟨o', q3, q4, _⟩ rfl
      rw [q1] at q3
      cases q3
      rw [q2] at q4
      injection q4 with q5
      exact absurd q5 (by decide)
    have D1 := Draws.list (prog := X.prog) (w := X.w) (A := X.A.in1) hh i1 a (ne h1 p.isList) its.toArray
    have D2 := Draws.list (prog := X.prog) (w := X.w) (A := X.A.in1) hh i2 b (ne h2 p2.isList) its2.toArray
    have D3 := Draws.list (prog := X.prog) (w := X.w) (A := X.A.in1) hh i3 e (ne h3 p3.isList) its3.toArray
    have s1 : its.toArray.size = its.length := rfl
    have s2 : its2.toArray.size = its2.length := rfl
    have s3 : its3.toArray.size = its3.length := rfl
    exact wpAny_pyNext_zipD3_end S D1 D2 D3 hz hTI hTO ⟨h1, p.isList⟩ ⟨h2, p2.isList⟩ ⟨h3, p3.isList⟩ (by omega) (by omega) (by omega) (by omega) fun h' tk hk => ⟨rfl, I.turnedL (t' := tk) (ch := [z, TI, TO, i1, i2, i3]) (fun c o hb q =>
      hk c o (fun q' => hb (by simp [q'])) (fun q' => hb (by simp [q'])) (fun q' => hb (by simp [q'])) (fun q' => hb (by simp [q'])) (fun q' => hb (by simp [q'])) q) hf⟩
  self := fun A i s Q E st h => wpAny_pyIter_zip st.1 h
end
def iZip3 (K : PySem.W.Frag) (ta : TA) : TI := fun σ H R => ta σ H fun vs H1 => ∃ a b e xs ys zs, vs = [.ref a, .ref b, .ref e] ∧ SqL K H1 a xs ∧ SqL K H1 b ys ∧ SqL K H1 e zs ∧ R (Itz3 K a b e) H1
theorem pi_zip3 {X : Cx} {e1 e2 e3 : Expr} {ta : TA} {p pos tpos : Pos} {elts : List Expr} {kk : Nat} (hg : Gl X "zip") (hm : X.mg "zip" = none) (ha : PA X [e1, e2, e3] ta)
    (hs : starEach [e1, e2, e3] X.env = (false, eval e1 X.env) :: starEach [e2, e3] X.env) (hpl : (backTo pos (starEach [e2, e3] X.env)).any (·.1) = false) :
    PI X (.Tuple elts kk tpos) (.Call (.Name "zip" p) [e1, e2, e3] [] pos) (iZip3 X.K ta) := by
  refine ⟨fun pins s σ H R I h => ?_⟩
  refine Call_ (ld_blt I hg hm PyProof.Rows.boot_zip (PyProof.Rows.callWith_type1 (thn (ha.run pos pins s σ H _ I h) fun us s1 ⟨vs, H1, I1, r1, q1⟩ => ?_) hs hpl))
  obtain ⟨a, b, e, xs, ys, zs, ex, hqx, hqy, hqz, q⟩ := q1
  subst ex
  cases r1 with
  | cons r r1 =>
  cases r1 with
  | cons r' r1 =>
  cases r1 with
  | cons r'' r1 =>
    cases r1
    cases r
    cases r'
    cases r''
    obtain ⟨its, rv, p1, _⟩ := I1.list hqx
    obtain ⟨its2, rv2, p2, _⟩ := I1.list hqy
    obtain ⟨its3, rv3, p3, _⟩ := I1.list hqz
    refine zip_begins3 (begins_list a its.toArray) (begins_list b its2.toArray) (begins_list e its3.toArray) p1.isList p2.isList p3.isList fun h' hz hTI hTO g1 g2 g3 hsz hk => wpAny_pyIter_zip hz ?_
    have I2 : Inv X pins σ H1 { s1 with heap := h' } := I1.kept (t' := s1.toks) hk
    have lt : ∀ {l : Addr}, l < s1.heap.objs.size → ∀ b ∈ [l], b < s1.heap.objs.size := fun h b hb => by rw [List.mem_singleton.mp hb]; exact h
    refine ⟨s1.heap.objs.size + 5, [s1.heap.objs.size + 5, s1.heap.objs.size + 3, s1.heap.objs.size + 4, s1.heap.objs.size, s1.heap.objs.size + 1, s1.heap.objs.size + 2], _, _, H1, rfl, I2, turn_zip3 (zip_sep3 (lt p1.lt) (lt p2.lt) (lt p3.lt)), ⟨hz, hTI, ⟨_, _, _, hTO⟩, ⟨_, g1, rfl, rfl⟩, ⟨_, g2, rfl, rfl⟩, ⟨_, g3, rfl, rfl⟩⟩, fun c hcm => ?_, q⟩
    have hle : s1.heap.objs.size ≤ c := by
      have q' : c = s1.heap.objs.size + 5 ∨ c = s1.heap.objs.size + 3 ∨ c = s1.heap.objs.size + 4 ∨ c = s1.heap.objs.size ∨ c = s1.heap.objs.size + 1 ∨ c = s1.heap.objs.size + 2 := by simpa using hcm
      rcases q' with z | z | z | z | z | z <;> rw [z] <;> first | exact Nat.le_refl _ | exact Nat.le_add_right _ _
    exact I1.fpOk hle (I1.hok.fresh hle)
end U

set_option Elab.async false
set_option linter.all false
set_option maxRecDepth 100000
set_option maxHeartbeats 1000000
/-! UZ1: a tuple read backwards. -/
namespace U
open PySem L2 PyProof.Rows
theorem fm_same {α β : Type} {f g : α → Option β} : ∀ {l : List α}, (∀ a ∈ l, f a = g a) → l.filterMap f = l.filterMap g
  | [], _ => rfl
  | a :: l, h => by
    rw [List.filterMap_cons, List.filterMap_cons, h a List.mem_cons_self, fm_same fun b hb => h b (List.mem_cons_of_mem _ hb)]
theorem pick_back (xs : List Value) : (List.range xs.length).filterMap (fun (m : Nat) => xs.toArray[(((xs.length : Int) - 1) + (m : Int) * (-1)).toNat]?) = xs.reverse := by
  have e : ∀ m ∈ List.range xs.length, xs.toArray[(((xs.length : Int) - 1) + (m : Int) * (-1)).toNat]? = xs.reverse[m]? := by
    intro m hm
    have hm := List.mem_range.mp hm
    rw [List.getElem?_toArray, List.getElem?_reverse hm]
    congr 1
    omega
  rw [fm_same e]
  have len : xs.reverse.length = xs.length := List.length_reverse
  rw [← len]
  generalize xs.reverse = ys
  clear e len
  induction ys with
  | nil => rfl
  | cons y ys ih =>
    rw [List.length_cons, List.range_succ_eq_map, List.filterMap_cons, List.filterMap_map]
    show y :: _ = _
    congr 1
section
variable {prog : Program} {w : World} {A : Around} {E : Value → Shared → Prop} {s : Shared}
theorem places_back (n : Nat) : Builtin.Slice.slicePlaces ((n : Int) - 1) (-1) (-1) = n := by
  unfold Builtin.Slice.slicePlaces
  have h1 : ¬ ((-1 : Int) > 0) := by omega
  simp only [h1, if_false]
  have h2 : (-(-1 : Int)) = 1 := rfl
  rw [h2, Int.ediv_one]
  split <;> omega
theorem adjust_back (n : Nat) : Builtin.Slice.sliceAdjust none none (-1) (n : Int) = ((n : Int) - 1, -1) := by
  unfold Builtin.Slice.sliceAdjust
  have h1 : (-1 : Int) < 0 := by omega
  simp only [h1, if_true]
theorem applied_back {sl : Addr} {vs : Value} {n : Nat} {Q : Int × Int × Nat → Shared → Prop} (hs : s.heap.IsSliceOf sl .none .none vs) (ps : IsPart vs (some (-1))) (h : Q ((n : Int) - 1, -1, n) s) : wpAny (model prog w) A (Builtin.Slice.sliceApplied (.ref sl) (pure (n : Int))) Q E s := by
  obtain ⟨os, hos, hcs, hds⟩ := id hs
  unfold Builtin.Slice.sliceApplied Builtin.Slice.sliceFields
  refine wpAny_bind (wpAny_bind (wpAny_field hos hds (x := .none) rfl (wpAny_bind (wpAny_field hos hds (x := .none) rfl (wpAny_bind (wpAny_field hos hds (x := vs) rfl (wpAny_pure ?_)))))))
  refine wpAny_bind (HT.slicePart_ ps ?_)
  show wpAny _ _ (if ((-1 : Int) == 0) = true then _ else _) _ _ s
  rw [if_neg (by decide)]
  refine wpAny_bind (HT.slicePart_ .none (wpAny_bind (HT.slicePart_ .none (wpAny_bind (wpAny_pure ?_)))))
  show wpAny _ _ (match Builtin.Slice.sliceAdjust none none (-1) (n : Int) with | (lo, hi) => pure (lo, (-1 : Int), Builtin.Slice.slicePlaces lo hi (-1))) _ _ s
  rw [adjust_back n]
  show wpAny _ _ (pure ((n : Int) - 1, (-1 : Int), Builtin.Slice.slicePlaces ((n : Int) - 1) (-1) (-1))) _ _ s
  rw [places_back]
  exact wpAny_pure h
theorem item_back {t sl : Addr} {its : List Value} {vs : Value} {Q : Value → Shared → Prop} (ht : IsTup s.heap t its.toArray) (hs : s.heap.IsSliceOf sl .none .none vs) (ps : IsPart vs (some (-1)))
    (h : Q (.ref s.heap.objs.size) { s with heap := s.heap.push { cls := .type "tuple", data := .seq its.reverse.toArray } }) (hsz : its.length ≤ sizeLine) : wpAny (model prog w) A (getItem (.ref t) (.ref sl)) Q E s := by
  have hnew : sizeOk (.seq its.reverse.toArray) := by
    show its.reverse.toArray.size ≤ sizeLine
    rw [List.size_toArray, List.length_reverse]
    exact hsz
  obtain ⟨os, hos, hcs, hds⟩ := id hs
  have hTs : s.TypeIs (.ref sl) "slice" := ⟨os, hos, hcs⟩
  unfold getItem
  try with_reducible refine wpAny_holding ?_
  first | refine wpAny_bind (wpAny_pure ?_) | skip
  refine wpAny_bind (wpAny_sequenceKey ht.typeIs (by decide) (wpAny_bind (wpAny_callSpecial?_slot (name := Str.ofString "__getitem__") ht.typeIs PyProof.Rows.slot_tuple_getitem (wpAny_call_entry PyProof.Rows.slot_tuple_getitem ht.typeIs entry_tuple_getitem ?_ (args_tuple_getitem _ _)))))
  show wpAny _ _ (Builtin.Tuple.tupleItemsOf (.ref t) >>= _) _ _ s
  refine wpAny_bind (PyProof.Rows.tupleItemsOf_ ht (wpAny_bind (wpAny_typeOf hTs ?_)))
  rw [if_pos (by decide)]
  refine wpAny_bind (applied_back (n := its.length) hs ps ?_)
  show wpAny _ _ (if ((((its.length : Int) - 1) == 0 && (-1 : Int) == 1 && its.length == its.toArray.size) = true) then _ else _) _ _ s
  rw [if_neg (by simp)]
  have pb : ((List.range its.length).filterMap fun (m : Nat) => its.toArray[(((its.length : Int) - 1) + (m : Int) * (-1)).toNat]?).toArray = its.reverse.toArray := congrArg List.toArray (pick_back its)
  rw [pb]
  first
    | exact wpAny_bind (m := Builtin.Tuple.tupleExact _) (wpAny_newObj_type (wpAny_pure ⟨_, rfl, wpAny_pure h⟩) hnew)
    | exact wpAny_bind (wpAny_bind (m := Builtin.Tuple.tupleExact _) (wpAny_newObj_type (wpAny_pure ⟨_, rfl, wpAny_pure h⟩) hnew))
    | exact wpAny_bind (wpAny_bind (m := Builtin.Tuple.tupleExact _) (wpAny_newObj_type (wpAny_pure (wpAny_pure ⟨_, rfl, wpAny_pure h⟩)) hnew))
end
def tRevT (K : PySem.W.Frag) (te : TE) : TE := fun σ H Q => te σ H fun x H1 => ∃ a xs, x = .ref a ∧ SqT K H1 a xs ∧ ∀ p, H1 p = none → Q (.ref p) (upd H1 p (.tup xs.reverse))
section
variable {X : Cx} {e : Expr} {te : TE} {k : Nat} {p1 p2 p3 pos : Pos}
theorem pe_revT (he : PE X e te) : PE X (.Subscript e (.Slice none none (some (.UnaryOp .USub (.Constant (.int 1) k p1) p2)) p3) pos) (tRevT X.K te) := by
  refine ⟨fun pins s σ H Q I h => Subscript_ (thn (he.run pins s σ H _ I h) fun v s1 ⟨x, H1, I1, r1, q1⟩ => ?_)⟩
  obtain ⟨a, xs, ex, hx, q⟩ := q1
  subst ex
  cases r1
  have hst : PO X (some (.UnaryOp .USub (.Constant (.int 1) k p1) p2)) (tPart (tUn (rU fun i => .int (-i)) (tC (.int 1)))) := po_some (pe_un un_neg pe_int)
  refine wpAny_Slice ?_
  rw [evalPart_none]
  refine wpAny_pure (wpAny_pure (thn (hst.run pins s1 σ H1 (fun o H4 => o = some (-1) ∧ H4 = H1) I1 ⟨1, rfl, -1, rfl, rfl, rfl⟩) fun vs s4 ⟨o, H4, I4, ps, eo, e4⟩ => ?_))
  subst eo e4
  have I5 : Inv X pins σ H4 { s4 with heap := s4.heap.push { cls := .type "slice", data := .fields #[.none, .none, vs] } } := I4.kept (t' := s4.toks) fun b ob q => Heap.get?_push_of_some _ q
  obtain ⟨its, r, ht, hz⟩ := I5.tuple hx
  have hlen := r.length
  show wpAny (model X.prog X.w) X.A (subscriptTail e (.Slice none none (some (.UnaryOp .USub (.Constant (.int 1) k p1) p2)) p3) (.ref a) (.ref s4.heap.objs.size)) (EP X pins σ Q) X.xe { s4 with heap := s4.heap.push { cls := .type "slice", data := .fields #[.none, .none, vs] } }
  refine tail_any (ops := [.ref a, .ref s4.heap.objs.size]) ht.typeIs (PyProof.Rows.slot_tuple_getitem.lookup) ?_ (by with_unfolding_all rfl)
  refine item_back ht (Heap.IsSliceOf.new _ .none .none vs) ps ?_ (by omega)
  refine ⟨.ref _, _, I5.laid (t' := s4.toks) (o := .tup xs.reverse) (fun b ob q => Heap.get?_push_of_some _ q) (Nat.le_refl _) ?_, rfl, q _ (I5.hok.fresh (Nat.le_refl _))⟩
  exact ⟨by rw [List.length_reverse]; omega, _, r.reverse, ⟨_, Heap.get?_push_size _ rfl, rfl, _, rfl⟩⟩
end
end U

set_option Elab.async false
set_option linter.all false
set_option maxRecDepth 100000
/-! UZ2: zip of three, and a tuple backwards, upon plain data. -/
namespace U
open PySem L2 PyProof.Rows
theorem zip3_get : ∀ (ds es fs : List D) (i : Nat) (d : D), (zip3L ds es fs)[i]? = some d → ∃ a b e, ds[i]? = some a ∧ es[i]? = some b ∧ fs[i]? = some e ∧ d = .tup [a, b, e]
  | [], es, fs, i, d, h => by simp [zip3L] at h
  | _ :: _, [], fs, i, d, h => by simp [zip3L] at h
  | _ :: _, _ :: _, [], i, d, h => by simp [zip3L] at h
  | a :: ds, b :: es, e :: fs, 0, d, h => by
    simp [zip3L] at h
    exact ⟨a, b, e, rfl, rfl, rfl, h.symm⟩
  | a :: ds, b :: es, e :: fs, i + 1, d, h => by
    simp only [zip3L, List.getElem?_cons_succ] at h ⊢
    exact zip3_get ds es fs i d h
theorem zip3_len : ∀ (ds es fs : List D), (zip3L ds es fs).length = min ds.length (min es.length fs.length)
  | [], es, fs => by simp [zip3L]
  | _ :: _, [], fs => by simp [zip3L]
  | _ :: _, _ :: _, [] => by simp [zip3L]
  | a :: ds, b :: es, e :: fs => by simp only [zip3L, List.length_cons, zip3_len ds es fs]; omega
theorem jr_zip3 {K : PySem.W.Frag} {ds es fs : List D} {a b e : Addr} : JR K (.of [(.lst ds, .ref a), (.lst es, .ref b), (.lst fs, .ref e)]) (zip3L ds es fs) (Itz3 K a b e) := by
  intro c H ρ hK hS
  obtain ⟨a', vs, e1, q, _, t⟩ := (hS _ List.mem_cons_self).lst_of
  cases e1
  obtain ⟨b', us, e1, q2, _, t2⟩ := (hS _ (List.mem_cons_of_mem _ List.mem_cons_self)).lst_of
  cases e1
  obtain ⟨b', ws, e1, q3, _, t3⟩ := (hS _ (List.mem_cons_of_mem _ (List.mem_cons_of_mem _ List.mem_cons_self))).lst_of
  cases e1
  have sq : SqL K H a vs := .inl q
  have sq2 : SqL K H b us := .inl q2
  have sq3 : SqL K H e ws := .inl q3
  have hl := zip3_len ds es fs
  have l1 := t.length
  have l2 := t2.length
  have l3 := t3.length
  refine ⟨fun i d hd => ?_, ⟨vs, us, ws, sq, sq2, sq3, by omega, by omega, by omega, by omega⟩⟩
  obtain ⟨d0, d1, d2, h0, h1, h2, rfl⟩ := zip3_get ds es fs i d hd
  obtain ⟨v, hv, rv⟩ := t.get h0
  obtain ⟨u, hu, ru⟩ := t2.get h1
  obtain ⟨w, hw, rw'⟩ := t3.get h2
  refine ⟨⟨vs, us, ws, v, u, w, sq, sq2, sq3, hv, hu, hw⟩, fun x H' ⟨T, y, z, z2, e1, e2, e3, hx, hy, hz⟩ => .inr ⟨T, [y, z, z2], _, e1, e2, e3, rfl, ?_⟩⟩
  have g := hx vs sq
  rw [hv] at g
  cases g
  have g := hy us sq2
  rw [hu] at g
  cases g
  have g := hz ws sq3
  rw [hw] at g
  cases g
  exact .cons rv (.cons ru (.cons rw' .nil))
section
variable {Φ : Fn} {fns : Str → Option (List Str)} {cons : Str → Option D} {X : Cx} {c : C} {pos : Pos} {tg : Expr}
theorem args3 {a b e : Expr} {m n o : ME} (ha : PE X a (low c (evE Φ c.b m))) (hb : PE X b (low c (evE Φ c.b n))) (he : PE X e (low c (evE Φ c.b o))) (hp : plainE a = true) (hq : plainE b = true) (hr : plainE e = true) : PA X [a, b, e] (lowA c (evEs Φ c.b (.cons m (.cons n (.cons o .nil))))) := sa_cons ha (args2 hb he hq hr) (star_one hp)
theorem fin3 {m n o : ME} {α : Type} {β : Type} {R : Hp → List Addr → α → β → Prop} {c : C} {k : D → D → D → Hd → Out α} {τ : Tau} {G : Hd} {H : Hp} {ρ : List Addr} {Q : β → Hp → Prop} {b : Nat} (f : Fin c R ((evE Φ b m τ G).then fun x G => (evE Φ b n τ G).then fun y G => (evE Φ b o τ G).then fun z G => k x y z G) H ρ Q) :
    Fin c (Rps c) (evEs Φ b (.cons m (.cons n (.cons o .nil))) τ G) H ρ fun vs H1 => ∃ ρ1 G1 d v d2 v2 d3 v3, vs = [v, v2, v3] ∧ Ext c H ρ H1 ρ1 ∧ SR c H1 ρ1 G1 ∧ Rp c H1 ρ1 d v ∧ Rp c H1 ρ1 d2 v2 ∧ Rp c H1 ρ1 d3 v3 ∧ Fin c R (k d d2 d3 G1) H1 ρ1 Q := by
  have e : evEs Φ b (.cons m (.cons n (.cons o .nil))) τ G = (evE Φ b m τ G).then fun d G => (evE Φ b n τ G).then fun d2 G => (evE Φ b o τ G).then fun d3 G => .ok [d, d2, d3] G := by
    simp only [evEs, Out.then_ok, then_assoc]
  rw [e]
  cases g : evE Φ b m τ G with
  | ok d G1 =>
    rw [g] at f
    simp only [Out.then_ok] at f ⊢
    cases g2 : evE Φ b n τ G1 with
    | ok d2 G2 =>
      rw [g2] at f
      simp only [Out.then_ok] at f ⊢
      cases g3 : evE Φ b o τ G2 with
      | ok d3 G3 =>
        rw [g3] at f
        intro vs H1 ρ1 e1 s1 r1
        obtain ⟨v, r, rfl, rv, t⟩ := r1.of_cons
        obtain ⟨v2, r2, rfl, rv2, t2⟩ := t.of_cons
        obtain ⟨v3, r3, rfl, rv3, t3⟩ := t2.of_cons
        obtain rfl := t3.of_nil
        exact ⟨ρ1, G3, d, v, d2, v2, d3, v3, rfl, e1, s1, rv, rv2, rv3, Fin.ext f e1⟩
      | exc _ _ => rw [g3] at f; exact f
      | bad => rw [g3] at f; exact f
    | exc _ _ => rw [g2] at f; exact f
    | bad => rw [g2] at f; exact f
  | exc _ _ => rw [g] at f; exact f
  | bad => rw [g] at f; exact f
theorem si_zip3 (ok : XOk Φ fns cons X c) {a b e : Expr} {m n o : ME} {p tpos : Pos} {elts : List Expr} {kk : Nat} (hg : Gl X "zip") (ha : PE X a (low c (evE Φ c.b m))) (hb : PE X b (low c (evE Φ c.b n))) (he : PE X e (low c (evE Φ c.b o))) (hp : plainE a = true) (hq : plainE b = true) (hr : plainE e = true) : PI X (.Tuple elts kk tpos) (.Call (.Name "zip" p) [a, b, e] [] pos) (lowI c (evI Φ c.b (.zip3 m n o))) := by
  refine (pi_zip3 hg (ok.blt _ (by decide +kernel)) (args3 ha hb he hp hq hr) (star_one hp) (by rw [star_one hq, star_one hr]; rfl)).weak fun σ H R ⟨Z, P, ρ, G, τ, s, w, f⟩ => ?_
  rw [evI] at f
  have hK : (c.zp Z P).K = X.K := ok.K
  refine ⟨Z, P, ρ, G, τ, s, w, (fin3 f).mono fun vs H1 ⟨ρ1, G1, d, v, d2, v2, d3, v3, ev, e1, s1, r1, r2, r3, f1⟩ => ?_⟩
  obtain ⟨di, eJ, f1⟩ := f1.lift
  obtain ⟨J, eJ1, rfl⟩ := map_some eJ
  cases d with
  | lst xs =>
    cases d2 with
    | lst ys =>
      cases d3 with
      | lst zs =>
        cases eJ1
        obtain ⟨q, us, rfl, sq, _, t⟩ := r1.lst_of
        obtain ⟨q2, us2, rfl, sq2, _, t2⟩ := r2.lst_of
        obtain ⟨q3, us3, rfl, sq3, _, t3⟩ := r3.lst_of
        refine ⟨q, q2, q3, us, us2, us3, ev, .inl sq, .inl sq2, .inl sq3, f1 _ H1 ρ1 Ext.refl s1 ⟨.of [(.lst xs, .ref q), (.lst ys, .ref q2), (.lst zs, .ref q3)], fun p hp => ?_, by rw [hK]; exact jr_zip3⟩⟩
        simp only [List.mem_cons, List.not_mem_nil, or_false] at hp
        rcases hp with rfl | rfl | rfl
        · exact r1
        · exact r2
        · exact r3
      | _ => cases eJ1
    | _ => cases eJ1
  | _ => cases eJ1
theorem rps_rev {c : C} {H : Hp} {ρ : List Addr} : ∀ {ds : List D} {vs : List V}, Rps c H ρ ds vs → Rps c H ρ ds.reverse vs.reverse
  | [], vs, h => by rw [h.of_nil]; exact .nil
  | d :: ds, vs, h => by
    obtain ⟨v, r, rfl, q, t⟩ := h.of_cons
    rw [List.reverse_cons, List.reverse_cons]
    exact (rps_rev t).append (.cons q .nil)
theorem se_rev (ok : XOk Φ fns cons X c) {a : Expr} {ma : ME} {k : Nat} {p1 p2 p3 : Pos} (ha : PE X a (low c (evE Φ c.b ma))) :
    PE X (.Subscript a (.Slice none none (some (.UnaryOp .USub (.Constant (.int 1) k p1) p2)) p3) pos) (low c (evE Φ c.b (.rev ma))) := by
  refine (pe_revT ha).weak fun σ H Q ⟨Z, P, ρ, G, τ, s, w, f⟩ => ?_
  rw [evE] at f
  refine ⟨Z, P, ρ, G, τ, s, w, (Fin.then (R := Rp (c.zp Z P)) f).mono fun x H1 ⟨ρ1, G1, xa, e1, s1, r1, f1⟩ => ?_⟩
  obtain ⟨z, e, f1⟩ := f1.lift
  cases xa with
  | tup xs =>
    cases e
    obtain ⟨q, us, rfl, sq, t⟩ := r1.tup_of
    exact ⟨q, us, rfl, by rw [← (show (c.zp Z P).K = X.K from ok.K)]; exact sq, fun p hp => newTup s1 hp (rps_rev t) f1⟩
  | _ => cases e
end
end U

set_option Elab.async false
set_option linter.all false
set_option maxRecDepth 100000
set_option maxHeartbeats 1000000
/-! UX1: try: body / except X as n: y = n. The exception stays behind the clause, as a thing of the heap. -/
namespace U
open PySem L2 PyProof.Rows
theorem excH_ok {P : Program} {w : World} {H : Hp} {h : Heap} {a : Addr} {cls : Value} {oe : Obj} {vs : Array Value} (e : h.get? a = some oe) (z : Zc cls none oe) (d : oe.data = .fields vs) : ObjOk P w H h a (ExcH cls a) :=
  ⟨⟨oe, vs, e, z, d⟩, ⟨oe, e⟩, fun _ _ ⟨o, v, q, r⟩ k => ⟨o, v, k o q, r⟩⟩
section
variable {X : Cx} {pins : List (Addr × Obj)} {σ : L2.St} {H : Hp} {s : Shared}
/-- a pinned exception is taken into the heap -/
theorem adopt {a : Addr} {oe : Obj} {vs : Array Value} {cls : Value} (I : Inv X ((a, oe) :: pins) σ H s) (hz : Zc cls none oe) (hd : oe.data = .fields vs) (h0 : X.s_0.heap.get? a = none) (hpn : ∀ p ∈ X.pn ++ pins, p.1 ≠ a) (hna : H a = none) : Inv X pins σ (upd H a (ExcH cls a)) s := by
  obtain ⟨hget, _, nL, nF, _⟩ := I.pin (a, oe) (List.mem_append_right _ List.mem_cons_self)
  have neC : ∀ x c, X.env.cells.lookup x = some c → c ≠ a := fun x c e z => by
    obtain ⟨v, o, ho, q⟩ := I.cell x c e
    rw [z] at ho
    have ho' : some oe = some o := hget.symm.trans ho
    cases ho'
    rw [hd] at q
    cases q
  have ne0 : ∀ b o, X.s_0.heap.get? b = some o → b ≠ a := fun b o e z => by
    rw [z, h0] at e
    cases e
  have ne1 : ∀ b u, H b = some u → b ≠ a := fun b u e z => by
    rw [z, hna] at e
    cases e
  refine ⟨I.ok, I.os, I.bare, ⟨I.base.keep, I.base.slot, fun b o e n x => ?_, I.base.there, fun b xs e => ?_, fun b o u e => ?_, fun b ps e => ?_⟩, I.loc, I.cell, ?_, fun x c e => ?_, fun p hp => ?_, fun b u e => ?_, I.len⟩
  · rw [upd_ne (ne0 b o e)]
    exact I.base.free b o e n x
  · have q := I.base.tups b xs e
    rw [upd_ne (ne1 b _ q)]
    exact q
  · have q := I.base.frzs b o u e
    rw [upd_ne (ne1 b _ q)]
    exact q
  · obtain ⟨m, q⟩ := I.base.tbls b ps e
    exact ⟨m, by rw [upd_ne (ne1 b _ q)]; exact q⟩
  · rw [upd_ne (fun z => nL z.symm)]
    exact I.free
  · rw [upd_ne (neC x c e)]
    exact I.freeC x c e
  · have q := I.pin p (by
      rcases List.mem_append.mp hp with h | h
      · exact List.mem_append_left _ h
      · exact List.mem_append_right _ (List.mem_cons_of_mem _ h))
    exact ⟨q.1, by rw [upd_ne (hpn p hp)]; exact q.2.1, q.2.2⟩
  · by_cases hb : b = a
    · subst hb
      rw [upd_same] at e
      cases e
      exact excH_ok hget hz hd
    · rw [upd_ne hb] at e
      refine (I.hok b u e).stay (fun c v _ q => q) (fun c q => ?_) fun c xs q => ?_
      · rw [upd_ne (ne1 c _ q)]; exact q
      · rw [upd_ne (ne1 c _ q)]; exact q
end
/-- what the clause wishes of an exception of the body: n's slot is i, y's is j -/
def wKeep (K : PySem.W.Frag) (c : Value) (i j : Nat) (Wout : WX) (D : Ends) : WX := fun cls d σ H => ∃ b, PySem.W.exmOne K cls c = some b ∧
  (b = true → d = none ∧ ∀ a, H a = none → D.nx (((σ.set i (some (.ref a))).set j (some (.ref a))).set i none) (upd H a (ExcH cls a))) ∧ (b = false → Wout cls d σ H)
section
variable {X : Cx} {x n y : Str} {c : Value} {i j : Nat} {body : List Stmt} {np pos pos' yp np2 ap : Pos} {tb : WX → TS} {Wout : WX}
theorem ps_keep (hs : X.stack = X.env :: X.outer) (hf : X.env.frame = some X.env.locals) (hex : X.ex = []) (hN : X.N.Nodup) (hi : X.N[i]? = some n) (hj : X.N[j]? = some y) (hln : X.env.kindOf n = some .local) (hly : X.env.kindOf y = some .local) (hc : Names X x c) (tk : Takes X Wout)
    (hdn : (n == ("__debug__" : Str)) = false) (hcn : (n == ("__classdict__" : Str)) = false)
    (hb : ∀ (W : WX) (pn : List (Addr × Obj)) (xe : Value → Shared → Prop), Takes (X.tr pn xe) W → PassesOwn (model X.prog X.w) X.A X.env xe → PSs (X.tr pn xe) body (tb W)) :
    PS X (.Try body [.ExceptHandler (some (.Name x np)) (some n) [.Assign [.Name y yp] (.Name n np2) ap] pos'] [] [] pos) (fun D σ H => tb (wKeep X.K c i j Wout D) D σ H) := by
  refine ⟨fun pins s σ H D I h => ?_⟩
  have ok := I.ok
  have frm : X.A.frames = some (X.env :: X.outer) := by rw [ok.frames, hs]
  refine wpAny_Try_except ?_
  have run := hb (wKeep X.K c i j Wout D) (X.pn ++ pins) (fun e s₁ => wpAny (model X.prog X.w) X.A (noteFrame e X.env) (fun _ s₂ => wpAny (model X.prog X.w) X.A (setFlight e none) (fun _ s₃ => wpAny (model X.prog X.w) X.A (handleBy e X.env [.ExceptHandler (some (.Name x np)) (some n) [.Assign [.Name y yp] (.Name n np2) ap] pos']) (SP X pins D) X.xe s₃) X.xe s₂) X.xe s₁) ?_ PassesOwn.looking
  · refine wpAny_mono (run.run [] s σ H D (I.toTry _) h) (fun fl s1 hsp => ?_) (fun e s1 he => he)
    cases fl with
    | next => obtain ⟨σ', H', J', q⟩ := hsp; exact wpAny_execs_nil ⟨σ', H', J'.ofTry ok, q⟩
    | brk => obtain ⟨σ', H', J', q⟩ := hsp; exact ⟨σ', H', J'.ofTry ok, q⟩
    | cont => obtain ⟨σ', H', J', q⟩ := hsp; exact ⟨σ', H', J'.ofTry ok, q⟩
    | ret u => obtain ⟨v, σ', H', J', r, q⟩ := hsp; exact ⟨v, σ', H', J'.ofTry ok, r, q⟩
  · intro u s' xx
    obtain ⟨a, B, sI, pins', σ', H', cls, d, eu, J', nb, up, sky, na, os, ag, b, hb1, hyes, hno⟩ := xx
    subst eu
    have J : Inv X pins σ' H' sI := J'.ofTry ok
    have sky' : Sky B (X.env :: X.outer) a (Zc cls d) X.env.locals s'.heap := by rw [← hs]; exact sky
    show wpAny (model X.prog X.w) X.A (noteFrame (.ref a) X.env) _ _ _
    refine Sky.land Zc.steady frm hf sky' fun h3 fl3 up3 => ?_
    have J3 : Inv X pins σ' H' { s' with heap := h3 } := J.landed nb fl3.1 (up.trans up3) os ag
    obtain ⟨oe3, vs3, he3, hz3, hd3⟩ := fl3.there
    have notFr : ∀ {h : Heap} {o : Obj} {vs : Array Value}, h.FunFrames B (X.env :: X.outer) → h.get? a = some o → o.data = .fields vs → a ∉ frs (X.env :: X.outer) := by
      intro h o vs ff e dd hm
      obtain ⟨_, o', e', hnf⟩ := ff.mem hm
      rw [e] at e'; cases e'
      exact hnf _ dd
    have nfr := notFr fl3.2.2.1 he3 hd3
    have nL : a ≠ X.env.locals := fun z => nfr (List.mem_filterMap.mpr ⟨X.env, List.mem_cons_self, by rw [hf, z]⟩)
    have nF : a ∉ X.fs := by
      intro hm
      obtain ⟨e, he, q⟩ := List.mem_filterMap.mp hm
      exact nfr (List.mem_filterMap.mpr ⟨e, List.mem_cons_of_mem _ he, q⟩)
    have nI : sI.heap.get? a = none := by
      cases q : sI.heap.get? a with
      | none => rfl
      | some o =>
        have z := nb a o q (by rw [hs]; exact nfr)
        rw [fl3.2.1] at z
        cases z
    have n0 : X.s_0.heap.get? a = none := by
      cases q : X.s_0.heap.get? a with
      | none => rfl
      | some o =>
        obtain ⟨o', z⟩ := J.base.there a o q (by rw [hex]; exact fun z => nomatch z)
        rw [nI] at z
        cases z
    have npn : ∀ p ∈ X.pn ++ pins, p.1 ≠ a := by
      intro p hp z
      have q := (J.pin p hp).1
      rw [z, nI] at q
      cases q
    have S3 := J3.suite he3 hd3 na nL nF
    refine wpAny_handleBy_cons (codeAny_handlers_test ?_) (by intro q; cases q)
    have LT : PySem.W.Looks (model X.prog X.w) h3 (typeOf (.ref a)) cls := fun A Q E s k q => wpAny_typeOf_ref (k _ _ he3) (by rw [hz3.1]; exact q)
    have LM := PySem.W.exm_one (M := model X.prog X.w) (J3.kIn) LT hb1
    have test : ∀ {Q : Value → Shared → Prop} {E : Value → Shared → Prop}, Q c { s' with heap := h3 } → wpAny (model X.prog X.w) (X.A.mark (some (.ref a))) (eval (.Name x np) X.env) Q E { s' with heap := h3 } := by
      intro Q E q
      obtain ⟨hg, hdbg, hm | ⟨hm, hv, hnn⟩⟩ := hc
      · exact ld_glob (X := X.suite a ((a, oe3) :: (X.pn ++ pins))) S3 hg hm q hdbg
      · exact ld_blt (X := X.suite a ((a, oe3) :: (X.pn ++ pins))) S3 hg hm hv q hnn hdbg
    refine test (LM.here ?_)
    cases b with
    | true =>
      obtain ⟨ed, hyes2⟩ := hyes rfl
      subst ed
      refine codeAny_handlers_suite_as ?_
      refine HandSPX.lands_againZ fl3 fun h4 fl4 up4 => ?_
      have J4 : Inv X pins σ' H' { s' with heap := h4 } := J.landed nb fl4.1 ((up.trans up3).trans up4) os ag
      obtain ⟨oe4, vs4, he4, hz4, hd4⟩ := fl4.there
      have J5 : Inv X ((a, oe4) :: pins) σ' H' { s' with heap := h4 } := by
        refine ⟨J4.ok, J4.os, J4.bare, J4.base, J4.loc, J4.cell, J4.free, J4.freeC, fun p hp => ?_, J4.hok, J4.len⟩
        rcases List.mem_append.mp hp with z | z
        · exact J4.pin p (List.mem_append_left _ z)
        · rcases List.mem_cons.mp z with z | z
          · rw [z]; exact ⟨he4, na, nL, nF, fun v q => by rw [hd4] at q; cases q⟩
          · exact J4.pin p (List.mem_append_right _ z)
      have S4 := J5.suite he4 hd4 na nL nF
      refine store_ok (X := X.suite a ((a, oe4) :: (X.pn ++ ((a, oe4) :: pins)))) (v := .ref a) S4 hN hi (.inl hln) rfl (fun s5 S5 => ?_) (.inr hln)
      have hset : PSs (X.suite a ((a, oe4) :: (X.pn ++ ((a, oe4) :: pins)))) [.Assign [.Name y yp] (.Name n np2) ap] (tAsg (tVar i) (gName j)) := pss_one (ps_set (X := X.suite a ((a, oe4) :: (X.pn ++ ((a, oe4) :: pins)))) hN hj (.inl hly) (pe_var hi (.inl hln) hdn hcn) (by rfl) (.inr hly))
      refine wpAny_mono (hset.run [] s5 _ H' { nx := fun σ6 H6 => σ6 = ((σ'.set i (some (.ref a))).set j (some (.ref a))) ∧ H6 = H', rt := fun _ _ => False } S5 ?_) (fun fl s6 hsp => ?_) (fun _ _ z => False.elim z)
      · refine ⟨.ref a, ?_, rfl, rfl⟩
        have hl : i < σ'.length := by
          rw [J4.len]
          exact (List.getElem?_eq_some_iff.mp hi).1
        rw [List.getElem?_set_self hl]
      · cases fl with
        | next =>
          obtain ⟨σ6, H6, S6, e6, e7⟩ := hsp
          subst e6 e7
          refine gone_ok (S6.unsuite ok) hN hi hln fun s7 J7 => ?_
          exact ⟨_, _, adopt J7 hz4 hd4 n0 npn na, hyes2 a na⟩
        | brk => obtain ⟨_, _, _, z⟩ := hsp; exact z.elim
        | cont => obtain ⟨_, _, _, z⟩ := hsp; exact z.elim
        | ret u => obtain ⟨_, _, _, _, _, z⟩ := hsp; exact z.elim
    | false =>
      show wpAny _ X.A (handleBy (.ref a) X.env []) _ _ _
      refine wpAny_handleBy_nil ?_
      obtain ⟨k1, k2, k3, oe, vs, T, oT, ts', he, hz, hd, h1, hr⟩ := id fl3
      unfold PySem.passOn
      refine wpAny_bind (wpAny_field he hd h1 ?_)
      rw [if_neg (show ¬ ((Value.ref T == Value.none) = true) from by simp)]
      have fin : wpAny (model X.prog X.w) X.A (setFlight (.ref a) X.env.frame) (fun _ s4 => wpAny (model X.prog X.w) X.A (throw (.ref a) : Sem Flow) (SP X pins D) X.xe s4) X.xe { s' with heap := h3 } := by
        rw [hf]
        exact HandSPX.setFlight_upZ fl3 fun h4 hh4 up4 => wpAny_throw (tk _ _ ⟨a, B, sI, pins, σ', H', cls, d, rfl, J, nb, (up.trans up3).trans up4, .inr (.inr (by rw [hs]; exact hh4)), na, os, ag, hno rfl⟩)
      first | exact wpAny_bind (wpAny_pure (wpAny_bind fin)) | exact wpAny_bind fin
end
end U

set_option Elab.async false
set_option linter.all false
set_option maxRecDepth 100000
set_option maxHeartbeats 1000000
/-! UX2: raise, isinstance of an exception, update, dict(zip(..)), dict(pairs). -/
namespace U
open PySem L2 PyProof.Rows
section
variable {Φ : Fn} {fns : Str → Option (List Str)} {cons : Str → Option D} {X : Cx} {c : C} {pos : Pos}

/-! ### raise -/
theorem ss_raise (ok : XOk Φ fns cons X c) {x m : Str} {j : Nat} {p p2 p3 : Pos} (hc : cons x = some (.glo x)) (hg : Gl X x) (hd : (x == ("__debug__" : Str)) = false) :
    PS X (.Raise (some (.Call (.Name x p) [.Constant (.str m) j p2] [] p3)) none pos) (lowS c (evS Φ c.b (.raise x))) := by
  obtain ⟨C, hm, h1, h2, h3, h4, _⟩ := (ok.exc x hc).ex
  have mk := pmk_own (m := m) (j := j) (p := p) (p2 := p2) (pos := p3) PySem.F.excBase_ValueError h1 hm h2 (raises_own h3 h4) hg hd
  refine (ps_raise ok.calm ok.tk mk).weak fun E σ H ⟨Z, P, ρ, G, τ, s, w, f⟩ => ?_
  rw [evS] at f
  exact ⟨x, C, by rw [ok.mg]; exact hm, rfl, rfl, f H ρ Ext.refl s⟩

/-! ### isinstance of an exception -/
def rIsX (K : PySem.W.Frag) : List V → Hp → VK → Prop := fun xs H Q => ∃ (a D : Addr) (c : V) (cv : Value) (b : Bool), xs = [.ref a, c] ∧ ExcC K D ∧ Rd H a (ExcH (.ref D) a) ∧ (∀ u, RelV c u → u = cv) ∧ PySem.W.kitOne K (.ref D) cv = some b ∧ Q (.bl b) H
theorem call_isX : CallR X (.builtin "isinstance") (rIsX X.K) := by
  intro pins s σ H xs us Q I r h
  obtain ⟨a, D, cc, cv, b, ex, C, ha, hcv, e, q⟩ := h
  subst ex
  cases r with
  | cons rx rr =>
    cases rr with
    | cons rt rr =>
      cases rr
      cases rx
      have ec := hcv _ rt
      subst ec
      obtain ⟨⟨oe, vs, hget, hz, hv⟩, _, _⟩ := ha.ok I.hok
      have J : PySem.W.InstAt s.heap a oe D none := by
        obtain ⟨oc, od, oda, osl⟩ := oe
        obtain ⟨h1, h2⟩ := hz
        dsimp only at h1 h2 hv
        subst h1 h2 hv
        exact ⟨hget, rfl, rfl, trivial⟩
      exact PySem.W.kia_one (PySem.W.handS_kitx_exc C.hg C.hk C.hs C.hd C.ha C.hn C.ht C.hm) I.kIn J e (fun z => nomatch z) fun tk => ⟨.bl b, H, I.kept (t' := tk) fun _ _ z => z, rfl, q⟩
theorem boot_isi : bootBuiltins "isinstance" = some (.builtin "isinstance") := by decide +kernel
/-- y: a class of the program's own, or ValueError -/
def clsD (y : Str) : D := if y = ("ValueError" : Str) then .ty "ValueError" else .glo y
theorem se_cls (ok : XOk Φ fns cons X c) {y : Str} {py : Pos} (hg : Gl X y) (hd : (y == ("__debug__" : Str)) = false) (hy : y = ("ValueError" : Str) ∨ cons y = some (.glo y)) : PE X (.Name y py) (low c (evE Φ c.b (.con (clsD y)))) := by
  unfold clsD
  by_cases h : y = ("ValueError" : Str)
  · rw [if_pos h]
    subst h
    exact se_ty hg (ok.blt _ (by decide +kernel)) (by decide +kernel) (by decide +kernel) hd
  · rw [if_neg h]
    exact se_glob ok hg (hy.resolve_left h) hd
theorem se_isE (ok : XOk Φ fns cons X c) {a : Expr} {y : Str} {m : ME} {ns : List Str} {p py : Pos} (hg : Gl X "isinstance") (ha : PE X a (low c (evE Φ c.b m))) (hp : plainE a = true) (hgy : Gl X y) (hd : (y == ("__debug__" : Str)) = false) (hy : y = ("ValueError" : Str) ∨ cons y = some (.glo y)) (hns : ∀ n ∈ ns, cons n = some (.glo n)) :
    PE X (.Call (.Name "isinstance" p) [a, .Name y py] [] pos) (low c (evE Φ c.b (.isE m y ns))) := by
  have hA : PA X [a, .Name y py] (lowA c (evEs Φ c.b (.cons m (.cons (.con (clsD y)) .nil)))) := sa_cons ha (sa_cons (se_cls ok hgy hd hy) sa_nil (by rfl)) (star_one hp)
  refine (pe_callB call_isX hg (ok.blt _ (by decide +kernel)) boot_isi hA (by decide) (by decide) (star_one hp) (by rfl)).weak fun σ H Q ⟨Z, P, ρ, G, τ, s, w, f⟩ => ?_
  rw [evE] at f
  refine ⟨Z, P, ρ, G, τ, s, w, ?_⟩
  have ev : evEs Φ c.b (.cons m (.cons (.con (clsD y)) .nil)) τ G = (evE Φ c.b m τ G).then fun d G => .ok [d, clsD y] G := by simp only [evEs, evE, Out.then_ok]
  rw [ev]
  cases g : evE Φ c.b m τ G with
  | exc _ _ => rw [g] at f; exact f
  | bad => rw [g] at f; exact f
  | ok d G1 =>
    rw [g] at f
    simp only [Out.then_ok] at f ⊢
    intro xs H1 ρ1 e1 s1 r1
    obtain ⟨k, hk, f⟩ := f.lift
    obtain ⟨b, hb, rfl⟩ := map_some hk
    cases d with
    | exc n =>
      obtain ⟨hn, rfl⟩ := ite_some (show (if ns.contains n = true then some (n == y || y == ("UnitError" : Str) || y == ("ValueError" : Str)) else none) = some b from hb)
      obtain ⟨v, r, rfl, rv, t⟩ := r1.of_cons
      obtain ⟨v2, r2, rfl, rv2, t2⟩ := t.of_cons
      obtain rfl := t2.of_nil
      unfold Rp at rv
      obtain ⟨a, C, rfl, hm, hr, _⟩ := rv
      obtain ⟨C', q1, _, _, _, _, q6, q7, q8⟩ := (ok.exc n (hns n (List.contains_iff_mem.mp hn))).ex
      have eC : C = C' := by
        have hm : c.mg n = some (.ref C) := hm
        rw [ok.mg, q1] at hm
        cases hm
        rfl
      subst eC
      unfold clsD at rv2
      by_cases h : y = ("ValueError" : Str)
      · rw [if_pos h] at rv2
        have rv2 : v2 = .ty "ValueError" := rv2
        subst rv2 h
        refine ⟨a, C, _, .type "ValueError", true, rfl, q6, hr, fun u ru => ru, q7, ?_⟩
        have e2 : (n == ("ValueError" : Str) || ("ValueError" : Str) == ("UnitError" : Str) || ("ValueError" : Str) == ("ValueError" : Str)) = true := by simp
        rw [e2] at f
        exact f _ H1 ρ1 e1 s1 rfl
      · rw [if_neg h] at rv2
        unfold Rp at rv2
        obtain ⟨D, hD, rfl⟩ := rv2
        obtain ⟨D', k1, k2, _⟩ := q8 y (hy.resolve_left h)
        have eD : D = D' := by
          have hD : c.mg y = some (.ref D) := hD
          rw [ok.mg, k1] at hD
          cases hD
          rfl
        subst eD
        exact ⟨a, C, _, .ref D, _, rfl, q6, hr, fun u ru => ru, k2, f _ H1 ρ1 e1 s1 rfl⟩
    | _ => cases hb

/-! ### update -/
def rUpd : V → List V → Hp → VK → Prop := fun x vs H Q => ∃ d o kvs more, x = .ref d ∧ vs = [.ref o] ∧ d ≠ o ∧ H d = some (.dK kvs) ∧ Rd H o (.dK more) ∧ kvs.length + more.length ≤ sizeLine ∧ Q .non (upd H d (.dK (mergeK kvs more)))
theorem mt_upd : MtR X "dict.update" rUpd := by
  intro pins s σ H x vs v us Q I rx rv h
  obtain ⟨d, o, kvs, more, e1, e2, hdo, hd, ho, hz, q⟩ := h
  subst e1 e2
  cases rx
  obtain ⟨u, eu, ru⟩ := vals1 rv
  subst eu
  cases ru
  obtain ⟨z1, m1, p1, k1, D1⟩ := I.hok d _ hd
  obtain ⟨z2, m2, p2, k2, D2⟩ := (show ObjOk X.prog X.w H s.heap o (.dK more) from ho.ok I.hok)
  have l1 := k1.length
  have l2 := k2.length
  refine call_meetsIn PySem.F.slot_dict_update D1.typeIs PySem.F.entry_dict_update (PySem.F.args_dict_update_2 _ _) (meets_dict_update (mixKind X.prog X.w) d o hdo m2) ⟨p1, p2, D1, D2, by omega, fun h' D1' D2' hs => ?_⟩
  have hw : ∃ q, h'.get? d = some q := by
    obtain ⟨ob, _, _, e, _⟩ := D1'
    exact ⟨ob, e⟩
  refine ⟨.non, _, d_write (t' := s.toks) I (by rw [hd]; exact trivial) hs hw (show ObjOk X.prog X.w _ _ _ (.dK (mergeK kvs more)) from ⟨Nat.le_trans (length_mergeK more kvs) hz, m1, merged p1 p2, KV.merge k2 k1, D1'⟩), rfl, q⟩
theorem mergeD_of {H : Hp} {ρ : List Addr} : ∀ {more : List (Key × V)} {vs : List D} {kacc : List (Key × V)} {acc : List D × List D}, Rps c H ρ vs (more.map (·.2)) → acc.1 = kacc.map (fun p => kD p.1) → Rps c H ρ acc.2 (kacc.map (·.2)) →
    (mergeD (more.map fun p => kD p.1) vs acc).1 = (mergeK kacc more).map (fun p => kD p.1) ∧ Rps c H ρ (mergeD (more.map fun p => kD p.1) vs acc).2 ((mergeK kacc more).map (·.2))
  | [], vs, kacc, acc, h, h1, h2 => by
    have e : vs = [] := List.eq_nil_of_length_eq_zero (by rw [← h.length]; rfl)
    subst e
    exact ⟨h1, h2⟩
  | (k, v) :: more, vs, kacc, acc, h, h1, h2 => by
    cases vs with
    | nil =>
      have := h.of_nil
      simp at this
    | cons d vs =>
      obtain ⟨v', r, e, rv, t⟩ := h.of_cons
      simp only [List.map_cons, List.cons.injEq] at e
      obtain ⟨rfl, rfl⟩ := e
      obtain ⟨a1, a2⟩ := acc
      have h1 : a1 = kacc.map (fun p => kD p.1) := h1
      subst h1
      have p := put_of (k := k) rv h2
      exact mergeD_of (more := more) (vs := vs) (kacc := putK kacc k v) (acc := dictPut (kacc.map fun p => kD p.1) a2 (kD k) d) t p.1 p.2
theorem mergeD_cl {n : Nat} : ∀ {ks vs : List D} {acc : List D × List D}, (vs.all fun v => closed n v) = true → closed.closeds n acc.2 = true → closed.closeds n (mergeD ks vs acc).2 = true
  | [], _, acc, _, h => h
  | k :: ks, [], acc, _, h => h
  | k :: ks, v :: vs, acc, hv, h => by
    rw [List.all_cons, Bool.and_eq_true] at hv
    exact mergeD_cl (ks := ks) (vs := vs) (acc := dictPut acc.1 acc.2 k v) hv.2 (closeds_put hv.1 h)
theorem upd_ok {H : Hp} {ρ : List Addr} {G : Hd} {o x : D} {v y : V} {Q : VK} (s : SR c H ρ G) (ro : Rp c H ρ o v) (rx : Rp c H ρ x y) (f : Fin c (Rp c) (updD c.b o x G) H ρ Q) : rUpd v [y] H Q := by
  unfold updD at f
  cases o with
  | ref i =>
    obtain ⟨a, ha, rfl⟩ := ro.ref_of
    cases g : G[i]? with
    | none => simp only [g] at f; exact f.elim
    | some ob =>
      simp only [g] at f
      cases ob with
      | dct ks vs =>
        cases x with
        | dct ks2 vs2 =>
          simp only at f
          by_cases hc : ((vs2.all fun v => storeOk c.b i v) && decide (ks.length + ks2.length < line)) = true
          · simp only [hc, if_true] at f
            rw [Bool.and_eq_true, decide_eq_true_eq] at hc
            obtain ⟨kvs, q, rfl, t⟩ := s.obj i a _ ha g
            unfold Rp at rx
            obtain ⟨a2, more, rfl, q2, n2, rfl, t2⟩ := rx
            have ne : a ≠ a2 := fun z => n2.1 (z ▸ List.mem_of_getElem? ha)
            obtain ⟨e, s'⟩ := s.write (o := .dct (mergeD (more.map fun p => kD p.1) vs2 (kvs.map (fun p => kD p.1), vs)).1 (mergeD (more.map fun p => kD p.1) vs2 (kvs.map (fun p => kD p.1), vs)).2) (h := .dK (mergeK kvs more)) ha ⟨_, q, trivial⟩
              (fun n hn hi => mergeD_cl (List.all_eq_true.mpr fun z hz => store_cl s.pb (List.all_eq_true.mp hc.1 z hz) hn hi) (s.cl n i _ hn hi g))
              (fun e => ⟨mergeK kvs more, upd_same, (mergeD_of (Rps.mono e _ _ t2) rfl (Rps.mono e _ _ t)).1, (mergeD_of (Rps.mono e _ _ t2) rfl (Rps.mono e _ _ t)).2⟩)
            refine ⟨a, a2, kvs, more, rfl, rfl, ne, q, q2, ?_, f.ok e s' rfl⟩
            have := hc.2
            rw [List.length_map, List.length_map] at this
            rw [line_eq]
            omega
          · simp only [hc, if_false, Bool.false_eq_true] at f
            exact f.elim
        | _ => exact f.elim
      | _ => exact f.elim
  | _ => exact f.elim
section
variable {o e : Expr} {apos cpos : Pos} {mo me : ME}
theorem se_update (ok : XOk Φ fns cons X c) (ho : PE X o (low c (evE Φ c.b mo))) (he : PE X e (low c (evE Φ c.b me))) (h1 : notSuper o = true) (h2 : plainE e = true) (h4 : (apos.endLine == cpos.line) = true) :
    PE X (.Call (.Attribute o "update" apos) [e] [] cpos) (low c (evE Φ c.b (.update mo me))) := by
  have ha : PA X [e] (lowA c (evEs Φ c.b (.cons me .nil))) := sa_cons he sa_nil (star_one h2)
  refine (pe_bm PySem.F.plainAttrs_dict PySem.F.slot_dict_update PySem.F.type_dict_update mt_upd ho ha (base_ok h1) (few1 h2) h4 (star_one h2) rfl).weak fun σ H Q ⟨Z, P, ρ, G, τ, s, w, q⟩ => ?_
  rw [evE] at q
  refine ⟨Z, P, ρ, G, τ, s, w, (Fin.then (R := Rp (c.zp Z P)) q).mono fun x H1 ⟨ρ1, G1, xo, e1, s1, r1, f1⟩ => ?_⟩
  cases g : plainDict G1 xo with
  | false => rw [g] at f1; exact f1.elim
  | true =>
    rw [g, if_pos rfl] at f1
    have ev : evEs Φ c.b (.cons me .nil) τ G1 = (evE Φ c.b me τ G1).then fun d G => .ok [d] G := by simp only [evEs, Out.then_ok]
    refine ⟨?_, Z, P, ρ1, G1, τ, s1, w.ext e1, ?_⟩
    · unfold plainDict at g
      cases xo with
      | ref i =>
        obtain ⟨a, ha, rfl⟩ := r1.ref_of
        simp only at g
        cases g2 : G1[i]? with
        | none => rw [g2] at g; cases g
        | some ob =>
          cases ob with
          | dct kk vv =>
            obtain ⟨kvs, q, _⟩ := s1.obj i a _ ha g2
            exact .inr (.inr (.inl ⟨rfl, .inl ⟨kvs, q⟩⟩))
          | _ => rw [g2] at g; cases g
      | _ => cases g
    · show Fin (c.zp Z P) (Rps (c.zp Z P)) (evEs Φ c.b (.cons me .nil) τ G1) H1 ρ1 _
      rw [ev]
      have f2 := Fin.then (R := Rp (c.zp Z P)) f1
      cases g2 : evE Φ c.b me τ G1 with
      | ok d G2 =>
        rw [g2] at f2
        intro xs H2 ρ2 e2 s2 r2
        obtain ⟨y, r, rfl, ry, t⟩ := r2.of_cons
        obtain rfl := t.of_nil
        rw [g2] at f1
        simp only [Out.then_ok] at f1
        exact upd_ok (c := c.zp Z P) s2 (Rp.mono e2 _ _ r1) ry (Fin.ext f1 e2)
      | exc _ _ => rw [g2] at f2; exact f2
      | bad => rw [g2] at f2; exact f2
end
/-! ### dict(zip(..)), dict(pairs) -/
theorem keys_of {H : Hp} {ρ : List Addr} : ∀ {ds : List D} {vs : List V}, keysD ds = true → Rps c H ρ ds vs → ∃ ks : List Key, ds = ks.map kD ∧ vs = ks.map kV
  | [], vs, _, h => by rw [h.of_nil]; exact ⟨[], rfl, rfl⟩
  | d :: ds, vs, hk, h => by
    obtain ⟨v, r, rfl, rv, t⟩ := h.of_cons
    unfold keysD at hk
    rw [List.all_cons, Bool.and_eq_true] at hk
    obtain ⟨k, rfl, rfl⟩ := key_of hk.1 rv
    obtain ⟨ks, rfl, rfl⟩ := keys_of (ds := ds) hk.2 t
    exact ⟨k :: ks, rfl, rfl⟩
theorem mergeZ {H : Hp} {ρ : List Addr} : ∀ {ks : List Key} {xs : List V} {vs : List D} {kacc : List (Key × V)} {acc : List D × List D}, Rps c H ρ vs xs → acc.1 = kacc.map (fun p => kD p.1) → Rps c H ρ acc.2 (kacc.map (·.2)) →
    (mergeD (ks.map kD) vs acc).1 = (mergeK kacc (ks.zip xs)).map (fun p => kD p.1) ∧ Rps c H ρ (mergeD (ks.map kD) vs acc).2 ((mergeK kacc (ks.zip xs)).map (·.2))
  | [], xs, vs, kacc, acc, h, h1, h2 => ⟨h1, h2⟩
  | k :: ks, xs, [], kacc, acc, h, h1, h2 => by
    rw [h.of_nil]
    exact ⟨h1, h2⟩
  | k :: ks, xs, d :: vs, kacc, acc, h, h1, h2 => by
    obtain ⟨v, r, rfl, rv, t⟩ := h.of_cons
    obtain ⟨a1, a2⟩ := acc
    have h1 : a1 = kacc.map (fun p => kD p.1) := h1
    subst h1
    have p := put_of (k := k) rv h2
    exact mergeZ (ks := ks) (vs := vs) (kacc := putK kacc k v) (acc := dictPut (kacc.map fun p => kD p.1) a2 (kD k) d) t p.1 p.2
theorem newDct {H : Hp} {ρ : List Addr} {G : Hd} {ks vs : List D} {kvs : List (Key × V)} {p : Addr} {Q : VK} (s : SR c H ρ G) (hp : H p = none) (hk : ks = kvs.map fun p => kD p.1) (r : Rps c H ρ vs (kvs.map (·.2))) (f : Fin c (Rp c) (.ok (.dct ks vs) G) H ρ Q) : Q (.ref p) (upd H p (.dK kvs)) := by
  have e := s.ext (o := .dK kvs) hp
  refine f.ok e (s.new hp) ?_
  unfold Rp
  exact ⟨p, kvs, rfl, .inl upd_same, s.notZ hp, hk, Rps.mono e _ _ r⟩
theorem se_dzip (ok : XOk Φ fns cons X c) {a b : Expr} {m n : ME} {p p2 p3 : Pos} (hgd : Gl X "dict") (hgz : Gl X "zip") (ha : PE X a (low c (evE Φ c.b m))) (hb : PE X b (low c (evE Φ c.b n))) (hp : plainE a = true) (hq : plainE b = true) :
    PE X (.Call (.Name "dict" p) [.Call (.Name "zip" p2) [a, b] [] p3] [] pos) (low c (evE Φ c.b (.dzip m n))) := by
  refine (pe_dzip ok.calm hgd (ok.blt _ (by decide +kernel)) hgz (ok.blt _ (by decide +kernel)) (args2 ha hb hp hq) (star_one hp) (by rw [star_one hq]; rfl)).weak fun σ H Q ⟨Z, P, ρ, G, τ, s, w, f⟩ => ?_
  rw [evE] at f
  have hK : (c.zp Z P).K = X.K := ok.K
  refine ⟨Z, P, ρ, G, τ, s, w, (fin2 f).mono fun vs H1 ⟨ρ1, G1, d, v, d2, v2, ev, e1, s1, r1, r2, f1⟩ => ?_⟩
  obtain ⟨z, ez, f1⟩ := f1.lift
  cases d with
  | tup ks =>
    cases d2 with
    | tup xs =>
      obtain ⟨hc, rfl⟩ := ite_some (show (if keysD ks && decide (ks.length ≤ 1000) then some (D.dct (mergeD ks xs ([], [])).1 (mergeD ks xs ([], [])).2) else none) = some z from ez)
      rw [Bool.and_eq_true] at hc
      obtain ⟨a1, us1, rfl, q1, t1⟩ := r1.tup_of
      obtain ⟨a2, us2, rfl, q2, t2⟩ := r2.tup_of
      obtain ⟨kk, rfl, rfl⟩ := keys_of hc.1 t1
      have mm := mergeZ (ks := kk) (kacc := []) (acc := ([], [])) t2 rfl .nil
      exact ⟨a1, a2, kk, us2, ev, hK ▸ q1, hK ▸ q2, fun q hq => newDct s1 hq mm.1 mm.2 f1⟩
    | _ => cases ez
  | _ => cases ez
theorem pairs_rp {H : Hp} {ρ : List Addr} : ∀ {ds ks vs : List D} {us : List V}, pairD ds = some (ks, vs) → Rps c H ρ ds us → ∃ (ps : List Addr) (kvs : List (Key × V)), us = ps.map V.ref ∧ Paired (fun p kv => SqT c.K H p [kV kv.1, kv.2]) ps kvs ∧ ks = kvs.map (fun p => kD p.1) ∧ Rps c H ρ vs (kvs.map (·.2))
  | [], ks, vs, us, e, h => by
    cases e
    rw [h.of_nil]
    exact ⟨[], [], rfl, .nil, rfl, .nil⟩
  | d :: ds, ks, vs, us, e, h => by
    obtain ⟨v, r, rfl, rv, t⟩ := h.of_cons
    unfold pairD at e
    split at e
    · rename_i h0; cases h0
    · rename_i k x r' h0
      cases h0
      obtain ⟨hk, e⟩ : keyD k = true ∧ (pairD ds).map (fun q => (k :: q.1, x :: q.2)) = some (ks, vs) := by
        split at e
        · exact ⟨by assumption, e⟩
        · cases e
      obtain ⟨q, e1, e2⟩ := map_some e
      obtain ⟨qk, qv⟩ := q
      cases e2
      obtain ⟨a, ws, rfl, sq, tt⟩ := rv.tup_of
      obtain ⟨w1, r1, rfl, rw1, t1⟩ := tt.of_cons
      obtain ⟨w2, r2, rfl, rw2, t2⟩ := t1.of_cons
      obtain rfl := t2.of_nil
      obtain ⟨kk, rfl, rfl⟩ := key_of hk rw1
      obtain ⟨ps, kvs, rfl, pp, rfl, rr⟩ := pairs_rp e1 t
      exact ⟨a :: ps, (kk, w2) :: kvs, rfl, .cons sq pp, rfl, .cons rw2 rr⟩
    · cases e
theorem sf_dpairs (ok : XOk Φ fns cons X c) {a : Expr} {m : ME} {p : Pos} (hgd : Gl X "dict") (ha : PE X a (low c (evE Φ c.b m))) (hp : plainE a = true) : PE X (.Call (.Name "dict" p) [a] [] pos) (lowFr c (evE Φ c.b (.dpairs m))) := by
  refine (pe_callTy (call_dictP ok.calm) hgd (ok.blt _ (by decide +kernel)) boot_dict (args1 ha hp) (by decide) (by decide) (star_one hp) (by rfl)).weak fun σ H Q ⟨Z, P, ρ, G, τ, s, w, f⟩ => ?_
  rw [evE] at f
  have hK : (c.zp Z P).K = X.K := ok.K
  refine ⟨Z, P, ρ, G, τ, s, w, ?_⟩
  have e : evEs Φ c.b (.cons m .nil) τ G = (evE Φ c.b m τ G).then fun d G => .ok [d] G := by simp only [evEs, Out.then_ok]
  show Fin (c.zp Z P) (Rps (c.zp Z P)) (evEs Φ c.b (.cons m .nil) τ G) H ρ _
  rw [e]
  cases g : evE Φ c.b m τ G with
  | ok d G1 =>
    rw [g] at f
    simp only [Out.then_ok] at f
    intro vs H1 ρ1 e1 s1 r1
    obtain ⟨v, r, rfl, rv, t⟩ := r1.of_cons
    obtain rfl := t.of_nil
    cases g2 : dpairsD G1 d with
    | none => rw [g2] at f; exact f.elim
    | some z =>
      rw [g2] at f
      obtain ⟨o, eo, q⟩ := f
      obtain ⟨xs, h1, h2⟩ := bind_some (show (listD G1 d).bind (fun xs => (pairD xs).map fun q => D.dct (mergeD q.1 q.2 ([], [])).1 (mergeD q.1 q.2 ([], [])).2) = some z from g2)
      obtain ⟨q2, h3, rfl⟩ := map_some h2
      obtain ⟨qk, qv⟩ := q2
      cases eo
      obtain ⟨a1, us, rfl, q1, t1⟩ := rp_list s1 rv h1
      obtain ⟨ps, kvs, rfl, pp, rfl, rr⟩ := pairs_rp h3 t1
      have mm := mergeD_of (kacc := []) (acc := ([], [])) rr rfl .nil
      exact ⟨a1, ps, kvs, rfl, .inl q1, hK ▸ pp, fun l hl => newFr (o := .dct _ _) s1 e1 hl ⟨_, upd_same, mm.1, Rps.and hl (s1.ext hl) _ _ mm.2⟩ q⟩
  | exc _ _ => rw [g] at f; exact f
  | bad => rw [g] at f; exact f
theorem of_dpairs {m : ME} (τ : Tau) (G : Hd) (d : D) (G' : Hd) (h : evE Φ c.b (.dpairs m) τ G = .ok d G') : ∃ o, objOf d = some o := by
  rw [evE] at h
  cases g : evE Φ c.b m τ G with
  | ok d1 G1 =>
    rw [g] at h
    simp only [Out.then_ok] at h
    cases g2 : dpairsD G1 d1 with
    | none => rw [g2] at h; cases h
    | some z =>
      rw [g2] at h
      obtain ⟨xs, h1, h2⟩ := bind_some (show (listD G1 d1).bind (fun xs => (pairD xs).map fun q => D.dct (mergeD q.1 q.2 ([], [])).1 (mergeD q.1 q.2 ([], [])).2) = some z from g2)
      obtain ⟨q2, h3, rfl⟩ := map_some h2
      cases h
      exact ⟨_, rfl⟩
  | exc _ _ => rw [g] at h; cases h
  | bad => rw [g] at h; cases h
end
end U

set_option Elab.async false
set_option linter.all false
set_option maxRecDepth 100000
set_option maxHeartbeats 1000000
/-! UX3: comprehensions over a dict. -/
namespace U
open PySem L2 PyProof.Rows
section
variable {Φ : Fn} {fns : Str → Option (List Str)} {cons : Str → Option D} {X : Cx} {c : C} {pos : Pos} {tg : Expr}
theorem si_lkeys {i : Nat} {x : Str} {p : Pos} (hN : X.N[i]? = some x) (hv : Vis X.env.scope x) (hd : (x == ("__debug__" : Str)) = false) (hcd : (x == ("__classdict__" : Str)) = false) : PI X tg (.Name x p) (lowI c (evI Φ c.b (.lkeys i))) := by
  refine (pi_keys (pe_var hN hv hd hcd)).weak fun σ H R ⟨Z, P, ρ, G, τ, s, w, f⟩ => ?_
  rw [evI] at f
  cases g : τ[i]? with
  | none => simp only [g] at f; exact f.elim
  | some o =>
    cases o with
    | none => simp only [g] at f; exact f.elim
    | some d =>
      cases d with
      | ref j =>
        simp only [g] at f
        obtain ⟨v, hv, rv⟩ := w.val i _ g
        obtain ⟨a, ha, rfl⟩ := rv.ref_of
        cases g2 : G[j]? with
        | none => simp only [g2] at f; exact f.elim
        | some ob =>
          cases ob with
          | lkd ks vs =>
            simp only [g2] at f
            obtain ⟨od, kvs, q, rfl, t⟩ := s.obj j a _ ha g2
            exact ⟨.ref a, hv, a, od, rfl, .inl ⟨kvs, q, f _ H ρ Ext.refl s ⟨.lk a od kvs, q, jr_keys⟩⟩⟩
          | lst _ => simp only [g2] at f; exact f.elim
          | dct _ _ => simp only [g2] at f; exact f.elim
          | ins _ _ _ => simp only [g2] at f; exact f.elim
      | _ => simp only [g] at f; exact f.elim
theorem lcGo_calm {turn : D → Hd → Out (Option D)} (h : ∀ x G e G', turn x G ≠ .exc e G') : ∀ (ds acc : List D) (G : Hd) (e : Str) (G' : Hd), lcGo turn ds acc G ≠ .exc e G'
  | [], acc, G, e, G', z => by cases z
  | d :: ds, acc, G, e, G', z => by
    unfold lcGo at z
    cases g : turn d G with
    | bad => rw [g] at z; cases z
    | exc e1 G1 => exact h d G e1 G1 g
    | ok r G1 =>
      rw [g] at z
      cases r with
      | none => exact lcGo_calm h ds acc G1 e G' z
      | some y => exact lcGo_calm h ds (acc ++ [y]) G1 e G' z
theorem lcTurn_calm {b : Nat} {me : ME} {t : MT} {mc : MB} {os : List Nat} {τ : Tau} (x : D) (G : Hd) (e : Str) (G' : Hd) : lcTurn Φ b me t mc os τ x G ≠ .exc e G' := by
  unfold lcTurn
  cases bindT t x (wipeD τ os) with
  | none => exact fun z => by cases z
  | some τ' =>
    simp only
    generalize ((evT Φ b mc τ' G).then fun k G => if k then (evE Φ b me τ' G).then fun y G => Out.ok (some y) G else .ok none G) = o
    cases o <;> exact fun z => by cases z
theorem lock_imp {os : List Nat} {t : MT} {mc : MB} {me : ME} {i : Nat} (σ : L2.St) (H : Hp) (Q : VK) (h : lowFr c (evE Φ c.b (.lc me t (.keys i) mc os)) σ H Q) : tLockE (lowFr c (evE Φ c.b (.lc me t (.lkeys i) mc os))) σ H Q := by
  obtain ⟨Z, P, ρ, G, τ, s, w, f⟩ := h
  have f : Fr (c.zp Z P) (evE Φ c.b (.lc me t (.keys i) mc os) τ G) H ρ Q := f
  rw [evE, evI] at f
  cases g : τ[i]? with
  | none => simp only [g] at f; exact f.elim
  | some o =>
    cases o with
    | none => simp only [g] at f; exact f.elim
    | some d =>
      cases d with
      | ref j =>
        simp only [g] at f
        obtain ⟨v, hv, rv⟩ := w.val i _ g
        obtain ⟨a, ha, rfl⟩ := rv.ref_of
        cases g2 : G[j]? with
        | none => simp only [g2] at f; exact f.elim
        | some ob =>
          cases ob with
          | dct ks vs =>
            simp only [g2, Out.then_ok] at f
            obtain ⟨kvs, q, ek, tv⟩ := s.obj j a _ ha g2
            have hj : j < G.length := (List.getElem?_eq_some_iff.mp g2).1
            refine ⟨a, .dK kvs, q, trivial, fun od => ?_⟩
            obtain ⟨e1, s1⟩ := s.write (o := .lkd ks vs) (h := .frz od (.dK kvs)) ha ⟨_, q, trivial⟩ (fun n hn hi => show closedO n (.dct ks vs) = true from s.cl n j _ hn hi g2) (fun e => ⟨od, kvs, upd_same, ek, Rps.mono e _ _ tv⟩)
            refine ⟨Z, P, ρ, G.set j (.lkd ks vs), τ, s1, w.ext e1, ?_⟩
            show Fr (c.zp Z P) (evE Φ c.b (.lc me t (.lkeys i) mc os) τ (G.set j (.lkd ks vs))) (upd H a (.frz od (.dK kvs))) ρ (fun v H' => H' a = some (.frz od (.dK kvs)) ∧ Q v (upd H' a (.dK kvs)))
            rw [evE, evI]
            simp only [g, List.getElem?_set_self hj, Out.then_ok]
            by_cases hl : ks.length ≤ line
            · rw [if_pos hl] at f ⊢
              have f : Fr (c.zp Z P) (((lcGo (lcTurn Φ c.b me t mc os τ) ks [] (G.set j (.lkd ks vs))).then fun ds G => .ok ds (G.set j (.dct ks vs))).then fun ds G => .ok (.lst ds) G) H ρ Q := f
              show Fr (c.zp Z P) ((lcGo (lcTurn Φ c.b me t mc os τ) ks [] (G.set j (.lkd ks vs))).then fun ds G => .ok (.lst ds) G) (upd H a (.frz od (.dK kvs))) ρ (fun v H' => H' a = some (.frz od (.dK kvs)) ∧ Q v (upd H' a (.dK kvs)))
              cases g3 : lcGo (lcTurn Φ c.b me t mc os τ) ks [] (G.set j (.lkd ks vs)) with
              | bad => rw [g3] at f; exact f.elim
              | exc e G' => exact absurd g3 (lcGo_calm (fun x G e G' => lcTurn_calm x G e G') _ _ _ _ _)
              | ok ds G2 =>
                rw [g3] at f
                simp only [Out.then_ok] at f ⊢
                obtain ⟨o, eo, f⟩ := f
                cases eo
                refine ⟨_, rfl, fun p H' ρ' ex np sp rp => ?_⟩
                have hfz : H' a = some (.frz od (.dK kvs)) := ex.frzs a od _ upd_same
                have ha' : ρ'[j]? = some a := ex.get ha
                have tv' := Rps.mono ex _ _ (Rps.mono e1 _ _ tv)
                have hpa : p ≠ a := fun z => (sp.zs p List.mem_cons_self).1 (z ▸ List.mem_of_getElem? ha')
                have npa : H p = none ∨ True := .inr trivial
                have tvp : Rps ((c.zp Z P).and p) H' ρ' vs (kvs.map (·.2)) := by
                  have np' : ¬ Live (upd H a (.frz od (.dK kvs))) p := np
                  exact Rps.andL np' ex _ _ (Rps.mono e1 _ _ tv)
                obtain ⟨su, mu⟩ := SR.unlock (c := (c.zp Z P).and p) sp ha' hfz ek tvp (fun n hn hi => s.cl n j _ hn hi g2)
                refine ⟨hfz, f p _ ρ' ?_ ?_ su ?_⟩
                · refine ⟨⟨?_, fun b u nb nz nn r => ?_, fun b xs r => ?_, fun b hb => ?_, fun b o u hb => ?_⟩, fun b hb => ?_⟩
                  · obtain ⟨new, en, hn⟩ := ex.more
                    refine ⟨new, en, fun b hb hL => hn b hb ?_⟩
                    exact e1.dom b hL
                  · have n : b ≠ a := fun z => nb (z ▸ List.mem_of_getElem? ha)
                    have r1 := ex.keep b u nb nz nn (e1.keep b u nb nz nn r)
                    rcases r1 with r1 | ⟨ob, r1⟩
                    · exact .inl (by rw [upd_ne n]; exact r1)
                    · exact .inr ⟨ob, by rw [upd_ne n]; exact r1⟩
                  · have n : b ≠ a := fun z => by
                      rw [z] at r
                      rcases r with r | ⟨ob, r⟩ <;> (rw [q] at r; cases r)
                    have r1 := ex.tups b xs (e1.tups b xs r)
                    rcases r1 with r1 | ⟨ob, r1⟩
                    · exact .inl (by rw [upd_ne n]; exact r1)
                    · exact .inr ⟨ob, by rw [upd_ne n]; exact r1⟩
                  · by_cases n : b = a
                    · rw [n]; exact Live.of upd_same
                    · unfold Live
                      rw [upd_ne n]
                      exact ex.dom b (e1.dom b hb)
                  · have n : b ≠ a := fun z => by rw [z, q] at hb; cases hb
                    rw [upd_ne n]
                    exact ex.frzs b o u (e1.frzs b o u hb)
                  · have n : b ≠ a := fun z => (s.zs b hb).1 (z ▸ List.mem_of_getElem? ha)
                    rw [upd_ne n, ex.zs b hb, e1.zs b hb]
                · exact fun hL => np (e1.dom p hL)
                · obtain ⟨us, hu, ru⟩ := rp
                  exact ⟨us, by rw [upd_ne hpa]; exact hu, mu _ _ ru⟩
            · rw [if_neg hl] at f
              exact f.elim
          | lst _ => simp only [g2] at f; exact f.elim
          | lkd _ _ => simp only [g2] at f; exact f.elim
          | ins _ _ _ => simp only [g2] at f; exact f.elim
      | _ => simp only [g] at f; exact f.elim
section
variable {elt : Expr} {ifs : List Expr} {scope : Scope} {own : List (Str × Nat)} {os : List Nat} {t : MT} {mc : MB} {me : ME} {i : Nat} {x : Str} {p : Pos}
theorem sf_lck (ok : XOk Φ fns cons X c) (hos : own.map (·.2) = os) (hN : X.N[i]? = some x) (hv : Vis X.env.scope x) (hd : (x == ("__debug__" : Str)) = false) (hcd : (x == ("__classdict__" : Str)) = false) (bk : BlkOk X.N X.env.scope scope own)
    (hg : ∀ (s : Shared) (H : Hp) (C : Addr) (cl : List (Str × Addr)) (fp : List Addr), PG (X.blk s H scope (compEnvC scope cl C X.env) fp) tg (lowGK X.K t))
    (ht : ∀ (s : Shared) (H : Hp) (C : Addr) (cl : List (Str × Addr)) (fp : List Addr), PTs (X.blk s H scope (compEnvC scope cl C X.env) fp) ifs (lowT c.nox (evT Φ c.b mc)))
    (he : ∀ (s : Shared) (H : Hp) (C : Addr) (cl : List (Str × Addr)) (fp : List Addr), PE (X.blk s H scope (compEnvC scope cl C X.env) fp) elt (low c.nox (evE Φ c.b me))) (hsub : ∀ i ∈ slotsT t, i ∈ os) :
    PE X (.ListComp elt [⟨tg, .Name x p, ifs, 0⟩] scope pos) (lowFr c (evE Φ c.b (.lc me t (.keys i) mc os))) :=
  (pe_lock (sf_lc (pos := pos) ok hos (si_lkeys (Φ := Φ) (c := c) (p := p) hN hv hd hcd) bk hg ht he (fun _ => rfl) hsub)).weak fun σ H Q q => lock_imp σ H Q q
theorem ss_setLck (ok : XOk Φ fns cons X c) (hos : own.map (·.2) = os) {m : ME} {k : Nat} {y : Str} {py lpos spos : Pos} (hm : m = .lc me t (.keys i) mc os ∨ m = .alloc (.lc me t (.keys i) mc os)) (hy : X.N[k]? = some y) (hyl : X.env.scope.names.lookup y = some .local)
    (hsw : swapsWith (.ListComp elt [⟨tg, .Name x p, ifs, 0⟩] scope lpos) (some (.Name y py)) spos.line X.env = pure true) (hN : X.N[i]? = some x) (hv : Vis X.env.scope x) (hd : (x == ("__debug__" : Str)) = false) (hcd : (x == ("__classdict__" : Str)) = false) (bk : BlkOk X.N X.env.scope scope own)
    (hg : ∀ (s : Shared) (H : Hp) (C : Addr) (cl : List (Str × Addr)) (fp : List Addr), PG (X.blk s H scope (compEnvC scope cl C X.env) fp) tg (lowGK X.K t))
    (ht : ∀ (s : Shared) (H : Hp) (C : Addr) (cl : List (Str × Addr)) (fp : List Addr), PTs (X.blk s H scope (compEnvC scope cl C X.env) fp) ifs (lowT c.nox (evT Φ c.b mc)))
    (he : ∀ (s : Shared) (H : Hp) (C : Addr) (cl : List (Str × Addr)) (fp : List Addr), PE (X.blk s H scope (compEnvC scope cl C X.env) fp) elt (low c.nox (evE Φ c.b me))) (hsub : ∀ i ∈ slotsT t, i ∈ os) :
    PS X (.Assign [.Name y py] (.ListComp elt [⟨tg, .Name x p, ifs, 0⟩] scope lpos) spos) (lowS c (evS Φ c.b (.set (.nam k) m))) := by
  have pl := ps_setLc (spos := spos) ok.calm ok.nd hy hyl hsw (si_lkeys (Φ := Φ) (c := c) (p := p) hN hv hd hcd) bk hg ht he (fun _ => rfl)
  rw [hos] at pl
  refine (ps_lock pl).weak fun E σ H q => ?_
  have q := asg_imp (K := c.K) rfl E σ H q
  have fin : ∀ x H1, lowGK c.K (.nam k) x σ H1 E.nx → gName k x σ H1 E.nx := fun x H1 ⟨c', ρ, d, τ, τ', _, w, r, e, q⟩ => by
    cases e
    refine q _ (w.set k r) ⟨by simp, fun j hj => ?_⟩
    rw [List.getElem?_set_ne]
    intro z
    exact hj (by rw [← z]; exact List.mem_singleton.mpr rfl)
  have q : low c (evE Φ c.b m) σ H fun x H1 => gName k x σ H1 E.nx := by
    obtain ⟨Z, P, ρ, G, τ, s, w, f⟩ := q
    exact ⟨Z, P, ρ, G, τ, s, w, f.mono fin⟩
  have q : lowFr c (evE Φ c.b (.lc me t (.keys i) mc os)) σ H fun x H1 => gName k x σ H1 E.nx := by
    rcases hm with rfl | rfl
    · exact fr_low_imp of_lc σ H _ q
    · refine fr_alloc_imp σ H _ ?_
      have e : evE Φ c.b (.alloc (.lc me t (.keys i) mc os)) = fun τ G => (evE Φ c.b (.lc me t (.keys i) mc os) τ G).then allocD := by
        funext τ G
        rw [evE]
      rw [e] at q
      exact q
  obtain ⟨d, u, h1, h2, h3⟩ := lock_imp σ H _ q
  exact ⟨d, u, h1, h2, fun od => lc_imp (Φ := Φ) ok.K hsub σ _ _ (h3 od)⟩
end
end
end U

set_option Elab.async false
set_option linter.all false
set_option maxRecDepth 100000
set_option maxHeartbeats 1000000
/-! UX4: _law_result(lambda: e). -/
namespace U
open PySem L2 PyProof.Rows
/-- how a tuple's stores go: none, exchanged, or not known -/
def swNames (nm : List (Str × NameKind)) (ts : List Expr) : List Str :=
  ts.filterMap fun
    | .Name id pos => if nm.lookup id == some .local && pos.line == (ts.head?.map (·.pos.line)).getD 0 then some id else none
    | _ => none
def swB (nm : List (Str × NameKind)) (ts vs : List Expr) : Option (Option (List Str)) :=
  if !(ts.length == 2 || ts.length == 3) || vs.length != ts.length then some none
  else if !(vs.all plainE) then some none
  else if (swNames nm ts).length != ts.length || (swNames nm ts).eraseDups.length != (swNames nm ts).length then some none
  else if vs.all (foldedForSure 8) then some none
  else if vs.all (constantsAlone 8) then none
  else some (some (swNames nm ts))
theorem any_star {vs : List Expr} : (vs.any fun | .Starred .. => true | _ => false) = !(vs.all plainE) := by
  induction vs with
  | nil => rfl
  | cons e r ih =>
    rw [List.any_cons, List.all_cons, ih, Bool.not_and]
    cases e <;> rfl
theorem swB_ok {env : Env} (hk : env.scope.kind = .function) {ts vs : List Expr} {k k2 : Nat} {p p2 : Pos} {r : Option (List Str)} (h : swB env.scope.names ts vs = some r) : swappedStores [.Tuple ts k p] (.Tuple vs k2 p2) env = pure r := by
  have hb : env.blockKind = .function := by
    unfold Env.blockKind
    rw [hk]
    rfl
  have hne : (env.blockKind != .function) = false := by rw [hb]; rfl
  have key : swappedStores [.Tuple ts k p] (.Tuple vs k2 p2) env = (if (!(ts.length == 2 || ts.length == 3) || vs.length != ts.length || env.blockKind != .function) = true then pure none
      else if (vs.any fun | .Starred .. => true | _ => false) = true then pure none
      else if ((swNames env.scope.names ts).length != ts.length || (swNames env.scope.names ts).eraseDups.length != (swNames env.scope.names ts).length) = true then pure none
      else if vs.all (foldedForSure 8) = true then pure none
      else if vs.all (constantsAlone 8) = true then (do unsupported "assign.tuple-of-constant-expressions:order-of-the-stores"; return some (swNames env.scope.names ts))
      else pure (some (swNames env.scope.names ts))) := by
    rfl
  rw [key, hne, Bool.or_false, any_star]
  unfold swB at h
  split at h
  · rename_i q
    cases h
    rw [if_pos q]
  · rename_i q
    rw [if_neg q]
    split at h
    · rename_i q
      cases h
      rw [if_pos q]
    · rename_i q
      rw [if_neg q]
      split at h
      · rename_i q
        cases h
        rw [if_pos q]
      · rename_i q
        rw [if_neg q]
        split at h
        · rename_i q
          cases h
          rw [if_pos q]
        · rename_i q
          rw [if_neg q]
          split at h
          · cases h
          · rename_i q
            cases h
            rw [if_neg q]
theorem sw_nones {env : Env} (hk : env.scope.kind = .function) {x y : Str} {p1 p2 pt q1 q2 pv : Pos} {kk j1 j2 kv : Nat} : swappedStores [.Tuple [.Name x p1, .Name y p2] kk pt] (.Tuple [.Constant .none j1 q1, .Constant .none j2 q2] kv pv) env = pure none := by
  refine swB_ok hk (r := none) ?_
  unfold swB
  split
  · rfl
  · split
    · rfl
    · split
      · rfl
      · rw [if_pos (by rfl)]
/-- what is known of the function that calls a lambda and keeps its exception -/
structure LD where
  g : Addr
  pg : Arguments
  bg : List Stmt
  tail : List Stmt
  sc : Scope
  Ng : List Str
  c0 : Addr
  P : Addr
  CU : Addr
  k : Nat
  body : MSs
  cdv : Value
  Φ' : Fn
/-- the readings of the tail -/
def cT (c : C) (b : Nat) : C := ⟨c.K, c.mg, fun _ _ => False, b, fun _ => False, [], c.T⟩
def tlT (c : C) (Φ' : Fn) (body : MSs) : TS := fun D σ H => ∃ b, lowS (cT c b) (evSs Φ' b body) D σ H
abbrev ends (Q : VK) : Ends := { nx := fun _ H' => Q .non H', rt := Q }
def vvT (c : C) (L : LD) (Q : VK) : VK := fun v H => ∀ σ : L2.St, σ.length = L.Ng.length → σ[1]? = some (some .non) → σ[2]? = some (some v) → tlT c L.Φ' L.body (ends Q) σ H
def eeT (c : C) (L : LD) (Q : VK) : XK := fun cls d H => d = none ∧ PySem.W.exmOne c.K cls (.ref L.CU) = some true ∧ ∀ a, H a = none → ∀ σ : L2.St, σ.length = L.Ng.length → σ[1]? = some (some (.ref a)) → tlT c L.Φ' L.body (ends Q) σ (upd H a (ExcH cls a))
def TRes (c : C) (L : LD) : (XK → Hp → VK → Prop) → Hp → VK → Prop := fun tl H Q => ∀ H2, (∀ b o, H b = some o → H2 b = some o) → ∀ Q' : VK, (∀ v H', vvT c L Q v H' → Q' v H') → tl (eeT c L Q) H2 Q'
/-- the text's shape -/
def resTail : List Stmt → Option (List Stmt)
  | .Assign [.Tuple [.Name r1 _, .Name r2 _] _ _] (.Tuple [.Constant .none _ _, .Constant .none _ _] _ _) _ ::
    .Try [.Assign [.Name r3 _] (.Call (.Name f _) [] [] _) _] [.ExceptHandler (some (.Name u _)) (some e1) [.Assign [.Name r4 _] (.Name e2 _) _] _] [] [] _ :: tail =>
      if r1 = ("raised" : Str) ∧ r2 = ("result" : Str) ∧ r3 = ("result" : Str) ∧ f = ("call" : Str) ∧ u = ("UnitError" : Str) ∧ e1 = ("e" : Str) ∧ r4 = ("raised" : Str) ∧ e2 = ("e" : Str) then some tail else none
  | _ => none
def resNs (N : List Str) : Bool := decide (N[0]? = some ("call" : Str)) && decide (N[1]? = some ("raised" : Str)) && decide (N[2]? = some ("result" : Str)) && decide (N[3]? = some ("e" : Str))
def resSc (sc : Scope) : Bool := decide (sc.names.lookup ("raised" : Str) = some .local) && decide (sc.names.lookup ("result" : Str) = some .local) && decide (sc.names.lookup ("e" : Str) = some .local) && decide (sc.names.lookup ("call" : Str) = some .local) && decide (sc.names.lookup ("UnitError" : Str) = some .globalImplicit)
section
variable {Φ : Fn} {fns : Str → Option (List Str)} {cons : Str → Option D} {X : Cx} {c : C} {pos : Pos} {L : LD}
abbrev resCx (X : Cx) (L : LD) (s : Shared) (H : Hp) : Cx := cxOf C8.CX0 X.prog X.w X.K X.mg X.base L.Ng resName L.sc L.g L.cdv X.A X.stack s H C8.E0
theorem res_gives {q : Str} (hsh : resTail L.bg = some L.tail) (hns : resNs L.Ng = true) (hsc : resSc L.sc = true) (S : FnScope L.Ng ["call"] L.sc) (hK : c.K = X.K) (hu : X.mg "UnitError" = some (.ref L.CU))
    (ht : ∀ (s : Shared) (H : Hp) (b : Nat), PSs (resCx X L s H).nox L.tail (lowS (cT c b) (evSs L.Φ' b L.body))) : LamX.GivesTo X L.Ng resName L.sc L.g L.cdv L.bg "call" q (TRes c L) := by
  intro f c' s H Q tl act hc h
  unfold resNs at hns
  unfold resSc at hsc
  simp only [Bool.and_eq_true, decide_eq_true_eq] at hns hsc
  obtain ⟨⟨⟨n0, n1⟩, n2⟩, n3⟩ := hns
  obtain ⟨⟨⟨⟨k1, k2⟩, k3⟩, k0⟩, ku⟩ := hsc
  generalize L.bg = bg at hsh ⊢
  unfold resTail at hsh
  split at hsh
  · rename_i r1 p1 r2 p2 kk pt j1 q1 j2 q2 kv pv pa r3 p3 fn pf pc pa2 u pu e1 r4 p4 e2 p5 pa3 ph ptr tail
    obtain ⟨⟨rfl, rfl, rfl, rfl, rfl, rfl, rfl, rfl⟩, et⟩ := ite_some hsh
    rw [et]
    have len4 : 4 ≤ L.Ng.length := (List.getElem?_eq_some_iff.mp n3).1
    have st1 : PS (resCx X L s H).nox (.Assign [.Tuple [.Name "raised" p1, .Name "result" p2] kk pt] (.Tuple [.Constant .none j1 q1, .Constant .none j2 q2] kv pv) pa) _ :=
      ps_asg (X := (resCx X L s H).nox) (pe_tup (pa_cons pe_non (pa_cons pe_non pa_nil))) (pg_tup (X := (resCx X L s H).nox) rfl (pgs_cons (pg_name (X := (resCx X L s H).nox) (i := 1) S.nd n1 (.inl k1) (.inr k1)) (pgs_cons (pg_name (X := (resCx X L s H).nox) (i := 2) S.nd n2 (.inl k2) (.inr k2)) pgs_nil))) (by rfl) (sw_nones S.kind) (by rfl)
    have st2 := ps_keep (X := (resCx X L s H).nox) (x := "UnitError") (n := "e") (y := "raised") (c := .ref L.CU) (i := 3) (j := 1) (np := pu) (pos := ptr) (pos' := ph) (yp := p4) (np2 := p5) (ap := pa3) (Wout := fun _ _ _ _ => False)
      (body := [.Assign [.Name "result" p3] (.Call (.Name "call" pf) [] [] pc) pa2])
      (tb := fun W D σ H => ∃ Ech : XK, (∀ cls d σ' H', Ech cls d H' → W cls d σ' H') ∧ σ[0]? = some (some (.ref f)) ∧ H c' = some (LamX.CodeO c' q) ∧ tl Ech H (fun v H' => D.nx (σ.set 2 (some v)) H'))
      rfl rfl rfl S.nd n3 n1 k3 k1 ⟨ku, by decide, .inl hu⟩ LamX.takes0 (by decide) (by decide) (fun W pn xe tk _ => ⟨fun pins s' σ H' D I h' => by
        obtain ⟨Ech, hW, h1, h2, h3⟩ := h'
        exact (pss_one (ps_set (X := (resCx X L s H).nox.tr pn xe) (i := 2) (pos := pa2) (pos' := p3) S.nd n2 (.inl k2) (act W pn xe Ech pf pc tk hW) (by rfl) (.inr k2))).run pins s' σ H' D I ⟨h1, h2, h3⟩⟩)
    have st3 : PSs (resCx X L s H).nox L.tail (fun D σ H => σ.length = L.Ng.length → tlT c L.Φ' L.body D σ H) := ⟨fun pins s' σ H' D I hh => by
      obtain ⟨b, hb⟩ := hh I.len
      exact (ht s H b).run pins s' σ H' D I hb⟩
    refine ⟨_, pss_cons st1 (pss_cons st2 st3), ?_⟩
    have l0 : (L2.start L.Ng [V.ref f]).length = L.Ng.length := by
      unfold L2.start
      simp
      omega
    have s0 : (L2.start L.Ng [V.ref f])[0]? = some (some (.ref f)) := rfl
    refine ⟨by show 2 ≤ sizeLine; rw [sizeLine_eq]; omega, fun p hp => ⟨p, _, rfl, .inl (.inl upd_same), rfl, _, _, rfl, _, _, rfl, rfl, ?_⟩⟩
    have np : c' ≠ p := fun z => by rw [z, hp] at hc; cases hc
    refine ⟨eeT c L Q, fun cls d σ' H' hx => ?_, ?_, by rw [upd_ne np]; exact hc, h _ (fun b o e => by rw [upd_ne (fun z => by rw [z, hp] at e; cases e)]; exact e) _ fun v H' hv hl => ?_⟩
    · obtain ⟨rfl, hx1, hx2⟩ := hx
      refine ⟨true, (show PySem.W.exmOne X.K cls (.ref L.CU) = some true by rw [← hK]; exact hx1), fun _ => ⟨rfl, fun a ha hl => hx2 a ha _ hl ?_⟩, fun z => by cases z⟩
      have hl' : σ'.length = L.Ng.length := by simpa using hl
      rw [List.getElem?_set_ne (by decide), List.getElem?_set_self (by simp; omega)]
    · rw [List.getElem?_set_ne (by decide), List.getElem?_set_ne (by decide)]
      exact s0
    · have hl' : (L2.start L.Ng [V.ref f]).length = L.Ng.length := l0
      refine hv _ hl ?_ ?_
      · rw [List.getElem?_set_ne (by decide), List.getElem?_set_ne (by decide), List.getElem?_set_self (by omega)]
      · rw [List.getElem?_set_self (by simp; omega)]
  · cases hsh
end
end U

set_option Elab.async false
set_option linter.all false
set_option maxRecDepth 100000
/-! UV0: the way out of a function. -/
namespace U
open PySem L2 PyProof.Rows
/-! ### the way out -/
section
variable {c c' : C} {H H' : Hp} {ρ ρ' : List Addr} {G G' : Hd}
theorem mapM_some {α β : Type} {f : α → Option β} : ∀ {l : List α} {r : List β}, l.mapM f = some r → (l = [] ∧ r = []) ∨ ∃ a t b u, l = a :: t ∧ r = b :: u ∧ f a = some b ∧ t.mapM f = some u
  | [], r, h => by
    simp at h
    exact .inl ⟨rfl, h⟩
  | a :: t, r, h => by
    rw [List.mapM_cons] at h
    obtain ⟨b, h1, h⟩ := bind_some (show (f a).bind _ = some r from h)
    obtain ⟨u, h2, h⟩ := bind_some (show (t.mapM f).bind _ = some r from h)
    cases h
    exact .inr ⟨a, t, b, u, rfl, rfl, h1, h2⟩
theorem frzs_ok {n : Nat} {f : D → Option D} (hf : ∀ d d' v, f d = some d' → Rp c H ρ d v → Rp c H (ρ.take n) d' v) : ∀ {ds es : List D} {vs : List V}, ds.mapM f = some es → Rps c H ρ ds vs → Rps c H (ρ.take n) es vs
  | [], es, vs, h, r => by
    rcases mapM_some h with ⟨_, rfl⟩ | ⟨_, _, _, _, z, _⟩
    · rw [r.of_nil]; exact .nil
    · cases z
  | d :: ds, es, vs, h, r => by
    rcases mapM_some h with ⟨z, _⟩ | ⟨a, t, b, u, z, rfl, h1, h2⟩
    · cases z
    · cases z
      obtain ⟨v, q, rfl, r1, r2⟩ := r.of_cons
      exact .cons (hf _ _ _ h1 r1) (frzs_ok hf h2 r2)
theorem notTake {n i : Nat} {a : Addr} (nd : ρ.Nodup) (h : ρ[i]? = some a) (hi : n ≤ i) : a ∉ ρ.take n := by
  intro z
  obtain ⟨j, hj, e⟩ := List.mem_iff_getElem.mp z
  rw [List.length_take] at hj
  rw [List.getElem_take] at e
  obtain ⟨q1, e1⟩ := List.getElem?_eq_some_iff.mp h
  have := (List.getElem_inj nd).mp (e.trans e1.symm)
  omega
theorem frz_ok (s : SR c H ρ G) {n : Nat} : ∀ (k : Nat) (d d' : D) (v : V), frz k n G d = some d' → Rp c H ρ d v → Rp c H (ρ.take n) d' v
  | 0, d, d', v, h, r => by
    unfold frz at h
    obtain ⟨h1, rfl⟩ := ite_some h
    exact Rp.cut d v h1 r
  | k + 1, d, d', v, h, r => by
    have ih := frz_ok s (n := n) k
    unfold frz at h
    split at h
    · rename_i i
      split at h
      · rename_i hi
        cases h
        exact Rp.cut (.ref i) v (decide_eq_true hi) r
      · rename_i hi
        unfold Rp at r
        obtain ⟨a, ha, rfl⟩ := r
        have na := notTake s.nd ha (Nat.le_of_not_lt hi)
        have nz : a ∉ c.Z := fun z => (s.zs a z).1 (List.mem_of_getElem? ha)
        split at h
        · rename_i ds hg
          obtain ⟨es, h1, rfl⟩ := map_some h
          obtain ⟨vs, x, y⟩ := s.obj i a _ ha hg
          unfold Rp
          exact ⟨a, vs, rfl, .inl x, ⟨na, nz⟩, frzs_ok (fun d d' v => ih d d' v) h1 y⟩
        · rename_i ks ds hg
          obtain ⟨es, h1, rfl⟩ := map_some h
          obtain ⟨kvs, x, k, y⟩ := s.obj i a _ ha hg
          unfold Rp
          exact ⟨a, kvs, rfl, .inl x, ⟨na, nz⟩, k, frzs_ok (fun d d' v => ih d d' v) h1 y⟩
        · rename_i cn fs ds hg
          obtain ⟨es, h1, rfl⟩ := map_some h
          obtain ⟨C, dx, fvs, m, x, k, y⟩ := s.obj i a _ ha hg
          unfold Rp
          exact ⟨a, C, dx, fvs, rfl, m, .inl x, ⟨na, nz⟩, k, frzs_ok (fun d d' v => ih d d' v) h1 y⟩
        · cases h
    · rename_i ds
      obtain ⟨es, h1, rfl⟩ := map_some h
      unfold Rp at r
      obtain ⟨a, vs, rfl, x, y⟩ := r
      unfold Rp
      exact ⟨a, vs, rfl, x, frzs_ok (fun d d' v => ih d d' v) h1 y⟩
    · obtain ⟨h1, rfl⟩ := ite_some h
      exact Rp.cut d v h1 r
/-- the callee's context -/
abbrev C.inn (c : C) (n : Nat) : C := { c with b := n, P := fun m => c.P m ∨ m = n }
theorem RepO.closedO {a : Addr} {o : DO} (h : RepO c H ρ a o) : closedO ρ.length o = true := by
  cases o with
  | lst ds => obtain ⟨vs, x, y⟩ := h; exact Rps.closed _ _ y
  | dct ks ds => obtain ⟨kvs, x, k, y⟩ := h; exact Rps.closed _ _ y
  | ins n fs ds => obtain ⟨C, dx, fvs, m, x, k, y⟩ := h; exact Rps.closed _ _ y
  | lkd ks ds => obtain ⟨o, kvs, x, k, y⟩ := h; exact Rps.closed _ _ y
theorem SR.inn (s : SR c H ρ G) : SR (c.inn G.length) H ρ G := by
  refine ⟨s.len, s.nd, fun i a o h1 h2 => (s.obj i a o h1 h2).map c (c.inn G.length) rfl rfl fun ds vs => Rps.cx (c := c) (c' := c.inn G.length) rfl rfl rfl ds vs, Nat.le_refl _, fun n hn => ?_, fun n i o hn hi h2 => ?_, s.zs, s.tb⟩
  · rcases hn with hn | hn
    · exact Nat.le_trans (s.pb n hn) s.bnd
    · exact Nat.le_of_eq hn
  · rcases hn with hn | hn
    · exact s.cl n i o hn hi h2
    · subst hn
      have hi' : i < ρ.length := by rw [s.len]; exact hi
      have q := (s.obj i _ o (List.getElem?_eq_getElem hi') h2).closedO
      rw [s.len] at q
      exact q
theorem Ext.take (s : SR c H ρ G) (e : Ext (c.inn G.length) H ρ H' ρ') : ρ'.take G.length = ρ ∧ Ext c H ρ H' ρ := by
  obtain ⟨new, e1, e2⟩ := e.more
  refine ⟨by rw [e1, ← s.len, List.take_left'] ; rfl, ⟨⟨⟨[], by simp, by simp⟩, e.keep, e.tups, e.dom, e.frzs⟩, e.zs⟩⟩
theorem SR.out (s : SR c H ρ G) (e : Ext (c.inn G.length) H ρ H' ρ') (s' : SR (c.inn G.length) H' ρ' G') : SR c H' ρ (G'.take G.length) := by
  obtain ⟨e1, e2⟩ := Ext.take s e
  have b' : G.length ≤ G'.length := s'.bnd
  have hl : (G'.take G.length).length = G.length := by rw [List.length_take]; omega
  refine ⟨by rw [hl]; exact s.len, s.nd, fun i a o h1 h2 => ?_, by rw [hl]; exact s.bnd, s.pb, fun n i o hn hi h2 => ?_, fun a ha => ⟨(s.zs a ha).1, (s'.zs a ha).2⟩, s'.tb⟩
  · have hi : i < G.length := by
      have := (List.getElem?_eq_some_iff.mp h2).1
      omega
    rw [take_get hi] at h2
    have h1' : ρ'[i]? = some a := e.get h1
    have q := s'.obj i a o h1' h2
    have k := s'.cl G.length i o (.inr rfl) hi h2
    have cutt : ∀ ds vs, closed.closeds G.length ds = true → Rps (c.inn G.length) H' ρ' ds vs → Rps c H' ρ ds vs := fun ds vs kk r => by
      have := Rps.cut ds vs kk r
      rw [e1] at this
      exact Rps.cx (c := c.inn G.length) (c' := c) rfl rfl rfl _ _ this
    cases o with
    | lst ds => obtain ⟨vs, x, y⟩ := q; exact ⟨vs, x, cutt _ _ k y⟩
    | dct ks ds => obtain ⟨kvs, x, kk, y⟩ := q; exact ⟨kvs, x, kk, cutt _ _ k y⟩
    | ins n fs ds => obtain ⟨C, dx, fvs, m, x, kk, y⟩ := q; exact ⟨C, dx, fvs, m, x, kk, cutt _ _ k y⟩
    | lkd ks ds => obtain ⟨o, kvs, x, kk, y⟩ := q; exact ⟨o, kvs, x, kk, cutt _ _ k y⟩
  · have hm : n ≤ c.b := s.pb n hn
    have hb := s.bnd
    rw [take_get (by omega)] at h2
    exact s'.cl n i o (.inl hn) hi h2
theorem SR.kept (s : SR c H ρ G) (s' : SR (c.inn G.length) H' ρ' G') : SR c H' ρ' G' := by
  have b' : G.length ≤ G'.length := s'.bnd
  exact ⟨s'.len, s'.nd, fun i a o h1 h2 => (s'.obj i a o h1 h2).map (c.inn G.length) c rfl rfl fun ds vs => Rps.cx (c := c.inn G.length) (c' := c) rfl rfl rfl ds vs, Nat.le_trans s.bnd b', s.pb, fun n i o hn => s'.cl n i o (.inl hn), s'.zs, s'.tb⟩
end
/-- one call upon plain data gives what is wanted of the body -/
theorem callF_fin {Φ : Fn} {fd : FDef} {c : C} {H : Hp} {ρ : List Addr} {G : Hd} {ds : List D} {Q : VK} (s : SR c H ρ G) (h : Fin c (Rp c) (callF Φ fd ds G) H ρ Q) :
    ds.length = fd.n ∧ Fin (c.inn G.length) (RF (c.inn G.length)) (evSs Φ G.length fd.body (List.replicate fd.pre none ++ (ds.map some ++ List.replicate (fd.slots - ds.length) none)) G) H ρ (endOf { nx := fun _ H' => Q .non H', rt := Q }) := by
  unfold callF at h
  by_cases hl : ds.length = fd.n
  · rw [if_pos hl] at h
    refine ⟨hl, ?_⟩
    cases g : evSs Φ G.length fd.body (List.replicate fd.pre none ++ (ds.map some ++ List.replicate (fd.slots - ds.length) none)) G with
    | bad => rw [g] at h; exact h
    | exc e G' =>
      rw [g] at h
      exact fun H' ρ' e' s' => h H' ρ (Ext.take s e').2 (SR.out s e' s')
    | ok fl G' =>
      rw [g] at h
      cases fl with
      | nx τ =>
        intro x H' ρ' e' s' r
        cases x with
        | nx σ => exact h .non H' ρ (Ext.take s e').2 (SR.out s e' s') rfl
        | _ => exact r.elim
      | rt d =>
        simp only at h
        intro x H' ρ' e' s' r
        cases x with
        | rt v =>
          have r : Rp (c.inn G.length) H' ρ' d v := r
          by_cases hk : fd.keep = true
          · rw [if_pos hk] at h
            exact h v H' ρ' ⟨⟨e'.more, e'.keep, e'.tups, e'.dom, e'.frzs⟩, e'.zs⟩ (SR.kept s s') (Rp.cx (c := c.inn G.length) (c' := c) rfl rfl rfl _ _ r)
          · rw [if_neg hk] at h
            cases g2 : frz 4 G.length G' d with
            | none => rw [g2] at h; exact h.elim
            | some d' =>
              rw [g2] at h
              have q := frz_ok s' 4 d d' v g2 r
              rw [(Ext.take s e').1] at q
              exact h v H' ρ (Ext.take s e').2 (SR.out s e' s') (Rp.cx (c := c.inn G.length) (c' := c) rfl rfl rfl _ _ q)
        | _ => exact r.elim
      | bk τ => exact h.elim
      | ct τ => exact h.elim
  · rw [if_neg hl] at h
    exact h.elim
end U

set_option Elab.async false
set_option linter.all false
set_option maxRecDepth 100000
set_option maxHeartbeats 1000000
/-! UX5: _law_result(lambda: e), upon plain data. -/
namespace U
open PySem L2 PyProof.Rows
/-- other wishes -/
abbrev C.ex (c : C) (EX : Str → Hp → Prop) : C := { c with EX := EX }
section
variable {c : C} {H H' : Hp} {ρ ρ' : List Addr} {G : Hd} {σ : L2.St} {τ : Tau} {EX : Str → Hp → Prop}
theorem SR.ex (s : SR c H ρ G) : SR (c.ex EX) H ρ G :=
  ⟨s.len, s.nd, fun i a o h1 h2 => (s.obj i a o h1 h2).map c (c.ex EX) rfl rfl fun ds vs => Rps.cx (c := c) (c' := c.ex EX) rfl rfl rfl ds vs, s.bnd, s.pb, s.cl, s.zs, s.tb⟩
theorem SR.unex (s : SR (c.ex EX) H ρ G) : SR c H ρ G :=
  ⟨s.len, s.nd, fun i a o h1 h2 => (s.obj i a o h1 h2).map (c.ex EX) c rfl rfl fun ds vs => Rps.cx (c := c.ex EX) (c' := c) rfl rfl rfl ds vs, s.bnd, s.pb, s.cl, s.zs, s.tb⟩
theorem Rp.unex {d : D} {v : V} (h : Rp (c.ex EX) H ρ d v) : Rp c H ρ d v := Rp.cx (c := c.ex EX) (c' := c) rfl rfl rfl d v h
theorem Ext.unex (e : Ext (c.ex EX) H ρ H' ρ') : Ext c H ρ H' ρ' := ⟨⟨e.more, e.keep, e.tups, e.dom, e.frzs⟩, e.zs⟩
theorem Ext.exc (e : Ext c H ρ H' ρ') : Ext (c.ex EX) H ρ H' ρ' := ⟨⟨e.more, e.keep, e.tups, e.dom, e.frzs⟩, e.zs⟩
theorem EnvR.exc (h : EnvR c H ρ σ τ) : EnvR (c.ex EX) H ρ σ τ := h.map fun d v => Rp.cx (c := c) (c' := c.ex EX) rfl rfl rfl d v
end
/-- a call that raises nothing, within any wish -/
theorem Fin.calm {α β : Type} {c : C} {EX : Str → Hp → Prop} {R R' : Hp → List Addr → α → β → Prop} {o : Out α} {H : Hp} {ρ : List Addr} {Q : β → Hp → Prop} (hc : ∀ e G, o ≠ .exc e G) (hR : ∀ H ρ a x, R' H ρ a x → R H ρ a x) (f : Fin c R o H ρ Q) : Fin (c.ex EX) R' o H ρ Q := by
  cases o with
  | ok a G => exact fun x H' ρ' e s r => f x H' ρ' (Ext.unex e) (SR.unex s) (hR _ _ _ _ r)
  | exc e G => exact absurd rfl (hc e G)
  | bad => exact f
/-- a lambda's name -/
def lamName (q : Str) : Str := q ++ "<lambda>"
/-- all that is known where a lambda is handed on -/
structure LOk (L : LD) (Φ : Fn) (fns : Str → Option (List Str)) (cons : Str → Option D) (X : Cx) (c : C) : Prop where
  mg : X.mg resName = some (.ref L.g)
  kp : PySem.W.keepIn X.K (.ref L.g) = true
  fun_ : ∃ (oc : Value) (od : Option Addr) (dV kV doc pm : Value) (an : Option Addr) (ct : Value) (osl : Array (Option Value)), X.K.lookup L.g = some ⟨oc, od, .func (PySem.W.fnOf resName resName L.pg L.bg L.sc dV kV doc pm an L.cdv ct), osl⟩ ∧ L2.Binds X.K (PySem.W.fnOf resName resName L.pg L.bg L.sc dV kV doc pm an L.cdv ct) ["call"] []
  cd : PySem.W.codeIn X.K L.cdv resName = true
  sc : FnScope L.Ng ["call"] L.sc
  ns : resNs L.Ng = true
  ss : resSc L.sc = true
  sh : resTail L.bg = some L.tail
  cu : X.mg "UnitError" = some (.ref L.CU)
  cc : cons "UnitError" = some (.glo "UnitError")
  tl : ∀ (s : Shared) (H : Hp) (b : Nat), PSs (resCx X L s H).nox L.tail (lowS (cT c b) (evSs L.Φ' b L.body))
  tb : LamX.TabB X.base X.mg L.c0 L.P
  code : X.env.code = .ref L.c0
  mem : (L.P, lamName X.env.qual) ∈ c.T
  uniq : ∀ p ∈ c.T, p.1 = L.P → p.2 = lamName X.env.qual
  room : Room (L.k + 2) X.A
  fn : ∀ f ps, fns f = some ps → ∃ a fd, X.mg f = some (.ref a) ∧ PySem.W.keepIn X.K (.ref a) = true ∧ (∀ n, n ≤ ps.length → KBn X.K fd ps n (ps.drop n) (fun us ws => us ++ ws) (fun us ws => us ++ ws)) ∧ FnOk X.prog X.w X.K X.mg X.base (L2.CX X.prog X.w) L.k a fd ps (lowSp X.K X.mg c.T ps.length (Φ f))
  res : ∀ ds G, Φ resName ds G = .bad ∨ Φ resName ds G = callF L.Φ' ⟨2, L.Ng.length - 1, false, L.body, 1⟩ ds G
  resx : ∀ ds G, Φ resX ds G = .bad ∨ Φ resX ds G = callF L.Φ' ⟨1, L.Ng.length - 1, false, L.body, 1⟩ ds G
section
variable {Φ : Fn} {fns : Str → Option (List Str)} {cons : Str → Option D} {X : Cx} {c : C} {pos : Pos} {L : LD}
theorem LOk.blk (l : LOk L Φ fns cons X c) (s : Shared) (H : Hp) (scope : Scope) (C : Addr) (cl : List (Str × Addr)) (fp : List Addr) : LOk L Φ fns cons (X.blk s H scope (compEnvC scope cl C X.env) fp) c.nox :=
  ⟨l.mg, l.kp, l.fun_, l.cd, l.sc, l.ns, l.ss, l.sh, l.cu, l.cc, l.tl, l.tb, l.code, l.mem, l.uniq, l.room, l.fn, l.res, l.resx⟩
/-- a lambda without parameters -/
def noPars (p : Arguments) : Bool := p.posonlyargs.isEmpty && p.args.isEmpty && p.vararg.isNone && p.kwonlyargs.isEmpty && p.kwarg.isNone && p.defaults.isEmpty && p.kw_defaults.isEmpty
theorem noPars_eq {p : Arguments} (h : noPars p = true) : p = ⟨[], [], none, [], [], none, []⟩ := by
  obtain ⟨a, b, d, e, f, g, k⟩ := p
  unfold noPars at h
  simp only [Bool.and_eq_true, List.isEmpty_iff, Option.isNone_iff_eq_none] at h
  obtain ⟨⟨⟨⟨⟨⟨rfl, rfl⟩, rfl⟩, rfl⟩, rfl⟩, rfl⟩, rfl⟩ := h
  rfl
/-- the tail, entered with what it was handed -/
theorem tail_in {Z : List Addr} {P : Nat → Prop} {H : Hp} {ρ : List Addr} {G : Hd} {ds : List D} {vs : List V} {n : Nat} {Q : VK} {σ : L2.St} (h4 : 4 ≤ L.Ng.length) (s : SR (c.zp Z P) H ρ G) (r : Rps (c.zp Z P) H ρ ds vs) (hl : σ.length = L.Ng.length) (hn : n = ds.length) (hn3 : n ≤ 2)
    (hv : ∀ i v, vs[i]? = some v → σ[i + 1]? = some (some v)) (f : Fin (c.zp Z P) (Rp (c.zp Z P)) (noexc (callF L.Φ' ⟨n, L.Ng.length - 1, false, L.body, 1⟩ ds G)) H ρ Q) : tlT c L.Φ' L.body (ends Q) σ H := by
  have f0 : Fin (c.zp Z P) (Rp (c.zp Z P)) (callF L.Φ' ⟨n, L.Ng.length - 1, false, L.body, 1⟩ ds G) H ρ Q := by
    cases g : callF L.Φ' ⟨n, L.Ng.length - 1, false, L.body, 1⟩ ds G with
    | ok d G' => rw [g] at f; exact f
    | exc _ _ => rw [g] at f; exact f.elim
    | bad => rw [g] at f; exact f
  obtain ⟨_, f1⟩ := callF_fin s f0
  have calm : ∀ e G', evSs L.Φ' G.length L.body (List.replicate 1 none ++ (ds.map some ++ List.replicate (L.Ng.length - 1 - ds.length) none)) G ≠ .exc e G' := by
    intro e G' z
    have : callF L.Φ' ⟨n, L.Ng.length - 1, false, L.body, 1⟩ ds G = .exc e (G'.take G.length) := by
      unfold callF
      rw [if_pos hn.symm]
      simp only [z]
    rw [this] at f
    exact f
  refine ⟨G.length, Z, fun m => P m ∨ m = G.length, ρ, G, List.replicate 1 none ++ (ds.map some ++ List.replicate (L.Ng.length - 1 - ds.length) none), ?_, ?_, ?_⟩
  · exact SR.ex (EX := fun _ _ => False) (SR.inn s)
  · refine ⟨by simp [hl]; omega, fun i d h => ?_⟩
    cases i with
    | zero => simp at h
    | succ i =>
      have h : (ds.map some ++ List.replicate (L.Ng.length - 1 - ds.length) none)[i]? = some (some d) := by simpa using h
      by_cases hi : i < ds.length
      · rw [List.getElem?_append_left (by simpa using hi), List.getElem?_map] at h
        obtain ⟨d', h1, h2⟩ := map_some h
        cases h2
        obtain ⟨v, hv1, rv⟩ := r.get h1
        exact ⟨v, hv i v hv1, Rp.cx (c := c.zp Z P) (c' := (cT c G.length).zp Z fun m => P m ∨ m = G.length) rfl rfl rfl _ _ rv⟩
      · rw [List.getElem?_append_right (by simpa using hi)] at h
        have := List.mem_of_getElem? h
        rw [List.mem_replicate] at this
        cases this.2
  · exact Fin.calm (c := (c.zp Z P).inn G.length) (EX := fun _ _ => False) calm (fun H ρ a x => by
      cases a <;> cases x <;> first | exact id | exact EnvR.map (c := (cT c G.length).zp Z fun m => P m ∨ m = G.length) (c' := (c.zp Z P).inn G.length) |> fun g h => g h fun d v => Rp.cx (c := (cT c G.length).zp Z fun m => P m ∨ m = G.length) (c' := (c.zp Z P).inn G.length) rfl rfl rfl d v | exact fun h => Rp.cx (c := (cT c G.length).zp Z fun m => P m ∨ m = G.length) (c' := (c.zp Z P).inn G.length) rfl rfl rfl _ _ h) f1
/-- what the lambda's body is wished for -/
def lamT (c : C) (f : Tau → Hd → Out D) : XK → TE := fun E σ H Q => ∃ EX, (∀ cls d H', exK c.mg EX cls d H' → E cls d H') ∧ low (c.ex EX) f σ H Q
theorem se_catch (ok : XOk Φ fns cons X c) (l : LOk L Φ fns cons X c) {params : Arguments} {body : Expr} {scope : Scope} {p lpos : Pos} {m : ME} {ns : List Str} (hg : Gl X resName) (hS : LamX.LamS X.env.scope scope) (hp : noPars params = true) (hns : ∀ n ∈ ns, cons n = some (.glo n))
    (hbody : ∀ (Y : Cx) (d : C), XOk Φ fns cons Y d → Y.env.scope = scope → Y.N = X.N → PE Y body (low d (evE Φ d.b m))) :
    PE X (.Call (.Name resName p) [.Lambda params body scope lpos] [] pos) (low c (evE Φ c.b (.catch m ns))) := by
  have hp := noPars_eq hp
  subst hp
  obtain ⟨oc, od, dV, kV, doc, pm, an, ct, osl, lk, hb⟩ := l.fun_
  have hns' := l.ns
  have hss' := l.ss
  unfold resNs at hns'
  unfold resSc at hss'
  simp only [Bool.and_eq_true, decide_eq_true_eq] at hns' hss'
  have h4 : 4 ≤ L.Ng.length := (List.getElem?_eq_some_iff.mp hns'.2).1
  have gv := res_gives (q := X.env.qual ++ "<lambda>") l.sh l.ns l.ss l.sc ok.K l.cu l.tl
  have call := LamX.pe_lamcall (T := c.T) (TT := TRes c L) (k := L.k) (t := lamT c (evE Φ c.b m)) (p := p) (lpos := lpos) (pos := pos) (body := body) (scope := scope) (params := ⟨[], [], none, [], [], none, []⟩) hg l.mg l.kp lk l.cd hb l.sc hns'.1.1.1 (.inl hss'.1.2) gv l.tb l.code (show (L.P, X.env.qual ++ "<lambda>") ∈ c.T from l.mem) (show ∀ p ∈ c.T, p.1 = L.P → p.2 = X.env.qual ++ "<lambda>" from l.uniq) l.room hS rfl (fun _ _ _ _ _ => rfl) (fun A outer s H E f c' hr => ⟨fun pins s' σ H' Q I hq => by
    obtain ⟨EX, hE, hq⟩ := hq
    refine (hbody (LamX.lamCx X A outer s H E scope f c') (c.ex EX) ⟨ok.K, ok.mg, rfl, by
      have := hr.un
      show (A.deeper (LamX.lamEnv X scope s.heap.objs.size f c')).units + 64 < cLine
      omega, ok.nd, hS.kind, ok.con, ok.blt, fun g qs hq => ?_, ok.exc, (takes_of (E := E) rfl rfl rfl rfl).imp fun cls d σ H h => hE cls d H h, passes_of (K := fun e s'' => L2.CX X.prog X.w outer H s E e s'') rfl⟩ rfl rfl).run pins s' σ H' Q I hq
    obtain ⟨a, fd, q1, q2, q3, q4⟩ := l.fn g qs hq
    exact ⟨a, fd, L.k, q1, q2, q3, q4, hr⟩⟩) (by decide) (by decide) (by decide)
  refine call.weak fun σ H Q ⟨Z, P, ρ, G, τ, s, w, f⟩ => ?_
  rw [evE] at f
  refine ⟨s.tb, fun H1 eN T1 => ?_⟩
  obtain ⟨e1, s1⟩ := s.extN eN T1
  intro H2 ext2 Q' hQ'
  obtain ⟨e2, s2⟩ := s1.extN (fun b o h _ => ext2 b o h) (T1.ext ext2)
  have e12 := e1.trans e2
  have run : ∀ {ds : List D} {vs : List V} {n : Nat} {nm : Str} {H' : Hp} {ρ' : List Addr} {G' : Hd} {σ' : L2.St}, (∀ ds G, Φ nm ds G = .bad ∨ Φ nm ds G = callF L.Φ' ⟨n, L.Ng.length - 1, false, L.body, 1⟩ ds G) → n = ds.length → n ≤ 2 → Ext (c.zp Z P) H ρ H' ρ' → SR (c.zp Z P) H' ρ' G' → Rps (c.zp Z P) H' ρ' ds vs → σ'.length = L.Ng.length →
      (∀ i v, vs[i]? = some v → σ'[i + 1]? = some (some v)) → Fin (c.zp Z P) (Rp (c.zp Z P)) (noexc (Φ nm ds G')) H ρ Q → tlT c L.Φ' L.body (ends Q) σ' H' := by
    intro ds vs n nm H' ρ' G' σ' hc hn hn2 ex s' r hl hv f
    rcases hc ds G' with z | z
    · rw [z] at f; exact f.elim
    · rw [z] at f
      exact tail_in h4 s' r hl hn hn2 hv (Fin.ext f ex)
  refine ⟨fun e H' => ns.contains e = true ∧ ∀ C, c.mg e = some (.ref C) → ∀ a, H' a = none → ∀ σ : L2.St, σ.length = L.Ng.length → σ[1]? = some (some (.ref a)) → tlT c L.Φ' L.body (ends Q) σ (upd H' a (ExcH (.ref C) a)), fun cls d H' ⟨e, C, hm, e3, e4, hc, hx⟩ => ?_, Z, P, ρ, G, τ, SR.ex s2, EnvR.exc (w.ext e12), ?_⟩
  · subst e3 e4
    refine ⟨rfl, ?_, hx C hm⟩
    obtain ⟨C', q1, _, _, _, _, _, _, q8⟩ := (ok.exc e (hns e (List.contains_iff_mem.mp hc))).ex
    obtain ⟨D', k1, _, k3⟩ := q8 "UnitError" l.cc
    have eC : C = C' := by
      rw [ok.mg, q1] at hm
      cases hm
      rfl
    have eD : L.CU = D' := by
      have := l.cu
      rw [k1] at this
      cases this
      rfl
    rw [eC, eD, ok.K, k3]
    unfold excSub
    simp
  · cases g : evE Φ c.b m τ G with
    | bad => rw [g] at f; exact f
    | ok d G' =>
      rw [g] at f
      simp only at f
      intro v H' ρ' e' s' r
      have r2 : Rp (c.zp Z P) H' ρ' d v := Rp.unex (c := c.zp Z P) r
      clear r
      have e' : Ext (c.zp Z P) H2 ρ H' ρ' := Ext.unex (c := c.zp Z P) e'
      have s' : SR (c.zp Z P) H' ρ' G' := SR.unex (c := c.zp Z P) s'
      refine hQ' v H' fun σ' hl h1 h2 => run (ds := [.non, d]) (vs := [.non, v]) l.res rfl (Nat.le_refl _) (e12.trans e') s' (.cons rfl (.cons r2 .nil)) hl (fun i u hu => ?_) f
      match i, hu with
      | 0, hu => cases hu; exact h1
      | 1, hu => cases hu; exact h2
      | i + 2, hu => simp at hu
    | exc e G' =>
      rw [g] at f
      simp only at f
      intro H' ρ' e' s'
      have e' : Ext (c.zp Z P) H2 ρ H' ρ' := Ext.unex (c := c.zp Z P) e'
      have s' : SR (c.zp Z P) H' ρ' G' := SR.unex (c := c.zp Z P) s'
      by_cases hc : ns.contains e = true
      · rw [if_pos hc] at f
        refine ⟨hc, fun C hm a ha σ' hl h1 => ?_⟩
        have rx : Rp (c.zp Z P) (upd H' a (ExcH (.ref C) a)) ρ' (.exc e) (.ref a) := by
          unfold Rp
          exact ⟨a, C, rfl, hm, .inl upd_same, s'.notZ ha⟩
        refine run (ds := [.exc e]) (vs := [.ref a]) l.resx rfl (by decide) ((e12.trans e').trans (s'.ext ha)) (s'.new ha) (.cons rx .nil) hl (fun i u hu => ?_) f
        match i, hu with
        | 0, hu => cases hu; exact h1
        | i + 1, hu => simp at hu
      · rw [if_neg hc] at f
        exact f.elim
end
end U

set_option Elab.async false
set_option linter.all false
set_option maxRecDepth 100000
/-! UO: from the text's expressions to the small language. -/
namespace U
open PySem L2 PyProof.Rows

structure Sg where
  fns : List (Str × List Str)
  cons : List (Str × D)
  hints : List (Nat × Nat)
  lam : Bool

/-- the place of a name -/
def ixOf : List Str → Str → Option Nat
  | [], _ => none
  | y :: r, x => if y = x then some 0 else (ixOf r x).map (· + 1)
theorem ixOf_get : ∀ {N : List Str} {x : Str} {i : Nat}, ixOf N x = some i → N[i]? = some x
  | [], _, _, h => by cases h
  | y :: r, x, i, h => by
    unfold ixOf at h
    split at h
    · rename_i e
      cases h
      rw [e]
      rfl
    · obtain ⟨j, h1, rfl⟩ := map_some h
      have ih := ixOf_get h1
      simpa using ih

def okName (x : Str) : Bool := !(x == ("__debug__" : Str)) && !(x == ("__classdict__" : Str)) && !(x == ("__name__" : Str))
theorem okName_of {x : Str} (h : okName x = true) : (x == ("__debug__" : Str)) = false ∧ (x == ("__classdict__" : Str)) = false ∧ x ≠ ("__name__" : Str) := by
  unfold okName at h
  simp only [Bool.and_eq_true, Bool.not_eq_true'] at h
  exact ⟨h.1.1, h.1.2, beq_eq_false_iff_ne.mp h.2⟩
def isVis (nm : List (Str × NameKind)) (x : Str) : Bool := match nm.lookup x with
  | some .local => true
  | some .cell => true
  | some .free => true
  | _ => false
def isGl (nm : List (Str × NameKind)) (x : Str) : Bool := match nm.lookup x with
  | some .globalImplicit => true
  | _ => false
theorem vis_of {sc : Scope} {x : Str} (h : isVis sc.names x = true) : Vis sc x := by
  unfold isVis at h
  unfold Vis
  split at h
  · rename_i e; exact .inl e
  · rename_i e; exact .inr (.inl e)
  · rename_i e; exact .inr (.inr e)
  · cases h
theorem gl_of {X : Cx} {x : Str} (h : isGl X.env.scope.names x = true) : Gl X x := by
  unfold isGl at h
  unfold Gl Env.kindOf
  split at h
  · assumption
  · cases h
def tyName (x : Str) : Option String := ([("int", "int"), ("bool", "bool"), ("str", "str"), ("tuple", "tuple"), ("list", "list")] : List (Str × String)).lookup x
theorem tyName_ok {x : Str} {n : String} (h : tyName x = some n) : bootBuiltins x = some (.type n) ∧ x ∈ bltNames := by
  have m := lookup_mem h
  simp only [List.mem_cons, Prod.mk.injEq, List.not_mem_nil, or_false] at m
  rcases m with ⟨rfl, rfl⟩ | ⟨rfl, rfl⟩ | ⟨rfl, rfl⟩ | ⟨rfl, rfl⟩ | ⟨rfl, rfl⟩ <;> exact ⟨by decide +kernel, by decide +kernel⟩

def bopOf : Operator → Option BOp
  | .Add => some .add
  | .Sub => some .sub
  | .Mult => some .mul
  | .FloorDiv => some .fdiv
  | .Mod => some .mod
  | .Pow => some .pow
  | _ => none
theorem bopOf_ok {op : Operator} {o : BOp} (h : bopOf op = some o) : op = opPy o := by
  cases op <;> cases h <;> rfl
def copOf : CmpOp → COp
  | .Eq => .eq
  | .NotEq => .ne
  | .Lt => .lt
  | .LtE => .le
  | .Gt => .gt
  | .GtE => .ge
  | .Is => .isn
  | .IsNot => .notn
  | .In => .isin
  | .NotIn => .nin
theorem copOf_ok (op : CmpOp) : op = cmpPy (copOf op) := by cases op <;> rfl
/-- the exception classes among the module's names -/
def isGlo : Option D → Str → Bool
  | some (.glo x), n => x == n
  | _, _ => false
def glos (cons : List (Str × D)) : List Str := (cons.map (·.1)).filter fun n => isGlo (cons.lookup n) n
theorem glo_of {o : Option D} {n : Str} (h : isGlo o n = true) : o = some (.glo n) := by
  unfold isGlo at h
  split at h
  · rw [eq_of_beq h]
  · cases h
theorem glos_ok {cons : List (Str × D)} : ∀ n ∈ glos cons, cons.lookup n = some (.glo n) := fun n h => glo_of (List.mem_filter.mp h).2
/-- no display of a set behind in -/
def notSet : Expr → Bool
  | .Set .. => false
  | _ => true
theorem marks_of {op : CmpOp} {e : Expr} (h : notSet e = true) : behindInMarks op e = false := by
  cases e <;> first | rfl | cases h
theorem folded_of {e : Expr} {env : Env} (h : notSet e = true) (x : Value) : foldedSetIterable e env x = pure x := by
  cases e <;> first | rfl | cases h

structure OkE (Φ : Fn) (X : Cx) (c : C) (E : Expr → Option ME) (T : Expr → Option MB) : Prop where
  e : ∀ e m, E e = some m → PE X e (low c (evE Φ c.b m))
  t : ∀ e m, T e = some m → PT X e (lowT c (evT Φ c.b m))

def nameE (sg : Sg) (N : List Str) (nm : List (Str × NameKind)) (x : Str) : Option ME :=
  if okName x then
    if isVis nm x then (ixOf N x).map .var
    else if isGl nm x then match sg.cons.lookup x with
      | some d => some (.con d)
      | none => (tyName x).map fun n => .con (.ty n)
    else none
  else none
def constE : Const → Option ME
  | .int i => some (.con (.int i))
  | .bool b => some (.con (.bl b))
  | .none => some (.con .non)
  | .str x => some (.con (.str x))
  | _ => none
def cEs (E : Expr → Option ME) : List Expr → Option MEs
  | [] => some .nil
  | e :: es => if plainE e then (E e).bind fun m => (cEs E es).map fun ms => .cons m ms else none
def cKs (E : Expr → Option ME) : List Keyword → Option MEs
  | [] => some .nil
  | ⟨_, e, _⟩ :: r => (E e).bind fun m => (cKs E r).map fun ms => .cons m ms
def cKVs (E : Expr → Option ME) : List (Option Expr) → List Expr → Option MEs
  | [], [] => some .nil
  | some k :: ks, v :: vs => (E k).bind fun mk => (E v).bind fun mv => (cKVs E ks vs).map fun ms => .cons mk (.cons mv ms)
  | _, _ => none
def cO (E : Expr → Option ME) : Option Expr → Option MO
  | none => some .no
  | some e => (E e).map .yes
/-- and, or with more than two -/
def cBool (E : Expr → Option ME) (op : BoolOp) : List Expr → Option ME
  | [] => none
  | [a] => E a
  | a :: r => (E a).bind fun m => (cBool E op r).map fun n => match op with
    | .And => .and m n
    | .Or => .or m n
def cBoolT (T : Expr → Option MB) (op : BoolOp) : List Expr → Option MB
  | [] => none
  | [a] => T a
  | a :: r => (T a).bind fun m => (cBoolT T op r).map fun n => match op with
    | .And => .and m n
    | .Or => .or m n
def hinted (sg : Sg) (p : Pos) (m : ME) : ME := if sg.hints.contains (p.line, p.col) then .alloc m else m

section
variable {Φ : Fn} {sg : Sg} {N : List Str} {X : Cx} {c : C} {pos : Pos} {tg : Expr} {E : Expr → Option ME} {T : Expr → Option MB}
structure XO (Φ : Fn) (sg : Sg) (X : Cx) (c : C) : Prop extends XOk Φ (fun x => sg.fns.lookup x) (fun x => sg.cons.lookup x) X c where
  lam : sg.lam = true → ∃ L, LOk L Φ (fun x => sg.fns.lookup x) (fun x => sg.cons.lookup x) X c
theorem XO.k {Φ : Fn} {sg : Sg} {X : Cx} {c : C} (ok : XO Φ sg X c) : XOk Φ (fun x => sg.fns.lookup x) (fun x => sg.cons.lookup x) X c := ok.toXOk

theorem nameE_ok (ok : XO Φ sg X c) {x : Str} {m : ME} (h : nameE sg X.N X.env.scope.names x = some m) : PE X (.Name x pos) (low c (evE Φ c.b m)) := by
  unfold nameE at h
  by_cases hn : okName x = true
  · rw [if_pos hn] at h
    obtain ⟨n1, n2, n3⟩ := okName_of hn
    by_cases hv : isVis X.env.scope.names x = true
    · rw [if_pos hv] at h
      obtain ⟨i, hi, rfl⟩ := map_some h
      exact se_var (ixOf_get hi) (vis_of hv) n1 n2
    · rw [if_neg hv] at h
      by_cases hg : isGl X.env.scope.names x = true
      · rw [if_pos hg] at h
        cases e : sg.cons.lookup x with
        | some d =>
          rw [e] at h
          cases h
          exact se_glob ok.k (gl_of hg) e n1
        | none =>
          rw [e] at h
          obtain ⟨n, hn, rfl⟩ := map_some h
          obtain ⟨h1, h2⟩ := tyName_ok hn
          exact se_ty (gl_of hg) (ok.blt _ h2) h1 n3 n1
      · rw [if_neg hg] at h
        cases h
  · rw [if_neg hn] at h
    cases h
theorem constE_ok {k : Const} {j : Nat} {m : ME} (h : constE k = some m) : PE X (.Constant k j pos) (low c (evE Φ c.b m)) := by
  cases k with
  | int i => cases h; exact se_lit pe_int fun _ _ _ => rfl
  | bool i => cases h; exact se_lit pe_bl fun _ _ _ => rfl
  | none => cases h; exact se_lit pe_non fun _ _ _ => rfl
  | str i => cases h; exact se_lit pe_str fun _ _ _ => rfl
  | _ => cases h
theorem cEs_ok (o : OkE Φ X c E T) : ∀ {es : List Expr} {ms : MEs}, cEs E es = some ms → PA X es (lowA c (evEs Φ c.b ms)) ∧ es.all plainE = true ∧ ms.length = es.length
  | [], ms, h => by cases h; exact ⟨sa_nil, rfl, rfl⟩
  | e :: es, ms, h => by
    unfold cEs at h
    by_cases hp : plainE e = true
    · rw [if_pos hp] at h
      obtain ⟨m, h1, h2⟩ := bind_some h
      obtain ⟨ms', h3, rfl⟩ := map_some h2
      obtain ⟨a, b, d⟩ := cEs_ok o h3
      exact ⟨sa_cons (o.e e m h1) a (star_one hp), by rw [List.all_cons, hp, b]; rfl, by simp [MEs.length, d]⟩
    · rw [if_neg hp] at h
      cases h
theorem cKs_ok (o : OkE Φ X c E T) : ∀ {ks : List Keyword} {ms : MEs}, cKs E ks = some ms → PK X ks (lowA c (evEs Φ c.b ms)) ∧ ms.length = ks.length
  | [], ms, h => by cases h; exact ⟨sk_nil, rfl⟩
  | ⟨n, e, p⟩ :: es, ms, h => by
    unfold cKs at h
    obtain ⟨m, h1, h2⟩ := bind_some h
    obtain ⟨ms', h3, rfl⟩ := map_some h2
    obtain ⟨a, d⟩ := cKs_ok o h3
    exact ⟨sk_cons (o.e e m h1) a, by simp [MEs.length, d]⟩
theorem cKVs_ok (o : OkE Φ X c E T) : ∀ {ks : List (Option Expr)} {vs : List Expr} {ms : MEs}, cKVs E ks vs = some ms → KVs Φ X c ks vs ms
  | [], [], ms, h => by cases h; exact .nil
  | some k :: ks, v :: vs, ms, h => by
    unfold cKVs at h
    obtain ⟨mk, h1, h⟩ := bind_some h
    obtain ⟨mv, h2, h⟩ := bind_some h
    obtain ⟨ms', h3, rfl⟩ := map_some h
    exact .cons (o.e k mk h1) (o.e v mv h2) (cKVs_ok o h3)
  | [], _ :: _, _, h => by cases h
  | none :: _, [], _, h => by cases h
  | none :: _, _ :: _, _, h => by cases h
  | some _ :: _, [], _, h => by cases h
theorem cO_ok (o : OkE Φ X c E T) {e : Option Expr} {m : MO} (h : cO E e = some m) : PO X e (lowO c (evO Φ c.b m)) := by
  cases e with
  | none => cases h; exact so_no
  | some e =>
    obtain ⟨m', h1, rfl⟩ := map_some (show (E e).map MO.yes = some m from h)
    exact so_yes (o.e e m' h1)
theorem cBool_ok (o : OkE Φ X c E T) {op : BoolOp} : ∀ {es : List Expr} {m : ME}, cBool E op es = some m → PE X (.BoolOp op es pos) (low c (evE Φ c.b m))
  | [], m, h => by cases h
  | [a], m, h => pe_one (o.e a m h)
  | a :: b :: r, m, h => by
    unfold cBool at h
    obtain ⟨m1, h1, h⟩ := bind_some h
    obtain ⟨m2, h2, rfl⟩ := map_some h
    cases op with
    | And => exact se_and (o.e a m1 h1) (cBool_ok o h2)
    | Or => exact se_or (o.e a m1 h1) (cBool_ok o h2)
theorem cBoolT_ok (o : OkE Φ X c E T) {op : BoolOp} : ∀ {es : List Expr} {m : MB}, cBoolT T op es = some m → PW X (.BoolOp op es pos) (lowT c (evT Φ c.b m))
  | [], m, h => by cases h
  | [a], m, h => sw_one (o.t a m h)
  | a :: b :: r, m, h => by
    unfold cBoolT at h
    obtain ⟨m1, h1, h⟩ := bind_some h
    obtain ⟨m2, h2, rfl⟩ := map_some h
    cases op with
    | And => exact sw_and (o.t a m1 h1) (cBoolT_ok o h2)
    | Or => exact sw_or (o.t a m1 h1) (cBoolT_ok o h2)
theorem hinted_ok {e : Expr} {m : ME} {p : Pos} (h : PE X e (lowFr c (evE Φ c.b m))) (hf : ∀ τ G d G', evE Φ c.b m τ G = .ok d G' → ∃ o, objOf d = some o) : PE X e (low c (evE Φ c.b (hinted sg p m))) := by
  unfold hinted
  split
  · exact fr_alloc h
  · exact fr_low h hf
end

/-! ### targets -/
def cG (N : List Str) (nm : List (Str × NameKind)) : Nat → Expr → Option MT
  | _, .Name x _ => match nm.lookup x with
    | some .local => (ixOf N x).map .nam
    | some .cell => (ixOf N x).map .nam
    | _ => none
  | n + 1, .Tuple es _ _ => cGs (cG N nm n) es
  | _, _ => none
where cGs (f : Expr → Option MT) : List Expr → Option MT
  | [] => some .tp0
  | e :: es => if plainE e then (f e).bind fun m => (cGs f es).map fun r => .tpc m r else none
theorem asg_one {e : Expr} {es : List Expr} {env : Env} (h : plainE e = true) : assignEach (e :: es) env = (false, assign e env) :: assignEach es env := by
  cases e <;> first | rfl | cases h
section
variable {X : Cx} {N : List Str} {nm : List (Str × NameKind)}
theorem cGs_ok {f : Expr → Option MT} (hf : ∀ e m, f e = some m → PG X e (lowGK X.K m)) : ∀ {es : List Expr} {m : MT}, cG.cGs f es = some m → PGs X es (lowGs X.K m) ∧ isTup m = true ∧ (assignEach es X.env).length = lenT m ∧ (assignEach es X.env).findIdx? (·.1) = none
  | [], m, h => by cases h; exact ⟨sgs_nil, rfl, rfl, rfl⟩
  | e :: es, m, h => by
    unfold cG.cGs at h
    by_cases hp : plainE e = true
    · rw [if_pos hp] at h
      obtain ⟨m1, h1, h⟩ := bind_some h
      obtain ⟨m2, h2, rfl⟩ := map_some h
      obtain ⟨a, b, d, e'⟩ := cGs_ok hf h2
      refine ⟨sgs_cons (hf e m1 h1) a (by rw [asg_one hp]; rfl), b, ?_, ?_⟩
      · rw [asg_one hp, List.length_cons, d]; rfl
      · rw [asg_one hp, List.findIdx?_cons]
        simp only [Bool.false_eq_true, if_false]
        rw [e']
        rfl
    · rw [if_neg hp] at h
      cases h
theorem cG_ok (hc : X.calm = true) (nd : X.N.Nodup) (hN : X.N = N) (hst : ∀ x, (nm.lookup x = some .local ∨ nm.lookup x = some .cell) → Loc X.env.scope x ∧ (X.fn x = true ∨ X.env.scope.names.lookup x = some .local)) : ∀ {n : Nat} {e : Expr} {m : MT}, cG N nm n e = some m → PG X e (lowGK X.K m) := by
  intro n
  induction n with
  | zero =>
    intro e m h
    cases e with
    | Name x p =>
      unfold cG at h
      split at h
      · rename_i hl
        obtain ⟨i, hi, rfl⟩ := map_some h
        obtain ⟨a, b⟩ := hst x (.inl hl)
        exact sgk_name nd (hN ▸ ixOf_get hi) a b
      · rename_i hl
        obtain ⟨i, hi, rfl⟩ := map_some h
        obtain ⟨a, b⟩ := hst x (.inr hl)
        exact sgk_name nd (hN ▸ ixOf_get hi) a b
      · cases h
    | _ => cases h
  | succ n ih =>
    intro e m h
    cases e with
    | Name x p =>
      unfold cG at h
      split at h
      · rename_i hl
        obtain ⟨i, hi, rfl⟩ := map_some h
        obtain ⟨a, b⟩ := hst x (.inl hl)
        exact sgk_name nd (hN ▸ ixOf_get hi) a b
      · rename_i hl
        obtain ⟨i, hi, rfl⟩ := map_some h
        obtain ⟨a, b⟩ := hst x (.inr hl)
        exact sgk_name nd (hN ▸ ixOf_get hi) a b
      · cases h
    | Tuple es k p =>
      have h : cG.cGs (cG N nm n) es = some m := h
      obtain ⟨a, b, d, e'⟩ := cGs_ok (fun e m h => ih h) h
      exact sgk_tup hc a b d e'
    | _ => cases h
end
end U

set_option Elab.async false
set_option linter.all false
set_option maxRecDepth 100000
/-! UP: the compiler of expressions, and that it is right. -/
namespace U
open PySem L2 PyProof.Rows

def isTupE : Expr → Bool
  | .Tuple .. => true
  | _ => false
/-- what is walked -/
def cI (E : Expr → Option ME) (nm : List (Str × NameKind)) (tg : Expr) (it : Expr) : Option MI := match it with
  | .Call (.Name f _) [a] [] _ =>
    if f = ("range" : Str) then (if isGl nm f && plainE a then (E a).map .rng1 else none)
    else if f = ("enumerate" : Str) then (if isGl nm f && plainE a && isTupE tg then (E a).map .enum else none)
    else (E it).map .val
  | .Call (.Name f _) [a, b] [] _ =>
    if f = ("range" : Str) then (if isGl nm f && plainE a && plainE b then (E a).bind fun m => (E b).map fun n => .rng2 m n else none)
    else if f = ("zip" : Str) then (if isGl nm f && plainE a && plainE b && isTupE tg then (E a).bind fun m => (E b).map fun n => .zip m n else none)
    else (E it).map .val
  | .Call (.Name f _) [a, b, d] [] _ =>
    if f = ("zip" : Str) then (if isGl nm f && plainE a && plainE b && plainE d && isTupE tg then (E a).bind fun m => (E b).bind fun n => (E d).map fun k => .zip3 m n k else none)
    else (E it).map .val
  | _ => (E it).map .val

/-- what is walked in a comprehension: a dict by its keys, if a hint says so -/
def itOf (sg : Sg) (E : Expr → Option ME) (N : List Str) (nm : List (Str × NameKind)) (tg : Expr) (it : Expr) : Option MI := match it with
  | .Name x p => if sg.hints.contains (p.line, p.col) then (if okName x && isVis nm x then (ixOf N x).map .keys else none) else cI E nm tg it
  | it => cI E nm tg it
/-- own names of a block, with their places -/
def ownOf (N : List Str) : List (Str × NameKind) → List (Str × Nat)
  | [] => []
  | (n, k) :: r => match k with
    | .local => (match ixOf N n with | some i => (n, i) :: ownOf N r | none => ownOf N r)
    | .cell => (match ixOf N n with | some i => (n, i) :: ownOf N r | none => ownOf N r)
    | _ => ownOf N r
/-- a comprehension -/
def cLc (sg : Sg) (E : Expr → Option ME) (B : Scope → (Expr → Option ME) × (Expr → Option MB)) (N : List Str) (sc : Scope) (elt : Expr) (gs : List Comprehension) (scope : Scope) : Option ME := match gs with
  | [⟨tg, it, ifs, 0⟩] =>
    if notSet it && blkC N sc scope (ownOf N scope.names) then
      (itOf sg E N sc.names tg it).bind fun mi => (cG N scope.names 4 tg).bind fun t => ((B (relS scope sc)).1 elt).bind fun me =>
        let os := (ownOf N scope.names).map (·.2)
        if (slotsT t).all (fun i => os.contains i) then (match ifs with
          | [] => some (.lc me t mi .yes os)
          | [q] => ((B (relS scope sc)).2 q).map fun mc => .lc me t mi mc os
          | _ => none) else none
    else none
  | _ => none
/-- a call by a name -/
def cCall (sg : Sg) (E : Expr → Option ME) (nm : List (Str × NameKind)) (f : Str) (es : List Expr) (kws : List Keyword) (p : Pos) : Option ME :=
  if okName f && isGl nm f then match sg.fns.lookup f with
    | some ps => (cEs E es).bind fun ms => (cKs E kws).bind fun mk => (kwNames kws).bind fun ks =>
      if ms.length + mk.length = ps.length ∧ ps.drop ms.length = ks then some (.call f (ms.app mk)) else none
    | none => match kws with
      | [] => (biName f).bind fun o => match es with
        | [] => none
        | _ => (cEs E es).map fun ms => match o with
          | .list => hinted sg p (.bi .list ms)
          | o => .bi o ms
      | _ => none
  else none
/-- isinstance of an exception; dicts made of pairs -/
def cMore (sg : Sg) (E : Expr → Option ME) (nm : List (Str × NameKind)) (f : Str) (es : List Expr) (kws : List Keyword) (p : Pos) : Option ME :=
  match kws with
  | [] => if f = ("isinstance" : Str) then match es with
      | [a, .Name y _] => if isGl nm f && plainE a && isGl nm y && okName y && (decide (y = ("ValueError" : Str)) || isGlo (sg.cons.lookup y) y) then (E a).map fun m => .isE m y (glos sg.cons) else none
      | _ => none
    else if f = ("dict" : Str) then match es with
      | [.Call (.Name z _) [a, b] [] _] => if z = ("zip" : Str) ∧ isGl nm f ∧ isGl nm z ∧ plainE a ∧ plainE b then (E a).bind fun m => (E b).map fun n => .dzip m n else none
      | [a] => if isGl nm f && plainE a then (E a).map fun m => hinted sg p (.dpairs m) else none
      | _ => none
    else none
  | _ => none
def cLam (sg : Sg) (BL : Scope → (Expr → Option ME) × (Expr → Option MB)) (sc : Scope) (f : Str) (params : Arguments) (body : Expr) (scope : Scope) : Option ME :=
  if f = resName ∧ sg.lam = true ∧ isGl sc.names f = true ∧ noPars params = true ∧ LamX.lamSB sc scope = true then ((BL scope).1 body).map fun m => .catch m (glos sg.cons) else none
def orE (a b : Option ME) : Option ME := match a with
  | some m => some m
  | none => b
def cMeth (E : Expr → Option ME) (o : Expr) (m : Str) (apos : Pos) (es : List Expr) (pos : Pos) : Option ME :=
  if notSuper o && (apos.endLine == pos.line) then match es with
    | [a] => if m = ("append" : Str) then (if plainE a then (E o).bind fun mo => (E a).map fun ma => .append mo ma else none)
      else if m = ("update" : Str) then (if plainE a then (E o).bind fun mo => (E a).map fun ma => .update mo ma else none) else none
    | [a, b] => if m = ("get" : Str) then (if plainE a && plainE b then (E o).bind fun mo => (E a).bind fun ma => (E b).map fun mb => .get mo ma mb else none) else none
    | _ => none
  else none
def isSlice : Expr → Bool
  | .Slice .. => true
  | _ => false
def cSub (E : Expr → Option ME) (a i : Expr) : Option ME := match i with
  | .Slice lo hi none _ => (E a).bind fun ma => (cO E lo).bind fun ml => (cO E hi).map fun mh => .sl ma ml mh
  | .Slice none none (some (.UnaryOp .USub (.Constant (.int 1) _ _) _)) _ => (E a).map .rev
  | i => if isSlice i then none else (E a).bind fun ma => (E i).map fun mi => .ix ma mi
def cCmp (E : Expr → Option ME) (a : Expr) : List CmpOp → List Expr → Option ME
  | [o], [b] => if notSet b then (E a).bind fun ma => (E b).map fun mb => .cmp (copOf o) ma mb else none
  | [o, p], [b, d] => if notSet b && notSet d then (E a).bind fun ma => (E b).bind fun mb => (E d).map fun md => .chain (copOf o) (copOf p) ma mb md else none
  | _, _ => none
def stepE (sg : Sg) (N : List Str) (sc : Scope) (E : Expr → Option ME) (T : Expr → Option MB) (B BL : Scope → (Expr → Option ME) × (Expr → Option MB)) : Expr → Option ME
  | .Constant k _ _ => constE k
  | .Name x _ => nameE sg N sc.names x
  | .Tuple es _ _ => (cEs E es).bind fun ms => if ms.length ≤ 1000 then some (.tup ms) else none
  | .List es p => (cEs E es).bind fun ms => if ms.length ≤ 1000 then some (hinted sg p (.lst ms)) else none
  | .Dict ks vs p => if ks.length ≤ 15 then (cKVs E ks vs).map fun ms => hinted sg p (.dct ms) else none
  | .BinOp a o b _ => (bopOf o).bind fun o => (E a).bind fun m => (E b).map fun n => .bin o m n
  | .UnaryOp .USub a _ => (E a).map .neg
  | .UnaryOp .Not a _ => (E a).map .not
  | .BoolOp o es _ => cBool E o es
  | .IfExp t a b _ => (T t).bind fun mt => (E a).bind fun m => (E b).map fun n => .ifx mt m n
  | .Compare a os bs _ => cCmp E a os bs
  | .Subscript a i _ => cSub E a i
  | .Call (.Name f _) [.Lambda params body scope _] [] _ => cLam sg BL sc f params body scope
  | .Call (.Name f _) es kws p => orE (cMore sg E sc.names f es kws p) (cCall sg E sc.names f es kws p)
  | .Call (.Attribute o m apos) es [] p => cMeth E o m apos es p
  | .ListComp elt gs scope p => (cLc sg E B N sc elt gs scope).map (hinted sg p)
  | _ => none
def stepT (E : Expr → Option ME) (T : Expr → Option MB) : Expr → Option MB
  | .UnaryOp .Not a _ => (T a).map .not
  | .BoolOp o es _ => cBoolT T o es
  | .IfExp .. => none
  | .Compare a os bs _ => (cCmp E a os bs).map .val
  | e => (E e).map .val
/-- n deep -/
def cmp (sg : Sg) (N : List Str) : Nat → Scope → (Expr → Option ME) × (Expr → Option MB)
  | 0, _ => (fun _ => none, fun _ => none)
  | n + 1, sc => (stepE sg N sc (cmp sg N n sc).1 (cmp sg N n sc).2 (cmp sg N n) (cmp { sg with lam := false } N n), stepT (stepE sg N sc (cmp sg N n sc).1 (cmp sg N n sc).2 (cmp sg N n) (cmp { sg with lam := false } N n)) (cmp sg N n sc).2)

section
variable {Φ : Fn} {sg : Sg} {N : List Str} {X : Cx} {c : C} {pos : Pos} {tg : Expr} {E : Expr → Option ME} {T : Expr → Option MB}

theorem cI_ok (ok : XO Φ sg X c) (o : OkE Φ X c E T) {it : Expr} {mi : MI} (h : cI E X.env.scope.names tg it = some mi) : PI X tg it (lowI c (evI Φ c.b mi)) := by
  have dflt : ∀ {mi : MI}, (E it).map MI.val = some mi → PI X tg it (lowI c (evI Φ c.b mi)) := fun h => by
    obtain ⟨m, h1, rfl⟩ := map_some h
    exact si_val ok.k (o.e it m h1)
  unfold cI at h
  split at h
  · rename_i f p a p2
    by_cases hf : f = ("range" : Str)
    · rw [if_pos hf] at h
      obtain ⟨hp, h⟩ : (isGl X.env.scope.names f && plainE a) = true ∧ (E a).map MI.rng1 = some mi := by
        split at h
        · exact ⟨by assumption, h⟩
        · cases h
      rw [Bool.and_eq_true] at hp
      obtain ⟨m, h1, rfl⟩ := map_some h
      subst hf
      exact si_rng1 ok.k (gl_of hp.1) (o.e a m h1) hp.2
    · rw [if_neg hf] at h
      by_cases hf : f = ("enumerate" : Str)
      · rw [if_pos hf] at h
        obtain ⟨hp, h⟩ : (isGl X.env.scope.names f && plainE a && isTupE tg) = true ∧ (E a).map MI.enum = some mi := by
          split at h
          · exact ⟨by assumption, h⟩
          · cases h
        rw [Bool.and_eq_true, Bool.and_eq_true] at hp
        obtain ⟨m, h1, rfl⟩ := map_some h
        subst hf
        cases tg with
        | Tuple es k tp => exact si_enum ok.k (gl_of hp.1.1) (o.e a m h1) hp.1.2
        | _ => cases hp.2
      · rw [if_neg hf] at h
        exact dflt h
  · rename_i f p a b p2
    by_cases hf : f = ("range" : Str)
    · rw [if_pos hf] at h
      obtain ⟨hp, h⟩ : (isGl X.env.scope.names f && plainE a && plainE b) = true ∧ ((E a).bind fun m => (E b).map fun n => MI.rng2 m n) = some mi := by
        split at h
        · exact ⟨by assumption, h⟩
        · cases h
      rw [Bool.and_eq_true, Bool.and_eq_true] at hp
      obtain ⟨m, h1, h⟩ := bind_some h
      obtain ⟨n, h2, rfl⟩ := map_some h
      subst hf
      exact si_rng2 ok.k (gl_of hp.1.1) (o.e a m h1) (o.e b n h2) hp.1.2 hp.2
    · rw [if_neg hf] at h
      by_cases hf : f = ("zip" : Str)
      · rw [if_pos hf] at h
        obtain ⟨hp, h⟩ : (isGl X.env.scope.names f && plainE a && plainE b && isTupE tg) = true ∧ ((E a).bind fun m => (E b).map fun n => MI.zip m n) = some mi := by
          split at h
          · exact ⟨by assumption, h⟩
          · cases h
        rw [Bool.and_eq_true, Bool.and_eq_true, Bool.and_eq_true] at hp
        obtain ⟨m, h1, h⟩ := bind_some h
        obtain ⟨n, h2, rfl⟩ := map_some h
        subst hf
        cases tg with
        | Tuple es k tp => exact si_zip ok.k (gl_of hp.1.1.1) (o.e a m h1) (o.e b n h2) hp.1.1.2 hp.1.2
        | _ => cases hp.2
      · rw [if_neg hf] at h
        exact dflt h
  · rename_i f p a b d p2
    by_cases hf : f = ("zip" : Str)
    · rw [if_pos hf] at h
      obtain ⟨hp, h⟩ : (isGl X.env.scope.names f && plainE a && plainE b && plainE d && isTupE tg) = true ∧ ((E a).bind fun m => (E b).bind fun n => (E d).map fun k => MI.zip3 m n k) = some mi := by
        split at h
        · exact ⟨by assumption, h⟩
        · cases h
      rw [Bool.and_eq_true, Bool.and_eq_true, Bool.and_eq_true, Bool.and_eq_true] at hp
      obtain ⟨m, h1, h⟩ := bind_some h
      obtain ⟨n, h2, h⟩ := bind_some h
      obtain ⟨k, h3, rfl⟩ := map_some h
      subst hf
      cases tg with
      | Tuple es k tp => exact si_zip3 ok.k (gl_of hp.1.1.1.1) (o.e a m h1) (o.e b n h2) (o.e d _ h3) hp.1.1.1.2 hp.1.1.2 hp.1.2
      | _ => cases hp.2
    · rw [if_neg hf] at h
      exact dflt h
  · exact dflt h
theorem cCmp_ok (ok : XO Φ sg X c) (o : OkE Φ X c E T) {a : Expr} {os : List CmpOp} {bs : List Expr} {m : ME} (h : cCmp E a os bs = some m) : PE X (.Compare a os bs pos) (low c (evE Φ c.b m)) ∧ PT X (.Compare a os bs pos) (lowT c (evT Φ c.b (.val m))) := by
  unfold cCmp at h
  split at h
  · rename_i op b
    split at h
    · rename_i hs
      obtain ⟨ma, h1, h⟩ := bind_some h
      obtain ⟨mb, h2, rfl⟩ := map_some h
      rw [show [op] = [cmpPy (copOf op)] by rw [← copOf_ok]]
      exact ⟨se_cmp ok.k (o.e a ma h1) (o.e b mb h2) (marks_of hs), st_cmp ok.k (o.e a ma h1) (o.e b mb h2) (marks_of hs)⟩
    · cases h
  · rename_i op op2 b d
    split at h
    · rename_i hs
      rw [Bool.and_eq_true] at hs
      obtain ⟨ma, h1, h⟩ := bind_some h
      obtain ⟨mb, h2, h⟩ := bind_some h
      obtain ⟨md, h3, rfl⟩ := map_some h
      rw [show [op, op2] = [cmpPy (copOf op), cmpPy (copOf op2)] by rw [← copOf_ok, ← copOf_ok]]
      have hm : lastMarks [cmpPy (copOf op), cmpPy (copOf op2)] [b, d] = false := by
        unfold lastMarks lastMarks
        exact marks_of hs.2
      exact ⟨se_chain ok.k (o.e a ma h1) (o.e b mb h2) (o.e d md h3) hm, st_chain ok.k (o.e a ma h1) (o.e b mb h2) (o.e d md h3) hm⟩
    · cases h
  · cases h
theorem plainIx {i : Expr} (h : isSlice i = false) : PlainIx i := by
  intro o j
  cases i <;> first | rfl | cases h
theorem cSub_ok (ok : XO Φ sg X c) (o : OkE Φ X c E T) {a i : Expr} {m : ME} (h : cSub E a i = some m) : PE X (.Subscript a i pos) (low c (evE Φ c.b m)) := by
  unfold cSub at h
  split at h
  · obtain ⟨ma, h1, h⟩ := bind_some h
    obtain ⟨ml, h2, h⟩ := bind_some h
    obtain ⟨mh, h3, rfl⟩ := map_some h
    exact se_sl ok.k (o.e a ma h1) (cO_ok o h2) (cO_ok o h3)
  · obtain ⟨ma, h1, rfl⟩ := map_some h
    exact se_rev ok.k (o.e a ma h1)
  · split at h
    · cases h
    · rename_i hs
      obtain ⟨ma, h1, h⟩ := bind_some h
      obtain ⟨mi, h2, rfl⟩ := map_some h
      exact se_ix ok.k (o.e a ma h1) (o.e i mi h2) (plainIx (by simpa using hs))
theorem cMeth_ok (ok : XO Φ sg X c) (o : OkE Φ X c E T) {ob : Expr} {mn : Str} {apos : Pos} {es : List Expr} {m : ME} (h : cMeth E ob mn apos es pos = some m) : PE X (.Call (.Attribute ob mn apos) es [] pos) (low c (evE Φ c.b m)) := by
  unfold cMeth at h
  split at h
  · rename_i hs
    rw [Bool.and_eq_true] at hs
    split at h
    · rename_i a
      split at h
      · rename_i e
        subst e
        split at h
        · rename_i hp
          obtain ⟨mo, h1, h⟩ := bind_some h
          obtain ⟨ma, h2, rfl⟩ := map_some h
          exact se_append ok.k (o.e ob mo h1) (o.e a ma h2) hs.1 hp hs.2
        · cases h
      · split at h
        · rename_i e
          subst e
          split at h
          · rename_i hp
            obtain ⟨mo, h1, h⟩ := bind_some h
            obtain ⟨ma, h2, rfl⟩ := map_some h
            exact se_update ok.k (o.e ob mo h1) (o.e a ma h2) hs.1 hp hs.2
          · cases h
        · cases h
    · rename_i a b
      split at h
      · rename_i e
        subst e
        split at h
        · rename_i hp
          rw [Bool.and_eq_true] at hp
          obtain ⟨mo, h1, h⟩ := bind_some h
          obtain ⟨ma, h2, h⟩ := bind_some h
          obtain ⟨mb, h3, rfl⟩ := map_some h
          exact se_get ok.k (o.e ob mo h1) (o.e a ma h2) (o.e b mb h3) hs.1 hp.1 hp.2 hs.2
        · cases h
      · cases h
    · cases h
  · cases h
theorem app_nil : ∀ ms : MEs, ms.app .nil = ms
  | .nil => rfl
  | .cons e r => by simp [MEs.app, app_nil r]
theorem cCall_ok (ok : XO Φ sg X c) (o : OkE Φ X c E T) {f : Str} {p : Pos} {es : List Expr} {kws : List Keyword} {m : ME} (h : cCall sg E X.env.scope.names f es kws pos = some m) : PE X (.Call (.Name f p) es kws pos) (low c (evE Φ c.b m)) := by
  unfold cCall at h
  split at h
  · rename_i hs
    rw [Bool.and_eq_true] at hs
    obtain ⟨n1, n2, n3⟩ := okName_of hs.1
    have hg := gl_of hs.2
    split at h
    · rename_i ps hps
      obtain ⟨ms, h1, h⟩ := bind_some h
      obtain ⟨mk, h2, h⟩ := bind_some h
      obtain ⟨ks, h3, h⟩ := bind_some h
      obtain ⟨⟨hl, hd⟩, rfl⟩ := ite_some h
      obtain ⟨a1, a2, a3⟩ := cEs_ok o h1
      obtain ⟨b1, b2⟩ := cKs_ok o h2
      have hf : (fun x => sg.fns.lookup x) f = some ps := hps
      cases kws with
      | nil =>
        cases h2
        have el : ms.length = ps.length := by simpa [MEs.length] using hl
        rw [app_nil]
        cases es with
        | nil =>
          cases h1
          have e0 : ps = [] := List.eq_nil_of_length_eq_zero el.symm
          subst e0
          exact se_call0 ok.k hg hf n1
        | cons e es => exact se_call ok.k hg hf el n1 a1 a2
      | cons k kws =>
        cases es with
        | nil =>
          cases h1
          have e0 : ps = ks := by simpa [MEs.length] using hd
          subst e0
          show PE X _ (low c (evE Φ c.b (.call f mk)))
          exact se_callk0 ok.k hg hf h3 n1 b1 b2
        | cons e es => exact se_callk ok.k hg hf h3 n1 a1 a2 b1 (by omega) hd b2
    · rename_i hps
      split at h
      · obtain ⟨bo, h1, h⟩ := bind_some h
        split at h
        · cases h
        · rename_i hne
          obtain ⟨ms, h2, rfl⟩ := map_some h
          obtain ⟨a1, a2, a3⟩ := cEs_ok o h2
          cases es with
          | nil => exact absurd rfl (hne)
          | cons e es =>
            cases bo with
            | list => exact hinted_ok (sf_list ok.k h1 hg a1 a2) of_list
            | _ => exact se_bi ok.k h1 hg a1 a2
      · cases h
  · cases h
theorem cMore_ok (ok : XO Φ sg X c) (o : OkE Φ X c E T) {f : Str} {p : Pos} {es : List Expr} {kws : List Keyword} {m : ME} (h : cMore sg E X.env.scope.names f es kws pos = some m) : PE X (.Call (.Name f p) es kws pos) (low c (evE Φ c.b m)) := by
  unfold cMore at h
  split at h
  · by_cases hf : f = ("isinstance" : Str)
    · rw [if_pos hf] at h
      subst hf
      split at h
      · rename_i a y py
        split at h
        · rename_i hs
          simp only [Bool.and_eq_true, Bool.or_eq_true, decide_eq_true_eq] at hs
          obtain ⟨ma, h1, rfl⟩ := map_some h
          obtain ⟨⟨⟨⟨g1, g2⟩, g3⟩, g4⟩, g5⟩ := hs
          exact se_isE ok.k (gl_of g1) (o.e a ma h1) g2 (gl_of g3) (okName_of g4).1 (g5.imp id glo_of) glos_ok
        · cases h
      · cases h
    · rw [if_neg hf] at h
      by_cases hf : f = ("dict" : Str)
      · rw [if_pos hf] at h
        subst hf
        split at h
        · rename_i z pz a b pc
          split at h
          · rename_i hs
            obtain ⟨rfl, g1, g2, g3, g4⟩ := hs
            obtain ⟨ma, h1, h⟩ := bind_some h
            obtain ⟨mb, h2, rfl⟩ := map_some h
            exact se_dzip ok.k (gl_of g1) (gl_of g2) (o.e a ma h1) (o.e b mb h2) g3 g4
          · cases h
        · rename_i a _
          split at h
          · rename_i hs
            rw [Bool.and_eq_true] at hs
            obtain ⟨ma, h1, rfl⟩ := map_some h
            exact hinted_ok (sf_dpairs ok.k (gl_of hs.1) (o.e a ma h1) hs.2) of_dpairs
          · cases h
        · cases h
      · rw [if_neg hf] at h
        cases h
  · cases h
theorem cLam_ok {BL : Scope → (Expr → Option ME) × (Expr → Option MB)} (ok : XO Φ sg X c) (hBL : ∀ (Y : Cx) (d : C), XO Φ { sg with lam := false } Y d → Y.N = X.N → OkE Φ Y d (BL Y.env.scope).1 (BL Y.env.scope).2) {f : Str} {p lp : Pos} {params : Arguments} {body : Expr} {scope : Scope} {m : ME} (h : cLam sg BL X.env.scope f params body scope = some m) :
    PE X (.Call (.Name f p) [.Lambda params body scope lp] [] pos) (low c (evE Φ c.b m)) := by
  unfold cLam at h
  split at h
  · rename_i hs
    obtain ⟨rfl, g1, g2, g3, g4⟩ := hs
    obtain ⟨mb, h1, rfl⟩ := map_some h
    obtain ⟨L, l⟩ := ok.lam g1
    refine se_catch ok.k l (gl_of g2) (LamX.lamS_by g4) g3 glos_ok fun Y d okY hs hN => ?_
    have q := hBL Y d ⟨okY, fun z => by cases z⟩ hN
    rw [hs] at q
    exact q.e body mb h1
  · cases h
end
end U

set_option Elab.async false
set_option linter.all false
set_option maxRecDepth 100000
/-! UQ: that the compiler of expressions is right. -/
namespace U
open PySem L2 PyProof.Rows
section
variable {Φ : Fn} {sg : Sg} {N : List Str} {X : Cx} {c : C} {pos : Pos} {tg : Expr} {E : Expr → Option ME} {T : Expr → Option MB}

theorem XO.blk (ok : XO Φ sg X c) {scope : Scope} (hk : scope.kind = .function) (s : Shared) (H : Hp) (C : Addr) (cl : List (Str × Addr)) (fp : List Addr) : XO Φ sg (X.blk s H scope (compEnvC scope cl C X.env) fp) c.nox where
  K := ok.K
  mg := ok.mg
  calm := ok.calm
  units := ok.units
  nd := ok.nd
  kind := hk
  con := ok.con
  blt := ok.blt
  fn := ok.fn
  exc := ok.exc
  tk := fun u s' ⟨a, B, sI, pins, σ, H, cls, d, e, I, nb, up, sky, na, os, ag, w⟩ => by
    obtain ⟨_, _, _, _, _, z⟩ := w
    exact z.elim
  own := PassesOwn.never
  lam := fun h => let ⟨L, l⟩ := ok.lam h; ⟨L, l.blk s H scope C cl fp⟩
theorem blk_scope {scope : Scope} (s : Shared) (H : Hp) (C : Addr) (cl : List (Str × Addr)) (fp : List Addr) : (X.blk s H scope (compEnvC scope cl C X.env) fp).env.scope = relS scope X.env.scope := rfl

theorem pts_nil_low {c : C} : PTs X [] (lowT c (evT Φ c.b .yes)) := ⟨fun pins s σ H Q I h => pts_nil.run pins s σ H Q I (by
  obtain ⟨Z, P, ρ, G, τ, s, w, f⟩ := h
  rw [evT] at f
  exact f.here s rfl)⟩
structure LcOk (Φ : Fn) (X : Cx) (c : C) (elt tg iter : Expr) (ifs : List Expr) (scope : Scope) (own : List (Str × Nat)) (os : List Nat) (me : ME) (t : MT) (mi : MI) (mc : MB) : Prop where
  hos : own.map (·.2) = os
  hi : PI X tg iter (lowI c (evI Φ c.b mi)) ∨ ∃ x p i, iter = .Name x p ∧ mi = .keys i ∧ X.N[i]? = some x ∧ Vis X.env.scope x ∧ (x == ("__debug__" : Str)) = false ∧ (x == ("__classdict__" : Str)) = false
  bk : BlkOk X.N X.env.scope scope own
  hg : ∀ (s : Shared) (H : Hp) (C : Addr) (cl : List (Str × Addr)) (fp : List Addr), PG (X.blk s H scope (compEnvC scope cl C X.env) fp) tg (lowGK X.K t)
  ht : ∀ (s : Shared) (H : Hp) (C : Addr) (cl : List (Str × Addr)) (fp : List Addr), PTs (X.blk s H scope (compEnvC scope cl C X.env) fp) ifs (lowT c.nox (evT Φ c.b mc))
  he : ∀ (s : Shared) (H : Hp) (C : Addr) (cl : List (Str × Addr)) (fp : List Addr), PE (X.blk s H scope (compEnvC scope cl C X.env) fp) elt (low c.nox (evE Φ c.b me))
  hs : ∀ x, foldedSetIterable iter X.env x = pure x
  hsub : ∀ i ∈ slotsT t, i ∈ os

theorem itOf_ok (ok : XO Φ sg X c) (hN : X.N = N) (o : OkE Φ X c E T) {it : Expr} {mi : MI} (h : itOf sg E N X.env.scope.names tg it = some mi) : PI X tg it (lowI c (evI Φ c.b mi)) ∨ ∃ x p i, it = .Name x p ∧ mi = .keys i ∧ X.N[i]? = some x ∧ Vis X.env.scope x ∧ (x == ("__debug__" : Str)) = false ∧ (x == ("__classdict__" : Str)) = false := by
  unfold itOf at h
  split at h
  · rename_i x p
    split at h
    · split at h
      · rename_i hs
        rw [Bool.and_eq_true] at hs
        obtain ⟨i, h1, rfl⟩ := map_some h
        obtain ⟨n1, n2, _⟩ := okName_of hs.1
        exact .inr ⟨x, p, i, rfl, rfl, hN ▸ ixOf_get h1, vis_of hs.2, n1, n2⟩
      · cases h
    · exact .inl (cI_ok ok o h)
  · exact .inl (cI_ok ok o h)
theorem cLc_ok {B : Scope → (Expr → Option ME) × (Expr → Option MB)} (ok : XO Φ sg X c) (hN : X.N = N) (o : OkE Φ X c E T)
    (hB : ∀ (Y : Cx) (d : C) , XO Φ sg Y d → Y.N = N → OkE Φ Y d (B Y.env.scope).1 (B Y.env.scope).2) {elt : Expr} {gs : List Comprehension} {scope : Scope} {m : ME} (h : cLc sg E B N X.env.scope elt gs scope = some m) :
    ∃ tg iter ifs own os me t mi mc, gs = [⟨tg, iter, ifs, 0⟩] ∧ own = ownOf N scope.names ∧ m = .lc me t mi mc os ∧ LcOk Φ X c elt tg iter ifs scope own os me t mi mc := by
  unfold cLc at h
  split at h
  · rename_i tg it ifs
    split at h
    · rename_i hb
      rw [Bool.and_eq_true] at hb
      obtain ⟨mi, h1, h⟩ := bind_some h
      obtain ⟨t, h2, h⟩ := bind_some h
      obtain ⟨me, h3, h⟩ := bind_some h
      have bk := blkOk_by hb.2
      have okB := fun s H C cl fp => XO.blk ok bk.kind s H C cl fp
      have oB := fun (s : Shared) (H : Hp) (C : Addr) (cl : List (Str × Addr)) (fp : List Addr) => hB (X.blk s H scope (compEnvC scope cl C X.env) fp) c.nox (okB s H C cl fp) hN
      have hg : ∀ (s : Shared) (H : Hp) (C : Addr) (cl : List (Str × Addr)) (fp : List Addr), PG (X.blk s H scope (compEnvC scope cl C X.env) fp) tg (lowGK X.K t) := fun s H C cl fp =>
        cG_ok (X := X.blk s H scope (compEnvC scope cl C X.env) fp) ok.calm ok.nd hN (fun x hx => by
          rcases hx with hx | hx
          · have q : (relS scope X.env.scope).names.lookup x = some .local := lookup_relS_keep (by decide) hx
            exact ⟨.inl q, .inr q⟩
          · have q : (relS scope X.env.scope).names.lookup x = some .cell := lookup_relS_keep (by decide) hx
            refine ⟨.inr q, .inl ?_⟩
            show (scope.names.lookup x == some .cell) = true
            rw [hx]
            rfl) h2
      have he : ∀ (s : Shared) (H : Hp) (C : Addr) (cl : List (Str × Addr)) (fp : List Addr), PE (X.blk s H scope (compEnvC scope cl C X.env) fp) elt (low c.nox (evE Φ c.b me)) := fun s H C cl fp => (oB s H C cl fp).e elt me h3
      simp only at h
      by_cases hs : (slotsT t).all (fun i => ((ownOf N scope.names).map (·.2)).contains i) = true
      · rw [if_pos hs] at h
        have hsub : ∀ i ∈ slotsT t, i ∈ (ownOf N scope.names).map (·.2) := fun i hi => by
          have := List.all_eq_true.mp hs i hi
          simpa using this
        split at h
        · cases h
          exact ⟨tg, it, [], _, _, me, t, mi, .yes, rfl, rfl, rfl, rfl, itOf_ok ok hN o h1, hN ▸ bk, hg, fun s H C cl fp => pts_nil_low, he, fun x => folded_of hb.1 x, hsub⟩
        · obtain ⟨mc, h4, rfl⟩ := map_some h
          exact ⟨tg, it, _, _, _, me, t, mi, mc, rfl, rfl, rfl, rfl, itOf_ok ok hN o h1, hN ▸ bk, hg, fun s H C cl fp => pts_one ((oB s H C cl fp).t _ mc h4), he, fun x => folded_of hb.1 x, hsub⟩
        · cases h
      · rw [if_neg hs] at h
        cases h
    · cases h
  · cases h
theorem isTrue_val {e : Expr} {env : Env} (h : match e with | .UnaryOp .Not .. => False | .BoolOp .. => False | .IfExp .. => False | .Compare .. => False | _ => True) : ∀ whole, isTrue e env whole = (do let v ← whole; standAt e.pos; holding [v] (truthy v)) := by
  intro whole
  cases e with
  | UnaryOp o a p => cases o <;> first | rfl | exact h.elim
  | BoolOp => exact h.elim
  | IfExp => exact h.elim
  | Compare => exact h.elim
  | _ => rfl
theorem stepE_ok {B : Scope → (Expr → Option ME) × (Expr → Option MB)} (ok : XO Φ sg X c) (hN : X.N = N) (o : OkE Φ X c E T)
    (hB : ∀ (Y : Cx) (d : C) , XO Φ sg Y d → Y.N = N → OkE Φ Y d (B Y.env.scope).1 (B Y.env.scope).2) {BL : Scope → (Expr → Option ME) × (Expr → Option MB)} (hBL : ∀ (Y : Cx) (d : C), XO Φ { sg with lam := false } Y d → Y.N = N → OkE Φ Y d (BL Y.env.scope).1 (BL Y.env.scope).2) {e : Expr} {m : ME} (h : stepE sg N X.env.scope E T B BL e = some m) : PE X e (low c (evE Φ c.b m)) := by
  unfold stepE at h
  split at h
  · exact constE_ok h
  · exact nameE_ok ok (hN ▸ h)
  · obtain ⟨ms, h1, h⟩ := bind_some h
    obtain ⟨hl, rfl⟩ := ite_some h
    exact se_tup (cEs_ok o h1).1 hl
  · obtain ⟨ms, h1, h⟩ := bind_some h
    obtain ⟨hl, rfl⟩ := ite_some h
    exact hinted_ok (sf_lst (cEs_ok o h1).1 hl) of_lst
  · split at h
    · rename_i ks vs p hl
      obtain ⟨ms, h1, rfl⟩ := map_some h
      cases ks with
      | nil =>
        cases vs with
        | nil =>
          cases h1
          exact hinted_ok sf_dct0 of_dct
        | cons => cases h1
      | cons k ks => exact hinted_ok (sf_dct (cKVs_ok o h1) (by simp) hl) of_dct
    · cases h
  · obtain ⟨bo, h0, h⟩ := bind_some h
    obtain ⟨ma, h1, h⟩ := bind_some h
    obtain ⟨mb, h2, rfl⟩ := map_some h
    rw [bopOf_ok h0]
    exact se_bin ok.k (o.e _ ma h1) (o.e _ mb h2)
  · obtain ⟨ma, h1, rfl⟩ := map_some h
    exact se_neg (o.e _ ma h1)
  · obtain ⟨ma, h1, rfl⟩ := map_some h
    exact se_not ok.k (o.e _ ma h1)
  · exact cBool_ok o h
  · obtain ⟨mt, h0, h⟩ := bind_some h
    obtain ⟨ma, h1, h⟩ := bind_some h
    obtain ⟨mb, h2, rfl⟩ := map_some h
    exact se_ifx (o.t _ mt h0) (o.e _ ma h1) (o.e _ mb h2)
  · exact (cCmp_ok ok o h).1
  · exact cSub_ok ok o h
  · exact cLam_ok ok (hN ▸ hBL) h
  · unfold orE at h
    split at h
    · rename_i hm
      cases h
      exact cMore_ok ok o hm
    · exact cCall_ok ok o h
  · exact cMeth_ok ok o h
  · obtain ⟨m', h1, rfl⟩ := map_some h
    obtain ⟨tg, it, ifs, own, os, me, t, mi, mc, rfl, rfl, rfl, L⟩ := cLc_ok ok hN o hB h1
    rcases L.hi with hi | ⟨x, p, i, rfl, rfl, i1, i2, i3, i4⟩
    · exact hinted_ok (sf_lc ok.k L.hos hi L.bk L.hg L.ht L.he L.hs L.hsub) of_lc
    · exact hinted_ok (sf_lck ok.k L.hos i1 i2 i3 i4 L.bk L.hg L.ht L.he L.hsub) of_lc
  · cases h
theorem stepT_ok (ok : XO Φ sg X c) (o : OkE Φ X c E T) (hE : ∀ e m, E e = some m → PE X e (low c (evE Φ c.b m))) {E' : Expr → Option ME} (hE' : ∀ e m, E' e = some m → PE X e (low c (evE Φ c.b m))) {e : Expr} {m : MB} (h : stepT E' T e = some m) : PT X e (lowT c (evT Φ c.b m)) := by
  have o' : OkE Φ X c E' T := ⟨hE', o.t⟩
  unfold stepT at h
  split at h
  · obtain ⟨m', h1, rfl⟩ := map_some h
    exact st_not (o.t _ m' h1)
  · exact (cBoolT_ok o h).pt
  · cases h
  · obtain ⟨m', h1, rfl⟩ := map_some h
    exact (cCmp_ok ok o' h1).2
  · rename_i h1 h2 h3 h4
    obtain ⟨m', h5, rfl⟩ := map_some h
    refine st_val ok.k (hE' _ m' h5) (isTrue_val ?_)
    split
    · exact h1 _ _ rfl
    · exact h2 _ _ _ rfl
    · exact h3 _ _ _ _ rfl
    · exact h4 _ _ _ _ rfl
    · trivial
theorem cmpl_all : ∀ (n : Nat) (sg : Sg) (X : Cx) (c : C), XO Φ sg X c → X.N = N → OkE Φ X c (cmp sg N n X.env.scope).1 (cmp sg N n X.env.scope).2
  | 0, sg, X, c, _, _ => ⟨fun e m h => (nomatch h), fun e m h => (nomatch h)⟩
  | n + 1, sg, X, c, ok, hN => by
    have o := cmpl_all n sg X c ok hN
    have he : ∀ e m, (cmp sg N (n + 1) X.env.scope).1 e = some m → PE X e (low c (evE Φ c.b m)) := fun e m h => stepE_ok ok hN o (fun Y d oY hY => cmpl_all n sg Y d oY hY) (fun Y d oY hY => cmpl_all n { sg with lam := false } Y d oY hY) h
    exact ⟨he, fun e m h => stepT_ok ok o o.e he h⟩
theorem cmpl_ok (n : Nat) (X : Cx) (c : C) (ok : XO Φ sg X c) (hN : X.N = N) : OkE Φ X c (cmp sg N n X.env.scope).1 (cmp sg N n X.env.scope).2 := cmpl_all n sg X c ok hN
end
end U

set_option Elab.async false
set_option linter.all false
set_option maxRecDepth 100000
/-! UR: the compiler of statements, and that it is right. -/
namespace U
open PySem L2 PyProof.Rows

def isComp : Expr → Bool
  | .ListComp .. => true
  | .SetComp .. => true
  | .DictComp .. => true
  | _ => false
theorem sw_no {e : Expr} {t : Option Expr} {l : Nat} {env : Env} (h : isComp e = false) : swapsWith e t l env = pure false := by
  cases e <;> first | rfl | cases h
def isNm : Expr → Bool
  | .Name .. => true
  | _ => false
theorem sw_tg {e t : Expr} {l : Nat} {env : Env} (h : isNm t = false) : swapsWith e (some t) l env = pure false := by
  cases e <;> first | rfl | (cases t <;> first | rfl | cases h)
/-- the stores of name = [..] exchanged -/
def swLc (nm : List (Str × NameKind)) (y : Str) (py lpos : Pos) (scope : Scope) : Bool :=
  (nm.lookup y == some .local) && py.line == lpos.line && !(scope.names.any fun (n, k) => n == y && (k == .local || k == .cell))
theorem swLc_ok {env : Env} (hk : env.scope.kind = .function) {y : Str} {py lpos : Pos} {scope : Scope} {elt : Expr} {gs : List Comprehension} {l : Nat} : swapsWith (.ListComp elt gs scope lpos) (some (.Name y py)) l env = pure (swLc env.scope.names y py lpos scope) := by
  have hb : env.blockKind = .function := by
    unfold Env.blockKind
    rw [hk]
    rfl
  have e : (env.blockKind == .function) = true := by rw [hb]; rfl
  unfold swapsWith swLc
  simp only [e, Bool.true_and]
  rfl
theorem noSw {t e : Expr} {env : Env} (h : (match t, e with | .Tuple .., .Tuple .. => false | .List .., .Tuple .. => false | _, _ => true) = true) : swappedStores [t] e env = pure none := by
  cases t <;> first | rfl | (cases e <;> first | rfl | cases h)

/-- one assignment -/
def cAsg (sg : Sg) (E : Expr → Option ME) (B : Scope → (Expr → Option ME) × (Expr → Option MB)) (N : List Str) (sc : Scope) (tg e : Expr) : Option MS :=
  match tg with
  | .Name y py => match e with
    | .ListComp elt gs scope lpos =>
      if swLc sc.names y py lpos scope then (ixOf N y).bind fun i => (cLc sg E B N sc elt gs scope).map fun m => .set (.nam i) (hinted sg lpos m)
      else (cG N sc.names 4 tg).bind fun t => (E e).map fun m => .set t m
    | _ => if isComp e then none else (cG N sc.names 4 tg).bind fun t => (E e).map fun m => .set t m
  | .Tuple ts _ _ => match e with
    | .Tuple vs _ _ => (swB sc.names ts vs).bind fun r => match r with
      | none => (cG N sc.names 4 tg).bind fun t => (E e).map fun m => .set t m
      | some [x, y] => (match ts, vs with
        | [.Name x' _, .Name y' _], [a, b] =>
          if x = x' ∧ y = y' ∧ sc.names.lookup x = some .local ∧ sc.names.lookup y = some .local ∧ plainE a ∧ plainE b then (ixOf N x).bind fun i => (ixOf N y).bind fun j => if i ≠ j then (E a).bind fun ma => (E b).map fun mb => .par [i, j] (.cons ma (.cons mb .nil)) else none
          else none
        | _, _ => none)
      | _ => none
    | _ => (cG N sc.names 4 tg).bind fun t => (E e).map fun m => .set t m
  | .Subscript o i _ => if isSlice i then none else (E o).bind fun mo => (E i).bind fun mi => (E e).map fun me => .setix mo mi me
  | _ => none
def augOp : Operator → Option BOp
  | .Add => some .add
  | .Sub => some .sub
  | .Mult => some .mul
  | _ => none
/-- raise X('..') of an exception class of the program's own -/
def cRaise (sg : Sg) (nm : List (Str × NameKind)) (e : Option Expr) (k : Option Expr) : Option Str := match e, k with
  | some (.Call (.Name x _) [.Constant (.str _) _ _] [] _), none => if isGlo (sg.cons.lookup x) x && isGl nm x && okName x then some x else none
  | _, _ => none
def stepS (sg : Sg) (E : Expr → Option ME) (T : Expr → Option MB) (B : Scope → (Expr → Option ME) × (Expr → Option MB)) (N : List Str) (sc : Scope) (S : List Stmt → Option MSs) : Stmt → Option MS
  | .Pass _ => some .pass
  | .Return (some e) _ => (E e).map .ret
  | .Expr e _ => if isComp e then none else (E e).map .exp
  | .If t a b _ => (T t).bind fun mt => (S a).bind fun ma => (S b).map fun mb => .iff mt ma mb
  | .For tg it body [] _ => if notSet it then (cI E sc.names tg it).bind fun mi => (cG N sc.names 4 tg).bind fun t => (S body).map fun mb => .forr t mi mb else none
  | .While t body [] _ => (T t).bind fun mt => (S body).map fun mb => .whl mt mb
  | .Assign [tg] e _ => cAsg sg E B N sc tg e
  | .AugAssign (.Name x _) o e _ => match sc.names.lookup x with
    | some .local => (augOp o).bind fun o => (ixOf N x).bind fun i => (E e).map fun m => .aug i o m
    | _ => none
  | .Raise e k _ => match cRaise sg sc.names e k with
    | some x => some (.raise x)
    | none => some .never
  | _ => none
def cmpS (sg : Sg) (N : List Str) (sc : Scope) (d : Nat) : Nat → List Stmt → Option MSs
  | _, [] => some .nil
  | 0, _ => none
  | n + 1, s :: ss => (stepS sg (cmp sg N d sc).1 (cmp sg N d sc).2 (cmp sg N d) N sc (cmpS sg N sc d n) s).bind fun m => (cmpS sg N sc d n ss).map fun ms => .cons m ms

section
variable {Φ : Fn} {sg : Sg} {N : List Str} {X : Cx} {c : C} {pos : Pos} {tg : Expr} {E : Expr → Option ME} {T : Expr → Option MB}

theorem hinted_or {m : ME} {p : Pos} : hinted sg p m = m ∨ hinted sg p m = .alloc m := by
  unfold hinted
  split
  · exact .inr rfl
  · exact .inl rfl
theorem cAsg_ok {B : Scope → (Expr → Option ME) × (Expr → Option MB)} (ok : XO Φ sg X c) (hN : X.N = N) (o : OkE Φ X c E T)
    (hB : ∀ (Y : Cx) (d : C) , XO Φ sg Y d → Y.N = N → OkE Φ Y d (B Y.env.scope).1 (B Y.env.scope).2) (hcell : ∀ x, X.env.scope.names.lookup x = some .cell → X.fn x = true)
    {e : Expr} {m : MS} (h : cAsg sg E B N X.env.scope tg e = some m) : PS X (.Assign [tg] e pos) (lowS c (evS Φ c.b m)) := by
  have hst : ∀ x, (X.env.scope.names.lookup x = some .local ∨ X.env.scope.names.lookup x = some .cell) → Loc X.env.scope x ∧ (X.fn x = true ∨ X.env.scope.names.lookup x = some .local) := fun x hx => ⟨hx, hx.elim .inr fun q => .inl (hcell x q)⟩
  have std : ∀ {m : MS}, ((cG N X.env.scope.names 4 tg).bind fun t => (E e).map fun m => MS.set t m) = some m → swapsWith e (some tg) pos.line X.env = pure false → swappedStores [tg] e X.env = pure none → plainE tg = true → PS X (.Assign [tg] e pos) (lowS c (evS Φ c.b m)) := by
    intro m h h1 h2 h3
    obtain ⟨t, h4, h⟩ := bind_some h
    obtain ⟨me, h5, rfl⟩ := map_some h
    exact ss_set ok.k (o.e e me h5) (cG_ok ok.calm ok.nd hN hst h4) h1 h2 (by rw [asg_one h3]; rfl)
  unfold cAsg at h
  split at h
  · rename_i y py
    split at h
    · rename_i elt gs scope lpos
      split at h
      · rename_i hs
        obtain ⟨i, h1, h⟩ := bind_some h
        obtain ⟨m', h2, rfl⟩ := map_some h
        obtain ⟨tg, it, ifs, own, os, me, t, mi, mc, rfl, rfl, rfl, L⟩ := cLc_ok ok hN o hB h2
        have hl : X.env.scope.names.lookup y = some .local := by
          unfold swLc at hs
          simp only [Bool.and_eq_true] at hs
          exact eq_of_beq hs.1.1
        rcases L.hi with hi | ⟨x, p, i', rfl, rfl, i1, i2, i3, i4⟩
        · exact ss_setLc ok.k L.hos hinted_or (hN ▸ ixOf_get h1) hl (by rw [swLc_ok ok.kind, hs]) hi L.bk L.hg L.ht L.he L.hs L.hsub
        · exact ss_setLck ok.k L.hos hinted_or (hN ▸ ixOf_get h1) hl (by rw [swLc_ok ok.kind, hs]) i1 i2 i3 i4 L.bk L.hg L.ht L.he L.hsub
      · rename_i hs
        exact std h (by rw [swLc_ok ok.kind]; simp [hs]) rfl rfl
    · split at h
      · cases h
      · rename_i hc
        exact std h (sw_no (by simpa using hc)) rfl rfl
  · rename_i ts k p
    split at h
    · rename_i vs k2 p2
      obtain ⟨r, h1, h⟩ := bind_some h
      have hw := swB_ok (k := k) (k2 := k2) (p := p) (p2 := p2) ok.kind h1
      split at h
      · exact std h rfl hw rfl
      · split at h
        · rename_i x y x' px y' py a b
          split at h
          · rename_i q
            obtain ⟨rfl, rfl, q1, q2, q3, q4⟩ := q
            obtain ⟨i, h2, h⟩ := bind_some h
            obtain ⟨j, h3, h⟩ := bind_some h
            split at h
            · rename_i hij
              obtain ⟨ma, h4, h⟩ := bind_some h
              obtain ⟨mb, h5, rfl⟩ := map_some h
              exact ss_par2 ok.k (hN ▸ ixOf_get h2) (hN ▸ ixOf_get h3) hij q1 q2 (o.e _ ma h4) (o.e _ mb h5) q3 q4 hw
            · cases h
          · cases h
        · cases h
      · cases h
    · rename_i hne
      refine std h (sw_tg rfl) (noSw ?_) rfl
      cases e <;> first | rfl | exact absurd rfl (hne _ _ _)
  · rename_i ob i p
    split at h
    · cases h
    · rename_i hi
      obtain ⟨mo, h1, h⟩ := bind_some h
      obtain ⟨mi, h2, h⟩ := bind_some h
      obtain ⟨me, h3, rfl⟩ := map_some h
      refine ss_setix ok.k (o.e _ mo h1) (o.e _ mi h2) (o.e _ me h3) (show swapsWith e (some (.Subscript ob i p)) pos.line X.env = pure false from sw_tg rfl) rfl rfl ?_
      intro v
      have hi : isSlice i = false := by simpa using hi
      cases i <;> first | rfl | cases hi
  · cases h
theorem stepS_ok {B : Scope → (Expr → Option ME) × (Expr → Option MB)} {S : List Stmt → Option MSs} (ok : XO Φ sg X c) (hN : X.N = N) (o : OkE Φ X c E T)
    (hB : ∀ (Y : Cx) (d : C) , XO Φ sg Y d → Y.N = N → OkE Φ Y d (B Y.env.scope).1 (B Y.env.scope).2) (hcell : ∀ x, X.env.scope.names.lookup x = some .cell → X.fn x = true)
    (hS : ∀ ss ms, S ss = some ms → PSs X ss (lowS c (evSs Φ c.b ms))) {st : Stmt} {m : MS} (h : stepS sg E T B N X.env.scope S st = some m) : PS X st (lowS c (evS Φ c.b m)) := by
  have hst : ∀ x, (X.env.scope.names.lookup x = some .local ∨ X.env.scope.names.lookup x = some .cell) → Loc X.env.scope x ∧ (X.fn x = true ∨ X.env.scope.names.lookup x = some .local) := fun x hx => ⟨hx, hx.elim .inr fun q => .inl (hcell x q)⟩
  unfold stepS at h
  split at h
  · cases h; exact ss_pass
  · obtain ⟨me, h1, rfl⟩ := map_some h
    exact ss_ret (o.e _ me h1)
  · split at h
    · cases h
    · rename_i hc
      obtain ⟨me, h1, rfl⟩ := map_some h
      exact ss_exp (o.e _ me h1) (sw_no (by simpa using hc))
  · obtain ⟨mt, h1, h⟩ := bind_some h
    obtain ⟨ma, h2, h⟩ := bind_some h
    obtain ⟨mb, h3, rfl⟩ := map_some h
    exact ss_if (o.t _ mt h1) (hS _ ma h2) (hS _ mb h3)
  · split at h
    · rename_i hs
      obtain ⟨mi, h1, h⟩ := bind_some h
      obtain ⟨t, h2, h⟩ := bind_some h
      obtain ⟨mb, h3, rfl⟩ := map_some h
      exact ss_for ok.k (cI_ok ok o h1) (cG_ok ok.calm ok.nd hN hst h2) (hS _ mb h3) fun x => folded_of hs x
    · cases h
  · obtain ⟨mt, h1, h⟩ := bind_some h
    obtain ⟨mb, h3, rfl⟩ := map_some h
    exact ss_while ok.k (o.t _ mt h1) (hS _ mb h3)
  · exact cAsg_ok ok hN o hB hcell h
  · split at h
    · rename_i hl
      obtain ⟨bo, h1, h⟩ := bind_some h
      obtain ⟨i, h2, h⟩ := bind_some h
      obtain ⟨me, h3, rfl⟩ := map_some h
      have e : ∀ {op : Operator}, augOp op = some bo → op = opPy bo ∧ (bo = .add ∨ bo = .sub ∨ bo = .mul) := fun {op} q => by
        cases op <;> cases q <;> exact ⟨rfl, by simp⟩
      obtain ⟨e1, e2⟩ := e h1
      rw [e1]
      exact ss_aug ok.k bo e2 (hN ▸ ixOf_get h2) (.inl hl) (.inr hl) (o.e _ me h3)
    · cases h
  · split at h
    · rename_i x hx
      cases h
      unfold cRaise at hx
      split at hx
      · split at hx
        · rename_i hs
          cases hx
          rw [Bool.and_eq_true, Bool.and_eq_true] at hs
          exact ss_raise ok.k (glo_of hs.1.1) (gl_of hs.1.2) (okName_of hs.2).1
        · cases hx
      · cases hx
    · cases h; exact ss_never
  · cases h
theorem cmpS_ok (ok : XO Φ sg X c) (hN : X.N = N) (hcell : ∀ x, X.env.scope.names.lookup x = some .cell → X.fn x = true) {d : Nat} : ∀ {n : Nat} {ss : List Stmt} {ms : MSs}, cmpS sg N X.env.scope d n ss = some ms → PSs X ss (lowS c (evSs Φ c.b ms))
  | 0, [], ms, h => by cases h; exact sss_nil
  | n + 1, [], ms, h => by cases h; exact sss_nil
  | 0, s :: ss, ms, h => by cases h
  | n + 1, s :: ss, ms, h => by
    unfold cmpS at h
    obtain ⟨m, h1, h⟩ := bind_some h
    obtain ⟨ms', h2, rfl⟩ := map_some h
    exact sss_cons (stepS_ok ok hN (cmpl_ok d X c ok hN) (fun Y d oY hY => cmpl_ok _ Y d oY hY) hcell (fun ss ms h => cmpS_ok ok hN hcell h) h1) (cmpS_ok ok hN hcell h2)
end
end U

set_option Elab.async false
set_option linter.all false
set_option maxRecDepth 100000
/-! US: functions. -/
namespace U
open PySem L2 PyProof.Rows

/-! ### binding -/
theorem lookup_app {α : Type} {k : Str} : ∀ {S T : List (Str × α)}, S.lookup k = none → (S ++ T).lookup k = T.lookup k
  | [], T, _ => rfl
  | (a, b) :: S, T, h => by
    rw [List.cons_append]
    rw [List.lookup_cons] at h ⊢
    cases e : k == a with
    | true => rw [e] at h; cases h
    | false => rw [e] at h; exact lookup_app h
theorem lookup_none {α : Type} {k : Str} : ∀ {S : List (Str × α)}, k ∉ S.map (·.1) → S.lookup k = none
  | [], _ => rfl
  | (a, b) :: S, h => by
    rw [List.lookup_cons]
    rw [List.map_cons, List.mem_cons, not_or] at h
    rw [beq_eq_false_iff_ne.mpr h.1]
    exact lookup_none h.2
theorem kws_go {normal : List Str} {γ : Type} {g : Str × Value → γ → Sem (ForInStep γ)} {flip : List (Str × Value) → γ}
    (hg : ∀ k v S, k ∈ normal → S.lookup k = none → g (k, v) (flip S) = pure (.yield (flip (S ++ [(k, v)])))) :
    ∀ (l S : List (Str × Value)), (∀ q ∈ l, q.1 ∈ normal) → ((S ++ l).map (·.1)).Nodup → forIn l (flip S) g = pure (flip (S ++ l))
  | [], S, _, _ => by rw [List.append_nil]; rfl
  | (k, v) :: l, S, h, nd => by
    have hk : k ∉ S.map (·.1) := by
      rw [List.map_append, List.nodup_append] at nd
      intro z
      exact nd.2.2 k z k (by simp) rfl
    rw [List.forIn_cons, hg k v S (h _ List.mem_cons_self) (lookup_none hk)]
    have q := kws_go hg l (S ++ [(k, v)]) (fun q hq => h q (List.mem_cons_of_mem _ hq)) (by rw [List.append_assoc]; exact nd)
    rw [List.append_assoc] at q
    exact q
theorem zip_split {α β : Type} : ∀ {ps : List α} {us ws : List β}, us.length + ws.length = ps.length → ps.zip us ++ (ps.drop us.length).zip ws = ps.zip (us ++ ws)
  | ps, [], ws, _ => by simp
  | [], u :: us, ws, h => by simp at h
  | p :: ps, u :: us, ws, h => by
    have ih := zip_split (ps := ps) (us := us) (ws := ws) (by simp at h; omega)
    simpa using ih
theorem zip_keys {α β : Type} : ∀ {ps : List α} {us : List β}, us.length = ps.length → (ps.zip us).map (·.1) = ps
  | [], [], _ => rfl
  | p :: ps, u :: us, h => by
    simp only [List.zip_cons_cons, List.map_cons]
    rw [zip_keys (by simpa using h)]
theorem fm_congr {α β : Type} {f g : α → Option β} : ∀ {l : List α}, (∀ x ∈ l, f x = g x) → l.filterMap f = l.filterMap g
  | [], _ => rfl
  | a :: l, h => by
    rw [List.filterMap_cons, List.filterMap_cons, h a List.mem_cons_self, fm_congr fun x hx => h x (List.mem_cons_of_mem _ hx)]
theorem fm_zip : ∀ {ps : List Str} {us : List Value}, ps.Nodup → us.length = ps.length → (ps.filterMap fun n => ((ps.zip us).lookup n).map (n, ·)) = ps.zip us
  | [], _, _, _ => rfl
  | p :: ps, [], _, h => by simp at h
  | p :: ps, u :: us, nd, h => by
    have nd' := List.nodup_cons.mp nd
    have ih := fm_zip (ps := ps) (us := us) nd'.2 (by simpa using h)
    rw [List.filterMap_cons]
    simp only [List.zip_cons_cons, List.lookup_cons, beq_self_eq_true, Option.map_some]
    congr 1
    refine Eq.trans (fm_congr fun n hn => ?_) ih
    have : (n == p) = false := beq_eq_false_iff_ne.mpr fun e => nd'.1 (e ▸ hn)
    simp only [this]
theorem zip_some : ∀ {ps : List Str} {us : List Value} {n : Str}, us.length = ps.length → n ∈ ps → ((ps.zip us).lookup n).isNone = false
  | [], _, _, _, hn => by cases hn
  | p :: ps, [], _, h, _ => by simp at h
  | p :: ps, u :: us, n, h, hn => by
    simp only [List.zip_cons_cons, List.lookup_cons]
    cases e : n == p with
    | true => rfl
    | false =>
      rcases List.mem_cons.mp hn with z | z
      · rw [z] at e; simp at e
      · exact zip_some (by simpa using h) z
structure PlainPs (p : Arguments) (ps : List Str) : Prop where
  po : p.posonlyargs = []
  ar : p.args.map (·.arg) = ps
  va : p.vararg = none
  ko : p.kwonlyargs = []
  kw : p.kwarg = none
def plainPs (p : Arguments) : Bool := p.posonlyargs.isEmpty && p.vararg.isNone && p.kwonlyargs.isEmpty && p.kwarg.isNone
theorem plainPs_of {p : Arguments} (h : plainPs p = true) : PlainPs p (p.args.map (·.arg)) := by
  unfold plainPs at h
  simp only [Bool.and_eq_true, List.isEmpty_iff, Option.isNone_iff_eq_none] at h
  exact ⟨h.1.1.1, rfl, h.1.1.2, h.1.2, h.2⟩
theorem binds_plain {fd : FuncData} {ps : List Str} {us ws : List Value} (hp : PlainPs fd.params ps) (hd : fd.defaults = .none) (nd : ps.Nodup) (hl : us.length + ws.length = ps.length) :
    bindArgs fd ⟨us, (ps.drop us.length).zip ws⟩ = pure (ps.zip (us ++ ws)) := by
  have e1 := zip_split hl
  have hl2 : (us ++ ws).length = ps.length := by simpa using hl
  unfold bindArgs
  simp only [hp.po, hp.ar, hp.va, hp.ko, hp.kw, hd, List.map_nil, List.nil_append, List.append_nil]
  have hk : ∀ q ∈ (ps.drop us.length).zip ws, q.1 ∈ ps := fun q hq => List.mem_of_mem_drop (List.of_mem_zip hq).1
  have hn : ((ps.zip us ++ (ps.drop us.length).zip ws).map (·.1)).Nodup := by rw [e1, zip_keys hl2]; exact nd
  rw [kws_go (normal := ps) (flip := fun S => (S, [])) (fun k v S hk hS => by
    have c1 : (ps.contains k || ([] : List Str).contains k) = true := by simp [hk]
    have c2 : ¬ (List.lookup k S).isSome = true := by rw [hS]; decide
    simp only [c1, if_true]
    rw [if_neg c2]) _ _ hk hn, e1]
  have c3 : ((ps.take (ps.length - 0)).filter fun n => ((ps.zip (us ++ ws)).lookup n).isNone) = [] := by
    rw [List.filter_eq_nil_iff]
    intro n hn
    rw [zip_some hl2 (List.mem_of_mem_take hn)]
    decide
  have c4 : ¬ (us.length > ps.length) := by omega
  have c5 : seqItems? .none = pure none := rfl
  rw [c5]
  simp only [pure_bind, Option.getD_none, Option.isNone_none]
  simp [c4, fm_zip nd hl2]
  intro x hx hall
  have z := zip_some (n := x) hl2 hx
  cases e : (ps.zip (us ++ ws)).lookup x with
  | none => rw [e] at z; cases z
  | some v => exact absurd (lookup_mem e) (hall v)
theorem kbn_plain {K : PySem.W.Frag} {fd : FuncData} {ps : List Str} (hp : PlainPs fd.params ps) (hd : fd.defaults = .none) (nd : ps.Nodup) (n : Nat) (hn : n ≤ ps.length) :
    KBn K fd ps n (ps.drop n) (fun us ws => us ++ ws) (fun us ws => us ++ ws) := by
  refine ⟨fun s us ws _ h1 h2 => ?_, fun r1 r2 => r1.append r2⟩
  subst h1
  exact BindsTo.of_eq (binds_plain hp hd nd (by rw [h2, List.length_drop]; omega))

end U

set_option Elab.async false
set_option linter.all false
set_option maxRecDepth 100000
/-! UT: the program's functions, all at once. -/
namespace U
open PySem L2 PyProof.Rows

/-- the function's table of code objects is known -/
structure TabOk (mg : Str → Option Value) (base : Heap) (T : List (Addr × Str)) (qual : Str) (fdt : FuncData) : Prop where
  ex : ∃ c0 P, fdt.code = .ref c0 ∧ LamX.TabB base mg c0 P ∧ (P, lamName (qual ++ ".<locals>.")) ∈ T ∧ ∀ p ∈ T, p.1 = P → p.2 = lamName (qual ++ ".<locals>.")
structure DefOk (K : PySem.W.Frag) (mg : Str → Option Value) (base : Heap) (T : List (Addr × Str)) (sg : Sg) (f : Str) (ps : List Str) (fd : FDef) : Prop where
  ex : ∃ (x qual : Str) (params : Arguments) (body : List Stmt) (scope : Scope) (a : Addr) (fdt : FuncData) (N : List Str) (d m : Nat) (lm : Bool), FunD K x qual params body scope [] [] a fdt ∧ mg f = some (.ref a) ∧ PlainPs params ps ∧ FnScope N ps scope ∧
    cmpS { sg with lam := lm } N scope d m body = some fd.body ∧ fd.slots = N.length ∧ (lm = true → sg.lam = true ∧ TabOk mg base T qual fdt)
  n : fd.n = ps.length
  pre : fd.pre = 0
/-- the function that calls lambdas -/
structure ResFd (K : PySem.W.Frag) (mg : Str → Option Value) (sg : Sg) (Ng : List Str) (body : MSs) : Prop where
  ex : ∃ (g : Addr) (fdt : FuncData) (pg : Arguments) (bg : List Stmt) (sc : Scope) (CU : Addr) (tail : List Stmt) (d m : Nat), FunD K resName resName pg bg sc [] [] g fdt ∧ mg resName = some (.ref g) ∧ PlainPs pg ["call"] ∧ FnScope Ng ["call"] sc ∧ resNs Ng = true ∧ resSc sc = true ∧ resTail bg = some tail ∧
    mg "UnitError" = some (.ref CU) ∧ sg.cons.lookup ("UnitError" : Str) = some (.glo "UnitError") ∧ cmpS ⟨[], sg.cons, sg.hints, false⟩ Ng sc d m tail = some body
/-- what is called at a level -/
structure FnAt (P : Program) (w : World) (K : PySem.W.Frag) (mg : Str → Option Value) (base : Heap) (T : List (Addr × Str)) (n : Nat) (f : Str) (ps : List Str) (F : List D → Hd → Out D) : Prop where
  ex : ∃ a fdt, mg f = some (.ref a) ∧ PySem.W.keepIn K (.ref a) = true ∧ (∃ oc od osl, K.lookup a = some ⟨oc, od, .func fdt, osl⟩) ∧ (∀ n, n ≤ ps.length → KBn K fdt ps n (ps.drop n) (fun us ws => us ++ ws) (fun us ws => us ++ ws)) ∧ FnOk P w K mg base (L2.CX P w) n a fdt ps (lowSp K mg T ps.length F)
theorem funD_at {K : PySem.W.Frag} {x qual : Str} {params : Arguments} {body : List Stmt} {scope : Scope} {a : Addr} {fdt : FuncData} (F : FunD K x qual params body scope [] [] a fdt) : ∃ oc od osl, K.lookup a = some ⟨oc, od, .func fdt, osl⟩ := by
  obtain ⟨oc, od, _, _, _, _, _, _, _, osl, e1, lk, _⟩ := F.ex
  exact ⟨oc, od, osl, lk⟩
theorem env_start {c : C} {H : Hp} {ρ : List Addr} {N : List Str} {n : Nat} (hN : n = N.length) : ∀ {ds : List D} {vs : List V}, Rps c H ρ ds vs → EnvR c H ρ (L2.start N vs) (ds.map some ++ List.replicate (n - ds.length) none) := by
  intro ds vs r
  have hl := r.length
  refine ⟨by unfold L2.start; simp [hl, hN], fun i d h => ?_⟩
  unfold L2.start
  by_cases hi : i < ds.length
  · rw [List.getElem?_append_left (by simpa using hi), List.getElem?_map] at h
    obtain ⟨d', h1, h2⟩ := map_some h
    cases h2
    obtain ⟨v, hv, rv⟩ := r.get h1
    refine ⟨v, ?_, rv⟩
    rw [List.getElem?_append_left (by simpa [hl] using hi), List.getElem?_map, hv]
    rfl
  · rw [List.getElem?_append_right (by simpa using hi)] at h
    have := List.mem_of_getElem? h
    rw [List.mem_replicate] at this
    cases this.2
section
variable {P : Program} {w : World} {K : PySem.W.Frag} {mg : Str → Option Value} {base : Heap} {T : List (Addr × Str)} {sg : Sg} {tbl : List (Str × FDef)} {Ng : List Str} {rbody : MSs}
/-- the module's plain names -/
structure ModOk (K : PySem.W.Frag) (mg : Str → Option Value) (sg : Sg) : Prop where
  con : ∀ x d, sg.cons.lookup x = some d → ∃ u v, mg x = some u ∧ RelV v u ∧ ∀ c' : C, c'.K = K → c'.mg = mg → ∀ H ρ, Rp c' H ρ d v
  blt : ∀ x ∈ bltNames, mg x = none
  exc : ∀ x, sg.cons.lookup x = some (.glo x) → ExcOk K mg (fun x => sg.cons.lookup x) x
theorem fun_plain {x qual : Str} {params : Arguments} {body : List Stmt} {scope : Scope} {a : Addr} {fdt : FuncData} (F : FunD K x qual params body scope [] [] a fdt) : fdt.params = params ∧ fdt.defaults = .none := by
  obtain ⟨oc, od, dV, kV, doc, pm, an, cdv, ct, osl, rfl, lk, hcd, hD, hK⟩ := F.ex
  rcases hD with ⟨_, rfl⟩ | ⟨e, _⟩
  · exact ⟨rfl, rfl⟩
  · exact absurd rfl e
set_option maxHeartbeats 400000 in
theorem def_ok {Φ Φ' : Fn} {f : Str} {ps : List Str} {fd : FDef} {n : Nat} (M : ModOk K mg sg) (D : DefOk K mg base T sg f ps fd) (R : sg.lam = true → ResFd K mg sg Ng rbody)
    (hr1 : ∀ ds G, Φ resName ds G = .bad ∨ Φ resName ds G = callF Φ' ⟨2, Ng.length - 1, false, rbody, 1⟩ ds G) (hr2 : ∀ ds G, Φ resX ds G = .bad ∨ Φ resX ds G = callF Φ' ⟨1, Ng.length - 1, false, rbody, 1⟩ ds G)
    (ih : ∀ g qs, sg.fns.lookup g = some qs → FnAt P w K mg base T (3 * n) g qs (Φ g)) : FnAt P w K mg base T (3 * (n + 1)) f ps (callF Φ fd) := by
  obtain ⟨x, qual, params, body, scope, a, fdt, N, d, m, lm, F, hm, pp, S, hc, hs, hT⟩ := D.ex
  have e := fun_plain F
  have ndp : ps.Nodup := by
    rw [← S.pre]
    exact (List.take_sublist _ _).nodup S.nd
  have len : ∀ vs H Q E, lowSp K mg T ps.length (callF Φ fd) vs H Q E → vs.length = ps.length := fun vs H Q E h => by
    obtain ⟨_, _, _, _, _, _, _, _, _, _, h, _⟩ := h
    exact h
  refine ⟨a, fdt, hm, F.kp, funD_at F, fun n hn => kbn_plain (e.1 ▸ pp) e.2 ndp n hn, len, fun A outer s H args us vs Q E hr e0 hb r hsp => ?_⟩
  obtain ⟨oc, od, dV, kV, doc, pm, an, cdv, ct, osl, efd, lk, hcd, _, _⟩ := F.ex
  subst efd
  refine LamX.run_ofS (k := 3 * n + 2) lk hcd S hr e0 hb r (len _ _ _ _ hsp) fun hr => ?_
  obtain ⟨EX, b, Pb, Z, ρ, G, ds, hE, sr, rs, hl, fin⟩ := hsp
  obtain ⟨h1, h2⟩ := callF_fin sr fin
  have pre0 := D.pre
  rw [pre0] at h2
  have xok : XOk Φ (fun x => sg.fns.lookup x) (fun x => sg.cons.lookup x) (cxOf (L2.CX P w) P w K mg base N qual scope a cdv A outer s H E) (C.inn ⟨K, mg, EX, b, Pb, Z, T⟩ G.length) := by
    refine ⟨rfl, rfl, rfl, ?_, S.nd, S.kind, M.con, M.blt, fun g qs hg => ?_, M.exc, ?_, ?_⟩
    · have := hr.un
      show (A.deeper (envOfC qual scope s.heap.objs.size a cdv)).units + 64 < cLine
      omega
    · obtain ⟨a', fdt', q1, q2, _, q3, q4⟩ := ih g qs hg
      exact ⟨a', fdt', 3 * n, q1, q2, q3, q4, hr.mono (by omega)⟩
    · exact (takes_of (E := E) rfl rfl rfl rfl).imp fun cls d σ H h => hE cls d H h
    · exact passes_of (K := fun e s'' => L2.CX P w outer H s E e s'') rfl
  refine ⟨lowS (C.inn ⟨K, mg, EX, b, Pb, Z, T⟩ G.length) (evSs Φ G.length fd.body), ?_, ?_⟩
  · refine cmpS_ok (sg := { sg with lam := lm }) (X := cxOf (L2.CX P w) P w K mg base N qual scope a cdv A outer s H E) (c := C.inn ⟨K, mg, EX, b, Pb, Z, T⟩ G.length) ⟨xok, fun hlm1 => ?_⟩ rfl (fun _ _ => rfl) hc
    have hlm1 : lm = true := hlm1
    obtain ⟨c0, Pt, t1, t2, t3, t4⟩ := (hT hlm1).2.ex
    have t1 : cdv = .ref c0 := t1
    obtain ⟨g, fdg, pg, bg, sc, CU, tail, dr, mr, Fg, mgg, ppg, Sg', k1, k2, k3, k4, k5, k6⟩ := (R (hT hlm1).1).ex
    have eg := fun_plain Fg
    have a1 : (cxOf (L2.CX P w) P w K mg base N qual scope a cdv A outer s H E).env.qual = qual ++ ".<locals>." := rfl
    obtain ⟨goc, god, gdV, gkV, gdoc, gpm, gan, gcdv, gct, gosl, gefd, glk, ghcd, _, _⟩ := Fg.ex
    subst gefd
    have ndg : (["call"] : List Str).Nodup := by simp
    refine ⟨⟨g, pg, bg, tail, sc, Ng, c0, Pt, CU, 3 * n, rbody, gcdv, Φ'⟩, mgg, Fg.kp, ⟨_, _, _, _, _, _, _, _, _, glk, fun s us _ hl => ?_⟩, ghcd, Sg', k1, k2, k3, k4, k5, fun s2 H2 b2 => ?_, t2, t1, ?_, ?_, hr, fun g qs hg => ?_, hr1, hr2⟩
    · have q := BindsTo.of_eq (s := s) (binds_plain (us := us) (ws := []) (eg.1 ▸ ppg) eg.2 ndg (by simpa using hl))
      rw [List.zip_nil_right, List.append_nil] at q
      rw [List.append_nil]
      exact q
    · refine cmpS_ok (sg := ⟨[], sg.cons, sg.hints, false⟩) (X := Cx.nox _) ⟨⟨rfl, rfl, rfl, ?_, Sg'.nd, Sg'.kind, M.con, M.blt, fun g qs hg => (nomatch (show (none : Option (List Str)) = some qs from hg)), M.exc, fun u s' ⟨_, _, _, _, _, _, _, _, _, _, _, _, _, _, _, _, z⟩ => ?_, PassesOwn.never⟩, fun z => by cases z⟩ rfl (fun _ _ => rfl) k6
      · have := (hr.deeper (envOfC resName sc s2.heap.objs.size g gcdv)).un
        show ((A.deeper (envOfC qual scope s.heap.objs.size a cdv)).deeper (envOfC resName sc s2.heap.objs.size g gcdv)).units + 64 < cLine
        omega
      · obtain ⟨_, _, _, _, _, z⟩ := z
        exact z.elim
    · rw [a1]
      exact t3
    · rw [a1]
      exact t4
    · obtain ⟨a', fdt', q1, q2, _, q3, q4⟩ := ih g qs hg
      exact ⟨a', fdt', q1, q2, q3, q4⟩
  · exact ⟨Z, fun m => Pb m ∨ m = G.length, ρ, G, _, SR.inn sr, env_start hs (Rps.cx (c := ⟨K, mg, EX, b, Pb, Z, T⟩) (c' := C.inn ⟨K, mg, EX, b, Pb, Z, T⟩ G.length) rfl rfl rfl _ _ rs), h2⟩
theorem fns_ok (M : ModOk K mg sg) (R : sg.lam = true → ResFd K mg sg Ng rbody) (h1 : tbl.lookup resName = none ∨ tbl.lookup resName = some ⟨2, Ng.length - 1, false, rbody, 1⟩) (h2 : tbl.lookup resX = none ∨ tbl.lookup resX = some ⟨1, Ng.length - 1, false, rbody, 1⟩)
    (hall : ∀ f ps, sg.fns.lookup f = some ps → ∃ fd, tbl.lookup f = some fd ∧ DefOk K mg base T sg f ps fd) : ∀ (n : Nat) (f : Str) (ps : List Str), sg.fns.lookup f = some ps → FnAt P w K mg base T (3 * n) f ps (run tbl n f)
  | 0, f, ps, h => by
    obtain ⟨fd, _, D⟩ := hall f ps h
    obtain ⟨x, qual, params, body, scope, a, fdt, N, d, m, lm, F, hm, pp, S, hc, hs, _⟩ := D.ex
    have e := fun_plain F
    have ndp : ps.Nodup := by
      rw [← S.pre]
      exact (List.take_sublist _ _).nodup S.nd
    have no : ∀ vs H Q E, ¬ lowSp K mg T ps.length (run tbl 0 f) vs H Q E := fun vs H Q E h => by
      obtain ⟨_, _, _, _, _, _, _, _, _, _, _, h⟩ := h
      exact h
    exact ⟨a, fdt, hm, F.kp, funD_at F, fun n hn => kbn_plain (e.1 ▸ pp) e.2 ndp n hn, fun vs H Q E h => absurd h (no _ _ _ _), fun A outer s H args us vs Q E _ _ _ _ h => absurd h (no _ _ _ _)⟩
  | n + 1, f, ps, h => by
    obtain ⟨fd, hf, D⟩ := hall f ps h
    have e : ∀ (n : Nat) (f : Str) (fd : FDef), tbl.lookup f = some fd → run tbl (n + 1) f = callF (run tbl n) fd := fun n f fd hf => by
      funext ds G
      show (match tbl.lookup f with
        | some fd => callF (run tbl n) fd ds G
        | none => .bad) = _
      rw [hf]
    rw [e n f fd hf]
    have ih := fun g qs hg => fns_ok M R h1 h2 hall n g qs hg
    have no : ∀ (n : Nat) (f : Str), tbl.lookup f = none → ∀ ds G, run tbl (n + 1) f ds G = .bad := fun n f hf ds G => by
      show (match tbl.lookup f with
        | some fd => callF (run tbl n) fd ds G
        | none => .bad) = _
      rw [hf]
    cases n with
    | zero => exact def_ok (Φ' := run tbl 0) M D R (fun ds G => .inl rfl) (fun ds G => .inl rfl) ih
    | succ k =>
      refine def_ok (Φ' := run tbl k) M D R (fun ds G => ?_) (fun ds G => ?_) ih
      · rcases h1 with h | h
        · exact .inl (no k _ h ds G)
        · exact .inr (by rw [e k _ _ h])
      · rcases h2 with h | h
        · exact .inl (no k _ h ds G)
        · exact .inr (by rw [e k _ _ h])
end
end U

set_option Elab.async false
set_option linter.all false
set_option maxRecDepth 100000
/-! UU: from the rows of a program to its law. -/
namespace U
open PySem L2 PyProof.Rows

/-- one def of the top -/
structure Row where
  f : Str
  st : Stmt
  N : List Str
  keep : Bool
  body : MSs
  lam : Bool := false
def Row.ps (r : Row) : List Str := (defArgs r.st).args.map (·.arg)
def Row.fd (r : Row) : FDef := ⟨r.ps.length, r.N.length, r.keep, r.body, 0⟩
def defD (f : Str) (st : Stmt) : He.DefD := ⟨(f, none), f, f, defArgs st, defBody st, defScope st, [], []⟩
def Row.d (r : Row) : He.DefD := defD r.f r.st
def fnScopeB (N P : List Str) (sc : Scope) : Bool :=
  (match sc.kind with | .function => true | _ => false) && !sc.isCoroutine && !sc.isGenerator && decide N.Nodup && decide (N.take P.length = P) &&
    (P.all fun x => match sc.names.lookup x with | some .local => true | some .cell => true | _ => false) && (sc.names.all fun y => match y.2 with | .free => false | _ => true)
theorem fnScopeB_ok {N P : List Str} {sc : Scope} (h : fnScopeB N P sc = true) : FnScope N P sc := by
  unfold fnScopeB at h
  simp only [Bool.and_eq_true, List.all_eq_true, decide_eq_true_eq, Bool.not_eq_true'] at h
  obtain ⟨⟨⟨⟨⟨⟨h1, h2⟩, h3⟩, h4⟩, h5⟩, h6⟩, h7⟩ := h
  refine ⟨?_, h2, h3, h4, h5, fun x hx => ?_, fun y hy e => ?_⟩
  · split at h1
    · assumption
    · cases h1
  · have q := h6 x hx
    split at q
    · exact .inl (by assumption)
    · exact .inr (by assumption)
    · cases q
  · have q := h7 y hy
    rw [e] at q
    cases q
/-- the def that calls lambdas: its text, names, tail's code -/
structure Res where
  st : Stmt
  N : List Str
  body : MSs
def resTbl : Option Res → List (Str × FDef)
  | none => []
  | some r => [(resName, ⟨2, r.N.length - 1, false, r.body, 1⟩), (resX, ⟨1, r.N.length - 1, false, r.body, 1⟩)]
def tblOf (rows : List Row) (res : Option Res) : List (Str × FDef) := rows.map (fun r => (r.f, r.fd)) ++ resTbl res
def fnsOf (rows : List Row) : List (Str × List Str) := rows.map fun r => (r.f, r.ps)
structure RowOk (sg : Sg) (r : Row) : Prop where
  pp : plainPs (defArgs r.st) = true
  sc : fnScopeB r.N r.ps (defScope r.st) = true
  cc : ∃ d m, cmpS { sg with lam := r.lam } r.N (defScope r.st) d m (defBody r.st) = some r.body
structure ResOk (sg : Sg) (r : Res) : Prop where
  pp : plainPs (defArgs r.st) = true
  ps : (defArgs r.st).args.map (·.arg) = (["call"] : List Str)
  sc : fnScopeB r.N ["call"] (defScope r.st) = true
  ns : resNs r.N = true
  ss : resSc (defScope r.st) = true
  cc : ∃ tail d m, resTail (defBody r.st) = some tail ∧ cmpS ⟨[], sg.cons, sg.hints, false⟩ r.N (defScope r.st) d m tail = some r.body
  cu : sg.cons.lookup ("UnitError" : Str) = some (.glo "UnitError")
theorem rows_look {rows : List Row} {res : Option Res} {f : Str} {ps : List Str} (h : (fnsOf rows).lookup f = some ps) : ∃ r ∈ rows, r.f = f ∧ r.ps = ps ∧ (tblOf rows res).lookup f = some r.fd := by
  unfold tblOf
  induction rows with
  | nil => cases h
  | cons r rows ih =>
    unfold fnsOf at h
    rw [List.map_cons, List.lookup_cons] at h
    rw [List.map_cons, List.cons_append, List.lookup_cons]
    cases e : f == r.f with
    | true =>
      rw [e] at h
      cases h
      exact ⟨r, List.mem_cons_self, (eq_of_beq e).symm, rfl, rfl⟩
    | false =>
      rw [e] at h
      obtain ⟨r', h1, h2⟩ := ih h
      exact ⟨r', List.mem_cons_of_mem _ h1, h2⟩

/-! ### facts -/
def conFa : Str × D → List He.Fa
  | (x, .int i) => [.int x i]
  | (x, .str z) => [.str x z]
  | (x, .tup _) => [.glo x]
  | (x, _) => [.glo x, .exc x]
/-- flat values in a tuple of the module -/
def flatV : D → Bool
  | .int _ => true
  | .str _ => true
  | _ => false
def dvOf : D → He.Dv
  | .int i => .int i
  | .str x => .str x
  | _ => .non
def tupFact (K : PySem.W.Frag) : Str × D → Bool
  | (x, .tup ds) => He.tupB K x (ds.map dvOf)
  | _ => true
def conOk : Str × D → Bool
  | (_, .int _) => true
  | (_, .str _) => true
  | (_, .tup ds) => ds.all flatV
  | (x, .glo y) => x == y
  | _ => false
def resFa : Option Res → List He.Fa
  | none => []
  | some _ => [.glo resName]
def resFn : Option Res → List He.DefD
  | none => []
  | some r => [defD resName r.st]
def faOf (rows : List Row) (res : Option Res) (cons : List (Str × D)) : List He.Fa := rows.map (fun r => .glo r.f) ++ (cons.flatMap conFa ++ (bltNames.map .free ++ resFa res))
def fnOf (rows : List Row) (res : Option Res) : List He.DefD := rows.map Row.d ++ resFn res
def tfOf (rows : List Row) : List He.Defn := (rows.filter (·.lam)).map fun r => (r.f, none)
/-- no list is written -/
def noL (o : Obj) : Bool := match o.cls with
  | .type c => !(c == "list")
  | _ => true
def excCB (K : PySem.W.Frag) (D : Addr) : Bool :=
  decide (PySem.W.findIn K (.ref D) "__getattribute__" = some (some (.builtin "BaseException.__getattribute__"))) && (decide (PySem.W.findIn K (.ref D) "__getattr__" = some none) && (decide (PySem.W.subIn K (.ref D) (.type "BaseException") = some true) && (PySem.W.hasDictIn K D &&
    (decide (PySem.W.findIn K (.ref D) "__class__" = some (some (.builtin "object.__class__"))) && (decide (PySem.W.specialIn K (.builtin "object.__class__") "__get__" = some (some (.builtin "getset_descriptor.__get__"))) && (decide (PySem.W.takesIn K (.builtin "object.__class__") = some true) && decide (PySem.W.mroIn K D (.type "object") = some true)))))))
theorem excC_of {K : PySem.W.Frag} {D : Addr} (h : excCB K D = true) : ExcC K D := by
  unfold excCB at h
  simp only [Bool.and_eq_true, decide_eq_true_eq] at h
  obtain ⟨h1, h2, h3, h4, h5, h6, h7, h8⟩ := h
  exact ⟨h1, h2, h3, h4, h5, h6, h7, h8⟩
def exOne (K : PySem.W.Frag) (ns : List Str) (x : Str) : Bool := excCB K (He.ga K x) && (decide (PySem.W.kitOne K (.ref (He.ga K x)) (.type "ValueError") = some true) && ns.all fun y => decide (PySem.W.kitOne K (.ref (He.ga K x)) (.ref (He.ga K y)) = some (excSub x y)) && decide (PySem.W.exmOne K (.ref (He.ga K x)) (.ref (He.ga K y)) = some (excSub x y)))
def exU (rows : List Row) (cons : List (Str × D)) (K : PySem.W.Frag) : Bool := (K.all fun p => noL p.2) && ((glos cons).all (exOne K (glos cons)) && (decide ((tfOf rows).map fun p => (He.cT K p).2).Nodup && cons.all (tupFact K)))
def hookU (n : Nat) (rows : List Row) (res : Option Res) (cons : List (Str × D)) : PySem.W.Hook := He.hookX n (faOf rows res cons) (fnOf rows res) [] (tfOf rows) (exU rows cons)
def obsUG (n : Nat) (rows : List Row) (res : Option Res) (cons : List (Str × D)) (g : Addr → Option Obj) : He.AlX := He.obsX n (faOf rows res cons) (fnOf rows res) [] (tfOf rows) (exU rows cons) g
theorem obsUG_eq {n : Nat} {rows : List Row} {res : Option Res} {cons : List (Str × D)} {g : Addr → Option Obj} {s : Shared} (h : ∀ a, g a = s.heap.get? a) : obsUG n rows res cons g = (hookU n rows res cons).obs s := He.obsX_eq h
section
variable {rows : List Row} {res : Option Res} {cons : List (Str × D)} {K : PySem.W.Frag} {h : Heap} {w : World} {mg : Str → Option Value} {hints : List (Nat × Nat)} {lam : Bool}
abbrev SaysU (rows : List Row) (res : Option Res) (cons : List (Str × D)) (w : World) (h : Heap) (K : PySem.W.Frag) : Prop := He.SaysX (faOf rows res cons) (fnOf rows res) [] (tfOf rows) (exU rows cons) w h K
theorem frag_mem {a : Addr} {o : Obj} : ∀ {K : PySem.W.Frag}, K.lookup a = some o → (a, o) ∈ K
  | [], h => nomatch (show (none : Option Obj) = some o from h)
  | (b, p) :: K, h => by
    have h : (match a == b with | true => some p | false => List.lookup a K) = some o := h
    cases e : a == b with
    | true =>
      rw [e] at h
      cases h
      rw [eq_of_beq e]
      exact List.mem_cons_self
    | false =>
      rw [e] at h
      exact List.mem_cons_of_mem _ (frag_mem h)
theorem says_fact (c : SaysU rows res cons w h K) {f : He.Fa} (hf : f ∈ faOf rows res cons) : f.ok K = true := He.SaysD.facts c.t.d hf
theorem says_def (c : SaysU rows res cons w h K) {r : Row} (hr : r ∈ rows) : ∃ fd, FunD K r.f r.f (defArgs r.st) (defBody r.st) (defScope r.st) [] [] (He.ga K r.f) fd := He.SaysD.defs c.t.d (d := r.d) (List.mem_append_left _ (List.mem_map_of_mem hr))
theorem says_ex (c : SaysU rows res cons w h K) : (K.all fun p => noL p.2) = true ∧ (glos cons).all (exOne K (glos cons)) = true ∧ ((tfOf rows).map fun p => (He.cT K p).2).Nodup ∧ cons.all (tupFact K) = true := by
  have q := c.more
  unfold exU at q
  simp only [Bool.and_eq_true, decide_eq_true_eq] at q
  exact ⟨q.1, q.2.1, q.2.2.1, q.2.2.2⟩
theorem says_nol (c : SaysU rows res cons w h K) {a : Addr} {o : Obj} (hl : K.lookup a = some o) : o.cls ≠ .type "list" := by
  have q : noL o = true := List.all_eq_true.mp (says_ex c).1 _ (frag_mem hl)
  intro e
  unfold noL at q
  rw [e] at q
  cases q
theorem mem_glos {x : Str} (hl : cons.lookup x = some (.glo x)) : x ∈ glos cons := by
  unfold glos
  refine List.mem_filter.mpr ⟨List.mem_map.mpr ⟨_, lookup_mem hl, rfl⟩, ?_⟩
  rw [hl]
  simp [isGlo]
theorem con_fact (c : SaysU rows res cons w h K) {x : Str} {d : D} (hl : cons.lookup x = some d) {f : He.Fa} (hf : f ∈ conFa (x, d)) : f.ok K = true :=
  says_fact c (List.mem_append_right _ (List.mem_append_left _ (List.mem_flatMap.mpr ⟨_, lookup_mem hl, hf⟩)))
theorem flat_rps {c : C} {H : Hp} {ρ : List Addr} : ∀ (ds : List D), ds.all flatV = true → Rps c H ρ ds ((ds.map dvOf).map (He.Dv.v K))
  | [], _ => by unfold Rps; rfl
  | d :: ds, h => by
    rw [List.all_cons, Bool.and_eq_true] at h
    unfold Rps
    refine ⟨_, _, rfl, ?_, flat_rps ds h.2⟩
    cases d <;> first | (unfold Rp; rfl) | cases h.1
theorem mod_ok (X : K.In h) (G : h.Ns mainGlobals mg) (c : SaysU rows res cons w h K) (hc : cons.all conOk = true) : ModOk K mg ⟨fnsOf rows, cons, hints, lam⟩ := by
  have glo : ∀ x, cons.lookup x = some (.glo x) → mg x = some (.ref (He.ga K x)) := fun x hl => He.glo_ok X G (con_fact c hl List.mem_cons_self)
  refine ⟨fun x d hl => ?_, fun x hx => ?_, fun x hl => ?_⟩
  · have hl : cons.lookup x = some d := hl
    have m := lookup_mem hl
    have q := List.all_eq_true.mp hc _ m
    cases d with
    | int i =>
      obtain ⟨t, e⟩ := He.int_ok X G (con_fact c hl List.mem_cons_self)
      exact ⟨_, .int i, e, ⟨t, rfl⟩, fun _ _ _ _ _ => rfl⟩
    | str z =>
      obtain ⟨t, e⟩ := He.str_ok X G (con_fact c hl List.mem_cons_self)
      exact ⟨_, .str z, e, ⟨t, rfl⟩, fun _ _ _ _ _ => rfl⟩
    | tup ds =>
      have e : mg x = some (.ref (He.ga K x)) := He.glo_ok X G (con_fact c hl List.mem_cons_self)
      have tf : He.tupB K x (ds.map dvOf) = true := List.all_eq_true.mp (says_ex c).2.2.2 _ m
      refine ⟨_, .ref (He.ga K x), e, rfl, fun c' hK hm H ρ => ?_⟩
      unfold Rp
      refine ⟨_, _, rfl, ?_, flat_rps (K := K) ds q⟩
      rw [hK]
      exact He.tupB_ok tf H
    | glo y =>
      have ey : x = y := eq_of_beq q
      subst ey
      have e := glo x hl
      refine ⟨_, .ref (He.ga K x), e, rfl, fun c' hK hm H ρ => ?_⟩
      unfold Rp
      exact ⟨_, by rw [hm]; exact e, rfl⟩
    | _ => cases q
  · exact He.free_ok X G (says_fact c (List.mem_append_right _ (List.mem_append_right _ (List.mem_append_left _ (List.mem_map_of_mem hx)))))
  · have hl : cons.lookup x = some (.glo x) := hl
    have e := con_fact c hl (List.mem_cons_of_mem _ List.mem_cons_self)
    have e : (PySem.W.excIn K (He.ga K x) He.veBase "ValueError.__new__" && (PySem.W.keepIn K (.ref (He.ga K x)) && (decide (PySem.W.subIn K (.ref (He.ga K x)) (.type "BaseException") = some true) && decide (PySem.W.typeIn K (.ref (He.ga K x)) = some (.type "type"))))) = true := e
    simp only [Bool.and_eq_true, decide_eq_true_eq] at e
    have o := List.all_eq_true.mp (says_ex c).2.1 x (mem_glos hl)
    unfold exOne at o
    simp only [Bool.and_eq_true, decide_eq_true_eq, List.all_eq_true] at o
    refine ⟨He.ga K x, glo x hl, e.1, e.2.1, e.2.2.1, e.2.2.2, excC_of o.1, o.2.1, fun y hy => ⟨He.ga K y, glo y hy, ?_⟩⟩
    exact o.2.2 y (mem_glos hy)
/-- the tables of code objects, by their addresses -/
def tabsOf (K : PySem.W.Frag) (rows : List Row) : List (Addr × Str) := (tfOf rows).map fun p => ((He.cT K p).2, lamName (p.1 ++ ".<locals>."))
theorem nodup_map_inj {α β : Type} {f : α → β} : ∀ {l : List α}, (l.map f).Nodup → ∀ {a b : α}, a ∈ l → b ∈ l → f a = f b → a = b
  | [], _, a, b, ha, _, _ => by cases ha
  | x :: l, nd, a, b, ha, hb, e => by
    rw [List.map_cons, List.nodup_cons] at nd
    rcases List.mem_cons.mp ha with ha | ha
    · rcases List.mem_cons.mp hb with hb | hb
      · rw [ha, hb]
      · exact absurd (List.mem_map.mpr ⟨b, hb, by rw [← e, ha]⟩) nd.1
    · rcases List.mem_cons.mp hb with hb | hb
      · exact absurd (List.mem_map.mpr ⟨a, ha, by rw [e, hb]⟩) nd.1
      · exact nodup_map_inj nd.2 ha hb e
theorem defs_ok {base : Heap} (X : K.In h) (G : h.Ns mainGlobals mg) (c : SaysU rows res cons w h K) (hr : ∀ r ∈ rows, RowOk ⟨fnsOf rows, cons, hints, lam⟩ r) (hlam : ∀ r ∈ rows, r.lam = true → lam = true) (TB : ∀ p ∈ (tfOf rows).map (He.cT K), LamX.TabB base mg p.1 p.2) (f : Str) (ps : List Str) (hl : (fnsOf rows).lookup f = some ps) :
    ∃ fd, (tblOf rows res).lookup f = some fd ∧ DefOk K mg base (tabsOf K rows) ⟨fnsOf rows, cons, hints, lam⟩ f ps fd := by
  obtain ⟨r, hm, rfl, rfl, h2⟩ := rows_look (res := res) hl
  obtain ⟨fdt, F⟩ := says_def c hm
  have R := hr r hm
  obtain ⟨d, m, hc⟩ := R.cc
  refine ⟨r.fd, h2, ⟨_, _, _, _, _, _, fdt, r.N, d, m, r.lam, F, He.glo_ok X G (says_fact c (List.mem_append_left _ (List.mem_map_of_mem hm))), plainPs_of R.pp, fnScopeB_ok R.sc, hc, rfl, fun hlm => ⟨hlam r hm hlm, ?_⟩⟩, rfl, rfl⟩
  have hp : ((r.f, none) : He.Defn) ∈ tfOf rows := List.mem_map.mpr ⟨r, List.mem_filter.mpr ⟨hm, hlm⟩, rfl⟩
  obtain ⟨oc, od, dV, kV, doc, pm, an, cdv, ct, osl, e1, lk, hcd, _⟩ := F.ex
  obtain ⟨c0, e0⟩ := He.codeIn_ref hcd
  have ec : fdt.code = .ref c0 := by rw [e1]; exact e0
  have e2 : He.codeOf K (r.f, none) = c0 := He.codeOf_eq (p := (r.f, none)) lk ec
  refine ⟨c0, (He.cT K (r.f, none)).2, ec, ?_, List.mem_map.mpr ⟨_, hp, rfl⟩, fun p hp' e => ?_⟩
  · have q := TB _ (List.mem_map_of_mem hp)
    have e3 : (He.cT K (r.f, none)).1 = c0 := e2
    rw [e3] at q
    exact q
  · obtain ⟨q, hq, rfl⟩ := List.mem_map.mp hp'
    have := nodup_map_inj (says_ex c).2.2.1 hq hp e
    rw [this]
theorem res_ok (X : K.In h) (G : h.Ns mainGlobals mg) (c : SaysU rows res cons w h K) {r : Res} (hres : res = some r) (R : ResOk ⟨fnsOf rows, cons, hints, lam⟩ r) : ResFd K mg ⟨fnsOf rows, cons, hints, lam⟩ r.N r.body := by
  subst hres
  obtain ⟨tail, d, m, h1, h2⟩ := R.cc
  obtain ⟨fdt, F⟩ := He.SaysD.defs c.t.d (d := defD resName r.st) (List.mem_append_right _ List.mem_cons_self)
  have gl : mg resName = some (.ref (He.ga K resName)) := He.glo_ok X G (says_fact c (List.mem_append_right _ (List.mem_append_right _ (List.mem_append_right _ List.mem_cons_self))))
  have cu : cons.lookup ("UnitError" : Str) = some (.glo "UnitError") := R.cu
  have pp := plainPs_of R.pp
  rw [R.ps] at pp
  exact ⟨He.ga K resName, fdt, defArgs r.st, defBody r.st, defScope r.st, He.ga K "UnitError", tail, d, m, F, gl, pp, fnScopeB_ok R.sc, R.ns, R.ss, h1, He.glo_ok X G (con_fact c cu List.mem_cons_self), cu, h2⟩
end
/-- what any world's call may let out -/
def CXA (P : Program) : CXT := fun outer H s E e s' => ∃ w, L2.CX P w outer H s E e s'
theorem fnok_any {P : Program} {w : World} {K : PySem.W.Frag} {mg : Str → Option Value} {base : Heap} {k : Nat} {f : Addr} {fd : FuncData} {ps : List Str} {sp : Sp} (F : FnOk P w K mg base (L2.CX P w) k f fd ps sp) : FnOk P w K mg base (CXA P) k f fd ps sp :=
  ⟨F.len, fun A outer s H args us vs Q E hr he hb hv hs => codeAny_mono (F.run A outer s H args us vs Q E hr he hb hv hs) fun r s' z => by
    cases r with
    | error e => exact ⟨w, z⟩
    | ok fl => cases fl <;> exact z⟩
theorem cxa_no {P : Program} (H : Hp) (s : Shared) (e : Value) (s' : Shared) (h : CXA P [] H s (fun _ _ _ => False) e s') : False := by
  obtain ⟨_, _, _, _, _, _, _, _, _, _, _, _, _, z⟩ := h
  exact z
theorem ints_rp {c : C} {H : Hp} {ρ : List Addr} : ∀ ns : List Int, Rps c H ρ (ns.map D.int) (ns.map V.int)
  | [] => .nil
  | n :: ns => .cons rfl (ints_rp ns)
/-- the def that calls lambdas, if there is one -/
def ResIs (sg : Sg) : Option Res → Prop
  | none => sg.lam = false
  | some r => ResOk sg r
/-- THE END: the program's rows, the law's run upon plain data -/
theorem law_facts {l : PySem.W.OpenLaw} {rows : List Row} {res : Option Res} {cons : List (Str × D)} {hints : List (Nat × Nat)} {lam : Bool} {n m : Nat} {law x : Str} (hc : cons.all conOk = true) (hr : ∀ r ∈ rows, RowOk ⟨fnsOf rows, cons, hints, lam⟩ r) (hlam : ∀ r ∈ rows, r.lam = true → lam = true)
    (hres : ResIs ⟨fnsOf rows, cons, hints, lam⟩ res) (hn1 : (tblOf rows res).lookup resName = (resTbl res).lookup resName) (hn2 : (tblOf rows res).lookup resX = (resTbl res).lookup resX) (hl : (fnsOf rows).lookup law = some [x])
    (hrun : ∀ ns : List Int, ns.length ≤ m → (∀ z ∈ ns, Builtin.Int.intBits z ≤ 1048576) → ∃ G, run (tblOf rows res) n law [.lst (ns.map D.int)] [] = .ok (.bl true) G)
    {w : World} {mg : Str → Option Value} {fa : Addr} {h : Heap} (Y : ∃ K : PySem.W.Frag, K.In h ∧ SaysU rows res cons w h K) (G : h.Ns mainGlobals mg) (hmg : mg law = some (.ref fa)) :
    ∃ K : PySem.W.Frag, K.In h ∧ LamX.LawAtS l w K (CXA l.prog) (3 * n) m x mg fa h := by
  obtain ⟨K, X, c⟩ := Y
  have M : ModOk K mg ⟨fnsOf rows, cons, hints, lam⟩ := mod_ok X G c hc
  obtain ⟨r, hrm, erf, erp, _⟩ := rows_look (res := res) hl
  obtain ⟨fdt, F⟩ := says_def c hrm
  have hmr : mg r.f = some (.ref (He.ga K r.f)) := He.glo_ok X G (says_fact c (List.mem_append_left _ (List.mem_map_of_mem hrm)))
  have ea : He.ga K r.f = fa := by
    rw [erf, hmg] at hmr
    cases hmr
    rw [erf]
  have e := fun_plain F
  have pp := plainPs_of (hr r hrm).pp
  have erp' : (defArgs r.st).args.map (·.arg) = [x] := erp
  rw [erp'] at pp
  refine ⟨K, X, fdt, (tfOf rows).map (He.cT K), lowSp K mg (tabsOf K rows) 1 (run (tblOf rows res) n law), fun p hp => ?_, fun p hp => ?_, fun p hp => ?_, fun s u => ?_, fun H a ns hle hbits hT hS => ?_, fun base hKb _ TB => ?_⟩
  · obtain ⟨q, hq, rfl⟩ := List.mem_map.mp hp
    exact c.empty q hq
  · obtain ⟨q, hq, rfl⟩ := List.mem_map.mp hp
    exact c.out q hq
  · obtain ⟨q, hq, rfl⟩ := List.mem_map.mp hp
    exact PySem.W.codeHd_of_K X (c.hd q hq)
  · have q := BindsTo.of_eq (s := s) (binds_plain (ps := [x]) (us := [u]) (ws := []) (e.1 ▸ pp) e.2 (by simp) rfl)
    exact q
  · obtain ⟨G', hg⟩ := hrun ns hle hbits
    have rr : Rd H a (.lst (ns.map V.int)) := by
      rcases hS with hS | ⟨o, _, _, h1, h2, _⟩
      · exact hS
      · exact absurd h2 (says_nol c h1)
    have tb : LamX.Tabs (tabsOf K rows) H := fun p hp => by
      obtain ⟨q, hq, rfl⟩ := List.mem_map.mp hp
      exact LamX.TabS.nil (hT _ (List.mem_map_of_mem hq))
    refine ⟨fun _ _ => False, 0, fun _ => False, [], [], [], [.lst (ns.map D.int)], fun cls d H' ⟨_, _, _, _, _, z⟩ => z, ⟨rfl, .nil, fun i a o h1 => (nomatch (show (none : Option Addr) = some a from by simpa using h1)), Nat.le_refl _, fun _ z => z.elim, fun _ _ _ z => z.elim, fun _ z => (nomatch z), tb⟩, .cons ?_ .nil, rfl, ?_⟩
    · unfold Rp
      exact ⟨a, _, rfl, rr, ⟨fun z => (nomatch z), fun z => (nomatch z)⟩, ints_rp ns⟩
    · rw [hg]
      intro v H' ρ' _ _ rv
      exact rv
  · have key : ∀ (Ng : List Str) (rbody : MSs), (lam = true → ResFd K mg ⟨fnsOf rows, cons, hints, lam⟩ Ng rbody) → ((tblOf rows res).lookup resName = none ∨ (tblOf rows res).lookup resName = some ⟨2, Ng.length - 1, false, rbody, 1⟩) → ((tblOf rows res).lookup resX = none ∨ (tblOf rows res).lookup resX = some ⟨1, Ng.length - 1, false, rbody, 1⟩) → FnOk l.prog w K mg base (CXA l.prog) (3 * n) fa fdt [x] (lowSp K mg (tabsOf K rows) 1 (run (tblOf rows res) n law)) := by
      intro Ng rbody hR k1 k2
      obtain ⟨a', fdt', q1, q2, ⟨oc, od, osl, q5⟩, q3, q4⟩ := (fns_ok (P := l.prog) (w := w) (base := base) (T := tabsOf K rows) M hR k1 k2 (fun f ps hl => defs_ok (hints := hints) X G c hr hlam TB f ps hl) n law [x] hl).ex
      rw [hmg] at q1
      cases q1
      obtain ⟨oc2, od2, osl2, q6⟩ := funD_at F
      rw [ea, q5] at q6
      cases q6
      exact fnok_any q4
    cases res with
    | none =>
      refine key [] .nil (fun z => ?_) (.inl (by rw [hn1]; rfl)) (.inl (by rw [hn2]; rfl))
      have q : lam = false := hres
      rw [q] at z
      cases z
    | some r' => exact key r'.N r'.body (fun _ => res_ok X G c rfl hres) (.inr (by rw [hn1]; rfl)) (.inr (by rw [hn2]; rfl))
end U

set_option Elab.async false
set_option linter.all false
set_option maxRecDepth 100000
/-! UV: to reckon with the small language. -/
namespace U
open PySem L2
@[simp] theorem bin_addI {G : Hd} {i j : Int} : binD G .add (.int i) (.int j) = some (.int (i + j)) := rfl
@[simp] theorem bin_subI {G : Hd} {i j : Int} : binD G .sub (.int i) (.int j) = some (.int (i - j)) := rfl
theorem bin_mulI {G : Hd} {i j : Int} (h : mulOk i j = true) : binD G .mul (.int i) (.int j) = some (.int (i * j)) := by
  show (if mulOk i j = true then _ else _) = _
  rw [if_pos h]
theorem bin_fdivI {G : Hd} {i j : Int} (h : divOk j = true) : binD G .fdiv (.int i) (.int j) = some (.int (i.fdiv j)) := by
  show (if divOk j = true then _ else _) = _
  rw [if_pos h]
theorem bin_modI {G : Hd} {i j : Int} (h : j ≠ 0) : binD G .mod (.int i) (.int j) = some (.int (i.fmod j)) := by
  show (if j ≠ 0 then _ else _) = _
  rw [if_pos h]
theorem bin_powI {G : Hd} {i j : Int} (h : powOk i j = true) : binD G .pow (.int i) (.int j) = some (.int (i ^ j.toNat)) := by
  show (if powOk i j = true then _ else _) = _
  rw [if_pos h]
@[simp] theorem cmp_geI {G : Hd} {i j : Int} : cmpD G .ge (.int i) (.int j) = some (decide (j ≤ i)) := rfl
@[simp] theorem cmp_leI {G : Hd} {i j : Int} : cmpD G .le (.int i) (.int j) = some (decide (i ≤ j)) := rfl
@[simp] theorem cmp_ltI {G : Hd} {i j : Int} : cmpD G .lt (.int i) (.int j) = some (decide (i < j)) := rfl
@[simp] theorem cmp_gtI {G : Hd} {i j : Int} : cmpD G .gt (.int i) (.int j) = some (decide (j < i)) := rfl
@[simp] theorem tru_bl {G : Hd} {b : Bool} : truD G (.bl b) = some b := rfl
@[simp] theorem tru_lst {G : Hd} {xs : List D} : truD G (.lst xs) = some (!xs.isEmpty) := rfl
@[simp] theorem tru_int {G : Hd} {i : Int} : truD G (.int i) = some (i != 0) := rfl
@[simp] theorem len_lst {G : Hd} {xs : List D} : lenD G (.lst xs) = some xs.length := rfl
@[simp] theorem len_tup {G : Hd} {xs : List D} : lenD G (.tup xs) = some xs.length := rfl
@[simp] theorem bi_len {G : Hd} {x : D} : biD G .len [x] = (lenD G x).map fun (n : Nat) => .int (n : Int) := rfl
@[simp] theorem dictOf_ref {G : Hd} {i : Nat} : dictOf G (.ref i) = (match G[i]? with | some (.dct ks vs) => some (ks, vs) | some (.lkd ks vs) => some (ks, vs) | _ => none) := rfl
theorem ix_ref {G : Hd} {i : Nat} {k : D} {ks vs : List D} (h : G[i]? = some (.dct ks vs)) (hk : keyD k = true) : ixD G (.ref i) k = U.dictGet ks vs k := by
  show (match dictOf G (.ref i) with
    | some (ks, vs) => if keyD k then U.dictGet ks vs k else none
    | none => _) = _
  simp only [dictOf_ref, h, hk, if_true]
theorem ix_lst {G : Hd} {xs : List D} {i : D} : ixD G (.lst xs) i = ixSeq xs i := rfl
theorem ix_tup {G : Hd} {xs : List D} {i : D} : ixD G (.tup xs) i = ixSeq xs i := rfl
theorem get_ref {G : Hd} {i : Nat} {k d : D} {ks vs : List D} (h : G[i]? = some (.dct ks vs)) (hk : keyD k = true) : getD G (.ref i) k d = some ((U.dictGet ks vs k).getD d) := by
  show (match dictOf G (.ref i) with
    | some (ks, vs) => if keyD k then some ((U.dictGet ks vs k).getD d) else none
    | none => none) = _
  simp only [dictOf_ref, h, hk, if_true]
theorem put_ref {b : Nat} {G : Hd} {i : Nat} {k x : D} {ks vs : List D} (h : G[i]? = some (.dct ks vs)) (hk : keyD k = true) (hs : storeOk b i x = true) (hl : ks.length < line) : putD b (.ref i) k x G = .ok () (G.set i (.dct (U.dictPut ks vs k x).1 (U.dictPut ks vs k x).2)) := by
  unfold putD
  simp only [h, hk, hs, hl, decide_true, Bool.and_self, if_true]
section
variable {Φ : Fn} {b : Nat} {s : MS} {ss x y : MSs} {τ τ1 : Tau} {G G1 : Hd} {d : D} {c : MB}
theorem seq_nx (h : evS Φ b s τ G = .ok (.nx τ1) G1) : evSs Φ b (.cons s ss) τ G = evSs Φ b ss τ1 G1 := by rw [evSs, h]; rfl
theorem seq_rt (h : evS Φ b s τ G = .ok (.rt d) G1) : evSs Φ b (.cons s ss) τ G = .ok (.rt d) G1 := by rw [evSs, h]; rfl
theorem if_yes (h : evT Φ b c τ G = .ok true G1) : evS Φ b (.iff c x y) τ G = evSs Φ b x τ G1 := by rw [evS, h]; rfl
theorem if_no (h : evT Φ b c τ G = .ok false G1) : evS Φ b (.iff c x y) τ G = evSs Φ b y τ G1 := by rw [evS, h]; rfl
theorem skip (h : evT Φ b c τ G = .ok false G1) : evSs Φ b (.cons (.iff c x .nil) ss) τ G = evSs Φ b ss τ G1 := seq_nx (by rw [if_no h, evSs])
theorem ret_ok {e : ME} (h : evE Φ b e τ G = .ok d G1) : evSs Φ b (.cons (.ret e) ss) τ G = .ok (.rt d) G1 := seq_rt (by rw [evS, h]; rfl)
theorem set_ok {e : ME} {i : Nat} (h : evE Φ b e τ G = .ok d G1) : evSs Φ b (.cons (.set (.nam i) e) ss) τ G = evSs Φ b ss (τ.set i (some d)) G1 := seq_nx (by rw [evS, h]; rfl)
theorem get_ok {o k e : ME} {od kd : D} {q : List D × List D} {G2 G3 : Hd} (ho : evE Φ b o τ G = .ok od G1) (hq : dictOf G1 od = some q) (hk : evE Φ b k τ G1 = .ok kd G2) (hd : evE Φ b e τ G2 = .ok d G3) : evE Φ b (.get o k e) τ G = lift (getD G3 od kd d) G3 := by
  rw [evE, ho]
  simp only [Out.then_ok, hq, hk, hd]
end
theorem run_succ {tbl : List (Str × FDef)} {f : Str} {fd : FDef} (h : tbl.lookup f = some fd) (n : Nat) (ds : List D) (G : Hd) : run tbl (n + 1) f ds G = callF (run tbl n) fd ds G := by
  show (match tbl.lookup f with
    | some fd => callF (run tbl n) fd ds G
    | none => .bad) = _
  rw [h]
/-- a body that returned -/
theorem callF_rt {Φ : Fn} {fd : FDef} {ds : List D} {G G' : Hd} {d d' : D} (hn : ds.length = fd.n) (hk : fd.keep = false) (he : evSs Φ G.length fd.body (List.replicate fd.pre none ++ (ds.map some ++ List.replicate (fd.slots - ds.length) none)) G = .ok (.rt d) G') (hf : frz 4 G.length G' d = some d') : callF Φ fd ds G = .ok d' (G'.take G.length) := by
  unfold callF
  rw [if_pos hn, he]
  simp only [hk, Bool.false_eq_true, if_false, hf]
theorem callF_rtG {Φ : Fn} {fd : FDef} {ds : List D} {G : Hd} {d : D} (hn : ds.length = fd.n) (hk : fd.keep = false) (he : evSs Φ G.length fd.body (List.replicate fd.pre none ++ (ds.map some ++ List.replicate (fd.slots - ds.length) none)) G = .ok (.rt d) G) (hf : frz 4 G.length G d = some d) : callF Φ fd ds G = .ok d G := by
  rw [callF_rt hn hk he hf, List.take_length]
theorem frz_bl {n : Nat} {G : Hd} {b : Bool} : frz 4 n G (.bl b) = some (.bl b) := rfl
theorem frz_int {n : Nat} {G : Hd} {b : Int} : frz 4 n G (.int b) = some (.int b) := rfl
theorem frz_str {n : Nat} {G : Hd} {b : Str} : frz 4 n G (.str b) = some (.str b) := rfl
theorem frz_non {n : Nat} {G : Hd} : frz 4 n G .non = some .non := rfl
end U

set_option Elab.async false
set_option linter.all false
set_option maxRecDepth 100000
/-! UW: how the laws draw. -/
namespace U
open PySem L2
def bDraw : MSs := (.cons (.setix (.var 1) (.con (.str "count")) (.bin .add (.ix (.var 1) (.con (.str "count"))) (.con (.int (1)))))
  (.cons (.set (.nam 3) (.ifx (.val (.var 0)) (.bin .mod (.ix (.var 1) (.con (.str "count"))) (.bi .len (.cons (.var 0) .nil))) (.con (.int (0)))))
  (.cons (.set (.nam 4) (.get (.ix (.var 1) (.con (.str "rests"))) (.var 3) (.ifx (.val (.var 0)) (.ix (.var 0) (.var 3)) (.con (.int (0))))))
  (.cons (.iff (.val (.cmp .ge (.var 4) (.bin .pow (.con (.int (10))) (.con (.int (18))))))
    (.cons (.setix (.ix (.var 1) (.con (.str "rests"))) (.var 3) (.bin .fdiv (.var 4) (.var 2)))
  (.cons (.ret (.bin .mod (.var 4) (.var 2)))
  .nil))
    .nil)
  (.cons (.set (.nam 5) (.bin .mod (.bin .add (.var 4) (.bin .mul (.con (.int (104729))) (.ix (.var 1) (.con (.str "count"))))) (.con (.int (4294967291)))))
  (.cons (.set (.nam 5) (.bin .mod (.bin .pow (.var 5) (.con (.int (5)))) (.con (.int (4294967279)))))
  (.cons (.ret (.bin .mod (.bin .fdiv (.bin .mod (.bin .add (.bin .mul (.bin .fdiv (.var 5) (.con (.int (64)))) (.con (.int (69621)))) (.var 5)) (.con (.int (4294967231)))) (.con (.int (8)))) (.var 2)))
  .nil)))))))
def bBegun : MSs := (.cons (.ret (.alloc (.dct (.cons (.con (.str "count")) (.cons (.con (.int (0))) (.cons (.con (.str "rests")) (.cons (.alloc (.dct .nil)) .nil)))))))
  .nil)
def fdDraw : FDef := ⟨3, 6, false, bDraw, 0⟩
def fdBegun : FDef := ⟨0, 0, true, bBegun, 0⟩
/-- what is left of the script's numbers -/
structure Rests (ks vs : List D) : Prop where
  len : ks.length = vs.length
  vals : ∀ k v, U.dictGet ks vs k = some v → ∃ i, v = D.int i
  keys : ∀ k ∈ ks, ∃ i : Nat, i < 63 ∧ k = .int i
  nd : ks.Nodup
def Town (o0 o1 : DO) : Prop := ∃ ks vs c, o0 = .dct ks vs ∧ o1 = .dct [.str "count", .str "rests"] [.int c, .ref 0] ∧ Rests ks vs
section
variable {ks vs : List D} {c : Int} {G : Hd} {b : Nat}
abbrev tw (c : Int) : DO := .dct [.str "count", .str "rests"] [.int c, .ref 0]
theorem tw_count {o : DO} : ixD (o :: tw c :: G) (.ref 1) (.str "count") = some (.int c) := by kernel_rfl
theorem tw_rests {o : DO} : ixD (o :: tw c :: G) (.ref 1) (.str "rests") = some (.ref 0) := by kernel_rfl
theorem tw_put {o : DO} {d : Int} : putD b (.ref 1) (.str "count") (.int d) (o :: tw c :: G) = .ok () (o :: tw d :: G) := by
  rw [put_ref (ks := [.str "count", .str "rests"]) (vs := [.int c, .ref 0]) rfl rfl (by simp [storeOk, closed]) (by decide)]
  kernel_rfl
theorem tw_get {o : DO} {k d : D} (hk : keyD k = true) : getD (.dct ks vs :: o :: G) (.ref 0) k d = some ((U.dictGet ks vs k).getD d) := get_ref rfl hk
theorem tw_dict {o : DO} : dictOf (.dct ks vs :: o :: G) (.ref 0) = some (ks, vs) := rfl
theorem tw_set {o : DO} {i z : Int} (hl : ks.length < line) : putD b (.ref 0) (.int i) (.int z) (.dct ks vs :: o :: G) = .ok () (.dct (U.dictPut ks vs (.int i) (.int z)).1 (U.dictPut ks vs (.int i) (.int z)).2 :: o :: G) := by
  rw [put_ref (ks := ks) (vs := vs) rfl rfl (by simp [storeOk, closed]) hl]
  rfl
end
theorem nodup_map {α β : Type} {f : α → β} : ∀ {l : List α}, l.Nodup → (∀ a ∈ l, ∀ b ∈ l, f a = f b → a = b) → (l.map f).Nodup
  | [], _, _ => by simp
  | a :: l, h, hf => by
    rw [List.nodup_cons] at h
    rw [List.map_cons, List.nodup_cons]
    refine ⟨fun z => ?_, nodup_map h.2 fun x hx y hy => hf x (List.mem_cons_of_mem _ hx) y (List.mem_cons_of_mem _ hy)⟩
    obtain ⟨b, hb, e⟩ := List.mem_map.mp z
    have := hf b (List.mem_cons_of_mem _ hb) a List.mem_cons_self e
    exact h.1 (this ▸ hb)
theorem nodup_le {l : List Nat} (h : l.Nodup) {n : Nat} (hl : ∀ x ∈ l, x < n) : l.length ≤ n := by
  have : l ⊆ List.range n := fun x hx => List.mem_range.mpr (hl x hx)
  have := h.length_le_of_subset this
  simpa using this
def keyN : D → Nat
  | .int i => i.toNat
  | _ => 0
theorem rests_len {ks vs : List D} (h : Rests ks vs) : ks.length ≤ 63 := by
  have : (ks.map keyN).Nodup := nodup_map h.nd fun a ha b hb e => by
    obtain ⟨i, _, rfl⟩ := h.keys a ha
    obtain ⟨j, _, rfl⟩ := h.keys b hb
    simp [keyN] at e
    rw [e]
  have := nodup_le this (n := 63) fun x hx => by
    obtain ⟨k, hk, rfl⟩ := List.mem_map.mp hx
    obtain ⟨i, hi, rfl⟩ := h.keys k hk
    simpa [keyN] using hi
  simpa using this
theorem get_swap {x y : D} {z : D} {v : D} : ∀ {ks vs : List D}, U.dictGet ks (swapV x y ks vs) z = some v → v = y ∨ U.dictGet ks vs z = some v
  | [], vs, h => by cases vs <;> simp [swapV, U.dictGet] at h
  | k :: ks, [], h => by simp [swapV, U.dictGet] at h
  | k :: ks, w :: vs, h => by
    simp only [swapV, U.dictGet] at h ⊢
    by_cases e : keyEq k z = true
    · rw [if_pos e] at h ⊢
      by_cases e2 : keyEq k x = true
      · rw [if_pos e2] at h
        exact .inl (Option.some.inj h).symm
      · rw [if_neg e2] at h
        exact .inr h
    · rw [if_neg e] at h ⊢
      exact get_swap h
theorem get_app {y : D} {x z v : D} : ∀ {ks vs : List D}, U.dictGet (ks ++ [x]) (vs ++ [y]) z = some v → v = y ∨ U.dictGet ks vs z = some v ∨ ks.length ≠ vs.length
  | [], [], h => by
    simp only [List.nil_append, U.dictGet] at h
    split at h
    · exact .inl (Option.some.inj h).symm
    · cases h
  | [], w :: vs, h => .inr (.inr (by simp))
  | k :: ks, [], h => .inr (.inr (by simp))
  | k :: ks, w :: vs, h => by
    simp only [List.cons_append, U.dictGet] at h ⊢
    by_cases e : keyEq k z = true
    · rw [if_pos e] at h ⊢
      exact .inr (.inl h)
    · rw [if_neg e] at h ⊢
      rcases get_app h with h | h | h
      · exact .inl h
      · exact .inr (.inl h)
      · exact .inr (.inr (by simpa using h))
theorem swap_len {x y : D} : ∀ {ks vs : List D}, ks.length = vs.length → (swapV x y ks vs).length = ks.length
  | [], [], _ => rfl
  | k :: ks, v :: vs, h => by
    simp only [swapV, List.length_cons]
    rw [swap_len (by simpa using h)]
theorem rests_put {ks vs : List D} (h : Rests ks vs) {i : Nat} (hi : i < 63) (z : Int) : Rests (U.dictPut ks vs (.int i) (.int z)).1 (U.dictPut ks vs (.int i) (.int z)).2 := by
  unfold U.dictPut
  by_cases e : (ks.any fun k => keyEq k (.int i)) = true
  · rw [if_pos e]
    refine ⟨?_, fun k v hv => ?_, h.keys, h.nd⟩
    · exact (swap_len h.len).symm
    · rcases get_swap hv with rfl | hv
      · exact ⟨z, rfl⟩
      · exact h.vals k v hv
  · rw [if_neg e]
    refine ⟨by simp [h.len], fun k v hv => ?_, fun k hk => ?_, ?_⟩
    · rcases get_app hv with rfl | hv | hv
      · exact ⟨z, rfl⟩
      · exact h.vals k v hv
      · exact absurd h.len hv
    · rcases List.mem_append.mp hk with hk | hk
      · exact h.keys k hk
      · exact ⟨i, hi, List.mem_singleton.mp hk⟩
    · rw [List.nodup_append]
      refine ⟨h.nd, by simp, fun a ha b hb q => ?_⟩
      rw [List.mem_singleton.mp hb] at q
      subst q
      exact e (List.any_eq_true.mpr ⟨_, ha, by simp [keyEq]⟩)
theorem draw {T : List (Str × FDef)} (L_draw : T.lookup ("_law_draw" : Str) = some fdDraw) {ns : List Int} (hns : ns.length ≤ 63) {o0 o1 : DO} (ht : Town o0 o1) (m : Nat) (hm : 0 < m) (hm2 : m < 1000) (n : Nat) (G : Hd) :
    ∃ (k : Nat) (p0 p1 : DO), k < m ∧ Town p0 p1 ∧ U.run T (n + 1) "_law_draw" [.lst (ns.map D.int), .ref 1, .int m] (o0 :: o1 :: G) = .ok (.int k) (p0 :: p1 :: G) := by
  obtain ⟨ks, vs, c, rfl, rfl, hr⟩ := ht
  rw [run_succ L_draw]
  have hdv : divOk (m : Int) = true := by
    unfold divOk
    have : m.log2 < 9000 := Nat.lt_of_le_of_lt (Nat.log2_le_self m) (by omega)
    simp [this]
    omega
  have hm0 : (m : Int) ≠ 0 := by omega
  -- the number's place
  obtain ⟨at_, hat, hat2, hat3⟩ : ∃ k : Nat, k < 63 ∧ (ns ≠ [] → k < ns.length) ∧ evE (U.run T n) (G.length + 2) (.ifx (.val (.var 0)) (.bin .mod (.ix (.var 1) (.con (.str "count"))) (.bi .len (.cons (.var 0) .nil))) (.con (.int (0)))) [some (.lst (ns.map D.int)), some (.ref 1), some (.int m), none, none, none] (DO.dct ks vs :: tw (c + 1) :: G) = .ok (.int k) (DO.dct ks vs :: tw (c + 1) :: G) := by
    cases ns with
    | nil => exact ⟨0, by decide, fun z => absurd rfl z, by simp [evE, evT]⟩
    | cons n0 r =>
      have hp : (0 : Int) < ((n0 :: r).length : Int) := by simp
      have h1 := Int.fmod_lt_of_pos (c + 1) hp
      have h2 := Int.fmod_nonneg_of_pos (c + 1) hp
      refine ⟨((c + 1).fmod ((n0 :: r).length : Int)).toNat, ?_, fun _ => ?_, ?_⟩
      · simp only [List.length_cons] at h1 h2 hns ⊢
        omega
      · simp only [List.length_cons] at h1 h2 hns ⊢
        omega
      · have h3 : ((n0 :: r).length : Int) ≠ 0 := by omega
        rw [Int.toNat_of_nonneg h2]
        simp [evE, evT, evEs, tw_count]
        rw [bin_modI (by simpa using h3)]
        simp
  have hit : ∃ z : Int, evE (U.run T n) (G.length + 2) (.get (.ix (.var 1) (.con (.str "rests"))) (.var 3) (.ifx (.val (.var 0)) (.ix (.var 0) (.var 3)) (.con (.int (0))))) [some (.lst (ns.map D.int)), some (.ref 1), some (.int m), some (.int at_), none, none] (DO.dct ks vs :: tw (c + 1) :: G) = .ok (.int z) (DO.dct ks vs :: tw (c + 1) :: G) := by
    have hd : ∃ z : Int, evE (U.run T n) (G.length + 2) (.ifx (.val (.var 0)) (.ix (.var 0) (.var 3)) (.con (.int (0)))) [some (.lst (ns.map D.int)), some (.ref 1), some (.int m), some (.int at_), none, none] (DO.dct ks vs :: tw (c + 1) :: G) = .ok (.int z) (DO.dct ks vs :: tw (c + 1) :: G) := by
      cases ns with
      | nil => exact ⟨0, by simp [evE, evT]⟩
      | cons n0 r =>
        have h := hat2 (by simp)
        refine ⟨(n0 :: r)[at_], ?_⟩
        have e : ixSeq ((n0 :: r).map D.int) (.int at_) = some (.int (n0 :: r)[at_]) := by
          show (ixN _ _).bind _ = _
          have : ixN ((n0 :: r).map D.int).length (at_ : Int) = some at_ := by
            unfold ixN
            simp at h ⊢
            omega
          rw [this]
          show ((n0 :: r).map D.int)[at_]? = _
          rw [List.getElem?_map, List.getElem?_eq_getElem h]
          rfl
        rw [evE]
        simp only [evT, evE, List.getElem?_cons_zero, List.getElem?_cons_succ, Out.then_ok, tru_lst, lift_some]
        simp only [List.map_cons, List.isEmpty_cons, Bool.not_false, if_true]
        rw [ix_lst]
        rw [List.map_cons] at e
        rw [e]
        rfl
    obtain ⟨z, hz⟩ := hd
    cases e : U.dictGet ks vs (.int at_) with
    | none => exact ⟨z, by
        rw [get_ok (od := .ref 0) (kd := .int at_) (q := (ks, vs)) (G1 := DO.dct ks vs :: tw (c + 1) :: G) (G2 := DO.dct ks vs :: tw (c + 1) :: G) (by simp [evE, tw_rests]) tw_dict (by simp [evE]) hz, tw_get rfl, e]
        rfl⟩
    | some v =>
      obtain ⟨i, rfl⟩ := hr.vals _ _ e
      exact ⟨i, by
        rw [get_ok (od := .ref 0) (kd := .int at_) (q := (ks, vs)) (G1 := DO.dct ks vs :: tw (c + 1) :: G) (G2 := DO.dct ks vs :: tw (c + 1) :: G) (by simp [evE, tw_rests]) tw_dict (by simp [evE]) hz, tw_get rfl, e]
        rfl⟩
  obtain ⟨z, hz⟩ := hit
  have hlen : (DO.dct ks vs :: tw c :: G).length = G.length + 2 := rfl
  have st1 : evS (U.run T n) (G.length + 2) (.setix (.var 1) (.con (.str "count")) (.bin .add (.ix (.var 1) (.con (.str "count"))) (.con (.int (1))))) [some (.lst (ns.map D.int)), some (.ref 1), some (.int m), none, none, none] (DO.dct ks vs :: tw c :: G) = .ok (.nx [some (.lst (ns.map D.int)), some (.ref 1), some (.int m), none, none, none]) (DO.dct ks vs :: tw (c + 1) :: G) := by
    simp [evS, evE, tw_count, tw_put]
  by_cases hbig : (10 ^ 18 : Int) ≤ z
  · refine ⟨(z.fmod m).toNat, DO.dct (U.dictPut ks vs (.int at_) (.int (z.fdiv m))).1 (U.dictPut ks vs (.int at_) (.int (z.fdiv m))).2, tw (c + 1), ?_, ⟨_, _, c + 1, rfl, rfl, rests_put hr hat _⟩, ?_⟩
    · have h1 := Int.fmod_lt_of_pos z (show (0 : Int) < m by omega)
      have h2 := Int.fmod_nonneg_of_pos z (show (0 : Int) < m by omega)
      omega
    · have h2 := Int.fmod_nonneg_of_pos z (show (0 : Int) < m by omega)
      rw [Int.toNat_of_nonneg h2]
      refine (callF_rt (d := .int (z.fmod m)) (d' := .int (z.fmod m)) (G' := DO.dct (U.dictPut ks vs (.int at_) (.int (z.fdiv m))).1 (U.dictPut ks vs (.int at_) (.int (z.fdiv m))).2 :: tw (c + 1) :: G) rfl rfl ?_ frz_int).trans ?_
      · show evSs _ (G.length + 2) bDraw [some (.lst (ns.map D.int)), some (.ref 1), some (.int m), none, none, none] _ = _
        unfold bDraw
        refine (seq_nx st1).trans ((set_ok hat3).trans ((set_ok hz).trans (seq_rt ?_)))
        rw [if_yes (G1 := DO.dct ks vs :: tw (c + 1) :: G)]
        · rw [seq_nx (τ1 := [some (.lst (ns.map D.int)), some (.ref 1), some (.int m), some (.int at_), some (.int z), none]) (G1 := DO.dct (U.dictPut ks vs (.int at_) (.int (z.fdiv m))).1 (U.dictPut ks vs (.int at_) (.int (z.fdiv m))).2 :: tw (c + 1) :: G)]
          · refine ret_ok ?_
            simp [evE, bin_modI hm0]
          · have hl := rests_len hr
            simp [evS, evE, bin_fdivI hdv, tw_rests, tw_set (show ks.length < line from Nat.lt_of_le_of_lt hl (by decide))]
        · have : binD (DO.dct ks vs :: tw (c + 1) :: G) .pow (.int 10) (.int 18) = some (.int (10 ^ 18)) := bin_powI (by decide)
          simp [evT, evE, this]
          simpa using hbig
      · simp
  · have hnum : ∃ k : Int, 0 ≤ k ∧ k < 4294967279 ∧ ∀ Q : Int, evSs (U.run T n) (G.length + 2) (.cons (.set (.nam 5) (.bin .mod (.bin .add (.var 4) (.bin .mul (.con (.int (104729))) (.ix (.var 1) (.con (.str "count"))))) (.con (.int (4294967291)))))
  (.cons (.set (.nam 5) (.bin .mod (.bin .pow (.var 5) (.con (.int (5)))) (.con (.int (4294967279)))))
  (.cons (.ret (.bin .mod (.bin .fdiv (.bin .mod (.bin .add (.bin .mul (.bin .fdiv (.var 5) (.con (.int (64)))) (.con (.int (69621)))) (.var 5)) (.con (.int (4294967231)))) (.con (.int (8)))) (.var 2)))
  .nil))) [some (.lst (ns.map D.int)), some (.ref 1), some (.int m), some (.int at_), some (.int z), none] (DO.dct ks vs :: tw (c + 1) :: G) = evSs (U.run T n) (G.length + 2) (.cons (.ret (.bin .mod (.bin .fdiv (.bin .mod (.bin .add (.bin .mul (.bin .fdiv (.var 5) (.con (.int (64)))) (.con (.int (69621)))) (.var 5)) (.con (.int (4294967231)))) (.con (.int (8)))) (.var 2)))
  .nil) [some (.lst (ns.map D.int)), some (.ref 1), some (.int m), some (.int at_), some (.int z), some (.int k)] (DO.dct ks vs :: tw (c + 1) :: G) := by
      have p1 : (0 : Int) < 4294967291 := by decide
      have a1 := Int.fmod_lt_of_pos (z + 104729 * (c + 1)) p1
      have a2 := Int.fmod_nonneg_of_pos (z + 104729 * (c + 1)) p1
      generalize hk1 : (z + 104729 * (c + 1)).fmod 4294967291 = k1 at a1 a2
      have p2 : (0 : Int) < 4294967279 := by decide
      refine ⟨(k1 ^ 5).fmod 4294967279, Int.fmod_nonneg_of_pos _ p2, Int.fmod_lt_of_pos _ p2, fun _ => ?_⟩
      rw [set_ok (d := .int k1) (G1 := DO.dct ks vs :: tw (c + 1) :: G), set_ok (d := .int ((k1 ^ 5).fmod 4294967279)) (G1 := DO.dct ks vs :: tw (c + 1) :: G)]
      · rfl
      · have hp : powOk k1 5 = true := by
          unfold powOk
          simp
          omega
        simp [evE, bin_powI hp, bin_modI]
      · have hm : mulOk 104729 (c + 1) = true := by
          unfold mulOk
          simp
        simp [evE, tw_count, bin_mulI hm, bin_modI, hk1]
    obtain ⟨k, hk0, hk1, hnum⟩ := hnum
    have p3 : (0 : Int) < 4294967231 := by decide
    generalize hx : ((((k.fdiv 64) * 69621 + k).fmod 4294967231).fdiv 8).fmod m = x
    have hx0 : 0 ≤ x := hx ▸ Int.fmod_nonneg_of_pos _ (by omega)
    have hx1 : x < m := hx ▸ Int.fmod_lt_of_pos _ (by omega)
    refine ⟨x.toNat, DO.dct ks vs, tw (c + 1), by omega, ⟨_, _, c + 1, rfl, rfl, hr⟩, ?_⟩
    rw [Int.toNat_of_nonneg hx0]
    refine (callF_rt (d := .int x) (d' := .int x) (G' := DO.dct ks vs :: tw (c + 1) :: G) rfl rfl ?_ frz_int).trans (by simp)
    show evSs _ (G.length + 2) bDraw [some (.lst (ns.map D.int)), some (.ref 1), some (.int m), none, none, none] _ = _
    unfold bDraw
    refine (seq_nx st1).trans ((set_ok hat3).trans ((set_ok hz).trans ((skip (G1 := DO.dct ks vs :: tw (c + 1) :: G) ?_).trans ?_)))
    rotate_left
    · refine (hnum 0).trans (ret_ok ?_)
      have hm : mulOk (k.fdiv 64) 69621 = true := by
        unfold mulOk
        simp
      have d1 : divOk 64 = true := by decide
      have d2 : divOk 8 = true := by decide
      simp [evE, bin_fdivI d1, bin_fdivI d2, bin_mulI hm, bin_modI, bin_modI hm0, hx]
    · have : binD (DO.dct ks vs :: tw (c + 1) :: G) .pow (.int 10) (.int 18) = some (.int (10 ^ 18)) := bin_powI (by decide)
      simp [evT, evE, this]
      simpa using hbig
theorem town0 : Town (.dct [] []) (tw 0) := ⟨[], [], 0, rfl, rfl, rfl, fun k v h => by simp [U.dictGet] at h, fun k h => (nomatch h), .nil⟩
theorem begun {T : List (Str × FDef)} (L : T.lookup ("_law_begun" : Str) = some fdBegun) (n : Nat) : U.run T (n + 1) "_law_begun" [] [] = .ok (.ref 1) [.dct [] [], tw 0] := by
  rw [run_succ L]
  kernel_rfl
end U

set_option Elab.async false
set_option linter.all false
set_option maxRecDepth 100000
/-! UX: comprehensions, loops, plain values. -/
namespace U
open PySem L2
def plain : D → Bool
  | .non => true
  | .bl _ => true
  | .int _ => true
  | .str _ => true
  | .tup _ => true
  | .lst _ => true
  | _ => false
def isI : D → Bool
  | .int _ => true
  | _ => false
def isS : D → Bool
  | .str _ => true
  | _ => false
def isT : D → Bool
  | .tup _ => true
  | _ => false
def isL : D → Bool
  | .lst _ => true
  | _ => false
def isB : D → Bool
  | .bl _ => true
  | _ => false
section
variable {G : Hd} {d : D}
theorem isi_tuple (h : plain d = true) : biD G .isi [d, .ty "tuple"] = some (.bl (isT d)) := by cases d <;> first | rfl | cases h
theorem isi_str (h : plain d = true) : biD G .isi [d, .ty "str"] = some (.bl (isS d)) := by cases d <;> first | rfl | cases h
theorem isi_list (h : plain d = true) : biD G .isi [d, .ty "list"] = some (.bl (isL d)) := by cases d <;> first | rfl | cases h
theorem isi_bool (h : plain d = true) : biD G .isi [d, .ty "bool"] = some (.bl (isB d)) := by cases d <;> first | rfl | cases h
theorem isi_int (h : plain d = true) : biD G .isi [d, .ty "int"] = some (.bl (isI d || isB d)) := by cases d <;> first | rfl | cases h
end
theorem cmp_eqI {G : Hd} {i j : Int} : cmpD G .eq (.int i) (.int j) = some (i == j) := rfl
theorem cmp_neI {G : Hd} {i j : Int} : cmpD G .ne (.int i) (.int j) = some (!(i == j)) := rfl
theorem cmp_eqB {G : Hd} {i j : Bool} : cmpD G .eq (.bl i) (.bl j) = some (i == j) := rfl
theorem cmp_neL {G : Hd} : cmpD G .ne (.lst []) (.lst []) = some false := rfl
theorem ix0 {G : Hd} {x : D} {xs : List D} : ixD G (.tup (x :: xs)) (.int 0) = some x := by
  show (ixN (x :: xs).length 0).bind _ = _
  have : ixN (x :: xs).length 0 = some 0 := by
    unfold ixN
    simp
  rw [this]
  rfl
theorem ix1 {G : Hd} {x y : D} {xs : List D} : ixD G (.tup (x :: y :: xs)) (.int 1) = some y := by
  show (ixN (x :: y :: xs).length 1).bind _ = _
  have : ixN (x :: y :: xs).length 1 = some 1 := by
    unfold ixN
    simp
    omega
  rw [this]
  rfl
theorem ix2 {G : Hd} {x y z : D} {xs : List D} : ixD G (.tup (x :: y :: z :: xs)) (.int 2) = some z := by
  show (ixN (x :: y :: z :: xs).length 2).bind _ = _
  have : ixN (x :: y :: z :: xs).length 2 = some 2 := by
    unfold ixN
    simp
    omega
  rw [this]
  rfl
section
variable {Φ : Fn} {b : Nat} {τ : Tau} {G G1 G2 : Hd} {d : D}
theorem val_ok {e : ME} {k : Bool} (h : evE Φ b e τ G = .ok (.bl k) G1) : evT Φ b (.val e) τ G = .ok k G1 := by rw [evT, h]; rfl
theorem not_ok {t : MB} {k : Bool} (h : evT Φ b t τ G = .ok k G1) : evT Φ b (.not t) τ G = .ok (!k) G1 := by rw [evT, h]; rfl
theorem or_ok {x y : MB} {k : Bool} (h : evT Φ b x τ G = .ok k G1) : evT Φ b (.or x y) τ G = if k then .ok true G1 else evT Φ b y τ G1 := by rw [evT, h]; rfl
theorem tand_ok {x y : MB} {k : Bool} (h : evT Φ b x τ G = .ok k G1) : evT Φ b (.and x y) τ G = if k then evT Φ b y τ G1 else .ok false G1 := by rw [evT, h]; rfl
theorem call_ok {f : Str} {es : MEs} {ds : List D} (h : evEs Φ b es τ G = .ok ds G1) (h2 : Φ f ds G1 = .ok d G2) : evE Φ b (.call f es) τ G = .ok d G2 := by rw [evE, h]; exact h2
theorem and_ok {x y : ME} {k : Bool} (h : evE Φ b x τ G = .ok (.bl k) G1) : evE Φ b (.and x y) τ G = if k then evE Φ b y τ G1 else .ok (.bl false) G1 := by
  rw [evE, h]
  cases k <;> rfl
theorem lcGo_pure {turn : D → Hd → Out (Option D)} {f : D → Option D} : ∀ {xs acc : List D}, (∀ x ∈ xs, turn x G = .ok (f x) G) → lcGo turn xs acc G = .ok (acc ++ xs.filterMap f) G
  | [], acc, _ => by simp [lcGo]
  | x :: xs, acc, h => by
    have ih := fun acc => lcGo_pure (turn := turn) (f := f) (xs := xs) (acc := acc) fun y hy => h y (List.mem_cons_of_mem _ hy)
    simp only [lcGo, h x List.mem_cons_self, Out.then_ok]
    cases e : f x with
    | none => simp only [ih, List.filterMap_cons, e]
    | some y => simp only [ih, List.filterMap_cons, e, List.append_assoc, List.cons_append, List.nil_append]
theorem lc_pure {e : ME} {t : MT} {it : MI} {c : MB} {own : List Nat} {ds : List D} {f : D → Option D} (hi : evI Φ b it τ G = .ok (.items ds) G) (hl : ds.length ≤ line) (h : ∀ x ∈ ds, lcTurn Φ b e t c own τ x G = .ok (f x) G) : evE Φ b (.lc e t it c own) τ G = .ok (.lst (ds.filterMap f)) G := by
  rw [evE, hi]
  simp only [Out.then_ok]
  rw [if_pos hl]
  have q := lcGo_pure (turn := lcTurn Φ b e t c own τ) (f := f) (xs := ds) (acc := []) h
  show ((lcGo (lcTurn Φ b e t c own τ) ds [] G).then fun ds G => Out.ok (D.lst ds) G) = _
  rw [q]
  rfl
theorem fm_some {α β : Type} (g : α → β) : ∀ l : List α, l.filterMap (fun x => some (g x)) = l.map g
  | [] => rfl
  | a :: l => by rw [List.filterMap_cons, fm_some g l]; rfl
theorem lc_map {e : ME} {i : Nat} {it : MI} {own : List Nat} {ds : List D} {g : D → D} (hi : evI Φ b it τ G = .ok (.items ds) G) (hl : ds.length ≤ line) (h : ∀ x ∈ ds, evE Φ b e ((wipeD τ own).set i (some x)) G = .ok (g x) G) : evE Φ b (.lc e (.nam i) it .yes own) τ G = .ok (.lst (ds.map g)) G := by
  rw [lc_pure (f := fun x => some (g x)) hi hl, fm_some]
  intro x hx
  unfold lcTurn
  simp only [bindT, evT, Out.then_ok, if_true, h x hx, noexc_ok]
theorem bools_map {α : Type} {p : α → Bool} : ∀ l : List α, boolsD (l.map fun x => D.bl (p x)) = some (l.map p)
  | [] => rfl
  | a :: l => by
    simp only [List.map_cons, boolsD, bools_map l, Option.map_some]
theorem all_ok {e : ME} {ds : List D} {p : D → Bool} (h : evE Φ b e τ G = .ok (.lst (ds.map fun x => .bl (p x))) G) : evE Φ b (.bi .all (.cons e .nil)) τ G = .ok (.bl (ds.all p)) G := by
  have hb : biD G .all [.lst (ds.map fun x => .bl (p x))] = some (.bl (ds.all p)) := by
    show (((listD G (.lst (ds.map fun x => .bl (p x)))).bind boolsD).map fun bs => D.bl (bs.all id)) = _
    show ((boolsD (ds.map fun x => .bl (p x))).map fun bs => D.bl (bs.all id)) = _
    rw [bools_map]
    simp [List.all_map]
  rw [evE]
  simp only [evEs, h, Out.then_ok, hb, lift_some]
end
end U

set_option Elab.async false
set_option linter.all false
set_option maxRecDepth 100000
/-! UY: loops by an invariant; plain values of a depth. -/
namespace U
open PySem L2
theorem forGo_inv {turn : D → Tau → Hd → Out Fl} {I : Nat → Tau → Hd → Prop} : ∀ (xs : List D) (k : Nat), (∀ i x τ G, xs[i]? = some x → I (k + i) τ G → ∃ τ' G', turn x τ G = .ok (.nx τ') G' ∧ I (k + i + 1) τ' G') → ∀ τ G, I k τ G → ∃ τ' G', forGo turn xs τ G = .ok (.nx τ') G' ∧ I (k + xs.length) τ' G'
  | [], k, _, τ, G, h => ⟨τ, G, rfl, h⟩
  | x :: xs, k, hs, τ, G, h => by
    obtain ⟨τ1, G1, e1, h1⟩ := hs 0 x τ G rfl h
    obtain ⟨τ2, G2, e2, h2⟩ := forGo_inv (turn := turn) (I := I) xs (k + 1) (fun i y τ G hy hi => by
      have := hs (i + 1) y τ G (by simpa using hy) (by rw [show k + (i + 1) = k + 1 + i by omega]; exact hi)
      rw [show k + (i + 1) = k + 1 + i by omega] at this
      exact this) τ1 G1 h1
    refine ⟨τ2, G2, ?_, ?_⟩
    · simp only [forGo, e1, Out.then_ok]
      exact e2
    · rw [List.length_cons, show k + (xs.length + 1) = k + 1 + xs.length by omega]
      exact h2
section
variable {Φ : Fn} {b : Nat} {τ : Tau} {G G1 : Hd} {t : MT} {it : MI} {s : MSs} {ds : List D}
def forTurn (Φ : Fn) (b : Nat) (t : MT) (s : MSs) : D → Tau → Hd → Out Fl := fun x τ G => match bindT t x τ with
  | some τ' => evSs Φ b s τ' G
  | none => .bad
theorem for_ok (hi : evI Φ b it τ G = .ok (.items ds) G1) : evS Φ b (.forr t it s) τ G = forGo (forTurn Φ b t s) ds τ G1 := by
  rw [evS, hi]
  rfl
theorem for_inv {I : Nat → Tau → Hd → Prop} (hi : evI Φ b it τ G = .ok (.items ds) G1) (h0 : I 0 τ G1) (hs : ∀ i x τ G, ds[i]? = some x → I i τ G → ∃ τ' G', forTurn Φ b t s x τ G = .ok (.nx τ') G' ∧ I (i + 1) τ' G') : ∃ τ' G', evS Φ b (.forr t it s) τ G = .ok (.nx τ') G' ∧ I ds.length τ' G' := by
  rw [for_ok hi]
  have := forGo_inv (turn := forTurn Φ b t s) (I := I) ds 0 (fun i x τ G hx hI => by rw [Nat.zero_add] at hI ⊢; exact hs i x τ G hx hI) τ G1 h0
  rwa [Nat.zero_add] at this
end
/-! ### plain values of a depth -/
def Sh (j : Nat) (d : D) : Prop := ∃ x, toPy d = some x ∧ x.canLay0 = true ∧ x.depth ≤ j
theorem Sh.mono {j k : Nat} {d : D} (h : Sh j d) (hk : j ≤ k) : Sh k d := by
  obtain ⟨x, h1, h2, h3⟩ := h
  exact ⟨x, h1, h2, Nat.le_trans h3 hk⟩
theorem shs {j : Nat} : ∀ {xs : List D}, (∀ x ∈ xs, Sh j x) → ∃ ys, toPys xs = some ys ∧ PyData.canLayAll0 ys = true ∧ PyData.depthAll ys ≤ j
  | [], _ => ⟨[], rfl, rfl, Nat.zero_le _⟩
  | x :: xs, h => by
    obtain ⟨y, h1, h2, h3⟩ := h x List.mem_cons_self
    obtain ⟨ys, k1, k2, k3⟩ := shs fun z hz => h z (List.mem_cons_of_mem _ hz)
    refine ⟨y :: ys, ?_, ?_, ?_⟩
    · simp only [toPys, h1, k1]
    · simp only [PyData.canLayAll0, h2, k2, Bool.and_self]
    · simp only [PyData.depthAll]
      omega
theorem Sh.tup {j : Nat} {xs : List D} (h : ∀ x ∈ xs, Sh j x) : Sh (j + 1) (.tup xs) := by
  obtain ⟨ys, k1, k2, k3⟩ := shs h
  refine ⟨.tuple ys, by simp only [toPy, k1, Option.map_some], by simpa only [PyData.canLay0] using k2, ?_⟩
  simp only [PyData.depth]
  omega
theorem Sh.lst {j : Nat} {xs : List D} (h : ∀ x ∈ xs, Sh j x) : Sh (j + 1) (.lst xs) := by
  obtain ⟨ys, k1, k2, k3⟩ := shs h
  refine ⟨.list ys, by simp only [toPy, k1, Option.map_some], by simpa only [PyData.canLay0] using k2, ?_⟩
  simp only [PyData.depth]
  omega
theorem Sh.non {j : Nat} : Sh j .non := ⟨_, rfl, rfl, Nat.zero_le _⟩
theorem Sh.bl {j : Nat} {b : Bool} : Sh j (.bl b) := ⟨_, rfl, rfl, Nat.zero_le _⟩
theorem Sh.int {j : Nat} {i : Int} : Sh j (.int i) := ⟨_, rfl, rfl, Nat.zero_le _⟩
theorem Sh.str {j : Nat} {s : Str} (h : PyData.canLay0 (.str s) = true) : Sh j (.str s) := ⟨_, rfl, h, Nat.zero_le _⟩
theorem Sh.plain {j : Nat} {d : D} (h : Sh j d) : plain d = true := by
  obtain ⟨x, h1, _⟩ := h
  cases d <;> first | rfl | cases h1
theorem eq_sh {j : Nat} {a c : D} {G : Hd} (ha : Sh j a) (hc : Sh j c) (hj : j ≤ 64) : ∃ r, eqD G a c = some r := by
  have pa := ha.plain
  have pc := hc.plain
  obtain ⟨x, h1, h2, h3⟩ := ha
  obtain ⟨y, k1, k2, k3⟩ := hc
  have e1 : toPyG G a = some x := by cases a <;> first | exact h1 | cases pa
  have e2 : toPyG G c = some y := by cases c <;> first | exact k1 | cases pc
  have s1 : SeqAt.shaped x = true := by
    unfold SeqAt.shaped
    rw [h2]
    exact decide_eq_true (Nat.le_trans h3 hj)
  have s2 : SeqAt.shaped y = true := by
    unfold SeqAt.shaped
    rw [k2]
    exact decide_eq_true (Nat.le_trans k3 hj)
  refine ⟨PyData.eqv x y, ?_⟩
  unfold eqD
  rw [e1, e2]
  simp only [s1, s2, Bool.and_self, if_true]
mutual
theorem py_closed {n : Nat} : ∀ (d : D) {x : PyData}, toPy d = some x → closed n d = true
  | .non, _, _ => rfl
  | .bl _, _, _ => rfl
  | .int _, _, _ => rfl
  | .str _, _, _ => rfl
  | .tup xs, _, h => by
    obtain ⟨ys, h1, _⟩ := map_some (show (toPys xs).map PyData.tuple = _ from h)
    exact pys_closed xs h1
  | .lst xs, _, h => by
    obtain ⟨ys, h1, _⟩ := map_some (show (toPys xs).map PyData.list = _ from h)
    exact pys_closed xs h1
  | .dct _ _, _, h => by cases h
  | .ins _ _ _, _, h => by cases h
  | .ref _, _, h => by cases h
  | .ty _, _, h => by cases h
  | .glo _, _, h => by cases h
  | .exc _, _, h => by cases h
theorem pys_closed {n : Nat} : ∀ (ds : List D) {xs : List PyData}, toPys ds = some xs → closed.closeds n ds = true
  | [], _, _ => rfl
  | d :: ds, _, h => by
    unfold toPys at h
    cases e1 : toPy d with
    | none => rw [e1] at h; cases h
    | some x =>
      cases e2 : toPys ds with
      | none => rw [e1, e2] at h; cases h
      | some xs => exact Bool.and_eq_true_iff.mpr ⟨py_closed d e1, pys_closed ds e2⟩
end
theorem Sh.closed {j n : Nat} {d : D} (h : Sh j d) : closed n d = true := by
  obtain ⟨x, h1, _⟩ := h
  exact py_closed d h1
theorem frz_sh {j n : Nat} {G : Hd} {xs : List D} (h : ∀ x ∈ xs, Sh j x) : frz 4 n G (.lst xs) = some (.lst xs) := by
  show (if U.closed n (.lst xs) then some (D.lst xs) else none) = _
  rw [if_pos (Sh.lst h).closed]
/-! ### slices -/
theorem cut_to {xs : List D} {j : Nat} (h : j ≤ xs.length) : cutD xs none (some (j : Int)) = xs.take j := by
  unfold cutD
  rw [HT.sIx_none, HT.sIx_nat, Nat.min_eq_left h]
  simp
theorem cut_from {xs : List D} {j : Nat} (h : j ≤ xs.length) : cutD xs (some (j : Int)) none = xs.drop j := by
  unfold cutD
  rw [HT.sIx_none, HT.sIx_nat, Nat.min_eq_left h, List.take_of_length_le (by simp)]
theorem enumGet : ∀ {xs : List D} {k i : Nat} {x : D}, (enumFrom k xs)[i]? = some x → ∃ y, xs[i]? = some y ∧ x = .tup [.int ((k + i : Nat) : Int), y]
  | [], _, _, _, h => by simp [enumFrom] at h
  | y :: xs, k, 0, x, h => by
    simp [enumFrom] at h
    exact ⟨y, rfl, h.symm⟩
  | y :: xs, k, i + 1, x, h => by
    obtain ⟨z, h1, h2⟩ := enumGet (xs := xs) (k := k + 1) (i := i) (by simpa [enumFrom] using h)
    exact ⟨z, by simpa using h1, by rw [h2, show k + 1 + i = k + (i + 1) by omega]⟩
theorem enumLen : ∀ {xs : List D} {k : Nat}, (enumFrom k xs).length = xs.length
  | [], _ => rfl
  | x :: xs, k => by simp [enumFrom, enumLen (xs := xs)]
theorem split_at {xs : List D} {i : Nat} {x : D} (h : xs[i]? = some x) : xs = xs.take i ++ x :: xs.drop (i + 1) := by
  have hi := (List.getElem?_eq_some_iff.mp h)
  obtain ⟨h1, h2⟩ := hi
  rw [← h2, List.getElem_cons_drop, List.take_append_drop]
theorem set_last {G : Hd} {a c : DO} : (G ++ [a]).set G.length c = G ++ [c] := by
  rw [List.set_append_right _ _ (Nat.le_refl _)]
  simp
theorem get_last {G : Hd} {a : DO} : (G ++ [a])[G.length]? = some a := by simp
end U

set_option Elab.async false
set_option linter.all false
set_option maxRecDepth 100000
namespace K04
open PySem L2 PyProof.Rows U
def top (i : Nat) : Stmt := PySem.Challenge.pw_unitlogic_k04_constraints.main.body.getD i (.Pass ⟨0, 0, 0, 0⟩)
def cons : List (Str × D) := [("LETTERS", .str "abcdefghijklmnopqrstuvwxyz"), ("ZERO", .tup [.int 0, .int 1]), ("UNITY", .tup [.int 1, .int 1]), ("DEPTH", .int 6), ("MOST", .int 8), ("UnitError", .glo "UnitError"), ("InvalidExpression", .glo "InvalidExpression"), ("InvalidAssignment", .glo "InvalidAssignment"), ("InvalidModel", .glo "InvalidModel"), ("Inconsistent", .glo "Inconsistent"), ("InvalidIndex", .glo "InvalidIndex"), ("InvalidStatement", .glo "InvalidStatement"), ("Unlike", .glo "Unlike"), ("InvalidUnits", .glo "InvalidUnits"), ("InvalidBound", .glo "InvalidBound"), ("InvalidResults", .glo "InvalidResults"), ("TooMany", .glo "TooMany"), ("Same", .glo "Same"), ("NothingToUndo", .glo "NothingToUndo"), ("InvalidText", .glo "InvalidText")]
def hints : List (Nat × Nat) := [(150, 12), (186, 11), (193, 30), (208, 11), (208, 33), (210, 16), (231, 17), (269, 63), (280, 16), (278, 14), (286, 11), (301, 22), (306, 22)]
def fns : List (Str × List Str) := ([("is_integer", (defArgs (top 20)).args.map (·.arg)),
  ("is_name", (defArgs (top 21)).args.map (·.arg)),
  ("is_ascending", (defArgs (top 22)).args.map (·.arg)),
  ("are_names", (defArgs (top 23)).args.map (·.arg)),
  ("fraction", (defArgs (top 24)).args.map (·.arg)),
  ("is_fraction", (defArgs (top 25)).args.map (·.arg)),
  ("plus", (defArgs (top 26)).args.map (·.arg)),
  ("minus", (defArgs (top 27)).args.map (·.arg)),
  ("times", (defArgs (top 28)).args.map (·.arg)),
  ("are_fractions", (defArgs (top 29)).args.map (·.arg)),
  ("is_unit", (defArgs (top 30)).args.map (·.arg)),
  ("product", (defArgs (top 31)).args.map (·.arg))] : List (Str × List Str)) ++ ([("quotient", (defArgs (top 32)).args.map (·.arg)),
  ("power", (defArgs (top 33)).args.map (·.arg)),
  ("dimensionless", (defArgs (top 34)).args.map (·.arg)),
  ("is_nested", (defArgs (top 37)).args.map (·.arg)),
  ("is_expression", (defArgs (top 38)).args.map (·.arg)),
  ("is_assignment", (defArgs (top 39)).args.map (·.arg)),
  ("evaluated", (defArgs (top 40)).args.map (·.arg)),
  ("is_statement", (defArgs (top 43)).args.map (·.arg)),
  ("are_headings", (defArgs (top 44)).args.map (·.arg)),
  ("is_model", (defArgs (top 45)).args.map (·.arg)),
  ("check_model", (defArgs (top 46)).args.map (·.arg)),
  ("form_of", (defArgs (top 47)).args.map (·.arg))] : List (Str × List Str)) ++ ([("constraints_of", (defArgs (top 48)).args.map (·.arg)),
  ("all_constraints", (defArgs (top 49)).args.map (·.arg)),
  ("constraints", (defArgs (top 50)).args.map (·.arg)),
  ("does_hold", (defArgs (top 51)).args.map (·.arg)),
  ("violations", (defArgs (top 52)).args.map (·.arg)),
  ("check_assignment", (defArgs (top 53)).args.map (·.arg)),
  ("holds", (defArgs (top 54)).args.map (·.arg)),
  ("violated", (defArgs (top 55)).args.map (·.arg)),
  ("_law_is", (defArgs (top 58)).args.map (·.arg)),
  ("_law_draw", (defArgs (top 59)).args.map (·.arg)),
  ("_law_begun", (defArgs (top 60)).args.map (·.arg)),
  ("_law_unit", (defArgs (top 61)).args.map (·.arg))] : List (Str × List Str)) ++ ([("_law_expression", (defArgs (top 62)).args.map (·.arg)),
  ("_law_model", (defArgs (top 63)).args.map (·.arg)),
  ("_law_low", (defArgs (top 64)).args.map (·.arg)),
  ("_law_add", (defArgs (top 65)).args.map (·.arg)),
  ("_law_mul", (defArgs (top 66)).args.map (·.arg)),
  ("_law_plus", (defArgs (top 67)).args.map (·.arg)),
  ("_law_value", (defArgs (top 68)).args.map (·.arg)),
  ("_law_gaps", (defArgs (top 69)).args.map (·.arg)),
  ("_law_holds", (defArgs (top 70)).args.map (·.arg)),
  ("_law_forms", (defArgs (top 71)).args.map (·.arg)),
  ("law", (defArgs (top 72)).args.map (·.arg))] : List (Str × List Str))
def sg : Sg := ⟨fns, cons, hints, true⟩
def N_is_integer : List Str := ["value"]
def N_is_name : List Str := ["value", "sign"]
def N_is_ascending : List Str := ["values", "one", "other"]
def N_are_names : List Str := ["value", "most", "one"]
def N_fraction : List Str := ["numerator", "denominator", "one", "other"]
def N_is_fraction : List Str := ["value", "one"]
def N_plus : List Str := ["one", "other"]
def N_minus : List Str := ["one", "other"]
def N_times : List Str := ["one", "other"]
def N_are_fractions : List Str := ["value", "many", "one"]
def N_is_unit : List Str := ["bases", "value"]
def N_product : List Str := ["one", "other", "mine", "yours"]
def N_quotient : List Str := ["one", "other", "mine", "yours"]
def N_power : List Str := ["unit", "exponent", "one"]
def N_dimensionless : List Str := ["bases"]
def N_is_nested : List Str := ["bases", "variables", "value", "depth", "kind"]
def N_is_expression : List Str := ["bases", "variables", "value"]
def N_is_assignment : List Str := ["bases", "variables", "value", "one"]
def N_evaluated : List Str := ["expression", "units", "kind", "first", "unit", "valid", "other", "also"]
def N_is_statement : List Str := ["bases", "variables", "value", "side"]
def N_are_headings : List Str := ["bases", "variables"]
def N_is_model : List Str := ["value", "one"]
def N_check_model : List Str := ["model"]
def N_form_of : List Str := ["bases", "variables", "expression", "found", "kind", "first", "name", "coefficients", "unit", "exponent", "others", "other"]
def N_constraints_of : List Str := ["bases", "variables", "statement", "found", "mine", "unit", "yours", "other"]
def N_all_constraints : List Str := ["model", "statement"]
def N_constraints : List Str := ["model"]
def N_does_hold : List Str := ["statement", "units", "left", "valid", "right", "also"]
def N_violations : List Str := ["model", "assignment", "units", "index", "statement"]
def N_check_assignment : List Str := ["model", "assignment"]
def N_holds : List Str := ["model", "assignment"]
def N_violated : List Str := ["model", "assignment"]
def N__law_is : List Str := ["result", "expected"]
def N__law_draw : List Str := ["script", "town", "many", "at", "rest", "number"]
def N__law_begun : List Str := []
def N__law_unit : List Str := ["script", "town", "bases", "exponents", "name", "top"]
def N__law_expression : List Str := ["script", "town", "bases", "variables", "depth", "turn", "unit", "name", "one", "other"]
def N__law_model : List Str := ["script", "town", "most", "bases", "variables", "statements", "k", "left", "right"]
def N__law_low : List Str := ["top", "below", "one", "two"]
def N__law_add : List Str := ["one", "two"]
def N__law_mul : List Str := ["one", "two"]
def N__law_plus : List Str := ["row", "factor", "other", "mine", "yours"]
def N__law_value : List Str := ["expression", "units", "kind", "first", "mine", "some", "factor", "one", "yours", "more"]
def N__law_gaps : List Str := ["statement", "units", "left", "some", "right", "more"]
def N__law_holds : List Str := ["model_here", "assignment_here", "units", "found", "index", "statement", "zero", "gap"]
def N__law_forms : List Str := ["bases", "variables", "statement", "zero", "start", "name", "found", "one", "gap", "units", "other", "row", "before", "after"]
def N_law : List Str := ["script", "town", "k", "model_here", "bases", "variables", "statements", "due", "statement", "assignment_here", "name", "good", "bad", "index", "odd", "results"]
def b_is_integer : MSs := (.cons (.ret (.and (.bi .isi (.cons (.var 0) (.cons (.con (.ty "int")) .nil))) (.not (.bi .isi (.cons (.var 0) (.cons (.con (.ty "bool")) .nil))))))
  .nil)
def b_is_name : MSs := (.cons (.ret (.and (.bi .isi (.cons (.var 0) (.cons (.con (.ty "str")) .nil))) (.and (.chain .le .le (.con (.int (1))) (.bi .len (.cons (.var 0) .nil)) (.con (.int (6)))) (.bi .all (.cons (.lc (.cmp .isin (.var 1) (.con (.str "abcdefghijklmnopqrstuvwxyz"))) (.nam 1) (.val (.var 0)) .yes [1]) .nil)))))
  .nil)
def b_is_ascending : MSs := (.cons (.ret (.bi .all (.cons (.lc (.cmp .lt (.var 1) (.var 2)) (.tpc (.nam 1) (.tpc (.nam 2) .tp0)) (.zip (.var 0) (.sl (.var 0) (.yes (.con (.int (1)))) .no)) .yes [1, 2]) .nil)))
  .nil)
def b_are_names : MSs := (.cons (.iff (.or (.not (.val (.bi .isi (.cons (.var 0) (.cons (.con (.ty "tuple")) .nil))))) (.or (.not (.val (.chain .le .le (.con (.int (1))) (.bi .len (.cons (.var 0) .nil)) (.var 1)))) (.not (.val (.bi .all (.cons (.lc (.call "is_name" (.cons (.var 2) .nil)) (.nam 2) (.val (.var 0)) .yes [2]) .nil))))))
    (.cons (.ret (.con (.bl false)))
  .nil)
    .nil)
  (.cons (.ret (.call "is_ascending" (.cons (.var 0) .nil)))
  .nil))
def b_fraction : MSs := (.cons (.par [2, 3] (.cons (.bi .abs (.cons (.var 0) .nil)) (.cons (.bi .abs (.cons (.var 1) .nil)) .nil)))
  (.cons (.whl (.val (.var 3))
    (.cons (.par [2, 3] (.cons (.var 3) (.cons (.bin .mod (.var 2) (.var 3)) .nil)))
  .nil))
  (.cons (.iff (.val (.cmp .lt (.var 1) (.con (.int (0)))))
    (.cons (.set (.nam 2) (.neg (.var 2)))
  .nil)
    .nil)
  (.cons (.ret (.tup (.cons (.bin .fdiv (.var 0) (.var 2)) (.cons (.bin .fdiv (.var 1) (.var 2)) .nil))))
  .nil))))
def b_is_fraction : MSs := (.cons (.iff (.or (.not (.val (.bi .isi (.cons (.var 0) (.cons (.con (.ty "tuple")) .nil))))) (.or (.val (.cmp .ne (.bi .len (.cons (.var 0) .nil)) (.con (.int (2))))) (.not (.val (.bi .all (.cons (.lc (.call "is_integer" (.cons (.var 1) .nil)) (.nam 1) (.val (.var 0)) .yes [1]) .nil))))))
    (.cons (.ret (.con (.bl false)))
  .nil)
    .nil)
  (.cons (.ret (.and (.cmp .gt (.ix (.var 0) (.con (.int (1)))) (.con (.int (0)))) (.cmp .eq (.call "fraction" (.cons (.ix (.var 0) (.con (.int (0)))) (.cons (.ix (.var 0) (.con (.int (1)))) .nil))) (.var 0))))
  .nil))
def b_plus : MSs := (.cons (.ret (.call "fraction" (.cons (.bin .add (.bin .mul (.ix (.var 0) (.con (.int (0)))) (.ix (.var 1) (.con (.int (1))))) (.bin .mul (.ix (.var 1) (.con (.int (0)))) (.ix (.var 0) (.con (.int (1)))))) (.cons (.bin .mul (.ix (.var 0) (.con (.int (1)))) (.ix (.var 1) (.con (.int (1))))) .nil))))
  .nil)
def b_minus : MSs := (.cons (.ret (.call "fraction" (.cons (.bin .sub (.bin .mul (.ix (.var 0) (.con (.int (0)))) (.ix (.var 1) (.con (.int (1))))) (.bin .mul (.ix (.var 1) (.con (.int (0)))) (.ix (.var 0) (.con (.int (1)))))) (.cons (.bin .mul (.ix (.var 0) (.con (.int (1)))) (.ix (.var 1) (.con (.int (1))))) .nil))))
  .nil)
def b_times : MSs := (.cons (.ret (.call "fraction" (.cons (.bin .mul (.ix (.var 0) (.con (.int (0)))) (.ix (.var 1) (.con (.int (0))))) (.cons (.bin .mul (.ix (.var 0) (.con (.int (1)))) (.ix (.var 1) (.con (.int (1))))) .nil))))
  .nil)
def b_are_fractions : MSs := (.cons (.ret (.and (.bi .isi (.cons (.var 0) (.cons (.con (.ty "tuple")) .nil))) (.and (.cmp .eq (.bi .len (.cons (.var 0) .nil)) (.var 1)) (.bi .all (.cons (.lc (.call "is_fraction" (.cons (.var 2) .nil)) (.nam 2) (.val (.var 0)) .yes [2]) .nil)))))
  .nil)
def b_is_unit : MSs := (.cons (.ret (.call "are_fractions" (.cons (.var 1) (.cons (.bi .len (.cons (.var 0) .nil)) .nil))))
  .nil)
def b_product : MSs := (.cons (.ret (.bi .tuple (.cons (.lc (.call "plus" (.cons (.var 2) (.cons (.var 3) .nil))) (.tpc (.nam 2) (.tpc (.nam 3) .tp0)) (.zip (.var 0) (.var 1)) .yes [2, 3]) .nil)))
  .nil)
def b_quotient : MSs := (.cons (.ret (.bi .tuple (.cons (.lc (.call "minus" (.cons (.var 2) (.cons (.var 3) .nil))) (.tpc (.nam 2) (.tpc (.nam 3) .tp0)) (.zip (.var 0) (.var 1)) .yes [2, 3]) .nil)))
  .nil)
def b_power : MSs := (.cons (.ret (.bi .tuple (.cons (.lc (.call "times" (.cons (.var 2) (.cons (.var 1) .nil))) (.nam 2) (.val (.var 0)) .yes [2]) .nil)))
  .nil)
def b_dimensionless : MSs := (.cons (.ret (.bin .mul (.tup (.cons (.con (.tup [.int 0, .int 1])) .nil)) (.bi .len (.cons (.var 0) .nil))))
  .nil)
def b_is_nested : MSs := (.cons (.iff (.or (.val (.cmp .eq (.var 3) (.con (.int (0))))) (.or (.not (.val (.bi .isi (.cons (.var 2) (.cons (.con (.ty "tuple")) .nil))))) (.or (.val (.cmp .nin (.bi .len (.cons (.var 2) .nil)) (.tup (.cons (.con (.int (2))) (.cons (.con (.int (3))) .nil))))) (.not (.val (.bi .isi (.cons (.ix (.var 2) (.con (.int (0)))) (.cons (.con (.ty "str")) .nil))))))))
    (.cons (.ret (.con (.bl false)))
  .nil)
    .nil)
  (.cons (.set (.nam 4) (.ix (.var 2) (.con (.int (0)))))
  (.cons (.iff (.val (.cmp .eq (.var 4) (.con (.str "var"))))
    (.cons (.ret (.and (.cmp .eq (.bi .len (.cons (.var 2) .nil)) (.con (.int (2)))) (.and (.bi .isi (.cons (.ix (.var 2) (.con (.int (1)))) (.cons (.con (.ty "str")) .nil))) (.cmp .isin (.ix (.var 2) (.con (.int (1)))) (.var 1)))))
  .nil)
    .nil)
  (.cons (.iff (.val (.cmp .eq (.var 4) (.con (.str "unit"))))
    (.cons (.ret (.and (.cmp .eq (.bi .len (.cons (.var 2) .nil)) (.con (.int (2)))) (.call "is_unit" (.cons (.var 0) (.cons (.ix (.var 2) (.con (.int (1)))) .nil)))))
  .nil)
    .nil)
  (.cons (.iff (.or (.val (.cmp .nin (.var 4) (.tup (.cons (.con (.str "mul")) (.cons (.con (.str "div")) (.cons (.con (.str "add")) (.cons (.con (.str "pow")) (.cons (.con (.str "root")) .nil)))))))) (.val (.cmp .ne (.bi .len (.cons (.var 2) .nil)) (.con (.int (3))))))
    (.cons (.ret (.con (.bl false)))
  .nil)
    .nil)
  (.cons (.iff (.not (.val (.call "is_nested" (.cons (.var 0) (.cons (.var 1) (.cons (.ix (.var 2) (.con (.int (1)))) (.cons (.bin .sub (.var 3) (.con (.int (1)))) .nil)))))))
    (.cons (.ret (.con (.bl false)))
  .nil)
    .nil)
  (.cons (.iff (.val (.cmp .eq (.var 4) (.con (.str "pow"))))
    (.cons (.ret (.and (.call "is_integer" (.cons (.ix (.var 2) (.con (.int (2)))) .nil)) (.chain .le .le (.neg (.con (.int (4)))) (.ix (.var 2) (.con (.int (2)))) (.con (.int (4))))))
  .nil)
    .nil)
  (.cons (.iff (.val (.cmp .eq (.var 4) (.con (.str "root"))))
    (.cons (.ret (.and (.call "is_integer" (.cons (.ix (.var 2) (.con (.int (2)))) .nil)) (.chain .le .le (.con (.int (2))) (.ix (.var 2) (.con (.int (2)))) (.con (.int (4))))))
  .nil)
    .nil)
  (.cons (.ret (.call "is_nested" (.cons (.var 0) (.cons (.var 1) (.cons (.ix (.var 2) (.con (.int (2)))) (.cons (.bin .sub (.var 3) (.con (.int (1)))) .nil))))))
  .nil)))))))))
def b_is_expression : MSs := (.cons (.ret (.call "is_nested" (.cons (.var 0) (.cons (.var 1) (.cons (.var 2) (.cons (.con (.int (6))) .nil))))))
  .nil)
def b_is_assignment : MSs := (.cons (.ret (.and (.bi .isi (.cons (.var 2) (.cons (.con (.ty "tuple")) .nil))) (.and (.cmp .eq (.bi .len (.cons (.var 2) .nil)) (.bi .len (.cons (.var 1) .nil))) (.bi .all (.cons (.lc (.call "is_unit" (.cons (.var 0) (.cons (.var 3) .nil))) (.nam 3) (.val (.var 2)) .yes [3]) .nil)))))
  .nil)
def b_evaluated : MSs := (.cons (.par [2, 3] (.cons (.ix (.var 0) (.con (.int (0)))) (.cons (.ix (.var 0) (.con (.int (1)))) .nil)))
  (.cons (.iff (.val (.cmp .eq (.var 2) (.con (.str "var"))))
    (.cons (.ret (.tup (.cons (.ix (.var 1) (.var 3)) (.cons (.con (.bl true)) .nil))))
  .nil)
    .nil)
  (.cons (.iff (.val (.cmp .eq (.var 2) (.con (.str "unit"))))
    (.cons (.ret (.tup (.cons (.var 3) (.cons (.con (.bl true)) .nil))))
  .nil)
    .nil)
  (.cons (.set (.tpc (.nam 4) (.tpc (.nam 5) .tp0)) (.call "evaluated" (.cons (.var 3) (.cons (.var 1) .nil))))
  (.cons (.iff (.val (.cmp .eq (.var 2) (.con (.str "pow"))))
    (.cons (.ret (.tup (.cons (.call "power" (.cons (.var 4) (.cons (.tup (.cons (.ix (.var 0) (.con (.int (2)))) (.cons (.con (.int (1))) .nil))) .nil))) (.cons (.var 5) .nil))))
  .nil)
    .nil)
  (.cons (.iff (.val (.cmp .eq (.var 2) (.con (.str "root"))))
    (.cons (.ret (.tup (.cons (.call "power" (.cons (.var 4) (.cons (.call "fraction" (.cons (.con (.int (1))) (.cons (.ix (.var 0) (.con (.int (2)))) .nil))) .nil))) (.cons (.var 5) .nil))))
  .nil)
    .nil)
  (.cons (.set (.tpc (.nam 6) (.tpc (.nam 7) .tp0)) (.call "evaluated" (.cons (.ix (.var 0) (.con (.int (2)))) (.cons (.var 1) .nil))))
  (.cons (.iff (.val (.cmp .eq (.var 2) (.con (.str "mul"))))
    (.cons (.ret (.tup (.cons (.call "product" (.cons (.var 4) (.cons (.var 6) .nil))) (.cons (.and (.var 5) (.var 7)) .nil))))
  .nil)
    .nil)
  (.cons (.iff (.val (.cmp .eq (.var 2) (.con (.str "div"))))
    (.cons (.ret (.tup (.cons (.call "quotient" (.cons (.var 4) (.cons (.var 6) .nil))) (.cons (.and (.var 5) (.var 7)) .nil))))
  .nil)
    .nil)
  (.cons (.ret (.tup (.cons (.var 4) (.cons (.and (.var 5) (.and (.var 7) (.cmp .eq (.var 4) (.var 6)))) .nil))))
  .nil))))))))))
def b_is_statement : MSs := (.cons (.iff (.or (.not (.val (.bi .isi (.cons (.var 2) (.cons (.con (.ty "tuple")) .nil))))) (.val (.cmp .ne (.bi .len (.cons (.var 2) .nil)) (.con (.int (2))))))
    (.cons (.ret (.con (.bl false)))
  .nil)
    .nil)
  (.cons (.ret (.bi .all (.cons (.lc (.call "is_expression" (.cons (.var 0) (.cons (.var 1) (.cons (.var 3) .nil)))) (.nam 3) (.val (.var 2)) .yes [3]) .nil)))
  .nil))
def b_are_headings : MSs := (.cons (.ret (.and (.call "are_names" (.cons (.var 0) (.cons (.con (.int (3))) .nil))) (.call "are_names" (.cons (.var 1) (.cons (.con (.int (6))) .nil)))))
  .nil)
def b_is_model : MSs := (.cons (.iff (.or (.not (.val (.bi .isi (.cons (.var 0) (.cons (.con (.ty "tuple")) .nil))))) (.or (.val (.cmp .ne (.bi .len (.cons (.var 0) .nil)) (.con (.int (3))))) (.not (.val (.call "are_headings" (.cons (.ix (.var 0) (.con (.int (0)))) (.cons (.ix (.var 0) (.con (.int (1)))) .nil)))))))
    (.cons (.ret (.con (.bl false)))
  .nil)
    .nil)
  (.cons (.iff (.or (.not (.val (.bi .isi (.cons (.ix (.var 0) (.con (.int (2)))) (.cons (.con (.ty "tuple")) .nil))))) (.val (.cmp .gt (.bi .len (.cons (.ix (.var 0) (.con (.int (2)))) .nil)) (.con (.int (8))))))
    (.cons (.ret (.con (.bl false)))
  .nil)
    .nil)
  (.cons (.ret (.bi .all (.cons (.lc (.call "is_statement" (.cons (.ix (.var 0) (.con (.int (0)))) (.cons (.ix (.var 0) (.con (.int (1)))) (.cons (.var 1) .nil)))) (.nam 1) (.val (.ix (.var 0) (.con (.int (2))))) .yes [1]) .nil)))
  .nil)))
def b_check_model : MSs := (.cons (.iff (.not (.val (.call "is_model" (.cons (.var 0) .nil))))
    (.cons (.raise "InvalidModel")
  .nil)
    .nil)
  .nil)
def b_form_of : MSs := (.cons (.set (.tpc (.nam 4) (.tpc (.nam 5) .tp0)) (.tup (.cons (.ix (.var 2) (.con (.int (0)))) (.cons (.ix (.var 2) (.con (.int (1)))) .nil))))
  (.cons (.iff (.val (.cmp .eq (.var 4) (.con (.str "var"))))
    (.cons (.ret (.tup (.cons (.bi .tuple (.cons (.lc (.ifx (.val (.cmp .eq (.var 6) (.var 5))) (.con (.tup [.int 1, .int 1])) (.con (.tup [.int 0, .int 1]))) (.nam 6) (.val (.var 1)) .yes [6]) .nil)) (.cons (.call "dimensionless" (.cons (.var 0) .nil)) .nil))))
  .nil)
    .nil)
  (.cons (.iff (.val (.cmp .eq (.var 4) (.con (.str "unit"))))
    (.cons (.ret (.tup (.cons (.bin .mul (.tup (.cons (.con (.tup [.int 0, .int 1])) .nil)) (.bi .len (.cons (.var 1) .nil))) (.cons (.var 5) .nil))))
  .nil)
    .nil)
  (.cons (.set (.tpc (.nam 7) (.tpc (.nam 8) .tp0)) (.call "form_of" (.cons (.var 0) (.cons (.var 1) (.cons (.var 5) (.cons (.var 3) .nil))))))
  (.cons (.iff (.val (.cmp .isin (.var 4) (.tup (.cons (.con (.str "pow")) (.cons (.con (.str "root")) .nil)))))
    (.cons (.set (.nam 9) (.ifx (.val (.cmp .eq (.var 4) (.con (.str "pow")))) (.tup (.cons (.ix (.var 2) (.con (.int (2)))) (.cons (.con (.int (1))) .nil))) (.call "fraction" (.cons (.con (.int (1))) (.cons (.ix (.var 2) (.con (.int (2)))) .nil)))))
  (.cons (.ret (.tup (.cons (.call "power" (.cons (.var 7) (.cons (.var 9) .nil))) (.cons (.call "power" (.cons (.var 8) (.cons (.var 9) .nil))) .nil))))
  .nil))
    .nil)
  (.cons (.set (.tpc (.nam 10) (.tpc (.nam 11) .tp0)) (.call "form_of" (.cons (.var 0) (.cons (.var 1) (.cons (.ix (.var 2) (.con (.int (2)))) (.cons (.var 3) .nil))))))
  (.cons (.iff (.val (.cmp .eq (.var 4) (.con (.str "mul"))))
    (.cons (.ret (.tup (.cons (.call "product" (.cons (.var 7) (.cons (.var 10) .nil))) (.cons (.call "product" (.cons (.var 8) (.cons (.var 11) .nil))) .nil))))
  .nil)
    .nil)
  (.cons (.iff (.val (.cmp .eq (.var 4) (.con (.str "div"))))
    (.cons (.ret (.tup (.cons (.call "quotient" (.cons (.var 7) (.cons (.var 10) .nil))) (.cons (.call "quotient" (.cons (.var 8) (.cons (.var 11) .nil))) .nil))))
  .nil)
    .nil)
  (.cons (.exp (.append (.var 3) (.tup (.cons (.call "quotient" (.cons (.var 7) (.cons (.var 10) .nil))) (.cons (.call "quotient" (.cons (.var 11) (.cons (.var 8) .nil))) .nil)))))
  (.cons (.ret (.tup (.cons (.var 7) (.cons (.var 8) .nil))))
  .nil))))))))))
def b_constraints_of : MSs := (.cons (.set (.nam 3) (.alloc (.lst .nil)))
  (.cons (.set (.tpc (.nam 4) (.tpc (.nam 5) .tp0)) (.call "form_of" (.cons (.var 0) (.cons (.var 1) (.cons (.ix (.var 2) (.con (.int (0)))) (.cons (.var 3) .nil))))))
  (.cons (.set (.tpc (.nam 6) (.tpc (.nam 7) .tp0)) (.call "form_of" (.cons (.var 0) (.cons (.var 1) (.cons (.ix (.var 2) (.con (.int (1)))) (.cons (.var 3) .nil))))))
  (.cons (.ret (.bi .tuple (.cons (.bin .add (.var 3) (.lst (.cons (.tup (.cons (.call "quotient" (.cons (.var 4) (.cons (.var 6) .nil))) (.cons (.call "quotient" (.cons (.var 7) (.cons (.var 5) .nil))) .nil))) .nil))) .nil)))
  .nil))))
def b_all_constraints : MSs := (.cons (.ret (.bi .tuple (.cons (.lc (.call "constraints_of" (.cons (.ix (.var 0) (.con (.int (0)))) (.cons (.ix (.var 0) (.con (.int (1)))) (.cons (.var 1) .nil)))) (.nam 1) (.val (.ix (.var 0) (.con (.int (2))))) .yes [1]) .nil)))
  .nil)
def b_constraints : MSs := (.cons (.exp (.call "check_model" (.cons (.var 0) .nil)))
  (.cons (.ret (.call "all_constraints" (.cons (.var 0) .nil)))
  .nil))
def b_does_hold : MSs := (.cons (.set (.tpc (.nam 2) (.tpc (.nam 3) .tp0)) (.call "evaluated" (.cons (.ix (.var 0) (.con (.int (0)))) (.cons (.var 1) .nil))))
  (.cons (.set (.tpc (.nam 4) (.tpc (.nam 5) .tp0)) (.call "evaluated" (.cons (.ix (.var 0) (.con (.int (1)))) (.cons (.var 1) .nil))))
  (.cons (.ret (.and (.var 3) (.and (.var 5) (.cmp .eq (.var 2) (.var 4)))))
  .nil)))
def b_violations : MSs := (.cons (.set (.nam 2) (.dzip (.ix (.var 0) (.con (.int (1)))) (.var 1)))
  (.cons (.ret (.bi .tuple (.cons (.lc (.var 3) (.tpc (.nam 3) (.tpc (.nam 4) .tp0)) (.enum (.ix (.var 0) (.con (.int (2))))) (.not (.val (.call "does_hold" (.cons (.var 4) (.cons (.var 2) .nil))))) [3, 4]) .nil)))
  .nil))
def b_check_assignment : MSs := (.cons (.iff (.not (.val (.call "is_assignment" (.cons (.ix (.var 0) (.con (.int (0)))) (.cons (.ix (.var 0) (.con (.int (1)))) (.cons (.var 1) .nil))))))
    (.cons (.raise "InvalidAssignment")
  .nil)
    .nil)
  .nil)
def b_holds : MSs := (.cons (.exp (.call "check_model" (.cons (.var 0) .nil)))
  (.cons (.exp (.call "check_assignment" (.cons (.var 0) (.cons (.var 1) .nil))))
  (.cons (.ret (.cmp .eq (.call "violations" (.cons (.var 0) (.cons (.var 1) .nil))) (.tup .nil)))
  .nil)))
def b_violated : MSs := (.cons (.exp (.call "check_model" (.cons (.var 0) .nil)))
  (.cons (.exp (.call "check_assignment" (.cons (.var 0) (.cons (.var 1) .nil))))
  (.cons (.ret (.call "violations" (.cons (.var 0) (.cons (.var 1) .nil))))
  .nil)))
def b__law_is : MSs := (.cons (.ret (.and (.bi .isi (.cons (.var 0) (.cons (.con (.ty "bool")) .nil))) (.cmp .eq (.var 0) (.var 1))))
  .nil)
def b__law_draw : MSs := (.cons (.setix (.var 1) (.con (.str "count")) (.bin .add (.ix (.var 1) (.con (.str "count"))) (.con (.int (1)))))
  (.cons (.set (.nam 3) (.ifx (.val (.var 0)) (.bin .mod (.ix (.var 1) (.con (.str "count"))) (.bi .len (.cons (.var 0) .nil))) (.con (.int (0)))))
  (.cons (.set (.nam 4) (.get (.ix (.var 1) (.con (.str "rests"))) (.var 3) (.ifx (.val (.var 0)) (.ix (.var 0) (.var 3)) (.con (.int (0))))))
  (.cons (.iff (.val (.cmp .ge (.var 4) (.bin .pow (.con (.int (10))) (.con (.int (18))))))
    (.cons (.setix (.ix (.var 1) (.con (.str "rests"))) (.var 3) (.bin .fdiv (.var 4) (.var 2)))
  (.cons (.ret (.bin .mod (.var 4) (.var 2)))
  .nil))
    .nil)
  (.cons (.set (.nam 5) (.bin .mod (.bin .add (.var 4) (.bin .mul (.con (.int (104729))) (.ix (.var 1) (.con (.str "count"))))) (.con (.int (4294967291)))))
  (.cons (.set (.nam 5) (.bin .mod (.bin .pow (.var 5) (.con (.int (5)))) (.con (.int (4294967279)))))
  (.cons (.ret (.bin .mod (.bin .fdiv (.bin .mod (.bin .add (.bin .mul (.bin .fdiv (.var 5) (.con (.int (64)))) (.con (.int (69621)))) (.var 5)) (.con (.int (4294967231)))) (.con (.int (8)))) (.var 2)))
  .nil)))))))
def b__law_begun : MSs := (.cons (.ret (.alloc (.dct (.cons (.con (.str "count")) (.cons (.con (.int (0))) (.cons (.con (.str "rests")) (.cons (.alloc (.dct .nil)) .nil)))))))
  .nil)
def b__law_unit : MSs := (.cons (.set (.nam 3) (.alloc (.lst .nil)))
  (.cons (.forr (.nam 4) (.val (.var 2))
    (.cons (.set (.nam 5) (.bin .sub (.call "_law_draw" (.cons (.var 0) (.cons (.var 1) (.cons (.con (.int (7))) .nil)))) (.con (.int (3)))))
  (.cons (.exp (.append (.var 3) (.ifx (.and (.val (.cmp .eq (.call "_law_draw" (.cons (.var 0) (.cons (.var 1) (.cons (.con (.int (4))) .nil)))) (.con (.int (0))))) (.val (.cmp .ne (.bin .mod (.var 5) (.con (.int (2)))) (.con (.int (0)))))) (.tup (.cons (.var 5) (.cons (.con (.int (2))) .nil))) (.tup (.cons (.var 5) (.cons (.con (.int (1))) .nil))))))
  .nil)))
  (.cons (.ret (.bi .tuple (.cons (.var 3) .nil)))
  .nil)))
def b__law_expression : MSs := (.cons (.set (.nam 5) (.call "_law_draw" (.cons (.var 0) (.cons (.var 1) (.cons (.con (.int (8))) .nil)))))
  (.cons (.iff (.or (.val (.cmp .eq (.var 4) (.con (.int (1))))) (.val (.cmp .lt (.var 5) (.con (.int (2))))))
    (.cons (.set (.nam 6) (.call "_law_unit" (.cons (.var 0) (.cons (.var 1) (.cons (.var 2) .nil)))))
  (.cons (.set (.nam 7) (.ix (.var 3) (.call "_law_draw" (.cons (.var 0) (.cons (.var 1) (.cons (.bi .len (.cons (.var 3) .nil)) .nil))))))
  (.cons (.ret (.ifx (.val (.cmp .gt (.call "_law_draw" (.cons (.var 0) (.cons (.var 1) (.cons (.con (.int (4))) .nil)))) (.con (.int (0))))) (.tup (.cons (.con (.str "var")) (.cons (.var 7) .nil))) (.tup (.cons (.con (.str "unit")) (.cons (.var 6) .nil)))))
  .nil)))
    .nil)
  (.cons (.set (.nam 8) (.call "_law_expression" (.cons (.var 0) (.cons (.var 1) (.cons (.var 2) (.cons (.var 3) (.cons (.bin .sub (.var 4) (.con (.int (1)))) .nil)))))))
  (.cons (.iff (.val (.cmp .eq (.var 5) (.con (.int (2)))))
    (.cons (.ret (.tup (.cons (.con (.str "pow")) (.cons (.var 8) (.cons (.bin .sub (.call "_law_draw" (.cons (.var 0) (.cons (.var 1) (.cons (.con (.int (9))) .nil)))) (.con (.int (4)))) .nil)))))
  .nil)
    .nil)
  (.cons (.iff (.val (.cmp .eq (.var 5) (.con (.int (3)))))
    (.cons (.ret (.tup (.cons (.con (.str "root")) (.cons (.var 8) (.cons (.bin .add (.con (.int (2))) (.call "_law_draw" (.cons (.var 0) (.cons (.var 1) (.cons (.con (.int (3))) .nil))))) .nil)))))
  .nil)
    .nil)
  (.cons (.set (.nam 9) (.call "_law_expression" (.cons (.var 0) (.cons (.var 1) (.cons (.var 2) (.cons (.var 3) (.cons (.bin .sub (.var 4) (.con (.int (1)))) .nil)))))))
  (.cons (.ret (.tup (.cons (.ix (.lst (.cons (.con (.str "mul")) (.cons (.con (.str "div")) (.cons (.con (.str "add")) (.cons (.con (.str "mul")) .nil))))) (.bin .sub (.var 5) (.con (.int (4))))) (.cons (.var 8) (.cons (.var 9) .nil)))))
  .nil)))))))
def b__law_model : MSs := (.cons (.set (.nam 3) (.sl (.sl (.tup (.cons (.con (.str "kg")) (.cons (.con (.str "m")) (.cons (.con (.str "s")) .nil)))) (.yes (.call "_law_draw" (.cons (.var 0) (.cons (.var 1) (.cons (.con (.int (2))) .nil))))) .no) .no (.yes (.bin .add (.con (.int (1))) (.call "_law_draw" (.cons (.var 0) (.cons (.var 1) (.cons (.con (.int (2))) .nil))))))))
  (.cons (.set (.nam 4) (.sl (.tup (.cons (.con (.str "a")) (.cons (.con (.str "f")) (.cons (.con (.str "mass")) (.cons (.con (.str "t")) (.cons (.con (.str "v")) .nil)))))) .no (.yes (.bin .add (.con (.int (1))) (.call "_law_draw" (.cons (.var 0) (.cons (.var 1) (.cons (.con (.int (4))) .nil))))))))
  (.cons (.set (.nam 5) (.alloc (.lst .nil)))
  (.cons (.forr (.nam 6) (.rng1 (.call "_law_draw" (.cons (.var 0) (.cons (.var 1) (.cons (.bin .add (.var 2) (.con (.int (1)))) .nil)))))
    (.cons (.set (.nam 7) (.call "_law_expression" (.cons (.var 0) (.cons (.var 1) (.cons (.var 3) (.cons (.var 4) (.cons (.con (.int (2))) .nil)))))))
  (.cons (.set (.nam 8) (.call "_law_expression" (.cons (.var 0) (.cons (.var 1) (.cons (.var 3) (.cons (.var 4) (.cons (.bin .add (.con (.int (1))) (.call "_law_draw" (.cons (.var 0) (.cons (.var 1) (.cons (.con (.int (3))) .nil))))) .nil)))))))
  (.cons (.exp (.append (.var 5) (.tup (.cons (.var 7) (.cons (.var 8) .nil)))))
  .nil))))
  (.cons (.ret (.tup (.cons (.var 3) (.cons (.var 4) (.cons (.bi .tuple (.cons (.var 5) .nil)) .nil)))))
  .nil)))))
def b__law_low : MSs := (.cons (.par [2, 3] (.cons (.bi .abs (.cons (.var 0) .nil)) (.cons (.bi .abs (.cons (.var 1) .nil)) .nil)))
  (.cons (.whl (.val (.cmp .gt (.var 3) (.con (.int (0)))))
    (.cons (.par [2, 3] (.cons (.var 3) (.cons (.bin .mod (.var 2) (.var 3)) .nil)))
  .nil))
  (.cons (.iff (.val (.cmp .lt (.var 1) (.con (.int (0)))))
    (.cons (.set (.nam 2) (.bin .sub (.con (.int (0))) (.var 2)))
  .nil)
    .nil)
  (.cons (.ret (.tup (.cons (.bin .fdiv (.var 0) (.var 2)) (.cons (.bin .fdiv (.var 1) (.var 2)) .nil))))
  .nil))))
def b__law_add : MSs := (.cons (.ret (.call "_law_low" (.cons (.bin .add (.bin .mul (.ix (.var 0) (.con (.int (0)))) (.ix (.var 1) (.con (.int (1))))) (.bin .mul (.ix (.var 1) (.con (.int (0)))) (.ix (.var 0) (.con (.int (1)))))) (.cons (.bin .mul (.ix (.var 0) (.con (.int (1)))) (.ix (.var 1) (.con (.int (1))))) .nil))))
  .nil)
def b__law_mul : MSs := (.cons (.ret (.call "_law_low" (.cons (.bin .mul (.ix (.var 0) (.con (.int (0)))) (.ix (.var 1) (.con (.int (0))))) (.cons (.bin .mul (.ix (.var 0) (.con (.int (1)))) (.ix (.var 1) (.con (.int (1))))) .nil))))
  .nil)
def b__law_plus : MSs := (.cons (.ret (.bi .tuple (.cons (.lc (.call "_law_add" (.cons (.var 3) (.cons (.call "_law_mul" (.cons (.var 1) (.cons (.var 4) .nil))) .nil))) (.tpc (.nam 3) (.tpc (.nam 4) .tp0)) (.zip (.var 0) (.var 2)) .yes [3, 4]) .nil)))
  .nil)
def b__law_value : MSs := (.cons (.par [2, 3] (.cons (.ix (.var 0) (.con (.int (0)))) (.cons (.ix (.var 0) (.con (.int (1)))) .nil)))
  (.cons (.iff (.val (.cmp .eq (.var 2) (.con (.str "var"))))
    (.cons (.ret (.tup (.cons (.ix (.var 1) (.var 3)) (.cons (.lst .nil) .nil))))
  .nil)
    .nil)
  (.cons (.iff (.val (.cmp .eq (.var 2) (.con (.str "unit"))))
    (.cons (.ret (.tup (.cons (.var 3) (.cons (.lst .nil) .nil))))
  .nil)
    .nil)
  (.cons (.set (.tpc (.nam 4) (.tpc (.nam 5) .tp0)) (.call "_law_value" (.cons (.var 3) (.cons (.var 1) .nil))))
  (.cons (.iff (.val (.cmp .isin (.var 2) (.tup (.cons (.con (.str "pow")) (.cons (.con (.str "root")) .nil)))))
    (.cons (.set (.nam 6) (.ifx (.val (.cmp .eq (.var 2) (.con (.str "pow")))) (.tup (.cons (.ix (.var 0) (.con (.int (2)))) (.cons (.con (.int (1))) .nil))) (.tup (.cons (.con (.int (1))) (.cons (.ix (.var 0) (.con (.int (2)))) .nil)))))
  (.cons (.ret (.tup (.cons (.bi .tuple (.cons (.lc (.call "_law_mul" (.cons (.var 7) (.cons (.var 6) .nil))) (.nam 7) (.val (.var 4)) .yes [7]) .nil)) (.cons (.var 5) .nil))))
  .nil))
    .nil)
  (.cons (.set (.tpc (.nam 8) (.tpc (.nam 9) .tp0)) (.call "_law_value" (.cons (.ix (.var 0) (.con (.int (2)))) (.cons (.var 1) .nil))))
  (.cons (.iff (.val (.cmp .eq (.var 2) (.con (.str "add"))))
    (.cons (.ret (.tup (.cons (.var 4) (.cons (.bin .add (.bin .add (.var 5) (.var 9)) (.lst (.cons (.call "_law_plus" (.cons (.var 4) (.cons (.tup (.cons (.neg (.con (.int (1)))) (.cons (.con (.int (1))) .nil))) (.cons (.var 8) .nil)))) .nil))) .nil))))
  .nil)
    .nil)
  (.cons (.ret (.tup (.cons (.call "_law_plus" (.cons (.var 4) (.cons (.tup (.cons (.ifx (.val (.cmp .eq (.var 2) (.con (.str "mul")))) (.con (.int (1))) (.neg (.con (.int (1))))) (.cons (.con (.int (1))) .nil))) (.cons (.var 8) .nil)))) (.cons (.bin .add (.var 5) (.var 9)) .nil))))
  .nil))))))))
def b__law_gaps : MSs := (.cons (.set (.tpc (.nam 2) (.tpc (.nam 3) .tp0)) (.call "_law_value" (.cons (.ix (.var 0) (.con (.int (0)))) (.cons (.var 1) .nil))))
  (.cons (.set (.tpc (.nam 4) (.tpc (.nam 5) .tp0)) (.call "_law_value" (.cons (.ix (.var 0) (.con (.int (1)))) (.cons (.var 1) .nil))))
  (.cons (.ret (.bin .add (.bin .add (.var 3) (.var 5)) (.lst (.cons (.call "_law_plus" (.cons (.var 2) (.cons (.tup (.cons (.neg (.con (.int (1)))) (.cons (.con (.int (1))) .nil))) (.cons (.var 4) .nil)))) .nil))))
  .nil)))
def b__law_holds : MSs := (.cons (.par [2, 3] (.cons (.dzip (.ix (.var 0) (.con (.int (1)))) (.var 1)) (.cons (.alloc (.lst .nil)) .nil)))
  (.cons (.forr (.tpc (.nam 4) (.tpc (.nam 5) .tp0)) (.enum (.ix (.var 0) (.con (.int (2)))))
    (.cons (.set (.nam 6) (.bin .mul (.tup (.cons (.tup (.cons (.con (.int (0))) (.cons (.con (.int (1))) .nil))) .nil)) (.bi .len (.cons (.ix (.var 0) (.con (.int (0)))) .nil))))
  (.cons (.iff (.val (.cmp .eq (.lc (.var 7) (.nam 7) (.val (.call "_law_gaps" (.cons (.var 5) (.cons (.var 2) .nil)))) (.val (.cmp .ne (.var 7) (.var 6))) [7]) (.lst .nil)))
    (.cons (.exp (.append (.var 3) (.var 4)))
  .nil)
    .nil)
  .nil)))
  (.cons (.ret (.var 3))
  .nil)))
def b__law_forms : MSs := (.cons (.set (.nam 3) (.bin .mul (.tup (.cons (.tup (.cons (.con (.int (0))) (.cons (.con (.int (1))) .nil))) .nil)) (.bi .len (.cons (.var 0) .nil))))
  (.cons (.set (.nam 4) (.call "_law_gaps" (.cons (.var 2) (.cons (.dpairs (.lc (.tup (.cons (.var 5) (.cons (.var 3) .nil))) (.nam 5) (.val (.var 1)) .yes [5])) .nil))))
  (.cons (.set (.nam 6) (.lc (.tup (.cons (.alloc (.lst .nil)) (.cons (.bi .tuple (.cons (.lc (.tup (.cons (.bin .sub (.con (.int (0))) (.ix (.var 7) (.con (.int (0))))) (.cons (.ix (.var 7) (.con (.int (1)))) .nil))) (.nam 7) (.val (.var 8)) .yes [7]) .nil)) .nil))) (.nam 8) (.val (.var 4)) .yes [8]))
  (.cons (.forr (.nam 5) (.val (.var 1))
    (.cons (.set (.nam 9) (.alloc (.dpairs (.lc (.tup (.cons (.var 10) (.cons (.var 3) .nil))) (.nam 10) (.val (.var 1)) .yes [10]))))
  (.cons (.setix (.var 9) (.var 5) (.bin .add (.tup (.cons (.tup (.cons (.con (.int (1))) (.cons (.con (.int (1))) .nil))) .nil)) (.sl (.var 3) (.yes (.con (.int (1)))) .no)))
  (.cons (.forr (.tpc (.nam 11) (.tpc (.nam 12) (.tpc (.nam 13) .tp0))) (.zip3 (.var 6) (.var 4) (.call "_law_gaps" (.cons (.var 2) (.cons (.var 9) .nil))))
    (.cons (.exp (.append (.ix (.var 11) (.con (.int (0)))) (.call "_law_add" (.cons (.ix (.var 13) (.con (.int (0)))) (.cons (.tup (.cons (.bin .sub (.con (.int (0))) (.ix (.ix (.var 12) (.con (.int (0)))) (.con (.int (0))))) (.cons (.ix (.ix (.var 12) (.con (.int (0)))) (.con (.int (1)))) .nil))) .nil)))))
  .nil))
  .nil))))
  (.cons (.ret (.lc (.tup (.cons (.bi .tuple (.cons (.ix (.var 11) (.con (.int (0)))) .nil)) (.cons (.ix (.var 11) (.con (.int (1)))) .nil))) (.nam 11) (.val (.var 6)) .yes [11]))
  .nil)))))
def b_law : MSs := (.cons (.set (.nam 1) (.call "_law_begun" .nil))
  (.cons (.forr (.nam 2) (.rng1 (.con (.int (5))))
    (.cons (.set (.nam 3) (.call "_law_model" (.cons (.var 0) (.cons (.var 1) (.cons (.con (.int (4))) .nil)))))
  (.cons (.set (.tpc (.nam 4) (.tpc (.nam 5) (.tpc (.nam 6) .tp0))) (.var 3))
  (.cons (.set (.nam 7) (.bi .tuple (.cons (.lc (.bi .tuple (.cons (.call "_law_forms" (.cons (.var 4) (.cons (.var 5) (.cons (.var 8) .nil)))) .nil)) (.nam 8) (.val (.var 6)) .yes [8]) .nil)))
  (.cons (.iff (.val (.cmp .ne (.call "constraints" (.cons (.var 3) .nil)) (.var 7)))
    (.cons (.ret (.con (.bl false)))
  .nil)
    .nil)
  (.cons (.set (.nam 9) (.bi .tuple (.cons (.lc (.call "_law_unit" (.cons (.var 0) (.cons (.var 1) (.cons (.var 4) .nil)))) (.nam 10) (.val (.var 5)) .yes [10]) .nil)))
  (.cons (.set (.nam 11) (.call "_law_holds" (.cons (.var 3) (.cons (.var 9) .nil))))
  (.cons (.set (.nam 12) (.bi .tuple (.cons (.lc (.var 13) (.nam 13) (.rng1 (.bi .len (.cons (.var 6) .nil))) (.val (.cmp .nin (.var 13) (.var 11))) [13]) .nil)))
  (.cons (.iff (.val (.cmp .ne (.call "violated" (.cons (.var 3) (.cons (.var 9) .nil))) (.var 12)))
    (.cons (.ret (.con (.bl false)))
  .nil)
    .nil)
  (.cons (.iff (.not (.val (.call "_law_is" (.cons (.call "holds" (.cons (.var 3) (.cons (.var 9) .nil))) (.cons (.cmp .eq (.var 12) (.tup .nil)) .nil)))))
    (.cons (.ret (.con (.bl false)))
  .nil)
    .nil)
  (.cons (.forr (.nam 14) (.val (.tup (.cons (.con .non) (.cons (.tup .nil) (.cons (.sl (.var 9) (.yes (.con (.int (1)))) .no) (.cons (.bin .add (.var 9) (.sl (.var 9) .no (.yes (.con (.int (1)))))) .nil))))))
    (.cons (.set (.nam 15) (.alloc (.lst (.cons (.catch (.call "holds" (.cons (.var 3) (.cons (.var 14) .nil))) (glos cons)) .nil))))
  (.cons (.exp (.append (.var 15) (.catch (.call "violated" (.cons (.var 3) (.cons (.var 14) .nil))) (glos cons))))
  (.cons (.iff (.val (.cmp .ne (.var 15) (.bin .mul (.lst (.cons (.tup (.cons (.con (.str "assignment")) .nil)) .nil)) (.con (.int (2))))))
    (.cons (.ret (.con (.bl false)))
  .nil)
    .nil)
  .nil))))
  (.cons (.forr (.nam 14) (.val (.tup (.cons (.con .non) (.cons (.sl (.var 3) .no (.yes (.con (.int (2))))) (.cons (.tup (.cons (.var 4) (.cons (.var 5) (.cons (.con .non) .nil)))) (.cons (.tup (.cons (.var 4) (.cons (.rev (.var 5)) (.cons (.var 6) (.cons (.tup .nil) .nil))))) .nil))))))
    (.cons (.set (.nam 15) (.alloc (.lst (.cons (.catch (.call "constraints" (.cons (.var 14) .nil)) (glos cons)) .nil))))
  (.cons (.exp (.append (.var 15) (.catch (.call "holds" (.cons (.var 14) (.cons (.con .non) .nil))) (glos cons))))
  (.cons (.exp (.append (.var 15) (.catch (.call "violated" (.cons (.var 14) (.cons (.con .non) .nil))) (glos cons))))
  (.cons (.iff (.val (.cmp .ne (.var 15) (.bin .mul (.lst (.cons (.tup (.cons (.con (.str "model")) .nil)) .nil)) (.con (.int (3))))))
    (.cons (.ret (.con (.bl false)))
  .nil)
    .nil)
  .nil)))))
  .nil))))))))))))
  (.cons (.ret (.con (.bl true)))
  .nil)))
def r_is_integer : Row := ⟨"is_integer", top 20, N_is_integer, false, b_is_integer, false⟩
def r_is_name : Row := ⟨"is_name", top 21, N_is_name, false, b_is_name, false⟩
def r_is_ascending : Row := ⟨"is_ascending", top 22, N_is_ascending, false, b_is_ascending, false⟩
def r_are_names : Row := ⟨"are_names", top 23, N_are_names, false, b_are_names, false⟩
def r_fraction : Row := ⟨"fraction", top 24, N_fraction, false, b_fraction, false⟩
def r_is_fraction : Row := ⟨"is_fraction", top 25, N_is_fraction, false, b_is_fraction, false⟩
def r_plus : Row := ⟨"plus", top 26, N_plus, false, b_plus, false⟩
def r_minus : Row := ⟨"minus", top 27, N_minus, false, b_minus, false⟩
def r_times : Row := ⟨"times", top 28, N_times, false, b_times, false⟩
def r_are_fractions : Row := ⟨"are_fractions", top 29, N_are_fractions, false, b_are_fractions, false⟩
def r_is_unit : Row := ⟨"is_unit", top 30, N_is_unit, false, b_is_unit, false⟩
def r_product : Row := ⟨"product", top 31, N_product, false, b_product, false⟩
def r_quotient : Row := ⟨"quotient", top 32, N_quotient, false, b_quotient, false⟩
def r_power : Row := ⟨"power", top 33, N_power, false, b_power, false⟩
def r_dimensionless : Row := ⟨"dimensionless", top 34, N_dimensionless, false, b_dimensionless, false⟩
def r_is_nested : Row := ⟨"is_nested", top 37, N_is_nested, false, b_is_nested, false⟩
def r_is_expression : Row := ⟨"is_expression", top 38, N_is_expression, false, b_is_expression, false⟩
def r_is_assignment : Row := ⟨"is_assignment", top 39, N_is_assignment, false, b_is_assignment, false⟩
def r_evaluated : Row := ⟨"evaluated", top 40, N_evaluated, false, b_evaluated, false⟩
def r_is_statement : Row := ⟨"is_statement", top 43, N_is_statement, false, b_is_statement, false⟩
def r_are_headings : Row := ⟨"are_headings", top 44, N_are_headings, false, b_are_headings, false⟩
def r_is_model : Row := ⟨"is_model", top 45, N_is_model, false, b_is_model, false⟩
def r_check_model : Row := ⟨"check_model", top 46, N_check_model, false, b_check_model, false⟩
def r_form_of : Row := ⟨"form_of", top 47, N_form_of, false, b_form_of, false⟩
def r_constraints_of : Row := ⟨"constraints_of", top 48, N_constraints_of, false, b_constraints_of, false⟩
def r_all_constraints : Row := ⟨"all_constraints", top 49, N_all_constraints, false, b_all_constraints, false⟩
def r_constraints : Row := ⟨"constraints", top 50, N_constraints, false, b_constraints, false⟩
def r_does_hold : Row := ⟨"does_hold", top 51, N_does_hold, false, b_does_hold, false⟩
def r_violations : Row := ⟨"violations", top 52, N_violations, false, b_violations, false⟩
def r_check_assignment : Row := ⟨"check_assignment", top 53, N_check_assignment, false, b_check_assignment, false⟩
def r_holds : Row := ⟨"holds", top 54, N_holds, false, b_holds, false⟩
def r_violated : Row := ⟨"violated", top 55, N_violated, false, b_violated, false⟩
def r__law_is : Row := ⟨"_law_is", top 58, N__law_is, false, b__law_is, false⟩
def r__law_draw : Row := ⟨"_law_draw", top 59, N__law_draw, false, b__law_draw, false⟩
def r__law_begun : Row := ⟨"_law_begun", top 60, N__law_begun, true, b__law_begun, false⟩
def r__law_unit : Row := ⟨"_law_unit", top 61, N__law_unit, false, b__law_unit, false⟩
def r__law_expression : Row := ⟨"_law_expression", top 62, N__law_expression, false, b__law_expression, false⟩
def r__law_model : Row := ⟨"_law_model", top 63, N__law_model, false, b__law_model, false⟩
def r__law_low : Row := ⟨"_law_low", top 64, N__law_low, false, b__law_low, false⟩
def r__law_add : Row := ⟨"_law_add", top 65, N__law_add, false, b__law_add, false⟩
def r__law_mul : Row := ⟨"_law_mul", top 66, N__law_mul, false, b__law_mul, false⟩
def r__law_plus : Row := ⟨"_law_plus", top 67, N__law_plus, false, b__law_plus, false⟩
def r__law_value : Row := ⟨"_law_value", top 68, N__law_value, false, b__law_value, false⟩
def r__law_gaps : Row := ⟨"_law_gaps", top 69, N__law_gaps, false, b__law_gaps, false⟩
def r__law_holds : Row := ⟨"_law_holds", top 70, N__law_holds, false, b__law_holds, false⟩
def r__law_forms : Row := ⟨"_law_forms", top 71, N__law_forms, false, b__law_forms, false⟩
def r_law : Row := ⟨"law", top 72, N_law, false, b_law, true⟩
def rows : List Row := [r_is_integer, r_is_name, r_is_ascending, r_are_names, r_fraction, r_is_fraction, r_plus, r_minus, r_times, r_are_fractions, r_is_unit, r_product, r_quotient, r_power, r_dimensionless, r_is_nested, r_is_expression, r_is_assignment, r_evaluated, r_is_statement, r_are_headings, r_is_model, r_check_model, r_form_of, r_constraints_of, r_all_constraints, r_constraints, r_does_hold, r_violations, r_check_assignment, r_holds, r_violated, r__law_is, r__law_draw, r__law_begun, r__law_unit, r__law_expression, r__law_model, r__law_low, r__law_add, r__law_mul, r__law_plus, r__law_value, r__law_gaps, r__law_holds, r__law_forms, r_law]
def N_res : List Str := ["call", "raised", "result", "e", "some", "names", "name"]
def b_res : MSs := (.cons (.iff (.val (.cmp .isn (.var 1) (.con .non)))
    (.cons (.ret (.tup (.cons (.con (.str "returns")) (.cons (.var 2) .nil))))
  .nil)
    .nil)
  (.cons (.set (.nam 4) (.alloc (.dct (.cons (.con (.str "expression")) (.cons (.isE (.var 1) "InvalidExpression" (glos cons)) (.cons (.con (.str "index")) (.cons (.isE (.var 1) "InvalidIndex" (glos cons)) .nil)))))))
  (.cons (.exp (.update (.var 4) (.dct (.cons (.con (.str "assignment")) (.cons (.isE (.var 1) "InvalidAssignment" (glos cons)) (.cons (.con (.str "model")) (.cons (.isE (.var 1) "InvalidModel" (glos cons)) .nil)))))))
  (.cons (.exp (.update (.var 4) (.dct (.cons (.con (.str "inconsistent")) (.cons (.isE (.var 1) "Inconsistent" (glos cons)) (.cons (.con (.str "unlike")) (.cons (.isE (.var 1) "Unlike" (glos cons)) .nil)))))))
  (.cons (.exp (.update (.var 4) (.dct (.cons (.con (.str "statement")) (.cons (.isE (.var 1) "InvalidStatement" (glos cons)) (.cons (.con (.str "units")) (.cons (.isE (.var 1) "InvalidUnits" (glos cons)) .nil)))))))
  (.cons (.exp (.update (.var 4) (.dct (.cons (.con (.str "bound")) (.cons (.isE (.var 1) "InvalidBound" (glos cons)) (.cons (.con (.str "results")) (.cons (.isE (.var 1) "InvalidResults" (glos cons)) .nil)))))))
  (.cons (.exp (.update (.var 4) (.dct (.cons (.con (.str "too many")) (.cons (.isE (.var 1) "TooMany" (glos cons)) (.cons (.con (.str "same")) (.cons (.isE (.var 1) "Same" (glos cons)) .nil)))))))
  (.cons (.exp (.update (.var 4) (.dct (.cons (.con (.str "undo")) (.cons (.isE (.var 1) "NothingToUndo" (glos cons)) (.cons (.con (.str "text")) (.cons (.isE (.var 1) "InvalidText" (glos cons)) .nil)))))))
  (.cons (.set (.nam 5) (.lc (.var 6) (.nam 6) (.keys 4) (.val (.ix (.var 4) (.var 6))) [6]))
  (.cons (.ret (.ifx (.and (.val (.cmp .eq (.bi .len (.cons (.var 5) .nil)) (.con (.int (1))))) (.val (.isE (.var 1) "ValueError" (glos cons)))) (.tup (.cons (.ix (.var 5) (.con (.int (0)))) .nil)) (.tup (.cons (.con (.str "other error")) .nil))))
  .nil))))))))))
def resR : Res := ⟨top 57, N_res, b_res⟩
def res : Option Res := some resR
theorem c_res : ∃ tail d m, resTail (defBody resR.st) = some tail ∧ cmpS ⟨[], sg.cons, sg.hints, false⟩ resR.N (defScope resR.st) d m tail = some resR.body := ⟨(defBody resR.st).drop 2, 30, 60, by kernel_rfl, by kernel_rfl⟩
theorem k_res : ResOk sg resR := ⟨by decide +kernel, by decide +kernel, by decide +kernel, by decide +kernel, by decide +kernel, c_res, by kernel_rfl⟩
theorem res_is : ResIs sg res := k_res
theorem fns_eq : fnsOf rows = fns := rfl
theorem c_is_integer : cmpS { sg with lam := false } N_is_integer (defScope (top 20)) 30 60 (defBody (top 20)) = some b_is_integer := by kernel_rfl
theorem c_is_name : cmpS { sg with lam := false } N_is_name (defScope (top 21)) 30 60 (defBody (top 21)) = some b_is_name := by kernel_rfl
theorem c_is_ascending : cmpS { sg with lam := false } N_is_ascending (defScope (top 22)) 30 60 (defBody (top 22)) = some b_is_ascending := by kernel_rfl
theorem c_are_names : cmpS { sg with lam := false } N_are_names (defScope (top 23)) 30 60 (defBody (top 23)) = some b_are_names := by kernel_rfl
theorem c_fraction : cmpS { sg with lam := false } N_fraction (defScope (top 24)) 30 60 (defBody (top 24)) = some b_fraction := by kernel_rfl
theorem c_is_fraction : cmpS { sg with lam := false } N_is_fraction (defScope (top 25)) 30 60 (defBody (top 25)) = some b_is_fraction := by kernel_rfl
theorem c_plus : cmpS { sg with lam := false } N_plus (defScope (top 26)) 30 60 (defBody (top 26)) = some b_plus := by kernel_rfl
theorem c_minus : cmpS { sg with lam := false } N_minus (defScope (top 27)) 30 60 (defBody (top 27)) = some b_minus := by kernel_rfl
theorem c_times : cmpS { sg with lam := false } N_times (defScope (top 28)) 30 60 (defBody (top 28)) = some b_times := by kernel_rfl
theorem c_are_fractions : cmpS { sg with lam := false } N_are_fractions (defScope (top 29)) 30 60 (defBody (top 29)) = some b_are_fractions := by kernel_rfl
theorem c_is_unit : cmpS { sg with lam := false } N_is_unit (defScope (top 30)) 30 60 (defBody (top 30)) = some b_is_unit := by kernel_rfl
theorem c_product : cmpS { sg with lam := false } N_product (defScope (top 31)) 30 60 (defBody (top 31)) = some b_product := by kernel_rfl
theorem c_quotient : cmpS { sg with lam := false } N_quotient (defScope (top 32)) 30 60 (defBody (top 32)) = some b_quotient := by kernel_rfl
theorem c_power : cmpS { sg with lam := false } N_power (defScope (top 33)) 30 60 (defBody (top 33)) = some b_power := by kernel_rfl
theorem c_dimensionless : cmpS { sg with lam := false } N_dimensionless (defScope (top 34)) 30 60 (defBody (top 34)) = some b_dimensionless := by kernel_rfl
theorem c_is_nested : cmpS { sg with lam := false } N_is_nested (defScope (top 37)) 30 60 (defBody (top 37)) = some b_is_nested := by kernel_rfl
theorem c_is_expression : cmpS { sg with lam := false } N_is_expression (defScope (top 38)) 30 60 (defBody (top 38)) = some b_is_expression := by kernel_rfl
theorem c_is_assignment : cmpS { sg with lam := false } N_is_assignment (defScope (top 39)) 30 60 (defBody (top 39)) = some b_is_assignment := by kernel_rfl
theorem c_evaluated : cmpS { sg with lam := false } N_evaluated (defScope (top 40)) 30 60 (defBody (top 40)) = some b_evaluated := by kernel_rfl
theorem c_is_statement : cmpS { sg with lam := false } N_is_statement (defScope (top 43)) 30 60 (defBody (top 43)) = some b_is_statement := by kernel_rfl
theorem c_are_headings : cmpS { sg with lam := false } N_are_headings (defScope (top 44)) 30 60 (defBody (top 44)) = some b_are_headings := by kernel_rfl
theorem c_is_model : cmpS { sg with lam := false } N_is_model (defScope (top 45)) 30 60 (defBody (top 45)) = some b_is_model := by kernel_rfl
theorem c_check_model : cmpS { sg with lam := false } N_check_model (defScope (top 46)) 30 60 (defBody (top 46)) = some b_check_model := by kernel_rfl
theorem c_form_of : cmpS { sg with lam := false } N_form_of (defScope (top 47)) 30 60 (defBody (top 47)) = some b_form_of := by kernel_rfl
theorem c_constraints_of : cmpS { sg with lam := false } N_constraints_of (defScope (top 48)) 30 60 (defBody (top 48)) = some b_constraints_of := by kernel_rfl
theorem c_all_constraints : cmpS { sg with lam := false } N_all_constraints (defScope (top 49)) 30 60 (defBody (top 49)) = some b_all_constraints := by kernel_rfl
theorem c_constraints : cmpS { sg with lam := false } N_constraints (defScope (top 50)) 30 60 (defBody (top 50)) = some b_constraints := by kernel_rfl
theorem c_does_hold : cmpS { sg with lam := false } N_does_hold (defScope (top 51)) 30 60 (defBody (top 51)) = some b_does_hold := by kernel_rfl
theorem c_violations : cmpS { sg with lam := false } N_violations (defScope (top 52)) 30 60 (defBody (top 52)) = some b_violations := by kernel_rfl
theorem c_check_assignment : cmpS { sg with lam := false } N_check_assignment (defScope (top 53)) 30 60 (defBody (top 53)) = some b_check_assignment := by kernel_rfl
theorem c_holds : cmpS { sg with lam := false } N_holds (defScope (top 54)) 30 60 (defBody (top 54)) = some b_holds := by kernel_rfl
theorem c_violated : cmpS { sg with lam := false } N_violated (defScope (top 55)) 30 60 (defBody (top 55)) = some b_violated := by kernel_rfl
theorem c__law_is : cmpS { sg with lam := false } N__law_is (defScope (top 58)) 30 60 (defBody (top 58)) = some b__law_is := by kernel_rfl
theorem c__law_draw : cmpS { sg with lam := false } N__law_draw (defScope (top 59)) 30 60 (defBody (top 59)) = some b__law_draw := by kernel_rfl
theorem c__law_begun : cmpS { sg with lam := false } N__law_begun (defScope (top 60)) 30 60 (defBody (top 60)) = some b__law_begun := by kernel_rfl
theorem c__law_unit : cmpS { sg with lam := false } N__law_unit (defScope (top 61)) 30 60 (defBody (top 61)) = some b__law_unit := by kernel_rfl
theorem c__law_expression : cmpS { sg with lam := false } N__law_expression (defScope (top 62)) 30 60 (defBody (top 62)) = some b__law_expression := by kernel_rfl
theorem c__law_model : cmpS { sg with lam := false } N__law_model (defScope (top 63)) 30 60 (defBody (top 63)) = some b__law_model := by kernel_rfl
theorem c__law_low : cmpS { sg with lam := false } N__law_low (defScope (top 64)) 30 60 (defBody (top 64)) = some b__law_low := by kernel_rfl
theorem c__law_add : cmpS { sg with lam := false } N__law_add (defScope (top 65)) 30 60 (defBody (top 65)) = some b__law_add := by kernel_rfl
theorem c__law_mul : cmpS { sg with lam := false } N__law_mul (defScope (top 66)) 30 60 (defBody (top 66)) = some b__law_mul := by kernel_rfl
theorem c__law_plus : cmpS { sg with lam := false } N__law_plus (defScope (top 67)) 30 60 (defBody (top 67)) = some b__law_plus := by kernel_rfl
theorem c__law_value : cmpS { sg with lam := false } N__law_value (defScope (top 68)) 30 60 (defBody (top 68)) = some b__law_value := by kernel_rfl
theorem c__law_gaps : cmpS { sg with lam := false } N__law_gaps (defScope (top 69)) 30 60 (defBody (top 69)) = some b__law_gaps := by kernel_rfl
theorem c__law_holds : cmpS { sg with lam := false } N__law_holds (defScope (top 70)) 30 60 (defBody (top 70)) = some b__law_holds := by kernel_rfl
theorem c__law_forms : cmpS { sg with lam := false } N__law_forms (defScope (top 71)) 30 60 (defBody (top 71)) = some b__law_forms := by kernel_rfl
theorem c_law : cmpS { sg with lam := true } N_law (defScope (top 72)) 30 60 (defBody (top 72)) = some b_law := by kernel_rfl
theorem k_is_integer : RowOk sg r_is_integer := ⟨by decide +kernel, by decide +kernel, 30, 60, c_is_integer⟩
theorem k_is_name : RowOk sg r_is_name := ⟨by decide +kernel, by decide +kernel, 30, 60, c_is_name⟩
theorem k_is_ascending : RowOk sg r_is_ascending := ⟨by decide +kernel, by decide +kernel, 30, 60, c_is_ascending⟩
theorem k_are_names : RowOk sg r_are_names := ⟨by decide +kernel, by decide +kernel, 30, 60, c_are_names⟩
theorem k_fraction : RowOk sg r_fraction := ⟨by decide +kernel, by decide +kernel, 30, 60, c_fraction⟩
theorem k_is_fraction : RowOk sg r_is_fraction := ⟨by decide +kernel, by decide +kernel, 30, 60, c_is_fraction⟩
theorem k_plus : RowOk sg r_plus := ⟨by decide +kernel, by decide +kernel, 30, 60, c_plus⟩
theorem k_minus : RowOk sg r_minus := ⟨by decide +kernel, by decide +kernel, 30, 60, c_minus⟩
theorem k_times : RowOk sg r_times := ⟨by decide +kernel, by decide +kernel, 30, 60, c_times⟩
theorem k_are_fractions : RowOk sg r_are_fractions := ⟨by decide +kernel, by decide +kernel, 30, 60, c_are_fractions⟩
theorem k_is_unit : RowOk sg r_is_unit := ⟨by decide +kernel, by decide +kernel, 30, 60, c_is_unit⟩
theorem k_product : RowOk sg r_product := ⟨by decide +kernel, by decide +kernel, 30, 60, c_product⟩
theorem k_quotient : RowOk sg r_quotient := ⟨by decide +kernel, by decide +kernel, 30, 60, c_quotient⟩
theorem k_power : RowOk sg r_power := ⟨by decide +kernel, by decide +kernel, 30, 60, c_power⟩
theorem k_dimensionless : RowOk sg r_dimensionless := ⟨by decide +kernel, by decide +kernel, 30, 60, c_dimensionless⟩
theorem k_is_nested : RowOk sg r_is_nested := ⟨by decide +kernel, by decide +kernel, 30, 60, c_is_nested⟩
theorem k_is_expression : RowOk sg r_is_expression := ⟨by decide +kernel, by decide +kernel, 30, 60, c_is_expression⟩
theorem k_is_assignment : RowOk sg r_is_assignment := ⟨by decide +kernel, by decide +kernel, 30, 60, c_is_assignment⟩
theorem k_evaluated : RowOk sg r_evaluated := ⟨by decide +kernel, by decide +kernel, 30, 60, c_evaluated⟩
theorem k_is_statement : RowOk sg r_is_statement := ⟨by decide +kernel, by decide +kernel, 30, 60, c_is_statement⟩
theorem k_are_headings : RowOk sg r_are_headings := ⟨by decide +kernel, by decide +kernel, 30, 60, c_are_headings⟩
theorem k_is_model : RowOk sg r_is_model := ⟨by decide +kernel, by decide +kernel, 30, 60, c_is_model⟩
theorem k_check_model : RowOk sg r_check_model := ⟨by decide +kernel, by decide +kernel, 30, 60, c_check_model⟩
theorem k_form_of : RowOk sg r_form_of := ⟨by decide +kernel, by decide +kernel, 30, 60, c_form_of⟩
theorem k_constraints_of : RowOk sg r_constraints_of := ⟨by decide +kernel, by decide +kernel, 30, 60, c_constraints_of⟩
theorem k_all_constraints : RowOk sg r_all_constraints := ⟨by decide +kernel, by decide +kernel, 30, 60, c_all_constraints⟩
theorem k_constraints : RowOk sg r_constraints := ⟨by decide +kernel, by decide +kernel, 30, 60, c_constraints⟩
theorem k_does_hold : RowOk sg r_does_hold := ⟨by decide +kernel, by decide +kernel, 30, 60, c_does_hold⟩
theorem k_violations : RowOk sg r_violations := ⟨by decide +kernel, by decide +kernel, 30, 60, c_violations⟩
theorem k_check_assignment : RowOk sg r_check_assignment := ⟨by decide +kernel, by decide +kernel, 30, 60, c_check_assignment⟩
theorem k_holds : RowOk sg r_holds := ⟨by decide +kernel, by decide +kernel, 30, 60, c_holds⟩
theorem k_violated : RowOk sg r_violated := ⟨by decide +kernel, by decide +kernel, 30, 60, c_violated⟩
theorem k__law_is : RowOk sg r__law_is := ⟨by decide +kernel, by decide +kernel, 30, 60, c__law_is⟩
theorem k__law_draw : RowOk sg r__law_draw := ⟨by decide +kernel, by decide +kernel, 30, 60, c__law_draw⟩
theorem k__law_begun : RowOk sg r__law_begun := ⟨by decide +kernel, by decide +kernel, 30, 60, c__law_begun⟩
theorem k__law_unit : RowOk sg r__law_unit := ⟨by decide +kernel, by decide +kernel, 30, 60, c__law_unit⟩
theorem k__law_expression : RowOk sg r__law_expression := ⟨by decide +kernel, by decide +kernel, 30, 60, c__law_expression⟩
theorem k__law_model : RowOk sg r__law_model := ⟨by decide +kernel, by decide +kernel, 30, 60, c__law_model⟩
theorem k__law_low : RowOk sg r__law_low := ⟨by decide +kernel, by decide +kernel, 30, 60, c__law_low⟩
theorem k__law_add : RowOk sg r__law_add := ⟨by decide +kernel, by decide +kernel, 30, 60, c__law_add⟩
theorem k__law_mul : RowOk sg r__law_mul := ⟨by decide +kernel, by decide +kernel, 30, 60, c__law_mul⟩
theorem k__law_plus : RowOk sg r__law_plus := ⟨by decide +kernel, by decide +kernel, 30, 60, c__law_plus⟩
theorem k__law_value : RowOk sg r__law_value := ⟨by decide +kernel, by decide +kernel, 30, 60, c__law_value⟩
theorem k__law_gaps : RowOk sg r__law_gaps := ⟨by decide +kernel, by decide +kernel, 30, 60, c__law_gaps⟩
theorem k__law_holds : RowOk sg r__law_holds := ⟨by decide +kernel, by decide +kernel, 30, 60, c__law_holds⟩
theorem k__law_forms : RowOk sg r__law_forms := ⟨by decide +kernel, by decide +kernel, 30, 60, c__law_forms⟩
theorem k_law : RowOk sg r_law := ⟨by decide +kernel, by decide +kernel, 30, 60, c_law⟩
theorem rows_ok : ∀ r ∈ rows, RowOk ⟨fnsOf rows, cons, hints, true⟩ r := by
  rw [fns_eq]
  intro r h
  simp only [rows, List.mem_cons, List.not_mem_nil, or_false] at h
  rcases h with rfl | rfl | rfl | rfl | rfl | rfl | rfl | rfl | rfl | rfl | rfl | rfl | rfl | rfl | rfl | rfl | rfl | rfl | rfl | rfl | rfl | rfl | rfl | rfl | rfl | rfl | rfl | rfl | rfl | rfl | rfl | rfl | rfl | rfl | rfl | rfl | rfl | rfl | rfl | rfl | rfl | rfl | rfl | rfl | rfl | rfl | rfl
  · exact k_is_integer
  · exact k_is_name
  · exact k_is_ascending
  · exact k_are_names
  · exact k_fraction
  · exact k_is_fraction
  · exact k_plus
  · exact k_minus
  · exact k_times
  · exact k_are_fractions
  · exact k_is_unit
  · exact k_product
  · exact k_quotient
  · exact k_power
  · exact k_dimensionless
  · exact k_is_nested
  · exact k_is_expression
  · exact k_is_assignment
  · exact k_evaluated
  · exact k_is_statement
  · exact k_are_headings
  · exact k_is_model
  · exact k_check_model
  · exact k_form_of
  · exact k_constraints_of
  · exact k_all_constraints
  · exact k_constraints
  · exact k_does_hold
  · exact k_violations
  · exact k_check_assignment
  · exact k_holds
  · exact k_violated
  · exact k__law_is
  · exact k__law_draw
  · exact k__law_begun
  · exact k__law_unit
  · exact k__law_expression
  · exact k__law_model
  · exact k__law_low
  · exact k__law_add
  · exact k__law_mul
  · exact k__law_plus
  · exact k__law_value
  · exact k__law_gaps
  · exact k__law_holds
  · exact k__law_forms
  · exact k_law
theorem rows_lam : ∀ r ∈ rows, r.lam = true → true = true := by decide +kernel
abbrev T : List (Str × FDef) := tblOf rows res
end K04

set_option Elab.async false
set_option linter.all false
set_option maxRecDepth 100000
set_option maxHeartbeats 0
namespace K04
open PySem L2 PyProof.Rows U
abbrev R : PySem.W.OpenRow := PySem.W.OpenLaw.row PySem.Challenge.rw_unitlogic_k04_constraints
def ob (s : PySem.W.SharedT) : He.AlX := obsUG 5 rows res cons (HandSHeadRun.getT s)
theorem ob_eq (s : PySem.W.SharedT) : ob s = (hookU 5 rows res cons).obs s.abs := obsUG_eq (HandSHeadRun.getT_eq s)
def loose : List Str := (["UnitError", "InvalidExpression", "InvalidAssignment", "InvalidModel", "Inconsistent", "InvalidIndex", "InvalidStatement", "Unlike", "InvalidUnits", "InvalidBound", "InvalidResults", "TooMany", "Same", "NothingToUndo", "InvalidText", "LETTERS", "ZERO", "UNITY", "is_integer", "is_name"] : List Str) ++ (["is_ascending", "are_names", "fraction", "is_fraction", "plus", "minus", "times", "are_fractions", "is_unit", "product", "quotient", "power", "dimensionless", "DEPTH", "is_nested", "is_expression", "is_assignment", "evaluated", "MOST", "is_statement"] : List Str) ++ (["are_headings", "is_model", "check_model", "form_of", "constraints_of", "all_constraints", "constraints", "does_hold", "violations", "check_assignment", "holds", "violated", "_law_result", "_law_is", "_law_draw", "_law_begun", "_law_unit", "_law_expression", "_law_model", "_law_low"] : List Str) ++ (["_law_add", "_law_mul", "_law_plus", "_law_value", "_law_gaps", "_law_holds", "_law_forms", "__name__"] : List Str)
theorem headRun (w : World) : HandSHeadRun.RunEq R (PySem.W.view R.prog [72]) (hookU 5 rows res cons) ob 40000 loose w := by
  intro os
  kernel_rfl
end K04

set_option Elab.async false
set_option linter.all false
set_option maxRecDepth 100000
/-! K04B: fractions. -/
namespace K04
open PySem L2 U
section
variable {Φ : Fn}
theorem con_ok {d : D} {b : Nat} {τ : Tau} {G : Hd} : evE Φ b (.con d) τ G = .ok d G := by rw [evE]
theorem bin_ok {x y : ME} {o : BOp} {a c r : D} {b : Nat} {τ : Tau} {G G1 G2 : Hd} (h1 : evE Φ b x τ G = .ok a G1) (h2 : evE Φ b y τ G1 = .ok c G2) (h3 : binD G2 o a c = some r) : evE Φ b (.bin o x y) τ G = .ok r G2 := by
  rw [evE, h1]
  simp only [Out.then_ok, h2, h3, lift_some]
theorem cmp_ok' {x y : ME} {o : COp} {a c : D} {r : Bool} {b : Nat} {τ : Tau} {G G1 G2 : Hd} (h1 : evE Φ b x τ G = .ok a G1) (h2 : evE Φ b y τ G1 = .ok c G2) (h3 : cmpD G2 o a c = some r) : evE Φ b (.cmp o x y) τ G = .ok (.bl r) G2 := by
  rw [evE, h1]
  simp only [Out.then_ok, h2, h3, lift_some, Option.map_some]
theorem ifx_ok {x y : ME} {t : MB} {k : Bool} {b : Nat} {τ : Tau} {G G1 : Hd} (h : evT Φ b t τ G = .ok k G1) : evE Φ b (.ifx t x y) τ G = if k then evE Φ b x τ G1 else evE Φ b y τ G1 := by rw [evE, h]; rfl
theorem ix_ok' {x y : ME} {a c r : D} {b : Nat} {τ : Tau} {G G1 G2 : Hd} (h1 : evE Φ b x τ G = .ok a G1) (h2 : evE Φ b y τ G1 = .ok c G2) (h3 : ixD G2 a c = some r) : evE Φ b (.ix x y) τ G = .ok r G2 := by
  rw [evE, h1]
  simp only [Out.then_ok, h2, h3, lift_some]
theorem mapM_id {f : D → Option D} : ∀ {xs : List D}, (∀ x ∈ xs, f x = some x) → xs.mapM f = some xs
  | [], _ => rfl
  | x :: xs, h => by
    rw [List.mapM_cons, h x List.mem_cons_self, mapM_id fun y hy => h y (List.mem_cons_of_mem _ hy)]
    rfl
end
abbrev Fr := Int × Int
def fD (q : Fr) : D := .tup [.int q.1, .int q.2]
def low (p q : Int) : Fr := (p.fdiv (Int.gcd p q), q.fdiv (Int.gcd p q))
/-! ### the plain law of fractions -/
def Nf (q : Fr) : Prop := 0 < q.2 ∧ Int.gcd q.1 q.2 = 1
def Bd (M : Nat) (q : Fr) : Prop := q.1.natAbs ≤ M ∧ 0 < q.2 ∧ q.2.natAbs ≤ M
theorem gcd_pos {p q : Int} (hq : 0 < q) : 0 < Int.gcd p q := Nat.pos_of_ne_zero fun z => by
  have := (Int.gcd_eq_zero_iff.mp z).2
  omega
theorem low_mul {p q : Int} (hq : 0 < q) : ∃ (g : Nat), 0 < g ∧ g = Int.gcd p q ∧ p = (low p q).1 * g ∧ q = (low p q).2 * g := by
  have hg := gcd_pos (p := p) hq
  refine ⟨Int.gcd p q, hg, rfl, ?_, ?_⟩
  · show p = p.fdiv (Int.gcd p q) * _
    rw [Int.fdiv_eq_ediv_of_nonneg _ (by omega)]
    exact (Int.ediv_mul_cancel (Int.gcd_dvd_left ..)).symm
  · show q = q.fdiv (Int.gcd p q) * _
    rw [Int.fdiv_eq_ediv_of_nonneg _ (by omega)]
    exact (Int.ediv_mul_cancel (Int.gcd_dvd_right ..)).symm
theorem low_nf {p q : Int} (hq : 0 < q) : Nf (low p q) := by
  obtain ⟨g, hg, eg, h1, h2⟩ := low_mul (p := p) hq
  have hg' : (0 : Int) < g := by omega
  have pos : 0 < (low p q).2 := by
    rcases Int.lt_trichotomy (low p q).2 0 with h | h | h
    · have := Int.mul_neg_of_neg_of_pos h hg'
      omega
    · rw [h] at h2
      omega
    · exact h
  refine ⟨pos, ?_⟩
  have e : Int.gcd ((low p q).1 * g) ((low p q).2 * g) = Int.gcd (low p q).1 (low p q).2 * g := by
    rw [Int.gcd_mul_right]
    simp
  rw [← h1, ← h2, ← eg] at e
  have : 1 * g = Int.gcd (low p q).1 (low p q).2 * g := by rw [Nat.one_mul]; exact e
  exact (Nat.eq_of_mul_eq_mul_right hg this).symm
theorem low_bd {p q : Int} {M : Nat} (hq : 0 < q) (h1 : p.natAbs ≤ M) (h2 : q.natAbs ≤ M) : Bd M (low p q) := by
  obtain ⟨g, hg, eg, e1, e2⟩ := low_mul (p := p) hq
  have a1 : p.natAbs = (low p q).1.natAbs * g := by
    have := congrArg Int.natAbs e1
    rw [Int.natAbs_mul] at this
    simpa using this
  have a2 : q.natAbs = (low p q).2.natAbs * g := by
    have := congrArg Int.natAbs e2
    rw [Int.natAbs_mul] at this
    simpa using this
  refine ⟨Nat.le_trans ?_ h1, (low_nf hq).1, Nat.le_trans ?_ h2⟩
  · rw [a1]; exact Nat.le_mul_of_pos_right _ hg
  · rw [a2]; exact Nat.le_mul_of_pos_right _ hg
theorem low_id {q : Fr} (h : Nf q) : low q.1 q.2 = q := by
  unfold low
  rw [h.2]
  obtain ⟨a, b⟩ := q
  have : ((1 : Nat) : Int) = 1 := rfl
  simp only [this, Int.fdiv_one]
theorem dvd_cop {a b c : Int} (h : a ∣ b * c) (g : Int.gcd a b = 1) : a ∣ c := by
  apply Int.natAbs_dvd_natAbs.mp
  have h1 := Int.natAbs_dvd_natAbs.mpr h
  rw [Int.natAbs_mul] at h1
  exact Nat.Coprime.dvd_of_dvd_mul_left g h1
theorem nf_inj {a b : Fr} (ha : Nf a) (hb : Nf b) (h : a.1 * b.2 = b.1 * a.2) : a = b := by
  obtain ⟨a1, a2⟩ := a
  obtain ⟨b1, b2⟩ := b
  obtain ⟨pa, ga⟩ := ha
  obtain ⟨pb, gb⟩ := hb
  simp only at pa ga pb gb h
  have d1 : a2 ∣ b2 := by
    have h1 : a2 ∣ a1 * b2 := ⟨b1, by rw [h]; exact Int.mul_comm _ _⟩
    exact dvd_cop h1 (by rw [Int.gcd_comm]; exact ga)
  have d2 : b2 ∣ a2 := by
    have h1 : b2 ∣ b1 * a2 := ⟨a1, by rw [← h]; exact Int.mul_comm _ _⟩
    exact dvd_cop h1 (by rw [Int.gcd_comm]; exact gb)
  have e2 : a2 = b2 := Int.dvd_antisymm (by omega) (by omega) d1 d2
  subst e2
  have e1 : a1 = b1 := Int.eq_of_mul_eq_mul_right (by omega) h
  rw [e1]
/-! ### the loop of Euclid -/
abbrev tg (p q : Int) (a b : Nat) : Tau := [some (.int p), some (.int q), some (.int a), some (.int b)]
theorem half_mod {a b r f : Nat} (hr : r = a % b) (h0 : 0 < r) (hb : b < 2 ^ (f + 1)) : b % r < 2 ^ f := by
  rcases Nat.eq_zero_or_pos b with z | hb0
  · rw [z, Nat.zero_mod]
    exact Nat.two_pow_pos f
  have h1 : r < b := by rw [hr]; exact Nat.mod_lt _ hb0
  have h2 : b % r < r := Nat.mod_lt _ h0
  have h3 : b % r + r * (b / r) = b := Nat.mod_add_div b r
  have h4 : 1 ≤ b / r := Nat.div_pos (by omega) h0
  have h5 : r * 1 ≤ r * (b / r) := Nat.mul_le_mul_left r h4
  have h6 : 2 ^ (f + 1) = 2 * 2 ^ f := by rw [Nat.pow_succ, Nat.mul_comm]
  omega
theorem gcd_loop {test : Tau → Hd → Out Bool} {body : Tau → Hd → Out Fl} {p q : Int} {G : Hd} (ht : ∀ a b : Nat, test (tg p q a b) G = .ok (decide (0 < b)) G) (hb : ∀ a b : Nat, 0 < b → body (tg p q a b) G = .ok (.nx (tg p q b (a % b))) G) :
    ∀ (f a b : Nat), b < 2 ^ f → ∀ m, whileGo test body (2 * f + 1 + m) (tg p q a b) G = .ok (.nx (tg p q (Nat.gcd a b) 0)) G := by
  have fin : ∀ a m, whileGo test body (m + 1) (tg p q a 0) G = .ok (.nx (tg p q (Nat.gcd a 0) 0)) G := fun a m => by
    rw [whileGo, ht, Out.then_ok, decide_eq_false (Nat.lt_irrefl 0), if_neg (by decide), Nat.gcd_zero_right]
  have go : ∀ a b m, 0 < b → whileGo test body (m + 1) (tg p q a b) G = whileGo test body m (tg p q b (a % b)) G := fun a b m h0 => by
    rw [whileGo, ht, Out.then_ok, decide_eq_true h0, if_pos rfl, hb a b h0, Out.then_ok]
  have ge : ∀ a b, Nat.gcd b (a % b) = Nat.gcd a b := fun a b => by rw [Nat.gcd_comm b, ← Nat.gcd_rec, Nat.gcd_comm]
  intro f
  induction f with
  | zero =>
    intro a b h m
    have e : b = 0 := by rw [Nat.pow_zero] at h; omega
    subst e
    rw [show 2 * 0 + 1 + m = m + 1 by omega]
    exact fin a m
  | succ f ih =>
    intro a b h m
    rw [show 2 * (f + 1) + 1 + m = (2 * f + 1 + m) + 1 + 1 by omega]
    rcases Nat.eq_zero_or_pos b with z | z
    · subst z
      exact fin a _
    rw [go a b _ z, ← ge a b]
    rcases Nat.eq_zero_or_pos (a % b) with z2 | z2
    · rw [z2]
      exact fin b _
    rw [go b (a % b) _ z2, ← ge b (a % b)]
    exact ih _ _ (half_mod rfl z2 h) m
theorem fmod_nat {a b : Nat} : (a : Int).fmod (b : Int) = ((a % b : Nat) : Int) := by
  rw [Int.fmod_eq_emod_of_nonneg _ (by omega)]
  rfl
theorem abs_nat {p : Int} {G : Hd} : biD G .abs [.int p] = some (.int (p.natAbs : Int)) := by
  show some (D.int (if p < 0 then -p else p)) = _
  congr 2
  split <;> omega
theorem L_fraction : T.lookup ("fraction" : Str) = some r_fraction.fd := by kernel_rfl
theorem L_low : T.lookup ("_law_low" : Str) = some r__law_low.fd := by kernel_rfl
theorem div_ok {g : Nat} (h0 : 0 < g) (h : g < 2 ^ 200) : divOk (g : Int) = true := by
  unfold divOk
  have h1 : decide ((g : Int) ≠ 0) = true := decide_eq_true (by omega)
  have h2 : Nat.log2 g < 200 := (Nat.log2_lt (by omega)).mpr h
  rw [h1, Bool.true_and]
  exact decide_eq_true (by show Nat.log2 g < 9000; omega)
section
variable {n : Nat} {G : Hd} {p q : Int}
theorem frz_fr {m : Nat} {x y : Int} : frz 4 m G (.tup [.int x, .int y]) = some (.tup [.int x, .int y]) := rfl
theorem gcd_lt (hq : 0 < q) (hq2 : q < 2 ^ 200) : Int.gcd p q < 2 ^ 200 := by
  have h1 : Int.gcd p q ∣ q.natAbs := Nat.gcd_dvd_right _ _
  have h2 := Nat.le_of_dvd (by omega) h1
  omega
theorem E_fraction (hq : 0 < q) (hq2 : q < 2 ^ 200) : run T (n + 1) "fraction" [.int p, .int q] G = .ok (fD (low p q)) G := by
  rw [run_succ L_fraction]
  refine callF_rtG rfl rfl ?_ frz_fr
  show evSs _ _ b_fraction [some (.int p), some (.int q), none, none] G = _
  unfold b_fraction
  refine (seq_nx (τ1 := tg p q p.natAbs q.natAbs) (G1 := G) ?_).trans ?_
  · rw [evS]
    simp only [evEs, evE, Out.then_ok, abs_nat, lift_some, List.getElem?_cons_zero, List.getElem?_cons_succ]
    rfl
  refine (seq_nx (τ1 := tg p q (Nat.gcd p.natAbs q.natAbs) 0) (G1 := G) ?_).trans ?_
  · rw [evS]
    refine gcd_loop (f := 200) (m := 9999599) ?_ ?_ _ _ (by omega)
    · intro a b
      simp only [evT, evE, Out.then_ok, List.getElem?_cons_zero, List.getElem?_cons_succ, truD, lift_some]
      congr 1
      by_cases h : 0 < b
      · rw [decide_eq_true h]
        exact bne_iff_ne.mpr (by omega)
      · have : b = 0 := by omega
        subst this
        rfl
    · intro a b h
      have := bin_modI (G := G) (i := a) (j := b) (by omega)
      simp only [evSs, evS, evEs, evE, Out.then_ok, List.getElem?_cons_zero, List.getElem?_cons_succ, lift_some, this, fmod_nat]
      rfl
  have hd := div_ok (gcd_pos (p := p) hq) (gcd_lt hq hq2)
  refine (skip (G1 := G) ?_).trans ?_
  · refine val_ok (cmp_ok' (a := .int q) (c := .int 0) (G1 := G) (by rw [evE]; rfl) con_ok ?_)
    show some (decide (q < 0)) = _
    rw [decide_eq_false (by omega)]
  · refine ret_ok ?_
    have e1 := bin_fdivI (G := G) (i := p) hd
    have e2 := bin_fdivI (G := G) (i := q) hd
    have v : ((Nat.gcd p.natAbs q.natAbs : Nat) : Int) = (Int.gcd p q : Int) := rfl
    simp only [evE, evEs, Out.then_ok, List.getElem?_cons_zero, List.getElem?_cons_succ, lift_some, v, e1, e2]
    rfl
theorem E_low (hq : 0 < q) (hq2 : q < 2 ^ 200) : run T (n + 1) "_law_low" [.int p, .int q] G = .ok (fD (low p q)) G := by
  rw [run_succ L_low]
  refine callF_rtG rfl rfl ?_ frz_fr
  show evSs _ _ b__law_low [some (.int p), some (.int q), none, none] G = _
  unfold b__law_low
  refine (seq_nx (τ1 := tg p q p.natAbs q.natAbs) (G1 := G) ?_).trans ?_
  · rw [evS]
    simp only [evEs, evE, Out.then_ok, abs_nat, lift_some, List.getElem?_cons_zero, List.getElem?_cons_succ]
    rfl
  refine (seq_nx (τ1 := tg p q (Nat.gcd p.natAbs q.natAbs) 0) (G1 := G) ?_).trans ?_
  · rw [evS]
    refine gcd_loop (f := 200) (m := 9999599) ?_ ?_ _ _ (by omega)
    · intro a b
      refine val_ok (cmp_ok' (a := .int b) (c := .int 0) (G1 := G) (by rw [evE]; rfl) con_ok ?_)
      show some (decide ((0 : Int) < b)) = _
      congr 1
      exact decide_eq_decide.mpr (by omega)
    · intro a b h
      have := bin_modI (G := G) (i := a) (j := b) (by omega)
      simp only [evSs, evS, evEs, evE, Out.then_ok, List.getElem?_cons_zero, List.getElem?_cons_succ, lift_some, this, fmod_nat]
      rfl
  have hd := div_ok (gcd_pos (p := p) hq) (gcd_lt hq hq2)
  refine (skip (G1 := G) ?_).trans ?_
  · refine val_ok (cmp_ok' (a := .int q) (c := .int 0) (G1 := G) (by rw [evE]; rfl) con_ok ?_)
    show some (decide (q < 0)) = _
    rw [decide_eq_false (by omega)]
  · refine ret_ok ?_
    have e1 := bin_fdivI (G := G) (i := p) hd
    have e2 := bin_fdivI (G := G) (i := q) hd
    have v : ((Nat.gcd p.natAbs q.natAbs : Nat) : Int) = (Int.gcd p q : Int) := rfl
    simp only [evE, evEs, Out.then_ok, List.getElem?_cons_zero, List.getElem?_cons_succ, lift_some, v, e1, e2]
    rfl
end
section
variable {G : Hd}
theorem ix0' {x y : Int} : ixD G (.tup [.int x, .int y]) (.int 0) = some (.int x) := ix0
theorem ix1' {x y : Int} : ixD G (.tup [.int x, .int y]) (.int 1) = some (.int y) := ix1
end
def uD (u : List Fr) : D := .tup (u.map fD)
def fP (q : Fr) : PyData := .tuple [.int q.1, .int q.2]
theorem pys_fr : ∀ u : List Fr, toPys (u.map fD) = some (u.map fP)
  | [] => rfl
  | q :: u => by
    have h : toPy (fD q) = some (fP q) := rfl
    show (match toPy (fD q), toPys (u.map fD) with | some x, some xs => some (x :: xs) | _, _ => none) = _
    rw [h, pys_fr u]
    rfl
theorem py_u (u : List Fr) : toPy (uD u) = some (.tuple (u.map fP)) := by
  show (toPys (u.map fD)).map PyData.tuple = _
  rw [pys_fr]
  rfl
theorem sh_fr {q : Fr} : Sh 1 (fD q) := Sh.tup (j := 0) fun x hx => by
  simp only [List.mem_cons, List.not_mem_nil, or_false] at hx
  rcases hx with rfl | rfl <;> exact Sh.int
theorem sh_u {u : List Fr} : Sh 2 (uD u) := Sh.tup (j := 1) fun x hx => by
  obtain ⟨q, _, rfl⟩ := List.mem_map.mp hx
  exact sh_fr
theorem eqv_fr {p q : Fr} : PyData.eqv (fP p) (fP q) = decide (p = q) := by
  obtain ⟨a, b⟩ := p
  obtain ⟨c, d⟩ := q
  show PyData.eqv (.tuple [.int a, .int b]) (.tuple [.int c, .int d]) = _
  simp only [PyData.eqv, PyData.eqvAll, Bool.and_true, Prod.mk.injEq]
  rw [Bool.decide_and]
  rfl
theorem eqvs_fr : ∀ {u v : List Fr}, PyData.eqvAll (u.map fP) (v.map fP) = decide (u = v)
  | [], [] => rfl
  | [], _ :: _ => rfl
  | _ :: _, [] => rfl
  | p :: u, q :: v => by
    simp only [List.map_cons, PyData.eqvAll, eqv_fr, eqvs_fr (u := u) (v := v), List.cons.injEq]
    rw [Bool.decide_and]
theorem shaped_sh {j : Nat} {d : D} {x : PyData} (h : Sh j d) (hj : j ≤ 64) (hx : toPy d = some x) : SeqAt.shaped x = true := by
  obtain ⟨y, h1, h2, h3⟩ := h
  rw [hx] at h1
  cases h1
  unfold SeqAt.shaped
  rw [h2]
  exact decide_eq_true (Nat.le_trans h3 hj)
theorem eq_u {G : Hd} {u v : List Fr} : eqD G (uD u) (uD v) = some (decide (u = v)) := by
  have e1 : toPyG G (uD u) = some (.tuple (u.map fP)) := py_u u
  have e2 : toPyG G (uD v) = some (.tuple (v.map fP)) := py_u v
  unfold eqD
  rw [e1, e2]
  simp only [shaped_sh sh_u (by decide) (py_u u), shaped_sh sh_u (by decide) (py_u v), Bool.and_self, if_true, PyData.eqv, eqvs_fr]
theorem cmp_equ {G : Hd} {u v : List Fr} : cmpD G .eq (uD u) (uD v) = some (decide (u = v)) := eq_u
theorem cmp_neu {G : Hd} {u v : List Fr} : cmpD G .ne (uD u) (uD v) = some (!decide (u = v)) := by
  show (eqD G (uD u) (uD v)).map (!·) = _
  rw [eq_u]
  rfl
theorem frz_py {G : Hd} : ∀ (j : Nat) {m : Nat} {d : D} {x : PyData}, toPy d = some x → frz j m G d = some d
  | 0, m, d, x, h => by
    show (if U.closed m d then some d else none) = _
    rw [if_pos (py_closed d h)]
  | j + 1, m, d, x, h => by
    have hc := py_closed (n := m) d h
    cases d with
    | tup ds =>
      have hs : ∃ ys, toPys ds = some ys := by
        cases e : toPys ds with
        | none => 
          have : toPy (.tup ds) = (toPys ds).map PyData.tuple := by rw [toPy]
          rw [this, e] at h
          cases h
        | some ys => exact ⟨ys, rfl⟩
      obtain ⟨ys, hs⟩ := hs
      have all : ∀ (ds : List D) (ys : List PyData), toPys ds = some ys → ∀ d ∈ ds, ∃ y, toPy d = some y := by
        intro ds
        induction ds with
        | nil => intro ys _ d hd; cases hd
        | cons a r ih =>
          intro ys h d hd
          have e : toPys (a :: r) = (match toPy a, toPys r with | some x, some xs => some (x :: xs) | _, _ => none) := by first | (rw [toPys]; done) | (rw [toPys]; rfl)
          rw [e] at h
          cases e1 : toPy a with
          | none => rw [e1] at h; cases h
          | some y =>
            cases e2 : toPys r with
            | none => rw [e1, e2] at h; cases h
            | some ys' =>
              rcases List.mem_cons.mp hd with rfl | hd
              · exact ⟨y, e1⟩
              · exact ih ys' e2 d hd
      show (ds.mapM (frz j m G)).map D.tup = _
      rw [mapM_id fun d hd => by obtain ⟨y, hy⟩ := all ds ys hs d hd; exact frz_py j hy]
      rfl
    | ref i => cases h
    | _ =>
      unfold frz
      simp only [hc, if_true]
theorem eq_fr {G : Hd} {p q : Fr} : eqD G (fD p) (fD q) = some (decide (p = q)) := by
  have e1 : toPyG G (fD p) = some (fP p) := rfl
  have e2 : toPyG G (fD q) = some (fP q) := rfl
  unfold eqD
  rw [e1, e2]
  simp only [shaped_sh (x := fP p) sh_fr (by decide) rfl, shaped_sh (x := fP q) sh_fr (by decide) rfl, Bool.and_self, if_true, eqv_fr]
end K04

set_option Elab.async false
set_option linter.all false
set_option maxRecDepth 100000
/-! K04A: expressions that are drawn; that the program takes them. -/
namespace K04
open PySem L2 U
section C
theorem L_is_integer : T.lookup ("is_integer" : Str) = some r_is_integer.fd := by kernel_rfl
theorem L_is_fraction : T.lookup ("is_fraction" : Str) = some r_is_fraction.fd := by kernel_rfl
theorem L_are_fractions : T.lookup ("are_fractions" : Str) = some r_are_fractions.fd := by kernel_rfl
theorem L_is_unit : T.lookup ("is_unit" : Str) = some r_is_unit.fd := by kernel_rfl
theorem L_is_nested : T.lookup ("is_nested" : Str) = some r_is_nested.fd := by kernel_rfl
theorem L_is_expression : T.lookup ("is_expression" : Str) = some r_is_expression.fd := by kernel_rfl
variable {n : Nat} {G : Hd} {d : D}
theorem E_is_integer (h : plain d = true) : run T (n + 1) "is_integer" [d] G = .ok (.bl (isI d)) G := by
  rw [run_succ L_is_integer]
  refine callF_rtG rfl rfl ?_ frz_bl
  show evSs _ _ b_is_integer [some d] G = _
  unfold b_is_integer
  refine ret_ok ?_
  rw [and_ok (k := isI d || isB d) (G1 := G) (by simp [evE, evEs, isi_int h])]
  simp [evE, evEs, isi_bool h]
  cases d <;> first | rfl | cases h
/-- pairs of whole numbers fail no test of kinds; all else fails -/
def pairI : D → Bool
  | .tup [a, c] => isI a && isI c
  | _ => false
theorem fr_bad (h : plain d = true) (he : ∀ xs, d = .tup xs → (∀ x ∈ xs, plain x = true) ∧ xs.length ≤ line) (hb : pairI d = false) : run T (n + 2) "is_fraction" [d] G = .ok (.bl false) G := by
  rw [run_succ L_is_fraction]
  refine callF_rtG rfl rfl ?_ frz_bl
  show evSs _ _ b_is_fraction [some d, none] G = _
  unfold b_is_fraction
  refine seq_rt ?_
  rw [if_yes (G1 := G)]
  · exact ret_ok (by rw [evE])
  cases d with
  | tup xs =>
    obtain ⟨h1, h2⟩ := he xs rfl
    have ha : evE (run T (n + 1)) G.length (.bi .all (.cons (.lc (.call "is_integer" (.cons (.var 1) .nil)) (.nam 1) (.val (.var 0)) .yes [1]) .nil)) [some (.tup xs), none] G = .ok (.bl (xs.all isI)) G := by
      refine all_ok (lc_map (g := fun x => .bl (isI x)) ?_ h2 ?_)
      · simp [evI, evE, iterD, stillD]
      · intro x hx
        exact call_ok (ds := [x]) (G1 := G) (by simp [evEs, evE, wipeD]) (E_is_integer (h1 x hx))
    rw [or_ok (k := false) (G1 := G) (by simp [evT, evE, evEs, isi_tuple h, isT]), if_neg (by decide)]
    by_cases hl : xs.length = 2
    · rw [or_ok (k := false) (G1 := G) (by simp [evT, evE, evEs, cmp_neI, hl]), if_neg (by decide), not_ok (val_ok ha)]
      match xs, hl with
      | [a, c], _ =>
        have : (isI a && isI c) = false := hb
        simp only [List.all_cons, List.all_nil, Bool.and_true, this, Bool.not_false]
    · rw [or_ok (k := true) (G1 := G), if_pos rfl]
      have : ((xs.length : Int) == 2) = false := by
        rw [beq_eq_false_iff_ne]
        omega
      simp [evT, evE, evEs, cmp_neI, this]
  | _ => first | (simp [evT, evE, evEs, isi_tuple h, isT]) | cases h
/-- the units that are drawn -/
def frGood : D → Prop := fun d => ∃ (t : Int) (q : Int), d = .tup [.int t, .int q] ∧ -3 ≤ t ∧ t ≤ 3 ∧ (q = 1 ∨ (q = 2 ∧ t % 2 ≠ 0))
theorem E_is_fraction {q : Fr} (hn : Nf q) (hq : q.2 < 2 ^ 200) : run T (n + 2) "is_fraction" [fD q] G = .ok (.bl true) G := by
  obtain ⟨x, y⟩ := q
  have h0 : 0 < y := hn.1
  rw [run_succ L_is_fraction]
  refine callF_rtG rfl rfl ?_ frz_bl
  show evSs _ _ b_is_fraction [some (.tup [.int x, .int y]), none] G = _
  unfold b_is_fraction
  have ha : evE (run T (n + 1)) G.length (.bi .all (.cons (.lc (.call "is_integer" (.cons (.var 1) .nil)) (.nam 1) (.val (.var 0)) .yes [1]) .nil)) [some (.tup [.int x, .int y]), none] G = .ok (.bl true) G := by
    refine (all_ok (ds := [.int x, .int y]) (p := fun _ => true) (lc_map (g := fun x => .bl true) ?_ (show 2 ≤ 16777216 by decide) ?_)).trans rfl
    · simp [evI, evE, iterD, stillD]
    · intro z hz
      have hz2 : plain z = true ∧ isI z = true := by
        simp only [List.mem_cons, List.not_mem_nil, or_false] at hz
        rcases hz with rfl | rfl <;> exact ⟨rfl, rfl⟩
      refine call_ok (ds := [z]) (G1 := G) (by simp [evEs, evE, wipeD]) ?_
      rw [E_is_integer hz2.1, hz2.2]
  refine (skip (G1 := G) ?_).trans (ret_ok ?_)
  · rw [or_ok (k := false) (G1 := G) (by simp [evT, evE, evEs, isi_tuple (d := .tup [.int x, .int y]) rfl, isT]), if_neg (by decide)]
    rw [or_ok (k := false) (G1 := G) (by simp [evT, evE, evEs, cmp_neI]), if_neg (by decide), not_ok (val_ok ha)]
    rfl
  · rw [and_ok (k := true) (G1 := G), if_pos rfl]
    · refine cmp_ok' (a := fD (x, y)) (c := fD (x, y)) (G1 := G) (call_ok (ds := [.int x, .int y]) (G1 := G) ?_ ?_) (by rw [evE]; rfl) ?_
      · simp only [evEs, evE, Out.then_ok, List.getElem?_cons_zero, lift_some, ix0', ix1']
      · rw [E_fraction h0 hq]
        exact congrArg (fun q => Out.ok (fD q) G) (low_id hn)
      · have q := eq_fr (G := G) (p := (x, y)) (q := (x, y))
        rw [decide_eq_true rfl] at q
        exact q
    · refine cmp_ok' (a := .int y) (c := .int 0) (G1 := G) ?_ con_ok ?_
      · simp only [evE, Out.then_ok, List.getElem?_cons_zero, lift_some, ix1']
      · show some (decide ((0 : Int) < y)) = _
        rw [decide_eq_true h0]
theorem good_nf (h : frGood d) : ∃ q : Fr, d = fD q ∧ Nf q ∧ Bd 3 q := by
  obtain ⟨t, q, rfl, h1, h2, h3⟩ := h
  refine ⟨(t, q), rfl, ?_, by show t.natAbs ≤ 3; omega, by show 0 < q; omega, by show q.natAbs ≤ 3; omega⟩
  have ht : t = -3 ∨ t = -2 ∨ t = -1 ∨ t = 0 ∨ t = 1 ∨ t = 2 ∨ t = 3 := by omega
  rcases h3 with rfl | ⟨rfl, h3⟩
  · rcases ht with rfl | rfl | rfl | rfl | rfl | rfl | rfl <;> exact ⟨by decide, by decide⟩
  · rcases ht with rfl | rfl | rfl | rfl | rfl | rfl | rfl <;> first | exact absurd (by decide) h3 | exact ⟨by decide, by decide⟩
theorem fr_good (h : frGood d) : run T (n + 3) "is_fraction" [d] G = .ok (.bl true) G := by
  obtain ⟨q, rfl, h1, h2, h3, h4⟩ := good_nf h
  exact E_is_fraction h1 (by omega)
end C
section D
variable {n : Nat} {G : Hd} {d : D} {o0 o1 : DO}
/-- what is no fraction by its kinds alone -/
structure FrBad (d : D) : Prop where
  pl : plain d = true
  el : ∀ xs, d = .tup xs → (∀ x ∈ xs, plain x = true) ∧ xs.length ≤ line
  no : pairI d = false
theorem good_pair (h : frGood d) : pairI d = true := by
  obtain ⟨t, q, rfl, _⟩ := h
  rfl
theorem E_fr (h : frGood d ∨ FrBad d) : run T (n + 3) "is_fraction" [d] G = .ok (.bl (pairI d)) G := by
  rcases h with h | h
  · rw [fr_good h, good_pair h]
  · rw [fr_bad h.pl h.el h.no, h.no]
theorem E_frs {xs : List D} {m : Int} (hx : ∀ x ∈ xs, frGood x ∨ FrBad x) (hl : xs.length ≤ line) : run T (n + 4) "are_fractions" [.tup xs, .int m] G = .ok (.bl (((xs.length : Int) == m) && xs.all pairI)) G := by
  rw [run_succ L_are_fractions]
  refine callF_rtG rfl rfl ?_ frz_bl
  show evSs _ _ b_are_fractions [some (.tup xs), some (.int m), none] _ = _
  unfold b_are_fractions
  refine ret_ok ?_
  rw [and_ok (k := true) (G1 := G) (by simp [evE, evEs, isi_tuple (d := .tup xs) rfl, isT]), if_pos rfl]
  rw [and_ok (k := (xs.length : Int) == m) (G1 := G) (by simp [evE, evEs, cmp_eqI])]
  have ha : evE (run T (n + 3)) G.length (.bi .all (.cons (.lc (.call "is_fraction" (.cons (.var 2) .nil)) (.nam 2) (.val (.var 0)) .yes [2]) .nil)) [some (.tup xs), some (.int m), none] G = .ok (.bl (xs.all pairI)) G := by
    refine all_ok (lc_map (g := fun x => .bl (pairI x)) ?_ hl ?_)
    · simp [evI, evE, iterD, stillD]
    · intro x hh
      exact call_ok (ds := [x]) (G1 := G) (by simp [evEs, evE, wipeD]) (E_fr (hx x hh))
  cases e : (xs.length : Int) == m with
  | true => rw [if_pos rfl]; exact ha
  | false => rw [if_neg (by decide)]; rfl
theorem E_frs0 {m : Int} (h : plain d = true) (h2 : isT d = false) : run T (n + 4) "are_fractions" [d, .int m] G = .ok (.bl false) G := by
  rw [run_succ L_are_fractions]
  refine callF_rtG rfl rfl ?_ frz_bl
  show evSs _ _ b_are_fractions [some d, some (.int m), none] _ = _
  unfold b_are_fractions
  refine ret_ok ?_
  rw [and_ok (k := false) (G1 := G) (by simp [evE, evEs, isi_tuple h, h2]), if_neg (by decide)]
theorem E_unit {bs : List D} {k : Bool} (h : run T (n + 4) "are_fractions" [d, .int bs.length] G = .ok (.bl k) G) : run T (n + 5) "is_unit" [.tup bs, d] G = .ok (.bl k) G := by
  rw [run_succ L_is_unit]
  refine callF_rtG rfl rfl ?_ frz_bl
  show evSs _ _ b_is_unit [some (.tup bs), some d] _ = _
  unfold b_is_unit
  exact ret_ok (call_ok (ds := [d, .int bs.length]) (G1 := G) (by simp [evEs, evE]) h)
/-! ### kinds -/
theorem q_var_var : cmpD G .eq (.str "var") (.str "var") = some true := by kernel_rfl
theorem q_var_unit : cmpD G .eq (.str "var") (.str "unit") = some false := by kernel_rfl
theorem q_var_pow : cmpD G .eq (.str "var") (.str "pow") = some false := by kernel_rfl
theorem q_var_root : cmpD G .eq (.str "var") (.str "root") = some false := by kernel_rfl
theorem q_unit_var : cmpD G .eq (.str "unit") (.str "var") = some false := by kernel_rfl
theorem q_unit_unit : cmpD G .eq (.str "unit") (.str "unit") = some true := by kernel_rfl
theorem q_unit_pow : cmpD G .eq (.str "unit") (.str "pow") = some false := by kernel_rfl
theorem q_unit_root : cmpD G .eq (.str "unit") (.str "root") = some false := by kernel_rfl
theorem q_pow_var : cmpD G .eq (.str "pow") (.str "var") = some false := by kernel_rfl
theorem q_pow_unit : cmpD G .eq (.str "pow") (.str "unit") = some false := by kernel_rfl
theorem q_pow_pow : cmpD G .eq (.str "pow") (.str "pow") = some true := by kernel_rfl
theorem q_pow_root : cmpD G .eq (.str "pow") (.str "root") = some false := by kernel_rfl
theorem q_root_var : cmpD G .eq (.str "root") (.str "var") = some false := by kernel_rfl
theorem q_root_unit : cmpD G .eq (.str "root") (.str "unit") = some false := by kernel_rfl
theorem q_root_pow : cmpD G .eq (.str "root") (.str "pow") = some false := by kernel_rfl
theorem q_root_root : cmpD G .eq (.str "root") (.str "root") = some true := by kernel_rfl
theorem q_mul_var : cmpD G .eq (.str "mul") (.str "var") = some false := by kernel_rfl
theorem q_mul_unit : cmpD G .eq (.str "mul") (.str "unit") = some false := by kernel_rfl
theorem q_mul_pow : cmpD G .eq (.str "mul") (.str "pow") = some false := by kernel_rfl
theorem q_mul_root : cmpD G .eq (.str "mul") (.str "root") = some false := by kernel_rfl
theorem q_div_var : cmpD G .eq (.str "div") (.str "var") = some false := by kernel_rfl
theorem q_div_unit : cmpD G .eq (.str "div") (.str "unit") = some false := by kernel_rfl
theorem q_div_pow : cmpD G .eq (.str "div") (.str "pow") = some false := by kernel_rfl
theorem q_div_root : cmpD G .eq (.str "div") (.str "root") = some false := by kernel_rfl
theorem q_add_var : cmpD G .eq (.str "add") (.str "var") = some false := by kernel_rfl
theorem q_add_unit : cmpD G .eq (.str "add") (.str "unit") = some false := by kernel_rfl
theorem q_add_pow : cmpD G .eq (.str "add") (.str "pow") = some false := by kernel_rfl
theorem q_add_root : cmpD G .eq (.str "add") (.str "root") = some false := by kernel_rfl
theorem n_pow : cmpD G .nin (.str "pow") (.tup [.str "mul", .str "div", .str "add", .str "pow", .str "root"]) = some false := by kernel_rfl
theorem n_root : cmpD G .nin (.str "root") (.tup [.str "mul", .str "div", .str "add", .str "pow", .str "root"]) = some false := by kernel_rfl
theorem n_mul : cmpD G .nin (.str "mul") (.tup [.str "mul", .str "div", .str "add", .str "pow", .str "root"]) = some false := by kernel_rfl
theorem n_div : cmpD G .nin (.str "div") (.tup [.str "mul", .str "div", .str "add", .str "pow", .str "root"]) = some false := by kernel_rfl
theorem n_add : cmpD G .nin (.str "add") (.tup [.str "mul", .str "div", .str "add", .str "pow", .str "root"]) = some false := by kernel_rfl
theorem n_len {i : Int} : cmpD G .nin (.int i) (.tup [.int 2, .int 3]) = some (!((2 == i) || ((3 == i) || false))) := rfl
section
variable {Φ : Fn} {b : Nat} {bs vs xs : List D} {k : Int} {s : Str}
def guard : MB := (.or (.val (.cmp .eq (.var 3) (.con (.int (0))))) (.or (.not (.val (.bi .isi (.cons (.var 2) (.cons (.con (.ty "tuple")) .nil))))) (.or (.val (.cmp .nin (.bi .len (.cons (.var 2) .nil)) (.tup (.cons (.con (.int (2))) (.cons (.con (.int (3))) .nil))))) (.not (.val (.bi .isi (.cons (.ix (.var 2) (.con (.int (0)))) (.cons (.con (.ty "str")) .nil))))))))
abbrev tau (bs vs : List D) (d : D) (k : Int) : Tau := [some (.tup bs), some (.tup vs), some d, some (.int k), none]
theorem g_no (hk : k ≠ 0) (hl : xs.length = 1 ∨ xs.length = 2) : evT Φ b guard (tau bs vs (.tup (.str s :: xs)) k) G = .ok false G := by
  unfold guard
  have h0 : (k == 0) = false := beq_eq_false_iff_ne.mpr hk
  rw [or_ok (k := false) (G1 := G) (by simp [evT, evE, cmp_eqI, h0]), if_neg (by decide)]
  rw [or_ok (k := false) (G1 := G) (by simp [evT, evE, evEs, isi_tuple (d := .tup (.str s :: xs)) rfl, isT]), if_neg (by decide)]
  rw [or_ok (k := false) (G1 := G), if_neg (by decide)]
  · simp [evT, evE, evEs, ix0, isi_str (d := .str s) rfl, isS]
  · rcases hl with hl | hl <;> simp [evT, evE, evEs, n_len, hl]
theorem g_yes (h : plain d = true) (hd : isT d = false) : evT Φ b guard (tau bs vs d k) G = .ok true G := by
  unfold guard
  by_cases h0 : k = 0
  · rw [or_ok (k := true) (G1 := G) (by simp [evT, evE, cmp_eqI, h0]), if_pos rfl]
  · have h0 : (k == 0) = false := beq_eq_false_iff_ne.mpr h0
    rw [or_ok (k := false) (G1 := G) (by simp [evT, evE, cmp_eqI, h0]), if_neg (by decide)]
    rw [or_ok (k := true) (G1 := G) (by simp [evT, evE, evEs, isi_tuple h, hd]), if_pos rfl]
theorem g_len (h2 : xs.length ≠ 2) (h3 : xs.length ≠ 3) : evT Φ b guard (tau bs vs (.tup xs) k) G = .ok true G := by
  unfold guard
  by_cases h0 : k = 0
  · rw [or_ok (k := true) (G1 := G) (by simp [evT, evE, cmp_eqI, h0]), if_pos rfl]
  · have h0 : (k == 0) = false := beq_eq_false_iff_ne.mpr h0
    rw [or_ok (k := false) (G1 := G) (by simp [evT, evE, cmp_eqI, h0]), if_neg (by decide)]
    rw [or_ok (k := false) (G1 := G) (by simp [evT, evE, evEs, isi_tuple (d := .tup xs) rfl, isT]), if_neg (by decide)]
    rw [or_ok (k := true) (G1 := G), if_pos rfl]
    have e2 : ((2 : Int) == (xs.length : Int)) = false := beq_eq_false_iff_ne.mpr (by omega)
    have e3 : ((3 : Int) == (xs.length : Int)) = false := beq_eq_false_iff_ne.mpr (by omega)
    simp [evT, evE, evEs, n_len, e2, e3]
theorem g_head (h : plain d = true) (hd : isS d = false) (hl : xs.length = 1 ∨ xs.length = 2) : evT Φ b guard (tau bs vs (.tup (d :: xs)) k) G = .ok true G := by
  unfold guard
  by_cases h0 : k = 0
  · rw [or_ok (k := true) (G1 := G) (by simp [evT, evE, cmp_eqI, h0]), if_pos rfl]
  · have h0 : (k == 0) = false := beq_eq_false_iff_ne.mpr h0
    rw [or_ok (k := false) (G1 := G) (by simp [evT, evE, cmp_eqI, h0]), if_neg (by decide)]
    rw [or_ok (k := false) (G1 := G) (by simp [evT, evE, evEs, isi_tuple (d := .tup (d :: xs)) rfl, isT]), if_neg (by decide)]
    rw [or_ok (k := false) (G1 := G), if_neg (by decide)]
    · simp [evT, evE, evEs, ix0, isi_str h, hd]
    · rcases hl with hl | hl <;> simp [evT, evE, evEs, n_len, hl]
theorem g_zero : evT Φ b guard (tau bs vs d 0) G = .ok true G := by
  unfold guard
  rw [or_ok (k := true) (G1 := G) (by simp [evT, evE, cmp_eqI]), if_pos rfl]
end
/-- a guard that bites -/
theorem nest_out {bs vs : List D} {k : Int} (h : evT (run T n) G.length guard (tau bs vs d k) G = .ok true G) : run T (n + 1) "is_nested" [.tup bs, .tup vs, d, .int k] G = .ok (.bl false) G := by
  rw [run_succ L_is_nested]
  refine callF_rtG rfl rfl ?_ frz_bl
  show evSs _ _ b_is_nested (tau bs vs d k) G = _
  unfold b_is_nested
  exact seq_rt ((if_yes h).trans (ret_ok (by rw [evE])))
end D
section E
variable {n : Nat} {G : Hd} {d : D} {o0 o1 : DO}
def tailOf : MSs → MSs
  | .cons _ t => t
  | .nil => .nil
abbrev tau2 (bs vs : List D) (d : D) (k : Int) (s : Str) : Tau := [some (.tup bs), some (.tup vs), some d, some (.int k), some (.str s)]
theorem nest_in {bs vs xs : List D} {k : Int} {s : Str} {r : Bool} (hk : k ≠ 0) (hl : xs.length = 1 ∨ xs.length = 2) (h : evSs (run T n) G.length (tailOf (tailOf b_is_nested)) (tau2 bs vs (.tup (.str s :: xs)) k s) G = .ok (.rt (.bl r)) G) :
    run T (n + 1) "is_nested" [.tup bs, .tup vs, .tup (.str s :: xs), .int k] G = .ok (.bl r) G := by
  rw [run_succ L_is_nested]
  refine callF_rtG rfl rfl ?_ frz_bl
  show evSs _ _ b_is_nested (tau bs vs (.tup (.str s :: xs)) k) G = _
  unfold b_is_nested at h ⊢
  exact (skip (g_no hk hl)).trans ((set_ok (d := .str s) (G1 := G) (by simp [evE, ix0])).trans h)
section
variable {bs vs : List D} {k : Int} {a c : D}
theorem len2 {x y : D} : ((List.length [x, y] : Nat) : Int) = 2 := rfl
theorem len3 {x y z : D} : ((List.length [x, y, z] : Nat) : Int) = 3 := rfl
/-- ("var", a) -/
theorem nest_var (hk : k ≠ 0) (h : plain a = true) {r : Bool} (hr : isS a = true → cmpD G .isin a (.tup vs) = some r) (h0 : isS a = false → r = false) : run T (n + 1) "is_nested" [.tup bs, .tup vs, .tup [.str "var", a], .int k] G = .ok (.bl r) G := by
  refine nest_in hk (.inl rfl) ?_
  unfold b_is_nested
  simp only [tailOf]
  refine seq_rt ((if_yes (G1 := G) (by simp [evT, evE, q_var_var])).trans (ret_ok ?_))
  rw [and_ok (k := true) (G1 := G) (by simp [evE, evEs, cmp_eqI]), if_pos rfl]
  rw [and_ok (k := isS a) (G1 := G) (by simp [evE, evEs, ix1, isi_str h])]
  cases e : isS a with
  | true => simp [evE, ix1, hr e]
  | false => simp [h0 e]
theorem nest_var3 (hk : k ≠ 0) : run T (n + 1) "is_nested" [.tup bs, .tup vs, .tup [.str "var", a, c], .int k] G = .ok (.bl false) G := by
  refine nest_in hk (.inr rfl) ?_
  unfold b_is_nested
  simp only [tailOf]
  refine seq_rt ((if_yes (G1 := G) (by simp [evT, evE, q_var_var])).trans (ret_ok ?_))
  rw [and_ok (k := false) (G1 := G) (by simp [evE, evEs, cmp_eqI]), if_neg (by decide)]
/-- ("unit", a) -/
theorem nest_unit (hk : k ≠ 0) {r : Bool} (h : run T n "is_unit" [.tup bs, a] G = .ok (.bl r) G) : run T (n + 1) "is_nested" [.tup bs, .tup vs, .tup [.str "unit", a], .int k] G = .ok (.bl r) G := by
  refine nest_in hk (.inl rfl) ?_
  unfold b_is_nested
  simp only [tailOf]
  refine (skip (G1 := G) (by simp [evT, evE, q_unit_var])).trans (seq_rt ((if_yes (G1 := G) (by simp [evT, evE, q_unit_unit])).trans (ret_ok ?_)))
  rw [and_ok (k := true) (G1 := G) (by simp [evE, evEs, cmp_eqI]), if_pos rfl]
  exact call_ok (ds := [.tup bs, a]) (G1 := G) (by simp [evEs, evE, ix1]) h
theorem nest_unit3 (hk : k ≠ 0) : run T (n + 1) "is_nested" [.tup bs, .tup vs, .tup [.str "unit", a, c], .int k] G = .ok (.bl false) G := by
  refine nest_in hk (.inr rfl) ?_
  unfold b_is_nested
  simp only [tailOf]
  refine (skip (G1 := G) (by simp [evT, evE, q_unit_var])).trans (seq_rt ((if_yes (G1 := G) (by simp [evT, evE, q_unit_unit])).trans (ret_ok ?_)))
  rw [and_ok (k := false) (G1 := G) (by simp [evE, evEs, cmp_eqI]), if_neg (by decide)]
/-- one of the other kinds -/
structure Kind (s : Str) : Prop where
  v : ∀ G, cmpD G .eq (.str s) (.str "var") = some false
  u : ∀ G, cmpD G .eq (.str s) (.str "unit") = some false
  n : ∀ G, cmpD G .nin (.str s) (.tup [.str "mul", .str "div", .str "add", .str "pow", .str "root"]) = some false
theorem kPow : Kind "pow" := ⟨fun _ => q_pow_var, fun _ => q_pow_unit, fun _ => n_pow⟩
theorem kRoot : Kind "root" := ⟨fun _ => q_root_var, fun _ => q_root_unit, fun _ => n_root⟩
theorem kMul : Kind "mul" := ⟨fun _ => q_mul_var, fun _ => q_mul_unit, fun _ => n_mul⟩
theorem kDiv : Kind "div" := ⟨fun _ => q_div_var, fun _ => q_div_unit, fun _ => n_div⟩
theorem kAdd : Kind "add" := ⟨fun _ => q_add_var, fun _ => q_add_unit, fun _ => n_add⟩
def tl3 : MSs := tailOf (tailOf (tailOf (tailOf (tailOf (tailOf b_is_nested)))))
theorem nest_kind {s : Str} (K : Kind s) (hk : k ≠ 0) {r1 r : Bool} (h1 : run T n "is_nested" [.tup bs, .tup vs, a, .int (k - 1)] G = .ok (.bl r1) G) (h0 : r1 = false → r = false)
    (h : r1 = true → evSs (run T n) G.length tl3 (tau2 bs vs (.tup [.str s, a, c]) k s) G = .ok (.rt (.bl r)) G) : run T (n + 1) "is_nested" [.tup bs, .tup vs, .tup [.str s, a, c], .int k] G = .ok (.bl r) G := by
  refine nest_in hk (.inr rfl) ?_
  unfold tl3 at h
  unfold b_is_nested at h ⊢
  simp only [tailOf] at h ⊢
  refine (skip (G1 := G) (by simp [evT, evE, K.v])).trans ((skip (G1 := G) (by simp [evT, evE, K.u])).trans ((skip (G1 := G) ?_).trans ?_))
  · rw [or_ok (k := false) (G1 := G) (by simp [evT, evE, evEs, K.n]), if_neg (by decide)]
    simp [evT, evE, evEs, cmp_neI]
  · have hc : evT (run T n) G.length (.not (.val (.call "is_nested" (.cons (.var 0) (.cons (.var 1) (.cons (.ix (.var 2) (.con (.int (1)))) (.cons (.bin .sub (.var 3) (.con (.int (1)))) .nil))))))) (tau2 bs vs (.tup [.str s, a, c]) k s) G = .ok (!r1) G :=
      not_ok (val_ok (call_ok (ds := [.tup bs, .tup vs, a, .int (k - 1)]) (G1 := G) (by simp [evEs, evE, ix1]) h1))
    cases e : r1 with
    | false =>
      rw [e] at hc
      rw [h0 e]
      exact seq_rt ((if_yes hc).trans (ret_ok (by rw [evE])))
    | true =>
      rw [e] at hc
      exact (skip hc).trans (h e)
theorem nest_pow (hk : k ≠ 0) {r1 r : Bool} (h1 : run T (n + 1) "is_nested" [.tup bs, .tup vs, a, .int (k - 1)] G = .ok (.bl r1) G) (h0 : r1 = false → r = false) (hc : plain c = true) (hr : ∀ i, c = .int i → r1 = true → r = (decide (-4 ≤ i) && decide (i ≤ 4))) (hn : isI c = false → r = false) :
    run T (n + 2) "is_nested" [.tup bs, .tup vs, .tup [.str "pow", a, c], .int k] G = .ok (.bl r) G := by
  refine nest_kind kPow hk h1 h0 fun e => ?_
  unfold tl3 b_is_nested
  simp only [tailOf]
  refine seq_rt ((if_yes (G1 := G) (by simp [evT, evE, q_pow_pow])).trans (ret_ok ?_))
  rw [and_ok (k := isI c) (G1 := G) (call_ok (ds := [c]) (G1 := G) (by simp [evEs, evE, ix2]) (E_is_integer hc))]
  cases c with
  | int i =>
    rw [hr i rfl e]
    simp only [isI, if_true]
    by_cases h4 : -4 ≤ i
    · simp [evE, ix2, intD, h4]
    · simp [evE, ix2, intD, h4]
  | _ => first | (rw [hn rfl]; rfl) | cases hc
theorem nest_root (hk : k ≠ 0) {r1 r : Bool} (h1 : run T (n + 1) "is_nested" [.tup bs, .tup vs, a, .int (k - 1)] G = .ok (.bl r1) G) (h0 : r1 = false → r = false) (hc : plain c = true) (hr : ∀ i, c = .int i → r1 = true → r = (decide (2 ≤ i) && decide (i ≤ 4))) (hn : isI c = false → r = false) :
    run T (n + 2) "is_nested" [.tup bs, .tup vs, .tup [.str "root", a, c], .int k] G = .ok (.bl r) G := by
  refine nest_kind kRoot hk h1 h0 fun e => ?_
  unfold tl3 b_is_nested
  simp only [tailOf]
  refine (skip (G1 := G) (by simp [evT, evE, q_root_pow])).trans (seq_rt ((if_yes (G1 := G) (by simp [evT, evE, q_root_root])).trans (ret_ok ?_)))
  rw [and_ok (k := isI c) (G1 := G) (call_ok (ds := [c]) (G1 := G) (by simp [evEs, evE, ix2]) (E_is_integer hc))]
  cases c with
  | int i =>
    rw [hr i rfl e]
    simp only [isI, if_true]
    by_cases h4 : 2 ≤ i
    · simp [evE, ix2, intD, h4]
    · simp [evE, ix2, intD, h4]
  | _ => first | (rw [hn rfl]; rfl) | cases hc
def two (s : Str) : Prop := s = "mul" ∨ s = "div" ∨ s = "add"
theorem nest_two {s : Str} (hs : two s) (hk : k ≠ 0) {r1 r2 : Bool} (h1 : run T n "is_nested" [.tup bs, .tup vs, a, .int (k - 1)] G = .ok (.bl r1) G) (h2 : r1 = true → run T n "is_nested" [.tup bs, .tup vs, c, .int (k - 1)] G = .ok (.bl r2) G) (h0 : r1 = false → r2 = false) :
    run T (n + 1) "is_nested" [.tup bs, .tup vs, .tup [.str s, a, c], .int k] G = .ok (.bl r2) G := by
  have K : Kind s := by rcases hs with rfl | rfl | rfl <;> first | exact kMul | exact kDiv | exact kAdd
  have e1 : cmpD G .eq (.str s) (.str "pow") = some false := by rcases hs with rfl | rfl | rfl <;> first | exact q_mul_pow | exact q_div_pow | exact q_add_pow
  have e2 : cmpD G .eq (.str s) (.str "root") = some false := by rcases hs with rfl | rfl | rfl <;> first | exact q_mul_root | exact q_div_root | exact q_add_root
  refine nest_kind K hk h1 h0 fun e => ?_
  unfold tl3 b_is_nested
  simp only [tailOf]
  refine (skip (G1 := G) (by simp [evT, evE, e1])).trans ((skip (G1 := G) (by simp [evT, evE, e2])).trans (ret_ok ?_))
  exact call_ok (ds := [.tup bs, .tup vs, c, .int (k - 1)]) (G1 := G) (by simp [evEs, evE, ix2]) (h2 e)
end
end E
section F
variable {n : Nat} {d : D} {o0 o1 : DO} {bs vs : List D}
/-- a text among texts -/
structure Vars (vs : List D) : Prop where
  st : ∀ v ∈ vs, isS v = true
theorem vars_in (h : Vars vs) {x : D} (hx : x ∈ vs) {G : Hd} : cmpD G .isin x (.tup vs) = some true := by
  have hs := h.st x hx
  cases x with
  | str z =>
    have f : (vs.all flatD) = true := List.all_eq_true.mpr fun v hv => by
      have := h.st v hv
      cases v <;> first | rfl | cases this
    show (if flatD (.str z) && vs.all flatD then some (vs.any fun w => flatEq w (.str z)) else none) = _
    have a : (vs.any fun w => flatEq w (.str z)) = true := List.any_eq_true.mpr ⟨_, hx, by simp [flatEq]⟩
    rw [f, a]
    rfl
  | _ => cases hs
inductive ExG (bs vs : List D) : Nat → D → Prop where
  | var {k : Nat} {x : D} (h : x ∈ vs) : ExG bs vs (k + 1) (.tup [.str "var", x])
  | unit {k : Nat} {xs : List D} (hl : xs.length = bs.length) (h : ∀ x ∈ xs, frGood x) : ExG bs vs (k + 1) (.tup [.str "unit", .tup xs])
  | pow {k : Nat} {a : D} {i : Int} (h : ExG bs vs k a) (h1 : -4 ≤ i) (h2 : i ≤ 4) : ExG bs vs (k + 1) (.tup [.str "pow", a, .int i])
  | root {k : Nat} {a : D} {i : Int} (h : ExG bs vs k a) (h1 : 2 ≤ i) (h2 : i ≤ 4) : ExG bs vs (k + 1) (.tup [.str "root", a, .int i])
  | two {k : Nat} {s : Str} {a c : D} (hs : two s) (h1 : ExG bs vs k a) (h2 : ExG bs vs k c) : ExG bs vs (k + 1) (.tup [.str s, a, c])
theorem nest_good (hv : Vars vs) (hb : bs.length ≤ 3) {k : Nat} (h : ExG bs vs k d) : ∀ (n m : Nat), k ≤ m → run T (n + k + 6) "is_nested" [.tup bs, .tup vs, d, .int m] G = .ok (.bl true) G := by
  induction h with
  | @var k x h =>
    intro n m hm
    have hp : plain x = true := by have := hv.st x h; cases x <;> first | rfl | cases this
    exact nest_var (n := n + k + 6) (by omega) hp (fun _ => vars_in hv h) fun e => by rw [hv.st x h] at e; cases e
  | @unit k xs hl h =>
    intro n m hm
    refine nest_unit (n := n + k + 6) (by omega) (E_unit (n := n + k + 1) ?_)
    rw [E_frs (n := n + k + 1) (fun x hx => .inl (h x hx)) (by rw [hl]; exact Nat.le_trans hb (by decide))]
    have e1 : ((xs.length : Int) == (bs.length : Int)) = true := by rw [hl]; exact beq_self_eq_true _
    have e2 : xs.all pairI = true := List.all_eq_true.mpr fun x hx => good_pair (h x hx)
    rw [e1, e2]
    rfl
  | @pow k a i h h1 h2 ih =>
    intro n m hm
    have q := ih n (m - 1) (by omega)
    rw [show ((m - 1 : Nat) : Int) = (m : Int) - 1 by omega] at q
    exact nest_pow (n := n + k + 5) (by omega) q (fun z => nomatch z) rfl (fun j e _ => by cases e; simp [h1, h2]) fun z => nomatch z
  | @root k a i h h1 h2 ih =>
    intro n m hm
    have q := ih n (m - 1) (by omega)
    rw [show ((m - 1 : Nat) : Int) = (m : Int) - 1 by omega] at q
    exact nest_root (n := n + k + 5) (by omega) q (fun z => nomatch z) rfl (fun j e _ => by cases e; simp [h1, h2]) fun z => nomatch z
  | @two k s a c hs h1 h2 ih1 ih2 =>
    intro n m hm
    have q1 := ih1 n (m - 1) (by omega)
    have q2 := ih2 n (m - 1) (by omega)
    rw [show ((m - 1 : Nat) : Int) = (m : Int) - 1 by omega] at q1 q2
    exact nest_two hs (by omega) q1 (fun _ => q2) fun z => nomatch z
end F
section J
variable {n : Nat} {d : D} {bs vs : List D} {G : Hd}
def leaf (d : D) : Prop := (∃ i, d = .int i) ∨ ∃ s, d = .str s ∧ PyData.canLay0 (.str s) = true
def Wd : Nat → D → Prop
  | 0, d => leaf d
  | k + 1, d => leaf d ∨ ∃ xs, d = .tup xs ∧ xs.length ≤ 3 ∧ ∀ x ∈ xs, Wd k x
theorem leaf_no (h : leaf d) : isT d = false ∧ plain d = true := by
  rcases h with ⟨i, rfl⟩ | ⟨s, rfl, _⟩ <;> exact ⟨rfl, rfl⟩
theorem leaf_sh {j : Nat} (h : leaf d) : Sh j d := by
  rcases h with ⟨i, rfl⟩ | ⟨s, rfl, hs⟩
  · exact .int
  · exact .str hs
theorem wd_sh : ∀ {k : Nat} {d : D}, Wd k d → Sh k d
  | 0, d, h => leaf_sh h
  | k + 1, d, h => by
    rcases h with h | ⟨xs, rfl, _, h⟩
    · exact leaf_sh h
    · exact .tup fun x hx => wd_sh (h x hx)
end J
section L
variable {n : Nat} {d : D} {bs vs : List D} {sc : D} {Φ : Fn}
theorem L_draw : T.lookup ("_law_draw" : Str) = some fdDraw := by kernel_rfl
theorem L_begun : T.lookup ("_law_begun" : Str) = some fdBegun := by kernel_rfl
theorem L_unit : T.lookup ("_law_unit" : Str) = some r__law_unit.fd := by kernel_rfl
theorem L_expression : T.lookup ("_law_expression" : Str) = some r__law_expression.fd := by kernel_rfl
theorem L_model : T.lookup ("_law_model" : Str) = some r__law_model.fd := by kernel_rfl
def DrawOk (Φ : Fn) (sc : D) : Prop := ∀ (o0 o1 : DO), Town o0 o1 → ∀ (m : Nat) (z : Int), z = m → 0 < m → m < 1000 → ∀ G : Hd, ∃ (k : Nat) (p0 p1 : DO), k < m ∧ Town p0 p1 ∧ Φ "_law_draw" [sc, .ref 1, .int z] (o0 :: o1 :: G) = .ok (.int k) (p0 :: p1 :: G)
theorem draw_ok {ns : List Int} (hns : ns.length ≤ 63) (n : Nat) : DrawOk (run T (n + 1)) (.lst (ns.map D.int)) := fun o0 o1 ht m z hz h0 h1 G => by
  subst hz
  exact U.draw L_draw hns ht m h0 h1 n G
theorem drawE (hD : DrawOk Φ sc) {o0 o1 : DO} (ht : Town o0 o1) (m : Nat) {z : Int} (hz : z = m) (h0 : 0 < m) (h1 : m < 1000) (G : Hd) {b : Nat} {τ : Tau} {e : ME} (hs : evEs Φ b (.cons (.var 0) (.cons (.var 1) (.cons e .nil))) τ (o0 :: o1 :: G) = .ok [sc, .ref 1, .int z] (o0 :: o1 :: G)) :
    ∃ (k : Nat) (p0 p1 : DO), k < m ∧ Town p0 p1 ∧ evE Φ b (.call "_law_draw" (.cons (.var 0) (.cons (.var 1) (.cons e .nil)))) τ (o0 :: o1 :: G) = .ok (.int k) (p0 :: p1 :: G) := by
  obtain ⟨k, p0, p1, h2, h3, h4⟩ := hD o0 o1 ht m z hz h0 h1 G
  exact ⟨k, p0, p1, h2, h3, call_ok hs h4⟩
/-! ### a unit -/
def uBody : MSs := (.cons (.set (.nam 5) (.bin .sub (.call "_law_draw" (.cons (.var 0) (.cons (.var 1) (.cons (.con (.int (7))) .nil)))) (.con (.int (3)))))
  (.cons (.exp (.append (.var 3) (.ifx (.and (.val (.cmp .eq (.call "_law_draw" (.cons (.var 0) (.cons (.var 1) (.cons (.con (.int (4))) .nil)))) (.con (.int (0))))) (.val (.cmp .ne (.bin .mod (.var 5) (.con (.int (2)))) (.con (.int (0)))))) (.tup (.cons (.var 5) (.cons (.con (.int (2))) .nil))) (.tup (.cons (.var 5) (.cons (.con (.int (1))) .nil))))))
  .nil))
theorem append_last {b : Nat} {τ : Tau} {o e : ME} {x : D} {acc : List D} {G : Hd} {a0 a1 b0 b1 : DO} (hb : b ≤ G.length + 2) (ho : evE Φ b o τ (a0 :: a1 :: G ++ [.lst acc]) = .ok (.ref (G.length + 2)) (a0 :: a1 :: G ++ [.lst acc])) (he : evE Φ b e τ (a0 :: a1 :: G ++ [.lst acc]) = .ok x (b0 :: b1 :: G ++ [.lst acc])) (hl : acc.length < line) :
    evE Φ b (.append o e) τ (a0 :: a1 :: G ++ [.lst acc]) = .ok .non (b0 :: b1 :: G ++ [.lst (acc ++ [x])]) := by
  have g1 : ∀ c0 c1 : DO, (c0 :: c1 :: G ++ [DO.lst acc])[G.length + 2]? = some (.lst acc) := fun c0 c1 => by simp
  have l1 : listD (a0 :: a1 :: G ++ [.lst acc]) (.ref (G.length + 2)) = some acc := by
    unfold listD
    simp only [g1]
  have e2 : appendD b (.ref (G.length + 2)) x (b0 :: b1 :: G ++ [.lst acc]) = .ok .non (b0 :: b1 :: G ++ [.lst (acc ++ [x])]) := by
    unfold appendD
    simp only [g1]
    rw [if_pos (by simp [storeOk, hl, hb])]
    simp
  rw [evE, ho]
  simp only [Out.then_ok, l1, he, e2]
theorem unit_turn (hD : DrawOk Φ sc) {o0 o1 : DO} (ht : Town o0 o1) {G : Hd} {acc : List D} {x : D} {t4 t5 : Option D} (hl : acc.length < line) :
    ∃ (p0 p1 : DO) (y : D) (t5' : Option D), Town p0 p1 ∧ frGood y ∧ forTurn Φ (G.length + 2) (.nam 4) uBody x [some sc, some (.ref 1), some (.tup bs), some (.ref (G.length + 2)), t4, t5] (o0 :: o1 :: G ++ [.lst acc]) = .ok (.nx [some sc, some (.ref 1), some (.tup bs), some (.ref (G.length + 2)), some x, t5']) (p0 :: p1 :: G ++ [.lst (acc ++ [y])]) := by
  obtain ⟨k, q0, q1, hk, ht1, e1⟩ := drawE (b := G.length + 2) (e := .con (.int 7)) (τ := [some sc, some (.ref 1), some (.tup bs), some (.ref (G.length + 2)), some x, t5]) hD ht 7 (z := 7) rfl (by decide) (by decide) (G ++ [.lst acc]) (by simp [evEs, evE])
  have s1 : evE Φ (G.length + 2) (.bin .sub (.call "_law_draw" (.cons (.var 0) (.cons (.var 1) (.cons (.con (.int (7))) .nil)))) (.con (.int (3)))) [some sc, some (.ref 1), some (.tup bs), some (.ref (G.length + 2)), some x, t5] (o0 :: o1 :: G ++ [.lst acc]) = .ok (.int (k - 3)) (q0 :: q1 :: G ++ [.lst acc]) := bin_ok e1 con_ok rfl
  let τ : Tau := [some sc, some (.ref 1), some (.tup bs), some (.ref (G.length + 2)), some x, some (.int ((k : Int) - 3))]
  obtain ⟨j, r0, r1, hj, ht2, e2⟩ := drawE (b := G.length + 2) (e := .con (.int 4)) (τ := τ) hD ht1 4 (z := 4) rfl (by decide) (by decide) (G ++ [.lst acc]) (by simp [evEs, evE, τ])
  have s2 : ∃ y, frGood y ∧ evE Φ (G.length + 2) (.ifx (.and (.val (.cmp .eq (.call "_law_draw" (.cons (.var 0) (.cons (.var 1) (.cons (.con (.int (4))) .nil)))) (.con (.int (0))))) (.val (.cmp .ne (.bin .mod (.var 5) (.con (.int (2)))) (.con (.int (0)))))) (.tup (.cons (.var 5) (.cons (.con (.int (2))) .nil))) (.tup (.cons (.var 5) (.cons (.con (.int (1))) .nil)))) τ (q0 :: q1 :: G ++ [.lst acc]) = .ok y (r0 :: r1 :: G ++ [.lst acc]) := by
    have c1 : evT Φ (G.length + 2) (.val (.cmp .eq (.call "_law_draw" (.cons (.var 0) (.cons (.var 1) (.cons (.con (.int (4))) .nil)))) (.con (.int (0))))) τ (q0 :: q1 :: G ++ [.lst acc]) = .ok ((j : Int) == 0) (r0 :: r1 :: G ++ [.lst acc]) := val_ok (cmp_ok' e2 con_ok cmp_eqI)
    have c2 : evT Φ (G.length + 2) (.val (.cmp .ne (.bin .mod (.var 5) (.con (.int (2)))) (.con (.int (0))))) τ (r0 :: r1 :: G ++ [.lst acc]) = .ok (!(((k : Int) - 3).fmod 2 == 0)) (r0 :: r1 :: G ++ [.lst acc]) := val_ok (cmp_ok' (bin_ok (a := .int ((k : Int) - 3)) (by simp [evE, τ]) con_ok (bin_modI (by decide))) con_ok cmp_neI)
    have one : frGood (.tup [.int ((k : Int) - 3), .int 1]) := ⟨_, _, rfl, by omega, by omega, .inl rfl⟩
    have v1 : evE Φ (G.length + 2) (.tup (.cons (.var 5) (.cons (.con (.int (1))) .nil))) τ (r0 :: r1 :: G ++ [.lst acc]) = .ok (.tup [.int ((k : Int) - 3), .int 1]) (r0 :: r1 :: G ++ [.lst acc]) := by simp [evE, evEs, τ]
    have v2 : evE Φ (G.length + 2) (.tup (.cons (.var 5) (.cons (.con (.int (2))) .nil))) τ (r0 :: r1 :: G ++ [.lst acc]) = .ok (.tup [.int ((k : Int) - 3), .int 2]) (r0 :: r1 :: G ++ [.lst acc]) := by simp [evE, evEs, τ]
    cases g1 : (j : Int) == 0 with
    | false =>
      rw [g1] at c1
      refine ⟨_, one, ?_⟩
      rw [ifx_ok (tand_ok c1)]
      exact v1
    | true =>
      rw [g1] at c1
      cases g2 : ((k : Int) - 3).fmod 2 == 0 with
      | true =>
        rw [g2] at c2
        refine ⟨_, one, ?_⟩
        rw [ifx_ok ((tand_ok c1).trans ((if_pos rfl).trans c2))]
        exact v1
      | false =>
        rw [g2] at c2
        refine ⟨.tup [.int ((k : Int) - 3), .int 2], ⟨_, _, rfl, by omega, by omega, .inr ⟨rfl, ?_⟩⟩, ?_⟩
        · have := beq_eq_false_iff_ne.mp g2
          rw [Int.fmod_eq_emod_of_nonneg _ (by decide)] at this
          exact this
        · rw [ifx_ok ((tand_ok c1).trans ((if_pos rfl).trans c2))]
          exact v2
  obtain ⟨y, hy, s2⟩ := s2
  refine ⟨r0, r1, y, some (.int ((k : Int) - 3)), ht2, hy, ?_⟩
  show evSs Φ (G.length + 2) uBody [some sc, some (.ref 1), some (.tup bs), some (.ref (G.length + 2)), some x, t5] _ = _
  unfold uBody
  refine (set_ok s1).trans ((seq_nx (τ1 := τ) (G1 := r0 :: r1 :: G ++ [.lst (acc ++ [y])]) ?_).trans (by rw [evSs]))
  have := append_last (o := .var 3) (Nat.le_refl _) (show evE Φ (G.length + 2) (.var 3) τ (q0 :: q1 :: G ++ [.lst acc]) = _ by simp [evE, τ]) s2 hl
  rw [evS]
  show (evE Φ _ _ τ _).then _ = _
  rw [this]
  rfl
theorem frz_tup {j n : Nat} {G : Hd} {xs : List D} (h : ∀ x ∈ xs, frGood x) : frz 4 n G (.tup xs) = some (.tup xs) := by
  have : ∀ ys : List D, (∀ x ∈ ys, frGood x) → ys.mapM (frz 3 n G) = some ys := by
    intro ys
    induction ys with
    | nil => intro _; rfl
    | cons y ys ih =>
      intro h
      obtain ⟨t, q, rfl, _⟩ := h y List.mem_cons_self
      rw [List.mapM_cons, ih fun x hx => h x (List.mem_cons_of_mem _ hx)]
      rfl
  show (xs.mapM (frz 3 n G)).map D.tup = _
  rw [this xs h]
  rfl
theorem unit_run (hD : DrawOk (run T n) sc) {o0 o1 : DO} (ht : Town o0 o1) (hb : bs.length ≤ 3) (G : Hd) :
    ∃ (p0 p1 : DO) (xs : List D), Town p0 p1 ∧ xs.length = bs.length ∧ (∀ x ∈ xs, frGood x) ∧ run T (n + 1) "_law_unit" [sc, .ref 1, .tup bs] (o0 :: o1 :: G) = .ok (.tup xs) (p0 :: p1 :: G) := by
  obtain ⟨τ', G', e, p0, p1, acc, t4, t5, ht', rfl, rfl, hl, hg⟩ := for_inv (Φ := run T n) (b := G.length + 2) (t := .nam 4) (it := .val (.var 2)) (s := uBody) (τ := [some sc, some (.ref 1), some (.tup bs), some (.ref (G.length + 2)), none, none]) (G := o0 :: o1 :: G ++ [.lst []]) (G1 := o0 :: o1 :: G ++ [.lst []]) (ds := bs)
    (I := fun i τ G' => ∃ p0 p1 acc t4 t5, Town p0 p1 ∧ τ = [some sc, some (.ref 1), some (.tup bs), some (.ref (G.length + 2)), t4, t5] ∧ G' = p0 :: p1 :: G ++ [.lst acc] ∧ acc.length = i ∧ ∀ x ∈ acc, frGood x)
    (by simp [evI, evE, iterD, stillD]) ⟨o0, o1, [], none, none, ht, rfl, rfl, rfl, fun x hx => (nomatch hx)⟩ (by
      rintro i x τ G' hx ⟨p0, p1, acc, t4, t5, ht', rfl, rfl, hl, hg⟩
      have hi : i < bs.length := (List.getElem?_eq_some_iff.mp hx).1
      obtain ⟨q0, q1, y, t5', ht2, hy, e⟩ := unit_turn (bs := bs) (t4 := t4) (t5 := t5) (x := x) (G := G) hD ht' (acc := acc) (show _ < 16777216 by omega)
      refine ⟨_, _, e, q0, q1, acc ++ [y], some x, t5', ht2, rfl, rfl, by simp [hl], fun z hz => ?_⟩
      rcases List.mem_append.mp hz with hz | hz
      · exact hg z hz
      · rw [List.mem_singleton.mp hz]; exact hy)
  refine ⟨p0, p1, acc, ht', hl, hg, ?_⟩
  rw [run_succ L_unit]
  refine (callF_rt (d := .tup acc) (d' := .tup acc) (G' := p0 :: p1 :: G ++ [.lst acc]) rfl rfl ?_ (frz_tup (j := 0) hg)).trans (by simp)
  show evSs _ (G.length + 2) b__law_unit [some sc, some (.ref 1), some (.tup bs), none, none, none] _ = _
  unfold b__law_unit
  refine (set_ok (d := .ref (G.length + 2)) (G1 := o0 :: o1 :: G ++ [.lst []]) (by simp [evE, evEs, allocD, objOf])).trans ?_
  unfold uBody at e
  refine (seq_nx e).trans ?_
  refine ret_ok ?_
  have g1 : (p0 :: p1 :: G ++ [DO.lst acc])[G.length + 2]? = some (.lst acc) := by simp
  have l1 : biD (p0 :: p1 :: G ++ [.lst acc]) .tuple [.ref (G.length + 2)] = some (.tup acc) := by
    show (seqD _ (.ref (G.length + 2))).map D.tup = _
    have : seqD (p0 :: p1 :: G ++ [.lst acc]) (.ref (G.length + 2)) = some acc := by
      show listD (p0 :: p1 :: G ++ [.lst acc]) (.ref (G.length + 2)) = some acc
      unfold listD
      simp only [g1]
    rw [this]
    rfl
  rw [evE]
  have : evEs (run T n) (G.length + 2) (.cons (.var 3) .nil) [some sc, some (.ref 1), some (.tup bs), some (.ref (G.length + 2)), t4, t5] (p0 :: p1 :: G ++ [.lst acc]) = .ok [.ref (G.length + 2)] (p0 :: p1 :: G ++ [.lst acc]) := by simp [evEs, evE]
  rw [this]
  simp only [Out.then_ok, l1, lift_some]
end L
section M
variable {n : Nat} {d : D} {bs vs : List D} {sc : D} {Φ : Fn}
def UnitOk (Φ : Fn) (sc : D) (bs : List D) : Prop := ∀ (o0 o1 : DO), Town o0 o1 → ∀ G : Hd, ∃ (p0 p1 : DO) (xs : List D), Town p0 p1 ∧ xs.length = bs.length ∧ (∀ x ∈ xs, frGood x) ∧ Φ "_law_unit" [sc, .ref 1, .tup bs] (o0 :: o1 :: G) = .ok (.tup xs) (p0 :: p1 :: G)
def ExprOk (Φ : Fn) (sc : D) (bs vs : List D) (k : Nat) : Prop := ∀ (o0 o1 : DO), Town o0 o1 → ∀ (z : Int), z = k → ∀ G : Hd, ∃ (p0 p1 : DO) (d : D), Town p0 p1 ∧ ExG bs vs k d ∧ Φ "_law_expression" [sc, .ref 1, .tup bs, .tup vs, .int z] (o0 :: o1 :: G) = .ok d (p0 :: p1 :: G)
theorem ix_nat {G : Hd} {xs : List D} {k : Nat} (h : k < xs.length) : ixD G (.tup xs) (.int k) = some xs[k] := by
  show (ixN xs.length (k : Int)).bind _ = _
  have : ixN xs.length (k : Int) = some k := by
    unfold ixN
    simp
    omega
  rw [this]
  simp [List.getElem?_eq_getElem h]
theorem expr_body (hD : DrawOk Φ sc) (hU : UnitOk Φ sc bs) (hv0 : 0 < vs.length) (hv1 : vs.length < 1000) (k : Nat) (hE : k ≠ 0 → ExprOk Φ sc bs vs k) {o0 o1 : DO} (ht : Town o0 o1) (G : Hd) :
    ∃ (p0 p1 : DO) (d : D), Town p0 p1 ∧ ExG bs vs (k + 1) d ∧ evSs Φ (G.length + 2) b__law_expression [some sc, some (.ref 1), some (.tup bs), some (.tup vs), some (.int ((k + 1 : Nat) : Int)), none, none, none, none, none] (o0 :: o1 :: G) = .ok (.rt d) (p0 :: p1 :: G) := by
  obtain ⟨t, q0, q1, h8, ht1, e1⟩ := drawE (b := G.length + 2) (e := .con (.int 8)) (τ := [some sc, some (.ref 1), some (.tup bs), some (.tup vs), some (.int ((k + 1 : Nat) : Int)), none, none, none, none, none]) hD ht 8 (z := 8) rfl (by decide) (by decide) G (by simp [evEs, evE])
  unfold b__law_expression
  by_cases hc : k = 0 ∨ t < 2
  · -- a leaf
    have hcond : evT Φ (G.length + 2) (.or (.val (.cmp .eq (.var 4) (.con (.int (1))))) (.val (.cmp .lt (.var 5) (.con (.int (2)))))) [some sc, some (.ref 1), some (.tup bs), some (.tup vs), some (.int ((k + 1 : Nat) : Int)), some (.int t), none, none, none, none] (q0 :: q1 :: G) = .ok true (q0 :: q1 :: G) := by
      have a1 : evT Φ (G.length + 2) (.val (.cmp .eq (.var 4) (.con (.int (1))))) [some sc, some (.ref 1), some (.tup bs), some (.tup vs), some (.int ((k + 1 : Nat) : Int)), some (.int t), none, none, none, none] (q0 :: q1 :: G) = .ok (((k + 1 : Nat) : Int) == 1) (q0 :: q1 :: G) := by simp [evT, evE, cmp_eqI]
      rw [or_ok a1]
      by_cases hk : k = 0
      · subst hk
        rfl
      · have : (((k + 1 : Nat) : Int) == 1) = false := beq_eq_false_iff_ne.mpr (by omega)
        rw [this, if_neg (by decide)]
        have h2 : t < 2 := hc.resolve_left hk
        simp [evT, evE]
        omega
    obtain ⟨r0, r1, xs, ht2, hl, hg, eu⟩ := hU q0 q1 ht1 G
    have s2 : evE Φ (G.length + 2) (.call "_law_unit" (.cons (.var 0) (.cons (.var 1) (.cons (.var 2) .nil)))) [some sc, some (.ref 1), some (.tup bs), some (.tup vs), some (.int ((k + 1 : Nat) : Int)), some (.int t), none, none, none, none] (q0 :: q1 :: G) = .ok (.tup xs) (r0 :: r1 :: G) := call_ok (ds := [sc, .ref 1, .tup bs]) (G1 := q0 :: q1 :: G) (by simp [evEs, evE]) eu
    obtain ⟨j, u0, u1, hj, ht3, e3⟩ := drawE (b := G.length + 2) (e := .bi .len (.cons (.var 3) .nil)) (τ := [some sc, some (.ref 1), some (.tup bs), some (.tup vs), some (.int ((k + 1 : Nat) : Int)), some (.int t), some (.tup xs), none, none, none]) hD ht2 vs.length (z := vs.length) rfl hv0 hv1 G (by simp [evEs, evE])
    have s3 := ix_ok' (x := .var 3) (a := .tup vs) (G1 := r0 :: r1 :: G) (show evE Φ (G.length + 2) (.var 3) [some sc, some (.ref 1), some (.tup bs), some (.tup vs), some (.int ((k + 1 : Nat) : Int)), some (.int t), some (.tup xs), none, none, none] (r0 :: r1 :: G) = _ by simp [evE]) e3 (ix_nat hj)
    obtain ⟨i, w0, w1, hi, ht4, e4⟩ := drawE (b := G.length + 2) (e := .con (.int 4)) (τ := [some sc, some (.ref 1), some (.tup bs), some (.tup vs), some (.int ((k + 1 : Nat) : Int)), some (.int t), some (.tup xs), some vs[j], none, none]) hD ht3 4 (z := 4) rfl (by decide) (by decide) G (by simp [evEs, evE])
    have c4 : evT Φ (G.length + 2) (.val (.cmp .gt (.call "_law_draw" (.cons (.var 0) (.cons (.var 1) (.cons (.con (.int (4))) .nil)))) (.con (.int (0))))) [some sc, some (.ref 1), some (.tup bs), some (.tup vs), some (.int ((k + 1 : Nat) : Int)), some (.int t), some (.tup xs), some vs[j], none, none] (u0 :: u1 :: G) = .ok (decide ((0 : Int) < i)) (w0 :: w1 :: G) := val_ok (cmp_ok' e4 con_ok cmp_gtI)
    have last : ∃ d, ExG bs vs (k + 1) d ∧ evE Φ (G.length + 2) (.ifx (.val (.cmp .gt (.call "_law_draw" (.cons (.var 0) (.cons (.var 1) (.cons (.con (.int (4))) .nil)))) (.con (.int (0))))) (.tup (.cons (.con (.str "var")) (.cons (.var 7) .nil))) (.tup (.cons (.con (.str "unit")) (.cons (.var 6) .nil)))) [some sc, some (.ref 1), some (.tup bs), some (.tup vs), some (.int ((k + 1 : Nat) : Int)), some (.int t), some (.tup xs), some vs[j], none, none] (u0 :: u1 :: G) = .ok d (w0 :: w1 :: G) := by
      rw [ifx_ok c4]
      by_cases h0 : (0 : Int) < i
      · refine ⟨.tup [.str "var", vs[j]], .var (List.getElem_mem hj), ?_⟩
        rw [decide_eq_true h0, if_pos rfl]
        simp [evE, evEs]
      · refine ⟨.tup [.str "unit", .tup xs], .unit hl hg, ?_⟩
        rw [decide_eq_false h0, if_neg (by decide)]
        simp [evE, evEs]
    obtain ⟨d, hd, hd2⟩ := last
    refine ⟨w0, w1, d, ht4, hd, ?_⟩
    refine (set_ok e1).trans ?_
    refine seq_rt ((if_yes hcond).trans ?_)
    refine (set_ok s2).trans ?_
    refine (set_ok s3).trans ?_
    exact ret_ok hd2
  · rw [not_or] at hc
    obtain ⟨hk, h2⟩ := hc
    have hcond : evT Φ (G.length + 2) (.or (.val (.cmp .eq (.var 4) (.con (.int (1))))) (.val (.cmp .lt (.var 5) (.con (.int (2)))))) [some sc, some (.ref 1), some (.tup bs), some (.tup vs), some (.int ((k + 1 : Nat) : Int)), some (.int t), none, none, none, none] (q0 :: q1 :: G) = .ok false (q0 :: q1 :: G) := by
      have a1 : evT Φ (G.length + 2) (.val (.cmp .eq (.var 4) (.con (.int (1))))) [some sc, some (.ref 1), some (.tup bs), some (.tup vs), some (.int ((k + 1 : Nat) : Int)), some (.int t), none, none, none, none] (q0 :: q1 :: G) = .ok (((k + 1 : Nat) : Int) == 1) (q0 :: q1 :: G) := by simp [evT, evE, cmp_eqI]
      rw [or_ok a1]
      have : (((k + 1 : Nat) : Int) == 1) = false := beq_eq_false_iff_ne.mpr (by omega)
      rw [this, if_neg (by decide)]
      simp [evT, evE]
      omega
    obtain ⟨r0, r1, a, ht2, ha, ea⟩ := hE hk q0 q1 ht1 (((k + 1 : Nat) : Int) - 1) (by omega) G
    have s2 : evE Φ (G.length + 2) (.call "_law_expression" (.cons (.var 0) (.cons (.var 1) (.cons (.var 2) (.cons (.var 3) (.cons (.bin .sub (.var 4) (.con (.int (1)))) .nil)))))) [some sc, some (.ref 1), some (.tup bs), some (.tup vs), some (.int ((k + 1 : Nat) : Int)), some (.int t), none, none, none, none] (q0 :: q1 :: G) = .ok a (r0 :: r1 :: G) := call_ok (ds := [sc, .ref 1, .tup bs, .tup vs, .int (((k + 1 : Nat) : Int) - 1)]) (G1 := q0 :: q1 :: G) (by simp [evEs, evE]) ea
    let τ : Tau := [some sc, some (.ref 1), some (.tup bs), some (.tup vs), some (.int ((k + 1 : Nat) : Int)), some (.int t), none, none, some a, none]
    have tz : ∀ z : Int, evT Φ (G.length + 2) (.val (.cmp .eq (.var 5) (.con (.int z)))) τ (r0 :: r1 :: G) = .ok ((t : Int) == z) (r0 :: r1 :: G) := fun z => by simp [evT, evE, τ, cmp_eqI]
    have start : ∀ {R : Out Fl}, evSs Φ (G.length + 2) (tailOf (tailOf (tailOf b__law_expression))) τ (r0 :: r1 :: G) = R → evSs Φ (G.length + 2) b__law_expression [some sc, some (.ref 1), some (.tup bs), some (.tup vs), some (.int ((k + 1 : Nat) : Int)), none, none, none, none, none] (o0 :: o1 :: G) = R := by
      intro R h
      unfold b__law_expression at h ⊢
      simp only [tailOf] at h
      refine (set_ok e1).trans ?_
      refine (skip hcond).trans ?_
      exact (set_ok s2).trans h
    by_cases h3 : t = 2
    · obtain ⟨j, u0, u1, hj, ht3, e3⟩ := drawE (b := G.length + 2) (e := .con (.int 9)) (τ := τ) hD ht2 9 (z := 9) rfl (by decide) (by decide) G (by simp [evEs, evE, τ])
      refine ⟨u0, u1, .tup [.str "pow", a, .int ((j : Int) - 4)], ht3, .pow ha (by omega) (by omega), start ?_⟩
      unfold b__law_expression
      simp only [tailOf]
      have c1 := tz 2
      rw [show ((t : Int) == 2) = true by rw [h3]; rfl] at c1
      refine seq_rt ((if_yes c1).trans (ret_ok ?_))
      have v1 := bin_ok (o := .sub) e3 con_ok (rfl : binD _ _ _ (.int 4) = some (.int ((j : Int) - 4)))
      rw [evE]
      have v2 : evE Φ (G.length + 2) (.var 8) τ (r0 :: r1 :: G) = .ok a (r0 :: r1 :: G) := by simp [evE, τ]
      simp only [evEs, con_ok, Out.then_ok, v1, v2]
    · by_cases h4 : t = 3
      · obtain ⟨j, u0, u1, hj, ht3, e3⟩ := drawE (b := G.length + 2) (e := .con (.int 3)) (τ := τ) hD ht2 3 (z := 3) rfl (by decide) (by decide) G (by simp [evEs, evE, τ])
        refine ⟨u0, u1, .tup [.str "root", a, .int (2 + (j : Int))], ht3, .root ha (by omega) (by omega), start ?_⟩
        unfold b__law_expression
        simp only [tailOf]
        have c1 := tz 2
        rw [show ((t : Int) == 2) = false from beq_eq_false_iff_ne.mpr (by omega)] at c1
        have c2 := tz 3
        rw [show ((t : Int) == 3) = true by rw [h4]; rfl] at c2
        refine (skip c1).trans (seq_rt ((if_yes c2).trans (ret_ok ?_)))
        have v1 := bin_ok (o := .add) (x := .con (.int 2)) (r := .int (2 + (j : Int))) con_ok e3 rfl
        rw [evE]
        have v2 : evE Φ (G.length + 2) (.var 8) τ (r0 :: r1 :: G) = .ok a (r0 :: r1 :: G) := by simp [evE, τ]
        simp only [evEs, con_ok, Out.then_ok, v1, v2]
      · obtain ⟨u0, u1, c, ht3, hc', ec⟩ := hE hk r0 r1 ht2 (((k + 1 : Nat) : Int) - 1) (by omega) G
        have s3 : evE Φ (G.length + 2) (.call "_law_expression" (.cons (.var 0) (.cons (.var 1) (.cons (.var 2) (.cons (.var 3) (.cons (.bin .sub (.var 4) (.con (.int (1)))) .nil)))))) τ (r0 :: r1 :: G) = .ok c (u0 :: u1 :: G) := call_ok (ds := [sc, .ref 1, .tup bs, .tup vs, .int (((k + 1 : Nat) : Int) - 1)]) (G1 := r0 :: r1 :: G) (by simp [evEs, evE, τ]) ec
        have c1 := tz 2
        rw [show ((t : Int) == 2) = false from beq_eq_false_iff_ne.mpr (by omega)] at c1
        have c2 := tz 3
        rw [show ((t : Int) == 3) = false from beq_eq_false_iff_ne.mpr (by omega)] at c2
        have hs : ∃ s, two s ∧ ixD (u0 :: u1 :: G) (.lst [.str "mul", .str "div", .str "add", .str "mul"]) (.int ((t : Int) - 4)) = some (.str s) := by
          have : t = 4 ∨ t = 5 ∨ t = 6 ∨ t = 7 := by omega
          rcases this with rfl | rfl | rfl | rfl
          · exact ⟨"mul", .inl rfl, rfl⟩
          · exact ⟨"div", .inr (.inl rfl), rfl⟩
          · exact ⟨"add", .inr (.inr rfl), rfl⟩
          · exact ⟨"mul", .inl rfl, rfl⟩
        obtain ⟨s, hs, hs2⟩ := hs
        refine ⟨u0, u1, .tup [.str s, a, c], ht3, .two hs ha hc', start ?_⟩
        unfold b__law_expression
        simp only [tailOf]
        refine (skip c1).trans ((skip c2).trans ((set_ok s3).trans (ret_ok ?_)))
        simp [evE, evEs, τ, hs2]
theorem expr_run (hns : ∀ n, DrawOk (run T (n + 1)) sc) (hb : bs.length ≤ 3) (hv0 : 0 < vs.length) (hv1 : vs.length < 1000) (hfz : ∀ {k d m} {G : Hd}, ExG bs vs k d → frz 4 m G d = some d) : ∀ (k n : Nat), ExprOk (run T (n + k + 3)) sc bs vs (k + 1)
  | 0, n => fun o0 o1 ht z hz G => by
    obtain ⟨p0, p1, d, h1, h2, h3⟩ := expr_body (Φ := run T (n + 2)) (hns (n + 1)) (fun o0 o1 ht G => unit_run (n := n + 1) (hns n) ht hb G) hv0 hv1 0 (fun z => absurd rfl z) ht G
    refine ⟨p0, p1, d, h1, h2, ?_⟩
    subst hz
    show run T (n + 2 + 1) _ _ _ = _
    rw [run_succ L_expression]
    exact (callF_rt (d := d) (d' := d) (G' := p0 :: p1 :: G) rfl rfl h3 (hfz h2)).trans (by simp)
  | k + 1, n => fun o0 o1 ht z hz G => by
    obtain ⟨p0, p1, d, h1, h2, h3⟩ := expr_body (Φ := run T (n + k + 3)) (hns (n + k + 2)) (fun o0 o1 ht G => unit_run (n := n + k + 2) (hns (n + k + 1)) ht hb G) hv0 hv1 (k + 1) (fun _ => expr_run hns hb hv0 hv1 hfz k n) ht G
    refine ⟨p0, p1, d, h1, h2, ?_⟩
    subst hz
    show run T (n + k + 3 + 1) _ _ _ = _
    rw [run_succ L_expression]
    exact (callF_rt (d := d) (d' := d) (G' := p0 :: p1 :: G) rfl rfl h3 (hfz h2)).trans (by simp)
end M
section N
variable {n : Nat} {d : D} {bs vs : List D} {sc : D} {Φ : Fn}
theorem leaf_wd {k : Nat} (h : leaf d) : Wd k d := by
  cases k with
  | zero => exact h
  | succ k => exact .inl h
theorem fr_wd {k : Nat} (h : frGood d) : Wd (k + 1) d := by
  obtain ⟨t, q, rfl, _⟩ := h
  refine .inr ⟨_, rfl, by simp, fun x hx => leaf_wd ?_⟩
  simp only [List.mem_cons, List.not_mem_nil, or_false] at hx
  rcases hx with rfl | rfl <;> exact .inl ⟨_, rfl⟩
theorem str_leaf {s : Str} (h : PyData.canLay0 (.str s) = true) : leaf (.str s) := .inr ⟨s, rfl, h⟩
theorem ex_wd (hb : bs.length ≤ 3) (hv : ∀ v ∈ vs, leaf v) {k : Nat} (h : ExG bs vs k d) : Wd (k + 2) d := by
  induction h with
  | @var k x h =>
    refine .inr ⟨_, rfl, by simp, fun y hy => leaf_wd ?_⟩
    simp only [List.mem_cons, List.not_mem_nil, or_false] at hy
    rcases hy with rfl | rfl
    · exact str_leaf (by kernel_rfl)
    · exact hv _ h
  | @unit k xs hl h =>
    refine .inr ⟨_, rfl, by simp, fun y hy => ?_⟩
    simp only [List.mem_cons, List.not_mem_nil, or_false] at hy
    rcases hy with rfl | rfl
    · exact leaf_wd (str_leaf (by kernel_rfl))
    · exact .inr ⟨_, rfl, by omega, fun z hz => fr_wd (h z hz)⟩
  | @pow k a i h h1 h2 ih =>
    refine .inr ⟨_, rfl, by simp, fun y hy => ?_⟩
    simp only [List.mem_cons, List.not_mem_nil, or_false] at hy
    rcases hy with rfl | rfl | rfl
    · exact leaf_wd (str_leaf (by kernel_rfl))
    · exact ih
    · exact leaf_wd (.inl ⟨_, rfl⟩)
  | @root k a i h h1 h2 ih =>
    refine .inr ⟨_, rfl, by simp, fun y hy => ?_⟩
    simp only [List.mem_cons, List.not_mem_nil, or_false] at hy
    rcases hy with rfl | rfl | rfl
    · exact leaf_wd (str_leaf (by kernel_rfl))
    · exact ih
    · exact leaf_wd (.inl ⟨_, rfl⟩)
  | @two k s a c hs h1 h2 ih1 ih2 =>
    refine .inr ⟨_, rfl, by simp, fun y hy => ?_⟩
    simp only [List.mem_cons, List.not_mem_nil, or_false] at hy
    rcases hy with rfl | rfl | rfl
    · rcases hs with rfl | rfl | rfl <;> exact leaf_wd (str_leaf (by kernel_rfl))
    · exact ih1
    · exact ih2
theorem frz_wd {G : Hd} : ∀ (j : Nat) {k m : Nat} {d : D}, Wd k d → frz j m G d = some d
  | 0, k, m, d, h => by
    show (if U.closed m d then some d else none) = _
    rw [if_pos (wd_sh h).closed]
  | j + 1, k, m, d, h => by
    have lf : ∀ {d : D}, leaf d → frz (j + 1) m G d = some d := fun {d} h => by
      rcases h with ⟨i, rfl⟩ | ⟨s, rfl, _⟩ <;> rfl
    cases k with
    | zero => exact lf h
    | succ k =>
      rcases h with h | ⟨xs, rfl, _, h⟩
      · exact lf h
      · show (xs.mapM (frz j m G)).map D.tup = _
        rw [mapM_id fun x hx => frz_wd j (h x hx)]
        rfl
structure Heads (bs vs : List D) : Prop where
  vars : Vars vs
  len : bs.length ≤ 3
structure Drawn (bs vs : List D) : Prop extends Heads bs vs where
  b0 : 0 < bs.length
  v0 : 0 < vs.length
  v1 : vs.length < 1000
  bl : ∀ v ∈ bs, leaf v
  vl : ∀ v ∈ vs, leaf v
def basesOf : List (List D) := [[.str "kg"], [.str "kg", .str "m"], [.str "m"], [.str "m", .str "s"]]
def varsOf : List (List D) := [[.str "a"], [.str "a", .str "f"], [.str "a", .str "f", .str "mass"], [.str "a", .str "f", .str "mass", .str "t"]]
theorem strs_leaf : ∀ x ∈ ["kg", "m", "s", "a", "f", "mass", "t"], leaf (.str (Str.ofString x)) := by
  intro x hx
  simp only [List.mem_cons, List.not_mem_nil, or_false] at hx
  rcases hx with rfl | rfl | rfl | rfl | rfl | rfl | rfl <;> exact str_leaf (by kernel_rfl)
theorem drawn_ok (hb : bs ∈ basesOf) (hv : vs ∈ varsOf) : Drawn bs vs := by
  simp only [basesOf, varsOf, List.mem_cons, List.not_mem_nil, or_false] at hb hv
  have lb : bs.length ≤ 3 ∧ 0 < bs.length ∧ ∀ v ∈ bs, leaf v := by
    rcases hb with rfl | rfl | rfl | rfl
    · exact ⟨by decide, by decide, fun v hv => by simp only [List.mem_cons, List.not_mem_nil, or_false] at hv; rcases hv with rfl; exact strs_leaf _ (by simp)⟩
    · exact ⟨by decide, by decide, fun v hv => by simp only [List.mem_cons, List.not_mem_nil, or_false] at hv; rcases hv with rfl | rfl <;> exact strs_leaf _ (by simp)⟩
    · exact ⟨by decide, by decide, fun v hv => by simp only [List.mem_cons, List.not_mem_nil, or_false] at hv; rcases hv with rfl; exact strs_leaf _ (by simp)⟩
    · exact ⟨by decide, by decide, fun v hv => by simp only [List.mem_cons, List.not_mem_nil, or_false] at hv; rcases hv with rfl | rfl <;> exact strs_leaf _ (by simp)⟩
  have lv : 0 < vs.length ∧ vs.length < 1000 ∧ (∀ v ∈ vs, leaf v) ∧ ∀ v ∈ vs, isS v = true := by
    rcases hv with rfl | rfl | rfl | rfl
    · exact ⟨by decide, by decide, fun v hv => by simp only [List.mem_cons, List.not_mem_nil, or_false] at hv; rcases hv with rfl; exact strs_leaf _ (by simp), fun v hv => by simp only [List.mem_cons, List.not_mem_nil, or_false] at hv; rcases hv with rfl; rfl⟩
    · exact ⟨by decide, by decide, fun v hv => by simp only [List.mem_cons, List.not_mem_nil, or_false] at hv; rcases hv with rfl | rfl <;> exact strs_leaf _ (by simp), fun v hv => by simp only [List.mem_cons, List.not_mem_nil, or_false] at hv; rcases hv with rfl | rfl <;> rfl⟩
    · exact ⟨by decide, by decide, fun v hv => by simp only [List.mem_cons, List.not_mem_nil, or_false] at hv; rcases hv with rfl | rfl | rfl <;> exact strs_leaf _ (by simp), fun v hv => by simp only [List.mem_cons, List.not_mem_nil, or_false] at hv; rcases hv with rfl | rfl | rfl <;> rfl⟩
    · exact ⟨by decide, by decide, fun v hv => by simp only [List.mem_cons, List.not_mem_nil, or_false] at hv; rcases hv with rfl | rfl | rfl | rfl <;> exact strs_leaf _ (by simp), fun v hv => by simp only [List.mem_cons, List.not_mem_nil, or_false] at hv; rcases hv with rfl | rfl | rfl | rfl <;> rfl⟩
  exact ⟨⟨⟨lv.2.2.2⟩, lb.1⟩, lb.2.1, lv.1, lv.2.1, lb.2.2, lv.2.2.1⟩
theorem exprs_run (hns : ∀ n, DrawOk (run T (n + 1)) sc) (H : Drawn bs vs) (k n : Nat) : ExprOk (run T (n + k + 3)) sc bs vs (k + 1) := expr_run hns H.len H.v0 H.v1 (fun h => frz_wd 4 (ex_wd H.len H.vl h)) k n
end N
end K04

set_option Elab.async false
set_option linter.all false
set_option maxRecDepth 100000
/-! K04C: sums and products of fractions and of units. -/
namespace K04
open PySem L2 U
def fplus (a b : Fr) : Fr := low (a.1 * b.2 + b.1 * a.2) (a.2 * b.2)
def fminus (a b : Fr) : Fr := low (a.1 * b.2 - b.1 * a.2) (a.2 * b.2)
def ftimes (a b : Fr) : Fr := low (a.1 * b.1) (a.2 * b.2)
theorem mul_ok {i j : Int} {M : Nat} (h : i.natAbs ≤ M) (hM : M ≤ 2 ^ 60) : mulOk i j = true := by
  unfold mulOk
  rw [decide_eq_true (show i.natAbs < 2 ^ 64 by omega)]
  rfl
theorem abs_mul {a b : Int} {M N : Nat} (ha : a.natAbs ≤ M) (hb : b.natAbs ≤ N) : (a * b).natAbs ≤ M * N := by
  rw [Int.natAbs_mul]
  exact Nat.mul_le_mul ha hb
theorem sq_le {M : Nat} (hM : M ≤ 2 ^ 60) : M * M ≤ 2 ^ 60 * 2 ^ 60 := Nat.mul_le_mul hM hM
section
variable {n : Nat} {G : Hd} {a b : Fr} {M : Nat}
theorem den_ok (ha : Bd M a) (hb : Bd M b) (hM : M ≤ 2 ^ 60) : 0 < a.2 * b.2 ∧ a.2 * b.2 < 2 ^ 200 := by
  have h1 := Int.mul_pos ha.2.1 hb.2.1
  have h2 := abs_mul ha.2.2 hb.2.2
  have h3 := sq_le hM
  omega
theorem L_plus : T.lookup ("plus" : Str) = some r_plus.fd := by kernel_rfl
theorem L_minus : T.lookup ("minus" : Str) = some r_minus.fd := by kernel_rfl
theorem L_times : T.lookup ("times" : Str) = some r_times.fd := by kernel_rfl
theorem L_ladd : T.lookup ("_law_add" : Str) = some r__law_add.fd := by kernel_rfl
theorem L_lmul : T.lookup ("_law_mul" : Str) = some r__law_mul.fd := by kernel_rfl
theorem E_plus (ha : Bd M a) (hb : Bd M b) (hM : M ≤ 2 ^ 60) : run T (n + 2) "plus" [fD a, fD b] G = .ok (fD (fplus a b)) G := by
  obtain ⟨a1, a2⟩ := a
  obtain ⟨b1, b2⟩ := b
  obtain ⟨h1, h2⟩ := den_ok ha hb hM
  rw [run_succ L_plus]
  refine callF_rtG rfl rfl ?_ frz_fr
  show evSs _ _ b_plus [some (.tup [.int a1, .int a2]), some (.tup [.int b1, .int b2])] G = _
  unfold b_plus
  have m1 := bin_mulI (G := G) (i := a1) (j := b2) (mul_ok ha.1 hM)
  have m2 := bin_mulI (G := G) (i := b1) (j := a2) (mul_ok hb.1 hM)
  have m3 := bin_mulI (G := G) (i := a2) (j := b2) (mul_ok ha.2.2 hM)
  have m4 : binD G .add (.int (a1 * b2)) (.int (b1 * a2)) = some (.int (a1 * b2 + b1 * a2)) := rfl
  refine ret_ok (call_ok (ds := [.int (a1 * b2 + b1 * a2), .int (a2 * b2)]) (G1 := G) ?_ (E_fraction h1 h2))
  simp only [evEs, evE, Out.then_ok, List.getElem?_cons_zero, List.getElem?_cons_succ, lift_some, ix0', ix1', m1, m2, m3, m4]
theorem E_minus (ha : Bd M a) (hb : Bd M b) (hM : M ≤ 2 ^ 60) : run T (n + 2) "minus" [fD a, fD b] G = .ok (fD (fminus a b)) G := by
  obtain ⟨a1, a2⟩ := a
  obtain ⟨b1, b2⟩ := b
  obtain ⟨h1, h2⟩ := den_ok ha hb hM
  rw [run_succ L_minus]
  refine callF_rtG rfl rfl ?_ frz_fr
  show evSs _ _ b_minus [some (.tup [.int a1, .int a2]), some (.tup [.int b1, .int b2])] G = _
  unfold b_minus
  have m1 := bin_mulI (G := G) (i := a1) (j := b2) (mul_ok ha.1 hM)
  have m2 := bin_mulI (G := G) (i := b1) (j := a2) (mul_ok hb.1 hM)
  have m3 := bin_mulI (G := G) (i := a2) (j := b2) (mul_ok ha.2.2 hM)
  have m4 : binD G .sub (.int (a1 * b2)) (.int (b1 * a2)) = some (.int (a1 * b2 - b1 * a2)) := rfl
  refine ret_ok (call_ok (ds := [.int (a1 * b2 - b1 * a2), .int (a2 * b2)]) (G1 := G) ?_ (E_fraction h1 h2))
  simp only [evEs, evE, Out.then_ok, List.getElem?_cons_zero, List.getElem?_cons_succ, lift_some, ix0', ix1', m1, m2, m3, m4]
theorem E_times (ha : Bd M a) (hb : Bd M b) (hM : M ≤ 2 ^ 60) : run T (n + 2) "times" [fD a, fD b] G = .ok (fD (ftimes a b)) G := by
  obtain ⟨a1, a2⟩ := a
  obtain ⟨b1, b2⟩ := b
  obtain ⟨h1, h2⟩ := den_ok ha hb hM
  rw [run_succ L_times]
  refine callF_rtG rfl rfl ?_ frz_fr
  show evSs _ _ b_times [some (.tup [.int a1, .int a2]), some (.tup [.int b1, .int b2])] G = _
  unfold b_times
  have m1 := bin_mulI (G := G) (i := a1) (j := b1) (mul_ok ha.1 hM)
  have m3 := bin_mulI (G := G) (i := a2) (j := b2) (mul_ok ha.2.2 hM)
  refine ret_ok (call_ok (ds := [.int (a1 * b1), .int (a2 * b2)]) (G1 := G) ?_ (E_fraction h1 h2))
  simp only [evEs, evE, Out.then_ok, List.getElem?_cons_zero, List.getElem?_cons_succ, lift_some, ix0', ix1', m1, m3]
theorem E_ladd (ha : Bd M a) (hb : Bd M b) (hM : M ≤ 2 ^ 60) : run T (n + 2) "_law_add" [fD a, fD b] G = .ok (fD (fplus a b)) G := by
  obtain ⟨a1, a2⟩ := a
  obtain ⟨b1, b2⟩ := b
  obtain ⟨h1, h2⟩ := den_ok ha hb hM
  rw [run_succ L_ladd]
  refine callF_rtG rfl rfl ?_ frz_fr
  show evSs _ _ b__law_add [some (.tup [.int a1, .int a2]), some (.tup [.int b1, .int b2])] G = _
  unfold b__law_add
  have m1 := bin_mulI (G := G) (i := a1) (j := b2) (mul_ok ha.1 hM)
  have m2 := bin_mulI (G := G) (i := b1) (j := a2) (mul_ok hb.1 hM)
  have m3 := bin_mulI (G := G) (i := a2) (j := b2) (mul_ok ha.2.2 hM)
  have m4 : binD G .add (.int (a1 * b2)) (.int (b1 * a2)) = some (.int (a1 * b2 + b1 * a2)) := rfl
  refine ret_ok (call_ok (ds := [.int (a1 * b2 + b1 * a2), .int (a2 * b2)]) (G1 := G) ?_ (E_low h1 h2))
  simp only [evEs, evE, Out.then_ok, List.getElem?_cons_zero, List.getElem?_cons_succ, lift_some, ix0', ix1', m1, m2, m3, m4]
theorem E_lmul (ha : Bd M a) (hb : Bd M b) (hM : M ≤ 2 ^ 60) : run T (n + 2) "_law_mul" [fD a, fD b] G = .ok (fD (ftimes a b)) G := by
  obtain ⟨a1, a2⟩ := a
  obtain ⟨b1, b2⟩ := b
  obtain ⟨h1, h2⟩ := den_ok ha hb hM
  rw [run_succ L_lmul]
  refine callF_rtG rfl rfl ?_ frz_fr
  show evSs _ _ b__law_mul [some (.tup [.int a1, .int a2]), some (.tup [.int b1, .int b2])] G = _
  unfold b__law_mul
  have m1 := bin_mulI (G := G) (i := a1) (j := b1) (mul_ok ha.1 hM)
  have m3 := bin_mulI (G := G) (i := a2) (j := b2) (mul_ok ha.2.2 hM)
  refine ret_ok (call_ok (ds := [.int (a1 * b1), .int (a2 * b2)]) (G1 := G) ?_ (E_low h1 h2))
  simp only [evEs, evE, Out.then_ok, List.getElem?_cons_zero, List.getElem?_cons_succ, lift_some, ix0', ix1', m1, m3]
/-! ### plain laws -/
theorem plus_nf (ha : Bd M a) (hb : Bd M b) : Nf (fplus a b) := low_nf (Int.mul_pos ha.2.1 hb.2.1)
theorem minus_nf (ha : Bd M a) (hb : Bd M b) : Nf (fminus a b) := low_nf (Int.mul_pos ha.2.1 hb.2.1)
theorem times_nf (ha : Bd M a) (hb : Bd M b) : Nf (ftimes a b) := low_nf (Int.mul_pos ha.2.1 hb.2.1)
theorem plus_bd (ha : Bd M a) (hb : Bd M b) : Bd (2 * (M * M)) (fplus a b) := by
  have h1 := abs_mul ha.1 hb.2.2
  have h2 := abs_mul hb.1 ha.2.2
  have h3 := abs_mul ha.2.2 hb.2.2
  exact low_bd (Int.mul_pos ha.2.1 hb.2.1) (by omega) (by omega)
theorem minus_bd (ha : Bd M a) (hb : Bd M b) : Bd (2 * (M * M)) (fminus a b) := by
  have h1 := abs_mul ha.1 hb.2.2
  have h2 := abs_mul hb.1 ha.2.2
  have h3 := abs_mul ha.2.2 hb.2.2
  exact low_bd (Int.mul_pos ha.2.1 hb.2.1) (by omega) (by omega)
theorem times_bd {N : Nat} (ha : Bd M a) (hb : Bd N b) : Bd (M * N) (ftimes a b) := by
  have h1 := abs_mul ha.1 hb.1
  have h3 := abs_mul ha.2.2 hb.2.2
  exact low_bd (Int.mul_pos ha.2.1 hb.2.1) h1 h3
theorem Bd.mono {N : Nat} (h : Bd M a) (hN : M ≤ N) : Bd N a := ⟨by have := h.1; omega, h.2.1, by have := h.2.2; omega⟩
theorem times_one (h : Nf a) : ftimes (1, 1) a = a := by
  unfold ftimes
  simp only [Int.one_mul]
  exact low_id h
theorem times_neg (h : Nf a) : ftimes (-1, 1) a = (-a.1, a.2) := by
  unfold ftimes
  simp only [Int.one_mul, Int.neg_mul]
  exact low_id (q := (-a.1, a.2)) ⟨h.1, by show Int.gcd (-a.1) a.2 = 1; rw [Int.neg_gcd]; exact h.2⟩
theorem plus_neg : fplus a (-b.1, b.2) = fminus a b := by
  unfold fplus fminus
  simp only [Int.neg_mul, Int.sub_eq_add_neg]
theorem minus_zero (ha : Nf a) (hb : Nf b) : fminus a b = (0, 1) ↔ a = b := by
  constructor
  · intro h
    obtain ⟨g, _, _, h1, _⟩ := low_mul (p := a.1 * b.2 - b.1 * a.2) (q := a.2 * b.2) (Int.mul_pos ha.1 hb.1)
    have : low (a.1 * b.2 - b.1 * a.2) (a.2 * b.2) = (0, 1) := h
    rw [this] at h1
    simp only [Int.zero_mul] at h1
    exact nf_inj ha hb (by omega)
  · intro h
    subst h
    unfold fminus low
    have hp := Int.mul_pos ha.1 ha.1
    rw [Int.sub_self, Int.gcd_zero_left]
    have e : ((a.2 * a.2).natAbs : Int) = a.2 * a.2 := by omega
    rw [e, Int.zero_fdiv, Int.fdiv_self (by omega)]
end
/-! ### units -/
section
variable {n : Nat} {G : Hd} {Φ : Fn} {b : Nat} {τ : Tau} {u v : List Fr} {M : Nat}
theorem lcGo_zip {turn : D → Hd → Out (Option D)} {g : Fr → Fr → Fr} : ∀ {u v : List Fr} {acc : List D}, (∀ p ∈ u, ∀ q ∈ v, turn (.tup [fD p, fD q]) G = .ok (some (fD (g p q))) G) → lcGo turn (zipD (u.map fD) (v.map fD)) acc G = .ok (acc ++ (List.zipWith g u v).map fD) G
  | [], _, acc, _ => by simp [zipD, lcGo]
  | _ :: _, [], acc, _ => by simp [zipD, lcGo]
  | p :: u, q :: v, acc, h => by
    have ih := fun acc => lcGo_zip (turn := turn) (g := g) (u := u) (v := v) (acc := acc) fun p hp q hq => h p (List.mem_cons_of_mem _ hp) q (List.mem_cons_of_mem _ hq)
    simp only [List.map_cons, zipD, lcGo, h p List.mem_cons_self q List.mem_cons_self, Out.then_ok, ih, List.zipWith_cons_cons, List.append_assoc, List.cons_append, List.nil_append]
theorem zip_len : ∀ {u v : List D}, (zipD u v).length ≤ u.length
  | [], _ => by simp [zipD]
  | _ :: _, [] => by simp [zipD]
  | _ :: u, _ :: v => by
    have := zip_len (u := u) (v := v)
    simp only [zipD, List.length_cons]
    omega
theorem lc_zip {e : ME} {i j : Nat} {it : MI} {own : List Nat} {g : Fr → Fr → Fr} (hi : evI Φ b it τ G = .ok (.items (zipD (u.map fD) (v.map fD))) G) (hl : u.length ≤ 1000) (h : ∀ p ∈ u, ∀ q ∈ v, evE Φ b e (((wipeD τ own).set i (some (fD p))).set j (some (fD q))) G = .ok (fD (g p q)) G) :
    evE Φ b (.bi .tuple (.cons (.lc e (.tpc (.nam i) (.tpc (.nam j) .tp0)) it .yes own) .nil)) τ G = .ok (uD (List.zipWith g u v)) G := by
  have q1 : evE Φ b (.lc e (.tpc (.nam i) (.tpc (.nam j) .tp0)) it .yes own) τ G = .ok (.lst ((List.zipWith g u v).map fD)) G := by
    rw [evE, hi]
    simp only [Out.then_ok]
    rw [if_pos (by have := zip_len (u := u.map fD) (v := v.map fD); rw [List.length_map] at this; show _ ≤ 16777216; omega)]
    have q := lcGo_zip (turn := lcTurn Φ b e (.tpc (.nam i) (.tpc (.nam j) .tp0)) .yes own τ) (G := G) (g := g) (u := u) (v := v) (acc := []) (by
      intro p hp q hq
      unfold lcTurn
      simp only [bindT, Option.bind_some, evT, Out.then_ok, if_true, h p hp q hq, noexc_ok])
    show ((lcGo (lcTurn Φ b e (.tpc (.nam i) (.tpc (.nam j) .tp0)) .yes own τ) (zipD (u.map fD) (v.map fD)) [] G).then fun ds G => Out.ok (D.lst ds) G) = _
    rw [q]
    rfl
  rw [evE]
  simp only [evEs, q1, Out.then_ok]
  rfl
theorem lc_each {e : ME} {i : Nat} {it : MI} {own : List Nat} {g : Fr → Fr} (hi : evI Φ b it τ G = .ok (.items (u.map fD)) G) (hl : u.length ≤ 1000) (h : ∀ p ∈ u, evE Φ b e ((wipeD τ own).set i (some (fD p))) G = .ok (fD (g p)) G) :
    evE Φ b (.bi .tuple (.cons (.lc e (.nam i) it .yes own) .nil)) τ G = .ok (uD (u.map g)) G := by
  have go : ∀ {u : List Fr} {acc : List D}, (∀ p ∈ u, evE Φ b e ((wipeD τ own).set i (some (fD p))) G = .ok (fD (g p)) G) → lcGo (lcTurn Φ b e (.nam i) .yes own τ) (u.map fD) acc G = .ok (acc ++ (u.map g).map fD) G := by
    intro u
    induction u with
    | nil => intro acc _; simp [lcGo]
    | cons p u ih =>
      intro acc h
      have t : lcTurn Φ b e (.nam i) .yes own τ (fD p) G = .ok (some (fD (g p))) G := by
        unfold lcTurn
        simp only [bindT, evT, Out.then_ok, if_true, h p List.mem_cons_self, noexc_ok]
      simp only [List.map_cons, lcGo, t, Out.then_ok, ih fun p hp => h p (List.mem_cons_of_mem _ hp), List.append_assoc, List.cons_append, List.nil_append]
  have q1 : evE Φ b (.lc e (.nam i) it .yes own) τ G = .ok (.lst ((u.map g).map fD)) G := by
    rw [evE, hi]
    simp only [Out.then_ok]
    rw [if_pos (by rw [List.length_map]; show _ ≤ 16777216; omega)]
    show ((lcGo (lcTurn Φ b e (.nam i) .yes own τ) (u.map fD) [] G).then fun ds G => Out.ok (D.lst ds) G) = _
    rw [go h]
    rfl
  rw [evE]
  simp only [evEs, q1, Out.then_ok]
  rfl
theorem L_product : T.lookup ("product" : Str) = some r_product.fd := by kernel_rfl
theorem L_quotient : T.lookup ("quotient" : Str) = some r_quotient.fd := by kernel_rfl
theorem L_power : T.lookup ("power" : Str) = some r_power.fd := by kernel_rfl
theorem L_lplus : T.lookup ("_law_plus" : Str) = some r__law_plus.fd := by kernel_rfl
structure Us (M : Nat) (u : List Fr) : Prop where
  bd : ∀ q ∈ u, Bd M q
  nf : ∀ q ∈ u, Nf q
  le : u.length ≤ 1000
theorem frz_u {m : Nat} : frz 4 m G (uD u) = some (uD u) := frz_py 4 (py_u u)
theorem E_product (hu : Us M u) (hv : Us M v) (hM : M ≤ 2 ^ 60) : run T (n + 3) "product" [uD u, uD v] G = .ok (uD (List.zipWith fplus u v)) G := by
  rw [run_succ L_product]
  refine callF_rtG rfl rfl ?_ frz_u
  show evSs _ _ b_product [some (uD u), some (uD v), none, none] G = _
  unfold b_product
  refine ret_ok (lc_zip ?_ hu.le ?_)
  · simp only [evI, evE, Out.then_ok, List.getElem?_cons_zero, List.getElem?_cons_succ]
    rfl
  · intro p hp q hq
    exact call_ok (ds := [fD p, fD q]) (G1 := G) (by simp [evEs, evE, wipeD]) (E_plus (hu.bd p hp) (hv.bd q hq) hM)
theorem E_quotient (hu : Us M u) (hv : Us M v) (hM : M ≤ 2 ^ 60) : run T (n + 3) "quotient" [uD u, uD v] G = .ok (uD (List.zipWith fminus u v)) G := by
  rw [run_succ L_quotient]
  refine callF_rtG rfl rfl ?_ frz_u
  show evSs _ _ b_quotient [some (uD u), some (uD v), none, none] G = _
  unfold b_quotient
  refine ret_ok (lc_zip ?_ hu.le ?_)
  · simp only [evI, evE, Out.then_ok, List.getElem?_cons_zero, List.getElem?_cons_succ]
    rfl
  · intro p hp q hq
    exact call_ok (ds := [fD p, fD q]) (G1 := G) (by simp [evEs, evE, wipeD]) (E_minus (hu.bd p hp) (hv.bd q hq) hM)
theorem E_power {f : Fr} (hu : Us M u) (hf : Bd M f) (hM : M ≤ 2 ^ 60) : run T (n + 3) "power" [uD u, fD f] G = .ok (uD (u.map fun q => ftimes q f)) G := by
  rw [run_succ L_power]
  refine callF_rtG rfl rfl ?_ frz_u
  show evSs _ _ b_power [some (uD u), some (fD f), none] G = _
  unfold b_power
  refine ret_ok (lc_each (g := fun q => ftimes q f) ?_ hu.le ?_)
  · simp only [evI, evE, Out.then_ok, List.getElem?_cons_zero, List.getElem?_cons_succ]
    rfl
  · intro p hp
    exact call_ok (ds := [fD p, fD f]) (G1 := G) (by simp [evEs, evE, wipeD]) (E_times (hu.bd p hp) hf hM)
theorem E_lplus1 (hu : Us M u) (hv : Us M v) (hM : M ≤ 2 ^ 60) (h1 : 1 ≤ M) : run T (n + 3) "_law_plus" [uD u, fD (1, 1), uD v] G = .ok (uD (List.zipWith fplus u v)) G := by
  rw [run_succ L_lplus]
  refine callF_rtG rfl rfl ?_ frz_u
  show evSs _ _ b__law_plus [some (uD u), some (fD (1, 1)), some (uD v), none, none] G = _
  unfold b__law_plus
  refine ret_ok (lc_zip ?_ hu.le ?_)
  · simp only [evI, evE, Out.then_ok, List.getElem?_cons_zero, List.getElem?_cons_succ]
    rfl
  · intro p hp q hq
    have hm : run T (n + 2) "_law_mul" [fD (1, 1), fD q] G = .ok (fD q) G := by
      rw [E_lmul (a := (1, 1)) (M := M) ⟨h1, by decide, h1⟩ (hv.bd q hq) hM, times_one (hv.nf q hq)]
    refine call_ok (ds := [fD p, fD q]) (G1 := G) ?_ (E_ladd (hu.bd p hp) (hv.bd q hq) hM)
    simp [evEs, evE, wipeD, hm]
theorem E_lplus2 (hu : Us M u) (hv : Us M v) (hM : M ≤ 2 ^ 60) (h1 : 1 ≤ M) : run T (n + 3) "_law_plus" [uD u, fD (-1, 1), uD v] G = .ok (uD (List.zipWith fminus u v)) G := by
  rw [run_succ L_lplus]
  refine callF_rtG rfl rfl ?_ frz_u
  show evSs _ _ b__law_plus [some (uD u), some (fD (-1, 1)), some (uD v), none, none] G = _
  unfold b__law_plus
  refine ret_ok (lc_zip ?_ hu.le ?_)
  · simp only [evI, evE, Out.then_ok, List.getElem?_cons_zero, List.getElem?_cons_succ]
    rfl
  · intro p hp q hq
    have hm : run T (n + 2) "_law_mul" [fD (-1, 1), fD q] G = .ok (fD (-q.1, q.2)) G := by
      rw [E_lmul (a := (-1, 1)) (M := M) ⟨by show Int.natAbs (-1) ≤ M; omega, by decide, h1⟩ (hv.bd q hq) hM, times_neg (hv.nf q hq)]
    have hb := hv.bd q hq
    have hn : Bd M (-q.1, q.2) := ⟨by show (-q.1).natAbs ≤ M; rw [Int.natAbs_neg]; exact hb.1, hb.2⟩
    refine call_ok (ds := [fD p, fD (-q.1, q.2)]) (G1 := G) ?_ (by rw [E_ladd (hu.bd p hp) hn hM, plus_neg])
    simp [evEs, evE, wipeD, hm]
end
end K04

set_option Elab.async false
set_option linter.all false
set_option maxRecDepth 100000
/-! K04Q: fractions as rational numbers; sums of products. -/
namespace K04
open PySem L2 U
def rv (q : Fr) : Rat := (q.1 : Rat) / (q.2 : Rat)
theorem cast_ne {q : Int} (h : 0 < q) : (q : Rat) ≠ 0 := fun e => by
  have : q = 0 := by exact_mod_cast e
  omega
theorem rv_low {p q : Int} (hq : 0 < q) : rv (low p q) = (p : Rat) / (q : Rat) := by
  obtain ⟨g, h0, _, h1, h2⟩ := low_mul (p := p) hq
  have hl : (low p q).2 ≠ 0 := fun z => by rw [z, Int.zero_mul] at h2; omega
  have hg : ((g : Int) : Rat) ≠ 0 := cast_ne (by omega)
  have hl' : ((low p q).2 : Rat) ≠ 0 := fun e => hl (by exact_mod_cast e)
  have e1 : (p : Rat) = ((low p q).1 : Rat) * ((g : Int) : Rat) := by rw [← Rat.intCast_mul, ← h1]
  have e2 : (q : Rat) = ((low p q).2 : Rat) * ((g : Int) : Rat) := by rw [← Rat.intCast_mul, ← h2]
  unfold rv
  rw [e1, e2]
  grind
theorem rv_plus {a b : Fr} (ha : 0 < a.2) (hb : 0 < b.2) : rv (fplus a b) = rv a + rv b := by
  unfold fplus
  rw [rv_low (Int.mul_pos ha hb)]
  have h1 := cast_ne ha
  have h2 := cast_ne hb
  unfold rv
  rw [Rat.intCast_add, Rat.intCast_mul, Rat.intCast_mul, Rat.intCast_mul]
  grind
theorem rv_minus {a b : Fr} (ha : 0 < a.2) (hb : 0 < b.2) : rv (fminus a b) = rv a - rv b := by
  unfold fminus
  rw [rv_low (Int.mul_pos ha hb)]
  have h1 := cast_ne ha
  have h2 := cast_ne hb
  unfold rv
  rw [Rat.intCast_sub, Rat.intCast_mul, Rat.intCast_mul, Rat.intCast_mul]
  grind
theorem rv_times {a b : Fr} (ha : 0 < a.2) (hb : 0 < b.2) : rv (ftimes a b) = rv a * rv b := by
  unfold ftimes
  rw [rv_low (Int.mul_pos ha hb)]
  have h1 := cast_ne ha
  have h2 := cast_ne hb
  unfold rv
  rw [Rat.intCast_mul, Rat.intCast_mul]
  grind
theorem rv_inj {a b : Fr} (ha : Nf a) (hb : Nf b) (h : rv a = rv b) : a = b := by
  refine nf_inj ha hb ?_
  have h1 := cast_ne ha.1
  have h2 := cast_ne hb.1
  unfold rv at h
  have : (a.1 : Rat) * (b.2 : Rat) = (b.1 : Rat) * (a.2 : Rat) := by grind
  rw [← Rat.intCast_mul, ← Rat.intCast_mul] at this
  exact_mod_cast this
theorem rv_neg {a : Fr} : rv (0 - a.1, a.2) = - rv a := by
  unfold rv
  show ((0 - a.1 : Int) : Rat) / _ = _
  rw [Rat.intCast_sub]
  grind
theorem rv_zero : rv (0, 1) = 0 := by
  unfold rv
  grind
theorem rv_one : rv (1, 1) = 1 := by
  unfold rv
  grind
/-- the sum of products -/
def dot : List Rat → List Rat → Rat
  | a :: as, b :: bs => a * b + dot as bs
  | _, _ => 0
theorem dot_nil {b : List Rat} : dot [] b = 0 := by cases b <;> rfl
theorem dot_plus : ∀ {c e : List Fr} {x : List Rat}, c.length = e.length → (∀ q ∈ c, 0 < q.2) → (∀ q ∈ e, 0 < q.2) → dot ((List.zipWith fplus c e).map rv) x = dot (c.map rv) x + dot (e.map rv) x
  | [], [], x, _, _, _ => by simp [dot_nil]; grind
  | p :: c, q :: e, [], _, _, _ => by simp [dot]; grind
  | p :: c, q :: e, y :: x, h, h1, h2 => by
    have ih := dot_plus (c := c) (e := e) (x := x) (by simpa using h) (fun q hq => h1 q (List.mem_cons_of_mem _ hq)) fun q hq => h2 q (List.mem_cons_of_mem _ hq)
    simp only [List.zipWith_cons_cons, List.map_cons, dot, ih, rv_plus (h1 p List.mem_cons_self) (h2 q List.mem_cons_self)]
    grind
  | [], _ :: _, _, h, _, _ => by cases h
  | _ :: _, [], _, h, _, _ => by cases h
theorem dot_minus : ∀ {c e : List Fr} {x : List Rat}, c.length = e.length → (∀ q ∈ c, 0 < q.2) → (∀ q ∈ e, 0 < q.2) → dot ((List.zipWith fminus c e).map rv) x = dot (c.map rv) x - dot (e.map rv) x
  | [], [], x, _, _, _ => by simp [dot_nil]; grind
  | p :: c, q :: e, [], _, _, _ => by simp [dot]; grind
  | p :: c, q :: e, y :: x, h, h1, h2 => by
    have ih := dot_minus (c := c) (e := e) (x := x) (by simpa using h) (fun q hq => h1 q (List.mem_cons_of_mem _ hq)) fun q hq => h2 q (List.mem_cons_of_mem _ hq)
    simp only [List.zipWith_cons_cons, List.map_cons, dot, ih, rv_minus (h1 p List.mem_cons_self) (h2 q List.mem_cons_self)]
    grind
  | [], _ :: _, _, h, _, _ => by cases h
  | _ :: _, [], _, h, _, _ => by cases h
theorem dot_times {f : Fr} (hf : 0 < f.2) : ∀ {c : List Fr} {x : List Rat}, (∀ q ∈ c, 0 < q.2) → dot ((c.map fun q => ftimes q f).map rv) x = dot (c.map rv) x * rv f
  | [], x, _ => by simp [dot_nil]
  | p :: c, [], _ => by simp [dot]
  | p :: c, y :: x, h1 => by
    have ih := dot_times hf (c := c) (x := x) fun q hq => h1 q (List.mem_cons_of_mem _ hq)
    simp only [List.map_cons, dot, ih, rv_times (h1 p List.mem_cons_self) hf]
    grind
/-- the j-th unit row of n -/
def ev (n j : Nat) : List Fr := (List.range n).map fun i => if i = j then (1, 1) else (0, 1)
theorem ev_len {n j : Nat} : (ev n j).length = n := by simp [ev]
theorem ev_zero {n : Nat} : ev (n + 1) 0 = (1, 1) :: List.replicate n (0, 1) := by
  unfold ev
  rw [List.range_succ_eq_map, List.map_cons, List.map_map, if_pos rfl]
  congr 1
  apply List.ext_getElem (by simp)
  intro i h1 h2
  simp
theorem ev_succ {n j : Nat} : ev (n + 1) (j + 1) = (0, 1) :: ev n j := by
  unfold ev
  rw [List.range_succ_eq_map, List.map_cons, List.map_map, if_neg (by omega)]
  congr 1
  apply List.map_congr_left
  intro i _
  simp
theorem dot_rep : ∀ {n : Nat} {x : List Rat}, dot ((List.replicate n (0, 1)).map rv) x = 0
  | 0, x => dot_nil
  | n + 1, [] => rfl
  | n + 1, y :: x => by
    have ih := dot_rep (n := n) (x := x)
    simp only [List.replicate_succ, List.map_cons, dot, ih, rv_zero]
    grind
theorem dot_ev : ∀ {n j : Nat} {x : List Rat}, x.length = n → j < n → dot ((ev n j).map rv) x = x.getD j 0
  | 0, _, _, _, h => absurd h (Nat.not_lt_zero _)
  | n + 1, 0, y :: x, _, _ => by
    have ih := dot_rep (n := n) (x := x)
    simp only [ev_zero, List.map_cons, dot, ih, rv_one, List.getD_cons_zero]
    grind
  | n + 1, j + 1, y :: x, h, hj => by
    have ih := dot_ev (n := n) (j := j) (x := x) (by simpa using h) (by omega)
    simp only [ev_succ, List.map_cons, dot, ih, rv_zero, List.getD_cons_succ]
    grind
  | n + 1, _, [], h, _ => by cases h
/-- the i-th component of each -/
def col (w : List (List Fr)) (i : Nat) : List Rat := w.map fun u => rv (u.getD i (0, 1))
theorem getD_zip {g : Fr → Fr → Fr} {u v : List Fr} {i : Nat} (hu : i < u.length) (hv : i < v.length) {z : Fr} : (List.zipWith g u v).getD i z = g (u.getD i z) (v.getD i z) := by
  simp [List.getD_eq_getElem?_getD, List.getElem?_eq_getElem hu, List.getElem?_eq_getElem hv, List.getElem?_zipWith]
theorem getD_mem {u : List Fr} {i : Nat} (hu : i < u.length) {z : Fr} : u.getD i z ∈ u := by
  rw [List.getD_eq_getElem?_getD, List.getElem?_eq_getElem hu]
  exact List.getElem_mem hu
theorem getD_map {g : Fr → Fr} {u : List Fr} {i : Nat} (hu : i < u.length) {z : Fr} : (u.map g).getD i z = g (u.getD i z) := by
  simp [List.getD_eq_getElem?_getD, List.getElem?_eq_getElem hu]
theorem ext_rv {u v : List Fr} (hl : u.length = v.length) (hu : ∀ q ∈ u, Nf q) (hv : ∀ q ∈ v, Nf q) (h : ∀ i, i < u.length → rv (u.getD i (0, 1)) = rv (v.getD i (0, 1))) : u = v := by
  apply List.ext_getElem hl
  intro i h1 h2
  have := h i h1
  simp only [List.getD_eq_getElem?_getD, List.getElem?_eq_getElem h1, List.getElem?_eq_getElem h2, Option.getD_some] at this
  exact rv_inj (hu _ (List.getElem_mem h1)) (hv _ (List.getElem_mem h2)) this
/-- what an expression's unit is at w: the constant, and the sum of the variables -/
def AtW (w : List (List Fr)) (c u u' : List Fr) : Prop := ∀ i, i < u.length → rv (u'.getD i (0, 1)) = rv (u.getD i (0, 1)) + dot (c.map rv) (col w i)
/-- .. a constraint's gap -/
def GapW (w : List (List Fr)) (p : List Fr × List Fr) (g : List Fr) : Prop := ∀ i, i < p.2.length → rv (g.getD i (0, 1)) = dot (p.1.map rv) (col w i) - rv (p.2.getD i (0, 1))
end K04

set_option Elab.async false
set_option linter.all false
set_option maxRecDepth 100000
/-! K04D: what an expression's unit is, by the program and by the law. -/
namespace K04
open PySem L2 U
def Mb : Nat → Nat
  | 0 => 1
  | 1 => 3
  | k + 2 => 2 * (Mb (k + 1) * Mb (k + 1))
theorem mb_le {k : Nat} (h : k ≤ 3) : Mb k ≤ 2000 := by
  have : k = 0 ∨ k = 1 ∨ k = 2 ∨ k = 3 := by omega
  rcases this with rfl | rfl | rfl | rfl <;> decide
theorem mb_ge : ∀ k : Nat, 1 ≤ k → 3 ≤ Mb k
  | 0, h => absurd h (by decide)
  | 1, _ => Nat.le_refl _
  | k + 2, _ => by
    have := mb_ge (k + 1) (by omega)
    have h2 := Nat.mul_le_mul this this
    show 3 ≤ 2 * (Mb (k + 1) * Mb (k + 1))
    omega
theorem ex_pos {bs vs : List D} {k : Nat} {d : D} (h : ExG bs vs k d) : 1 ≤ k := by cases h <;> omega
theorem mb_succ {k : Nat} (h : 1 ≤ k) : Mb (k + 1) = 2 * (Mb k * Mb k) := by
  cases k with
  | zero => exact absurd h (by decide)
  | succ k => rfl
def zr (n : Nat) : List Fr := List.replicate n (0, 1)
theorem zw_all {P Q R : Fr → Prop} {g : Fr → Fr → Fr} (h : ∀ a, P a → ∀ b, Q b → R (g a b)) : ∀ {u v : List Fr}, (∀ a ∈ u, P a) → (∀ b ∈ v, Q b) → ∀ c ∈ List.zipWith g u v, R c
  | [], _, _, _, c, hc => by simp at hc
  | _ :: _, [], _, _, c, hc => by simp at hc
  | a :: u, b :: v, hu, hv, c, hc => by
    rw [List.zipWith_cons_cons] at hc
    rcases List.mem_cons.mp hc with rfl | hc
    · exact h a (hu a List.mem_cons_self) b (hv b List.mem_cons_self)
    · exact zw_all h (fun x hx => hu x (List.mem_cons_of_mem _ hx)) (fun x hx => hv x (List.mem_cons_of_mem _ hx)) c hc
theorem gap_zero : ∀ {u v : List Fr}, u.length = v.length → (∀ q ∈ u, Nf q) → (∀ q ∈ v, Nf q) → (List.zipWith fminus u v = zr u.length ↔ u = v)
  | [], [], _, _, _ => by simp [zr]
  | [], _ :: _, h, _, _ => by cases h
  | _ :: _, [], h, _, _ => by cases h
  | a :: u, b :: v, h, hu, hv => by
    have ih := gap_zero (u := u) (v := v) (by simpa using h) (fun q hq => hu q (List.mem_cons_of_mem _ hq)) (fun q hq => hv q (List.mem_cons_of_mem _ hq))
    have e : zr (a :: u).length = (0, 1) :: zr u.length := rfl
    rw [List.zipWith_cons_cons, e, List.cons.injEq, List.cons.injEq, ih, minus_zero (hu a List.mem_cons_self) (hv b List.mem_cons_self)]
theorem us_plus {M : Nat} {u v : List Fr} (hu : Us M u) (hv : Us M v) : Us (2 * (M * M)) (List.zipWith fplus u v) := ⟨zw_all (P := Bd M) (Q := Bd M) (fun a ha b hb => plus_bd ha hb) hu.bd hv.bd, zw_all (P := Bd M) (Q := Bd M) (fun a ha b hb => plus_nf ha hb) hu.bd hv.bd, by rw [List.length_zipWith]; exact Nat.le_trans (Nat.min_le_left _ _) hu.le⟩
theorem us_minus {M : Nat} {u v : List Fr} (hu : Us M u) (hv : Us M v) : Us (2 * (M * M)) (List.zipWith fminus u v) := ⟨zw_all (P := Bd M) (Q := Bd M) (fun a ha b hb => minus_bd ha hb) hu.bd hv.bd, zw_all (P := Bd M) (Q := Bd M) (fun a ha b hb => minus_nf ha hb) hu.bd hv.bd, by rw [List.length_zipWith]; exact Nat.le_trans (Nat.min_le_left _ _) hu.le⟩
theorem us_times {M : Nat} {u : List Fr} {f : Fr} (hu : Us M u) (hf : Bd 4 f) (h3 : 3 ≤ M) : Us (2 * (M * M)) (u.map fun q => ftimes q f) := by
  have e : M * 4 ≤ 2 * (M * M) := by
    have := Nat.mul_le_mul_left M h3
    omega
  refine ⟨fun q hq => ?_, fun q hq => ?_, by rw [List.length_map]; exact hu.le⟩
  · obtain ⟨p, hp, rfl⟩ := List.mem_map.mp hq
    exact (times_bd (hu.bd p hp) hf).mono e
  · obtain ⟨p, hp, rfl⟩ := List.mem_map.mp hq
    exact low_nf (Int.mul_pos (hu.bd p hp).2.1 hf.2.1)
theorem Us.mono {M N : Nat} {u : List Fr} (h : Us M u) (hN : M ≤ N) : Us N u := ⟨fun q hq => (h.bd q hq).mono hN, h.nf, h.le⟩
theorem pys_us : ∀ gs : List (List Fr), toPys (gs.map uD) = some (gs.map fun u => .tuple (u.map fP))
  | [] => rfl
  | u :: gs => by
    have e : toPys (uD u :: gs.map uD) = (match toPy (uD u), toPys (gs.map uD) with | some x, some xs => some (x :: xs) | _, _ => none) := by first | (rw [toPys]; done) | (rw [toPys]; rfl)
    rw [List.map_cons, e, py_u, pys_us gs]
    rfl
section
variable {Φ : Fn} {b : Nat} {τ τ1 : Tau} {G G1 : Hd} {ss : MSs} {x y : D}
theorem set2_ok {e : ME} {i j : Nat} (h : evE Φ b e τ G = .ok (.tup [x, y]) G1) : evSs Φ b (.cons (.set (.tpc (.nam i) (.tpc (.nam j) .tp0)) e) ss) τ G = evSs Φ b ss ((τ.set i (some x)).set j (some y)) G1 := seq_nx (by rw [evS, h]; rfl)
theorem par_ok {is : List Nat} {es : MEs} {ds : List D} (h : evEs Φ b es τ G = .ok ds G1) (h2 : setAll is ds τ = some τ1) : evSs Φ b (.cons (.par is es) ss) τ G = evSs Φ b ss τ1 G1 := seq_nx (by rw [evS, h, Out.then_ok, h2]; rfl)
theorem tup2_ok {e f : ME} {G2 : Hd} (h1 : evE Φ b e τ G = .ok x G1) (h2 : evE Φ b f τ G1 = .ok y G2) : evE Φ b (.tup (.cons e (.cons f .nil))) τ G = .ok (.tup [x, y]) G2 := by
  rw [evE]
  simp only [evEs, h1, h2, Out.then_ok]
end
theorem frz_ev {m : Nat} {G : Hd} {u : List Fr} {k : Bool} : frz 4 m G (.tup [uD u, .bl k]) = some (.tup [uD u, .bl k]) := by
  refine frz_py (x := .tuple [.tuple (u.map fP), .bool k]) 4 ?_
  simp only [toPy, toPys, py_u]
  rfl
theorem frz_va {m : Nat} {G : Hd} {u : List Fr} {gs : List (List Fr)} : frz 4 m G (.tup [uD u, .lst (gs.map uD)]) = some (.tup [uD u, .lst (gs.map uD)]) := by
  refine frz_py (x := .tuple [.tuple (u.map fP), .list (gs.map fun u => .tuple (u.map fP))]) 4 ?_
  have e : toPy (.lst (gs.map uD)) = some (.list (gs.map fun u => .tuple (u.map fP))) := by
    rw [toPy, pys_us]
    rfl
  have e2 : toPys [uD u, .lst (gs.map uD)] = some [.tuple (u.map fP), .list (gs.map fun u => .tuple (u.map fP))] := by
    simp only [toPys, py_u, e]
  rw [toPy, e2]
  rfl
theorem L_evaluated : T.lookup ("evaluated" : Str) = some r_evaluated.fd := by kernel_rfl
theorem L_value : T.lookup ("_law_value" : Str) = some r__law_value.fd := by kernel_rfl
section
variable {G : Hd}
theorem q_mul_mul : cmpD G .eq (.str "mul") (.str "mul") = some true := by kernel_rfl
theorem q_div_mul : cmpD G .eq (.str "div") (.str "mul") = some false := by kernel_rfl
theorem q_div_div : cmpD G .eq (.str "div") (.str "div") = some true := by kernel_rfl
theorem q_add_mul : cmpD G .eq (.str "add") (.str "mul") = some false := by kernel_rfl
theorem q_add_div : cmpD G .eq (.str "add") (.str "div") = some false := by kernel_rfl
theorem q_mul_add : cmpD G .eq (.str "mul") (.str "add") = some false := by kernel_rfl
theorem q_div_add : cmpD G .eq (.str "div") (.str "add") = some false := by kernel_rfl
theorem q_add_add : cmpD G .eq (.str "add") (.str "add") = some true := by kernel_rfl
theorem i_pow : cmpD G .isin (.str "pow") (.tup [.str "pow", .str "root"]) = some true := by kernel_rfl
theorem i_root : cmpD G .isin (.str "root") (.tup [.str "pow", .str "root"]) = some true := by kernel_rfl
theorem i_mul : cmpD G .isin (.str "mul") (.tup [.str "pow", .str "root"]) = some false := by kernel_rfl
theorem i_div : cmpD G .isin (.str "div") (.tup [.str "pow", .str "root"]) = some false := by kernel_rfl
theorem i_add : cmpD G .isin (.str "add") (.tup [.str "pow", .str "root"]) = some false := by kernel_rfl
end
section
variable {Φ : Fn} {b n : Nat} {G : Hd} {d dd a : D} {s : Str} {xs : List D}
theorem eqS {t s : Str} {k : Bool} {τ : Tau} {i : Nat} (hτ : τ[i]? = some (some (.str s))) (h : cmpD G .eq (.str s) (.str t) = some k) : evT Φ b (.val (.cmp .eq (.var i) (.con (.str t)))) τ G = .ok k G := by
  refine val_ok (cmp_ok' (a := .str s) (G1 := G) ?_ con_ok h)
  rw [evE, hτ]
theorem var_ok {d : D} {τ : Tau} {i : Nat} (hτ : τ[i]? = some (some d)) : evE Φ b (.var i) τ G = .ok d G := by rw [evE, hτ]
abbrev tv (d dd : D) (s : Str) (a : D) : Tau := [some d, some dd, some (.str s), some a, none, none, none, none]
abbrev tw' (d dd : D) (s : Str) (a : D) : Tau := [some d, some dd, some (.str s), some a, none, none, none, none, none, none]
theorem ev_in {r : D} (h : evSs (run T n) G.length (tailOf b_evaluated) (tv (.tup (.str s :: a :: xs)) dd s a) G = .ok (.rt r) G) (hf : frz 4 G.length G r = some r) : run T (n + 1) "evaluated" [.tup (.str s :: a :: xs), dd] G = .ok r G := by
  rw [run_succ L_evaluated]
  refine callF_rtG rfl rfl ?_ hf
  show evSs _ _ b_evaluated [some (.tup (.str s :: a :: xs)), some dd, none, none, none, none, none, none] G = _
  unfold b_evaluated at h ⊢
  refine (par_ok (ds := [.str s, a]) (G1 := G) ?_ rfl).trans h
  simp [evEs, evE, ix0, ix1]
theorem va_in {r : D} (h : evSs (run T n) G.length (tailOf b__law_value) (tw' (.tup (.str s :: a :: xs)) dd s a) G = .ok (.rt r) G) (hf : frz 4 G.length G r = some r) : run T (n + 1) "_law_value" [.tup (.str s :: a :: xs), dd] G = .ok r G := by
  rw [run_succ L_value]
  refine callF_rtG rfl rfl ?_ hf
  show evSs _ _ b__law_value [some (.tup (.str s :: a :: xs)), some dd, none, none, none, none, none, none, none, none] G = _
  unfold b__law_value at h ⊢
  refine (par_ok (ds := [.str s, a]) (G1 := G) ?_ rfl).trans h
  simp [evEs, evE, ix0, ix1]
end
/-- a dict from variables to units -/

structure Dict (P : Hd → Prop) (m : Nat) (vs : List D) (w : List (List Fr)) (dd : D) : Prop where
  len : w.length = vs.length
  get : ∀ (j : Nat) (x : D) (u : List Fr), vs[j]? = some x → w[j]? = some u → ∀ G, P G → ixD G dd x = some (uD u)
  ok : ∀ u ∈ w, u.length = m ∧ Us 3 u
def gd (m : Nat) (gs : List (List Fr)) : Bool := gs.all fun w => decide (w = zr m)
structure VOk (P : Hd → Prop) (m : Nat) (dd : D) (k : Nat) (d : D) (u : List Fr) (gs : List (List Fr)) : Prop where
  hl : u.length = m
  hs : Us (Mb k) u
  hg : gs.length + 1 ≤ 2 ^ k
  ha : ∀ g ∈ gs, g.length = m ∧ Us (Mb k) g
  hr : ∀ n G, P G → run T (n + k + 4) "evaluated" [d, dd] G = .ok (.tup [uD u, .bl (gd m gs)]) G ∧ run T (n + k + 4) "_law_value" [d, dd] G = .ok (.tup [uD u, .lst (gs.map uD)]) G
theorem mb_up {k : Nat} (hk : 1 ≤ k) : Mb k ≤ Mb (k + 1) := by
  rw [mb_succ hk]
  have h3 := Nat.mul_le_mul_left (Mb k) (mb_ge k hk)
  omega
theorem ha_up {m k : Nat} {gs : List (List Fr)} (hk : 1 ≤ k) (h : ∀ g ∈ gs, g.length = m ∧ Us (Mb k) g) : ∀ g ∈ gs, g.length = m ∧ Us (Mb (k + 1)) g := fun g hg => ⟨(h g hg).1, (h g hg).2.mono (mb_up hk)⟩
theorem ha_app {m k : Nat} {gs hs : List (List Fr)} (h : ∀ g ∈ gs, g.length = m ∧ Us (Mb k) g) (h' : ∀ g ∈ hs, g.length = m ∧ Us (Mb k) g) : ∀ g ∈ gs ++ hs, g.length = m ∧ Us (Mb k) g := fun g hg => by
  rcases List.mem_append.mp hg with q | q
  · exact h g q
  · exact h' g q
theorem good_us {xs : List D} (h : ∀ x ∈ xs, frGood x) (hl : xs.length ≤ 1000) : ∃ u : List Fr, xs = u.map fD ∧ Us 3 u := by
  have : ∀ xs : List D, (∀ x ∈ xs, frGood x) → ∃ u : List Fr, xs = u.map fD ∧ (∀ q ∈ u, Bd 3 q) ∧ ∀ q ∈ u, Nf q := by
    intro xs
    induction xs with
    | nil => 
      intro _
      refine ⟨[], rfl, ?_, ?_⟩
      · intro q h; cases h
      · intro q h; cases h
    | cons x xs ih =>
      intro h
      obtain ⟨u, rfl, h1, h2⟩ := ih fun y hy => h y (List.mem_cons_of_mem _ hy)
      obtain ⟨t, q, rfl, g1, g2, g3⟩ := h x List.mem_cons_self
      have hb : Bd 3 (t, q) := ⟨by show t.natAbs ≤ 3; omega, by show 0 < q; omega, by show q.natAbs ≤ 3; omega⟩
      have hn : Nf (t, q) := by
        refine ⟨hb.2.1, ?_⟩
        show Int.gcd t q = 1
        have ht : t = -3 ∨ t = -2 ∨ t = -1 ∨ t = 0 ∨ t = 1 ∨ t = 2 ∨ t = 3 := by omega
        rcases g3 with rfl | ⟨rfl, g3⟩
        · rcases ht with rfl | rfl | rfl | rfl | rfl | rfl | rfl <;> decide
        · rcases ht with rfl | rfl | rfl | rfl | rfl | rfl | rfl <;> first | exact absurd (by decide) g3 | decide
      refine ⟨(t, q) :: u, rfl, ?_, ?_⟩
      · intro p hp
        rcases List.mem_cons.mp hp with rfl | hp
        · exact hb
        · exact h1 p hp
      · intro p hp
        rcases List.mem_cons.mp hp with rfl | hp
        · exact hn
        · exact h2 p hp
  obtain ⟨u, rfl, h1, h2⟩ := this xs h
  exact ⟨u, rfl, h1, h2, by rw [List.length_map] at hl; exact hl⟩
section
variable {P : Hd → Prop} {m : Nat} {dd a c : D} {k : Nat} {u v : List Fr} {gs gs' : List (List Fr)}
theorem v_var (hu : ∀ G, P G → ixD G dd a = some (uD u)) (hl : u.length = m) (hs : Us 3 u) : VOk P m dd (k + 1) (.tup [.str "var", a]) u [] := by
  refine ⟨hl, hs.mono (mb_ge _ (by omega)), Nat.one_le_two_pow, (fun g hg => nomatch hg), fun n G hP => ⟨ev_in ?_ frz_ev, va_in ?_ (frz_va (gs := []))⟩⟩
  · unfold b_evaluated
    simp only [tailOf]
    refine seq_rt ((if_yes (eqS rfl q_var_var)).trans (ret_ok (tup2_ok (G1 := G) ?_ con_ok)))
    exact ix_ok' (G1 := G) (var_ok rfl) (var_ok rfl) (hu G hP)
  · unfold b__law_value
    simp only [tailOf]
    refine seq_rt ((if_yes (eqS rfl q_var_var)).trans (ret_ok (tup2_ok (G1 := G) ?_ ?_)))
    · exact ix_ok' (G1 := G) (var_ok rfl) (var_ok rfl) (hu G hP)
    · rw [evE, evEs]; rfl
theorem v_unit (hl : u.length = m) (hs : Us 3 u) : VOk P m dd (k + 1) (.tup [.str "unit", uD u]) u [] := by
  refine ⟨hl, hs.mono (mb_ge _ (by omega)), Nat.one_le_two_pow, (fun g hg => nomatch hg), fun n G hP => ⟨ev_in ?_ frz_ev, va_in ?_ (frz_va (gs := []))⟩⟩
  · unfold b_evaluated
    simp only [tailOf]
    refine (skip (eqS rfl q_unit_var)).trans (seq_rt ((if_yes (eqS rfl q_unit_unit)).trans (ret_ok (tup2_ok (G1 := G) ?_ con_ok))))
    exact var_ok rfl
  · unfold b__law_value
    simp only [tailOf]
    refine (skip (eqS rfl q_unit_var)).trans (seq_rt ((if_yes (eqS rfl q_unit_unit)).trans (ret_ok (tup2_ok (G1 := G) ?_ ?_))))
    · exact var_ok rfl
    · rw [evE, evEs]; rfl
theorem evI_u {Φ : Fn} {b : Nat} {τ : Tau} {G : Hd} {u : List Fr} {e : ME} (h : evE Φ b e τ G = .ok (uD u) G) : evI Φ b (.val e) τ G = .ok (.items (u.map fD)) G := by
  rw [evI, h]
  rfl
theorem all_app {m : Nat} {g h : List (List Fr)} : gd m (g ++ h) = (gd m g && gd m h) := List.all_append
theorem vpow_aux {u : List Fr} {gs : List (List Fr)} {f : Fr} (hk : 1 ≤ k) (hk3 : k ≤ 3) (hl : u.length = m) (hs : Us (Mb k) u) (hf : Bd 4 f) : (u.map fun q => ftimes q f).length = m ∧ Us (Mb (k + 1)) (u.map fun q => ftimes q f) := by
  refine ⟨by rw [List.length_map]; exact hl, ?_⟩
  rw [mb_succ hk]
  exact us_times hs hf (mb_ge k hk)
theorem v_pow {i : Int} (hk : 1 ≤ k) (hk3 : k ≤ 3) (h : VOk P m dd k a u gs) (h1 : -4 ≤ i) (h2 : i ≤ 4) : VOk P m dd (k + 1) (.tup [.str "pow", a, .int i]) (u.map fun q => ftimes q (i, 1)) gs := by
  obtain ⟨hl, hs, hg, ha, hr⟩ := h
  have hM := mb_le hk3
  have h3 := mb_ge k hk
  have hf : Bd 4 (i, 1) := ⟨by show i.natAbs ≤ _; omega, by show (0 : Int) < 1; omega, by show 1 ≤ _; omega⟩
  obtain ⟨g1, g2⟩ := vpow_aux (gs := gs) hk hk3 hl hs hf
  refine ⟨g1, g2, by rw [Nat.pow_succ]; omega, ha_up hk ha, fun n G hP => ?_⟩
  obtain ⟨r1, r2⟩ := hr n G hP
  constructor
  · refine ev_in (n := n + k + 4) ?_ frz_ev
    unfold b_evaluated
    simp only [tailOf]
    refine (skip (eqS rfl q_pow_var)).trans ((skip (eqS rfl q_pow_unit)).trans ?_)
    refine (set2_ok (call_ok (ds := [a, dd]) (G1 := G) (by simp [evEs, evE]) r1)).trans ?_
    refine seq_rt ((if_yes (eqS rfl q_pow_pow)).trans (ret_ok (tup2_ok (G1 := G) ?_ (var_ok rfl))))
    refine call_ok (ds := [uD u, fD (i, 1)]) (G1 := G) ?_ (E_power (n := n + k + 1) (hs.mono (Nat.le_succ _)) (hf.mono (by omega)) (by omega))
    simp [evEs, evE, ix2]
    rfl
  · refine va_in (n := n + k + 4) ?_ frz_va
    unfold b__law_value
    simp only [tailOf]
    refine (skip (eqS rfl q_pow_var)).trans ((skip (eqS rfl q_pow_unit)).trans ?_)
    refine (set2_ok (call_ok (ds := [a, dd]) (G1 := G) (by simp [evEs, evE]) r2)).trans ?_
    refine seq_rt ((if_yes (G1 := G) (val_ok (cmp_ok' (a := .str "pow") (c := .tup [.str "pow", .str "root"]) (G1 := G) (var_ok rfl) (by simp [evEs, evE]) i_pow))).trans ?_)
    refine (set_ok (d := fD (i, 1)) (G1 := G) ?_).trans ?_
    · rw [ifx_ok (eqS rfl q_pow_pow), if_pos rfl]
      exact tup2_ok (G1 := G) (ix_ok' (G1 := G) (var_ok rfl) con_ok ix2) con_ok
    · refine ret_ok (tup2_ok (G1 := G) (lc_each (g := fun q => ftimes q (i, 1)) (u := u) ?_ hs.le ?_) (var_ok rfl))
      · exact evI_u (var_ok rfl)
      · intro p hp
        refine call_ok (ds := [fD p, fD (i, 1)]) (G1 := G) ?_ (E_lmul (M := Mb k + 1) ((hs.bd p hp).mono (by omega)) (hf.mono (by omega)) (by omega))
        simp [evEs, evE, wipeD]
theorem v_root {i : Int} (hk : 1 ≤ k) (hk3 : k ≤ 3) (h : VOk P m dd k a u gs) (h1 : 2 ≤ i) (h2 : i ≤ 4) : VOk P m dd (k + 1) (.tup [.str "root", a, .int i]) (u.map fun q => ftimes q (1, i)) gs := by
  obtain ⟨hl, hs, hg, ha, hr⟩ := h
  have hM := mb_le hk3
  have h3 := mb_ge k hk
  have hf : Bd 4 (1, i) := ⟨by show 1 ≤ _; omega, by show (0 : Int) < i; omega, by show i.natAbs ≤ _; omega⟩
  have hlow : low 1 i = (1, i) := low_id (q := (1, i)) ⟨by show (0 : Int) < i; omega, by show Int.gcd 1 i = 1; exact Int.one_gcd⟩
  obtain ⟨g1, g2⟩ := vpow_aux (gs := gs) hk hk3 hl hs hf
  refine ⟨g1, g2, by rw [Nat.pow_succ]; omega, ha_up hk ha, fun n G hP => ?_⟩
  obtain ⟨r1, r2⟩ := hr n G hP
  constructor
  · refine ev_in (n := n + k + 4) ?_ frz_ev
    unfold b_evaluated
    simp only [tailOf]
    refine (skip (eqS rfl q_root_var)).trans ((skip (eqS rfl q_root_unit)).trans ?_)
    refine (set2_ok (call_ok (ds := [a, dd]) (G1 := G) (by simp [evEs, evE]) r1)).trans ?_
    refine (skip (eqS rfl q_root_pow)).trans ?_
    refine seq_rt ((if_yes (eqS rfl q_root_root)).trans (ret_ok (tup2_ok (G1 := G) ?_ (var_ok rfl))))
    have hfr := E_fraction (n := n + k + 3) (G := G) (p := 1) (q := i) (by omega) (by omega)
    rw [hlow] at hfr
    refine call_ok (ds := [uD u, fD (1, i)]) (G1 := G) ?_ (E_power (n := n + k + 1) (hs.mono (Nat.le_succ _)) (hf.mono (by omega)) (by omega))
    have hfr' : run T (n + k + 4) "fraction" [.int 1, .int i] G = .ok (fD (1, i)) G := hfr
    simp [evEs, evE, ix2, hfr']
  · refine va_in (n := n + k + 4) ?_ frz_va
    unfold b__law_value
    simp only [tailOf]
    refine (skip (eqS rfl q_root_var)).trans ((skip (eqS rfl q_root_unit)).trans ?_)
    refine (set2_ok (call_ok (ds := [a, dd]) (G1 := G) (by simp [evEs, evE]) r2)).trans ?_
    refine seq_rt ((if_yes (G1 := G) (val_ok (cmp_ok' (a := .str "root") (c := .tup [.str "pow", .str "root"]) (G1 := G) (var_ok rfl) (by simp [evEs, evE]) i_root))).trans ?_)
    refine (set_ok (d := fD (1, i)) (G1 := G) ?_).trans ?_
    · rw [ifx_ok (eqS rfl q_root_pow), if_neg (by decide)]
      exact tup2_ok (G1 := G) con_ok (ix_ok' (G1 := G) (var_ok rfl) con_ok ix2)
    · refine ret_ok (tup2_ok (G1 := G) (lc_each (g := fun q => ftimes q (1, i)) (u := u) ?_ hs.le ?_) (var_ok rfl))
      · exact evI_u (var_ok rfl)
      · intro p hp
        refine call_ok (ds := [fD p, fD (1, i)]) (G1 := G) ?_ (E_lmul (M := Mb k + 1) ((hs.bd p hp).mono (by omega)) (hf.mono (by omega)) (by omega))
        simp [evEs, evE, wipeD]
theorem and_bl {Φ : Fn} {b : Nat} {τ : Tau} {G : Hd} {x y : ME} {p q : Bool} (h1 : evE Φ b x τ G = .ok (.bl p) G) (h2 : evE Φ b y τ G = .ok (.bl q) G) : evE Φ b (.and x y) τ G = .ok (.bl (p && q)) G := by
  rw [and_ok h1]
  cases p
  · rfl
  · exact h2
theorem add_l {G : Hd} {xs ys : List D} (h : xs.length + ys.length ≤ line) : binD G .add (.lst xs) (.lst ys) = some (.lst (xs ++ ys)) := by
  show (if xs.length + ys.length ≤ line then some (D.lst (xs ++ ys)) else none) = _
  rw [if_pos h]
theorem pow2_le {k : Nat} (h : k ≤ 3) : 2 ^ k ≤ 8 := Nat.pow_le_pow_right (n := 2) (by decide) h
theorem v_mul (hk : 1 ≤ k) (hk3 : k ≤ 3) (h : VOk P m dd k a u gs) (h' : VOk P m dd k c v gs') : VOk P m dd (k + 1) (.tup [.str "mul", a, c]) (List.zipWith fplus u v) (gs ++ gs') := by
  obtain ⟨hl, hs, hg, ha, hr⟩ := h
  obtain ⟨hl', hs', hg', ha', hr'⟩ := h'
  have hM := mb_le hk3
  have h3 := mb_ge k hk
  have hp := pow2_le hk3
  refine ⟨by rw [List.length_zipWith]; omega, by rw [mb_succ hk]; exact us_plus hs hs', by rw [Nat.pow_succ, List.length_append]; omega, ha_app (ha_up hk ha) (ha_up hk ha'), fun n G hP => ?_⟩
  obtain ⟨r1, r2⟩ := hr n G hP
  obtain ⟨r1', r2'⟩ := hr' n G hP
  constructor
  · refine ev_in (n := n + k + 4) ?_ frz_ev
    unfold b_evaluated
    simp only [tailOf]
    refine (skip (eqS rfl q_mul_var)).trans ((skip (eqS rfl q_mul_unit)).trans ?_)
    refine (set2_ok (call_ok (ds := [a, dd]) (G1 := G) (by simp [evEs, evE]) r1)).trans ?_
    refine (skip (eqS rfl q_mul_pow)).trans ((skip (eqS rfl q_mul_root)).trans ?_)
    refine (set2_ok (call_ok (ds := [c, dd]) (G1 := G) (by simp [evEs, evE, ix2]) r1')).trans ?_
    refine seq_rt ((if_yes (eqS rfl q_mul_mul)).trans (ret_ok (tup2_ok (G1 := G) ?_ ?_)))
    · refine call_ok (ds := [uD u, uD v]) (G1 := G) ?_ (E_product (n := n + k + 1) hs hs' (by omega))
      simp [evEs, evE]
    · rw [all_app]
      exact and_bl (var_ok rfl) (var_ok rfl)
  · refine va_in (n := n + k + 4) ?_ frz_va
    unfold b__law_value
    simp only [tailOf]
    refine (skip (eqS rfl q_mul_var)).trans ((skip (eqS rfl q_mul_unit)).trans ?_)
    refine (set2_ok (call_ok (ds := [a, dd]) (G1 := G) (by simp [evEs, evE]) r2)).trans ?_
    refine (skip (G1 := G) (val_ok (cmp_ok' (a := .str "mul") (c := .tup [.str "pow", .str "root"]) (G1 := G) (var_ok rfl) (by simp [evEs, evE]) i_mul))).trans ?_
    refine (set2_ok (call_ok (ds := [c, dd]) (G1 := G) (by simp [evEs, evE, ix2]) r2')).trans ?_
    refine (skip (eqS rfl q_mul_add)).trans (ret_ok (tup2_ok (G1 := G) ?_ ?_))
    · refine call_ok (ds := [uD u, fD (1, 1), uD v]) (G1 := G) ?_ (E_lplus1 (n := n + k + 1) hs hs' (by omega) (by omega))
      simp [evEs, evE, evT, q_mul_mul, truD]
      rfl
    · rw [List.map_append]
      exact bin_ok (G1 := G) (var_ok rfl) (var_ok rfl) (add_l (by simp only [List.length_map]; show _ ≤ 16777216; omega))
theorem v_div (hk : 1 ≤ k) (hk3 : k ≤ 3) (h : VOk P m dd k a u gs) (h' : VOk P m dd k c v gs') : VOk P m dd (k + 1) (.tup [.str "div", a, c]) (List.zipWith fminus u v) (gs ++ gs') := by
  obtain ⟨hl, hs, hg, ha, hr⟩ := h
  obtain ⟨hl', hs', hg', ha', hr'⟩ := h'
  have hM := mb_le hk3
  have h3 := mb_ge k hk
  have hp := pow2_le hk3
  refine ⟨by rw [List.length_zipWith]; omega, by rw [mb_succ hk]; exact us_minus hs hs', by rw [Nat.pow_succ, List.length_append]; omega, ha_app (ha_up hk ha) (ha_up hk ha'), fun n G hP => ?_⟩
  obtain ⟨r1, r2⟩ := hr n G hP
  obtain ⟨r1', r2'⟩ := hr' n G hP
  constructor
  · refine ev_in (n := n + k + 4) ?_ frz_ev
    unfold b_evaluated
    simp only [tailOf]
    refine (skip (eqS rfl q_div_var)).trans ((skip (eqS rfl q_div_unit)).trans ?_)
    refine (set2_ok (call_ok (ds := [a, dd]) (G1 := G) (by simp [evEs, evE]) r1)).trans ?_
    refine (skip (eqS rfl q_div_pow)).trans ((skip (eqS rfl q_div_root)).trans ?_)
    refine (set2_ok (call_ok (ds := [c, dd]) (G1 := G) (by simp [evEs, evE, ix2]) r1')).trans ?_
    refine (skip (eqS rfl q_div_mul)).trans ?_
    refine seq_rt ((if_yes (eqS rfl q_div_div)).trans (ret_ok (tup2_ok (G1 := G) ?_ ?_)))
    · refine call_ok (ds := [uD u, uD v]) (G1 := G) ?_ (E_quotient (n := n + k + 1) hs hs' (by omega))
      simp [evEs, evE]
    · rw [all_app]
      exact and_bl (var_ok rfl) (var_ok rfl)
  · refine va_in (n := n + k + 4) ?_ frz_va
    unfold b__law_value
    simp only [tailOf]
    refine (skip (eqS rfl q_div_var)).trans ((skip (eqS rfl q_div_unit)).trans ?_)
    refine (set2_ok (call_ok (ds := [a, dd]) (G1 := G) (by simp [evEs, evE]) r2)).trans ?_
    refine (skip (G1 := G) (val_ok (cmp_ok' (a := .str "div") (c := .tup [.str "pow", .str "root"]) (G1 := G) (var_ok rfl) (by simp [evEs, evE]) i_div))).trans ?_
    refine (set2_ok (call_ok (ds := [c, dd]) (G1 := G) (by simp [evEs, evE, ix2]) r2')).trans ?_
    refine (skip (eqS rfl q_div_add)).trans (ret_ok (tup2_ok (G1 := G) ?_ ?_))
    · refine call_ok (ds := [uD u, fD (-1, 1), uD v]) (G1 := G) ?_ (E_lplus2 (n := n + k + 1) hs hs' (by omega) (by omega))
      simp [evEs, evE, evT, q_div_mul, truD, intD]
      rfl
    · rw [List.map_append]
      exact bin_ok (G1 := G) (var_ok rfl) (var_ok rfl) (add_l (by simp only [List.length_map]; show _ ≤ 16777216; omega))
theorem v_add (hk : 1 ≤ k) (hk3 : k ≤ 3) (h : VOk P m dd k a u gs) (h' : VOk P m dd k c v gs') : VOk P m dd (k + 1) (.tup [.str "add", a, c]) u (gs ++ gs' ++ [List.zipWith fminus u v]) := by
  obtain ⟨hl, hs, hg, ha, hr⟩ := h
  obtain ⟨hl', hs', hg', ha', hr'⟩ := h'
  have hM := mb_le hk3
  have h3 := mb_ge k hk
  have hp := pow2_le hk3
  have h2 : Mb k ≤ 2 * (Mb k * Mb k) := by
    have := Nat.mul_le_mul_left (Mb k) h3
    omega
  have hz := gap_zero (u := u) (v := v) (by omega) hs.nf hs'.nf
  have hd : gd m (gs ++ gs' ++ [List.zipWith fminus u v]) = (gd m gs && (gd m gs' && decide (u = v))) := by
    rw [all_app, all_app, Bool.and_assoc]
    congr 2
    show (decide _ && true) = _
    rw [Bool.and_true, ← hl]
    exact decide_eq_decide.mpr hz
  refine ⟨hl, by rw [mb_succ hk]; exact hs.mono h2, by rw [Nat.pow_succ, List.length_append, List.length_append, List.length_singleton]; omega, ha_app (ha_app (ha_up hk ha) (ha_up hk ha')) (fun g hg => by rw [List.mem_singleton.mp hg]; exact ⟨by rw [List.length_zipWith]; omega, by rw [mb_succ hk]; exact us_minus hs hs'⟩), fun n G hP => ?_⟩
  obtain ⟨r1, r2⟩ := hr n G hP
  obtain ⟨r1', r2'⟩ := hr' n G hP
  constructor
  · refine ev_in (n := n + k + 4) ?_ frz_ev
    unfold b_evaluated
    simp only [tailOf]
    refine (skip (eqS rfl q_add_var)).trans ((skip (eqS rfl q_add_unit)).trans ?_)
    refine (set2_ok (call_ok (ds := [a, dd]) (G1 := G) (by simp [evEs, evE]) r1)).trans ?_
    refine (skip (eqS rfl q_add_pow)).trans ((skip (eqS rfl q_add_root)).trans ?_)
    refine (set2_ok (call_ok (ds := [c, dd]) (G1 := G) (by simp [evEs, evE, ix2]) r1')).trans ?_
    refine (skip (eqS rfl q_add_mul)).trans ((skip (eqS rfl q_add_div)).trans (ret_ok (tup2_ok (G1 := G) (var_ok rfl) ?_)))
    rw [hd]
    exact and_bl (var_ok rfl) (and_bl (var_ok rfl) (cmp_ok' (G1 := G) (var_ok rfl) (var_ok rfl) cmp_equ))
  · refine va_in (n := n + k + 4) ?_ frz_va
    unfold b__law_value
    simp only [tailOf]
    refine (skip (eqS rfl q_add_var)).trans ((skip (eqS rfl q_add_unit)).trans ?_)
    refine (set2_ok (call_ok (ds := [a, dd]) (G1 := G) (by simp [evEs, evE]) r2)).trans ?_
    refine (skip (G1 := G) (val_ok (cmp_ok' (a := .str "add") (c := .tup [.str "pow", .str "root"]) (G1 := G) (var_ok rfl) (by simp [evEs, evE]) i_add))).trans ?_
    refine (set2_ok (call_ok (ds := [c, dd]) (G1 := G) (by simp [evEs, evE, ix2]) r2')).trans ?_
    refine seq_rt ((if_yes (eqS rfl q_add_add)).trans (ret_ok (tup2_ok (G1 := G) (var_ok rfl) ?_)))
    rw [List.map_append, List.map_append]
    refine bin_ok (G1 := G) (bin_ok (G1 := G) (var_ok rfl) (var_ok rfl) (add_l (by simp only [List.length_map]; show _ ≤ 16777216; omega))) ?_ (add_l (by simp only [List.length_map, List.length_append, List.length_singleton]; show _ ≤ 16777216; omega))
    have hp := E_lplus2 (n := n + k + 1) (G := G) hs hs' (by omega) (by omega)
    have hp' : run T (n + k + 4) "_law_plus" [uD u, .tup [.int (-1), .int 1], uD v] G = .ok (uD (List.zipWith fminus u v)) G := hp
    simp [evEs, evE, intD, hp']
end
end K04

set_option Elab.async false
set_option linter.all false
set_option maxRecDepth 100000
set_option maxHeartbeats 400000
/-! K04G: the coefficients of an expression, by the program. -/
namespace K04
open PySem L2 U
theorem L_form : T.lookup ("form_of" : Str) = some r_form_of.fd := by kernel_rfl
theorem L_dimless : T.lookup ("dimensionless" : Str) = some r_dimensionless.fd := by kernel_rfl
def fp (p : List Fr × List Fr) : D := .tup [uD p.1, uD p.2]
theorem py_fp (p : List Fr × List Fr) : toPy (fp p) = some (.tuple [.tuple (p.1.map fP), .tuple (p.2.map fP)]) := by
  show (toPys [uD p.1, uD p.2]).map PyData.tuple = _
  unfold toPys toPys toPys
  simp only [py_u]
  rfl
theorem rep_one {α : Type} (x : α) : ∀ n : Nat, (List.replicate n [x]).flatten = List.replicate n x
  | 0 => rfl
  | n + 1 => by rw [List.replicate_succ, List.flatten_cons, rep_one x n, List.replicate_succ]; rfl
theorem mul_rep {G : Hd} {x : D} {n : Nat} (h1 : 1 ≤ n) (h2 : n ≤ 1000) : binD G .mul (.tup [x]) (.int n) = some (.tup (List.replicate n x)) := by
  show (if (n : Int) = 1 then some (D.tup [x]) else if (n : Int) ≤ 0 ∧ -1000 ≤ (n : Int) then some (D.tup []) else if (![x].isEmpty && (decide ([x].length ≤ 1000) && (decide (2 ≤ (n : Int)) && decide ((n : Int) ≤ 1000)))) = true then some (D.tup (List.replicate (n : Int).toNat [x]).flatten) else none) = _
  by_cases e : n = 1
  · subst e
    rfl
  rw [if_neg (by omega), if_neg (by omega), if_pos]
  · rw [Int.toNat_natCast, rep_one]
  · rw [decide_eq_true (show (2 : Int) ≤ n by omega), decide_eq_true (show (n : Int) ≤ 1000 by omega)]
    rfl
theorem zr_D {n : Nat} : D.tup (List.replicate n (.tup [.int 0, .int 1])) = uD (zr n) := by
  unfold uD zr
  rw [List.map_replicate]
  rfl
section
variable {n : Nat} {G : Hd} {d a c : D} {bs vs xs : List D} {s : Str} {acc acc' : List D}
theorem E_dimless (h1 : 1 ≤ bs.length) (h2 : bs.length ≤ 1000) : run T (n + 1) "dimensionless" [.tup bs] G = .ok (uD (zr bs.length)) G := by
  rw [run_succ L_dimless]
  refine callF_rtG rfl rfl ?_ frz_u
  show evSs _ _ b_dimensionless [some (.tup bs)] G = _
  unfold b_dimensionless
  refine ret_ok (bin_ok (a := .tup [.tup [.int 0, .int 1]]) (c := .int bs.length) (G1 := G) ?_ ?_ ?_)
  · simp [evE, evEs]
  · simp [evE, evEs]
  · rw [mul_rep h1 h2, zr_D]
abbrev tfo (bs vs : List D) (d : D) (r : Nat) (s : Str) (a : D) : Tau := [some (.tup bs), some (.tup vs), some d, some (.ref r), some (.str s), some a, none, none, none, none, none, none]
theorem frz_cu {m : Nat} {G : Hd} {c u : List Fr} : frz 4 m G (.tup [uD c, uD u]) = some (.tup [uD c, uD u]) := frz_py 4 (py_fp (c, u))
theorem fo_in {k u : List Fr} (h : evSs (run T n) (G.length + 1) (tailOf b_form_of) (tfo bs vs (.tup (.str s :: a :: xs)) G.length s a) (G ++ [DO.lst acc]) = .ok (.rt (.tup [uD k, uD u])) (G ++ [DO.lst acc'])) :
    run T (n + 1) "form_of" [.tup bs, .tup vs, .tup (.str s :: a :: xs), .ref G.length] (G ++ [DO.lst acc]) = .ok (.tup [uD k, uD u]) (G ++ [DO.lst acc']) := by
  rw [run_succ L_form]
  have hl : (G ++ [DO.lst acc]).length = G.length + 1 := by simp
  refine (callF_rt (d := .tup [uD k, uD u]) (d' := .tup [uD k, uD u]) (G' := G ++ [DO.lst acc']) rfl rfl ?_ frz_cu).trans ?_
  · rw [hl]
    show evSs _ _ b_form_of [some (.tup bs), some (.tup vs), some (.tup (.str s :: a :: xs)), some (.ref G.length), none, none, none, none, none, none, none, none] _ = _
    unfold b_form_of at h ⊢
    refine (set2_ok (x := .str s) (y := a) (G1 := G ++ [DO.lst acc]) ?_).trans h
    simp [evEs, evE, ix0, ix1]
  · rw [hl, List.take_of_length_le (by simp)]
theorem append_at {Φ : Fn} {b : Nat} {τ : Tau} {o e : ME} {x : D} {L : List D} (ho : evE Φ b o τ (G ++ [DO.lst L]) = .ok (.ref G.length) (G ++ [DO.lst L])) (he : evE Φ b e τ (G ++ [DO.lst L]) = .ok x (G ++ [DO.lst L])) (hs : storeOk b G.length x = true) (hl : L.length < line) :
    evE Φ b (.append o e) τ (G ++ [DO.lst L]) = .ok .non (G ++ [DO.lst (L ++ [x])]) := by
  have g : (G ++ [DO.lst L])[G.length]? = some (.lst L) := get_last
  have l1 : listD (G ++ [DO.lst L]) (.ref G.length) = some L := by
    unfold listD
    simp only [g]
  rw [evE, ho]
  simp only [Out.then_ok, l1, he]
  unfold appendD
  simp only [g, hs, Bool.true_and, decide_eq_true hl, if_true, set_last]
theorem fp_store {b i : Nat} {p : List Fr × List Fr} : storeOk b i (fp p) = true := by
  unfold storeOk
  rw [py_closed _ (py_fp p), Bool.or_true]
end
/-- the form of an expression -/
structure FOk (bs vs : List D) (k : Nat) (d : D) (c u : List Fr) (F : List (List Fr × List Fr)) : Prop where
  cl : c.length = vs.length
  ul : u.length = bs.length
  cs : Us (Mb k) c
  us : Us (Mb k) u
  fl : F.length + 1 ≤ 2 ^ k
  fa : ∀ p ∈ F, p.1.length = vs.length ∧ p.2.length = bs.length ∧ Us (Mb k) p.1 ∧ Us (Mb k) p.2
  hr : ∀ (n : Nat) (G : Hd) (acc : List D), acc.length + 2 ^ k ≤ 1000 → run T (n + k + 4) "form_of" [.tup bs, .tup vs, d, .ref G.length] (G ++ [DO.lst acc]) = .ok (.tup [uD c, uD u]) (G ++ [DO.lst (acc ++ F.map fp)])
section
variable {k : Nat} {bs vs : List D} {a c : D} {p q u v : List Fr} {F F' : List (List Fr × List Fr)}
theorem us_zr {M m : Nat} (hM : 1 ≤ M) (hm : m ≤ 1000) : Us M (zr m) := by
  have e : ∀ q ∈ zr m, q = (0, 1) := fun q hq => (List.mem_replicate.mp hq).2
  refine ⟨fun q hq => ?_, fun q hq => ?_, by unfold zr; rw [List.length_replicate]; exact hm⟩
  · rw [e q hq]
    exact ⟨Nat.zero_le _, by decide, hM⟩
  · rw [e q hq]
    exact ⟨by decide, by decide⟩
theorem us_ev {M m j : Nat} (hM : 1 ≤ M) (hm : m ≤ 1000) : Us M (ev m j) := by
  have e : ∀ q ∈ ev m j, q = (1, 1) ∨ q = (0, 1) := fun q hq => by
    obtain ⟨i, _, rfl⟩ := List.mem_map.mp hq
    split
    · exact .inl rfl
    · exact .inr rfl
  refine ⟨fun q hq => ?_, fun q hq => ?_, by rw [ev_len]; exact hm⟩
  · rcases e q hq with rfl | rfl
    · exact ⟨hM, by decide, hM⟩
    · exact ⟨Nat.zero_le _, by decide, hM⟩
  · rcases e q hq with rfl | rfl <;> exact ⟨by decide, by decide⟩
def vCode : ME := (.bi .tuple (.cons (.lc (.ifx (.val (.cmp .eq (.var 6) (.var 5))) (.con (.tup [.int 1, .int 1])) (.con (.tup [.int 0, .int 1]))) (.nam 6) (.val (.var 1)) .yes [6]) .nil))
theorem var_code {Φ : Fn} {b r j : Nat} {G : Hd} {x d : D} {s : Str} (hv : vs ∈ varsOf) (hx : vs[j]? = some x) : evE Φ b vCode (tfo bs vs d r s x) G = .ok (uD (ev vs.length j)) G := by
  simp only [varsOf, List.mem_cons, List.not_mem_nil, or_false] at hv
  have hj : j < 4 := by
    have := (List.getElem?_eq_some_iff.mp hx).1
    rcases hv with rfl | rfl | rfl | rfl <;> simp at this <;> omega
  have hj' : j = 0 ∨ j = 1 ∨ j = 2 ∨ j = 3 := by omega
  rcases hv with rfl | rfl | rfl | rfl <;> rcases hj' with rfl | rfl | rfl | rfl <;> first | (cases hx; kernel_rfl) | cases hx
theorem f_var {j : Nat} {x : D} (hb1 : 1 ≤ bs.length) (hb : bs.length ≤ 3) (hv : vs ∈ varsOf) (hx : vs[j]? = some x) : FOk bs vs (k + 1) (.tup [.str "var", x]) (ev vs.length j) (zr bs.length) [] := by
  have hvl : vs.length ≤ 1000 := by
    simp only [varsOf, List.mem_cons, List.not_mem_nil, or_false] at hv
    rcases hv with rfl | rfl | rfl | rfl <;> decide
  have h3 := mb_ge (k + 1) (by omega)
  refine ⟨ev_len, by unfold zr; rw [List.length_replicate], us_ev (by omega) hvl, us_zr (by omega) (by omega), Nat.one_le_two_pow, fun p hp => (nomatch hp), fun n G acc _ => ?_⟩
  rw [List.map_nil, List.append_nil]
  refine fo_in (n := n + (k + 1) + 3) ?_
  unfold b_form_of
  simp only [tailOf]
  refine seq_rt ((if_yes (eqS rfl q_var_var)).trans (ret_ok (tup2_ok (G1 := G ++ [DO.lst acc]) (var_code hv hx) ?_)))
  exact call_ok (ds := [.tup bs]) (G1 := G ++ [DO.lst acc]) (by simp [evEs, evE]) (E_dimless (n := n + (k + 1) + 2) hb1 (by omega))
theorem f_unit (hv1 : 1 ≤ vs.length) (hv : vs.length ≤ 1000) (hl : u.length = bs.length) (hs : Us 3 u) : FOk bs vs (k + 1) (.tup [.str "unit", uD u]) (zr vs.length) u [] := by
  have h3 := mb_ge (k + 1) (by omega)
  refine ⟨by unfold zr; rw [List.length_replicate], hl, us_zr (by omega) hv, hs.mono (by omega), Nat.one_le_two_pow, fun p hp => (nomatch hp), fun n G acc _ => ?_⟩
  rw [List.map_nil, List.append_nil]
  refine fo_in (n := n + (k + 1) + 3) ?_
  unfold b_form_of
  simp only [tailOf]
  refine (skip (eqS rfl q_unit_var)).trans (seq_rt ((if_yes (eqS rfl q_unit_unit)).trans (ret_ok (tup2_ok (G1 := G ++ [DO.lst acc]) ?_ (var_ok rfl)))))
  refine bin_ok (a := .tup [.tup [.int 0, .int 1]]) (c := .int vs.length) (G1 := G ++ [DO.lst acc]) ?_ ?_ ?_
  · simp [evE, evEs]
  · simp [evE, evEs]
  · rw [mul_rep hv1 hv, zr_D]
theorem fa_up (hk : 1 ≤ k) (h : ∀ p ∈ F, p.1.length = vs.length ∧ p.2.length = bs.length ∧ Us (Mb k) p.1 ∧ Us (Mb k) p.2) : ∀ p ∈ F, p.1.length = vs.length ∧ p.2.length = bs.length ∧ Us (Mb (k + 1)) p.1 ∧ Us (Mb (k + 1)) p.2 := fun p hp => ⟨(h p hp).1, (h p hp).2.1, (h p hp).2.2.1.mono (mb_up hk), (h p hp).2.2.2.mono (mb_up hk)⟩
theorem f_pow {i : Int} (hk : 1 ≤ k) (hk3 : k ≤ 3) (h : FOk bs vs k a p u F) (h1 : -4 ≤ i) (h2 : i ≤ 4) : FOk bs vs (k + 1) (.tup [.str "pow", a, .int i]) (p.map fun q => ftimes q (i, 1)) (u.map fun q => ftimes q (i, 1)) F := by
  obtain ⟨cl, ul, cs, us, fl, fa, hr⟩ := h
  have hM := mb_le hk3
  have h3 := mb_ge k hk
  have hf : Bd 4 (i, 1) := ⟨by show i.natAbs ≤ _; omega, by show (0 : Int) < 1; omega, by show 1 ≤ _; omega⟩
  obtain ⟨g1, g2⟩ := vpow_aux (gs := []) hk hk3 cl cs hf
  obtain ⟨g3, g4⟩ := vpow_aux (gs := []) hk hk3 ul us hf
  refine ⟨g1, g3, g2, g4, by rw [Nat.pow_succ]; omega, fa_up hk fa, fun n G acc hacc => ?_⟩
  rw [Nat.pow_succ] at hacc
  have r := hr n G acc (by omega)
  refine fo_in (n := n + k + 4) ?_
  unfold b_form_of
  simp only [tailOf]
  refine (skip (eqS rfl q_pow_var)).trans ((skip (eqS rfl q_pow_unit)).trans ?_)
  refine (set2_ok (call_ok (ds := [.tup bs, .tup vs, a, .ref G.length]) (G1 := G ++ [DO.lst acc]) (by simp [evEs, evE]) r)).trans ?_
  refine seq_rt ((if_yes (G1 := G ++ [DO.lst (acc ++ F.map fp)]) (val_ok (cmp_ok' (a := .str "pow") (c := .tup [.str "pow", .str "root"]) (G1 := G ++ [DO.lst (acc ++ F.map fp)]) (var_ok rfl) (by simp [evEs, evE]) i_pow))).trans ?_)
  refine (set_ok (d := fD (i, 1)) (G1 := G ++ [DO.lst (acc ++ F.map fp)]) ?_).trans ?_
  · rw [ifx_ok (eqS rfl q_pow_pow), if_pos rfl]
    exact tup2_ok (G1 := G ++ [DO.lst (acc ++ F.map fp)]) (ix_ok' (G1 := G ++ [DO.lst (acc ++ F.map fp)]) (var_ok rfl) con_ok ix2) con_ok
  · refine ret_ok (tup2_ok (G1 := G ++ [DO.lst (acc ++ F.map fp)]) (call_ok (ds := [uD p, fD (i, 1)]) (G1 := G ++ [DO.lst (acc ++ F.map fp)]) ?_ (E_power (n := n + k + 1) (cs.mono (Nat.le_succ _)) (hf.mono (by omega)) (by omega))) (call_ok (ds := [uD u, fD (i, 1)]) (G1 := G ++ [DO.lst (acc ++ F.map fp)]) ?_ (E_power (n := n + k + 1) (us.mono (Nat.le_succ _)) (hf.mono (by omega)) (by omega))))
    · simp [evEs, evE]
    · simp [evEs, evE]
theorem f_root {i : Int} (hk : 1 ≤ k) (hk3 : k ≤ 3) (h : FOk bs vs k a p u F) (h1 : 2 ≤ i) (h2 : i ≤ 4) : FOk bs vs (k + 1) (.tup [.str "root", a, .int i]) (p.map fun q => ftimes q (1, i)) (u.map fun q => ftimes q (1, i)) F := by
  obtain ⟨cl, ul, cs, us, fl, fa, hr⟩ := h
  have hM := mb_le hk3
  have h3 := mb_ge k hk
  have hf : Bd 4 (1, i) := ⟨by show 1 ≤ _; omega, by show (0 : Int) < i; omega, by show i.natAbs ≤ _; omega⟩
  have hlow : low 1 i = (1, i) := low_id (q := (1, i)) ⟨by show (0 : Int) < i; omega, by show Int.gcd 1 i = 1; exact Int.one_gcd⟩
  obtain ⟨g1, g2⟩ := vpow_aux (gs := []) hk hk3 cl cs hf
  obtain ⟨g3, g4⟩ := vpow_aux (gs := []) hk hk3 ul us hf
  refine ⟨g1, g3, g2, g4, by rw [Nat.pow_succ]; omega, fa_up hk fa, fun n G acc hacc => ?_⟩
  rw [Nat.pow_succ] at hacc
  have r := hr n G acc (by omega)
  refine fo_in (n := n + k + 4) ?_
  unfold b_form_of
  simp only [tailOf]
  refine (skip (eqS rfl q_root_var)).trans ((skip (eqS rfl q_root_unit)).trans ?_)
  refine (set2_ok (call_ok (ds := [.tup bs, .tup vs, a, .ref G.length]) (G1 := G ++ [DO.lst acc]) (by simp [evEs, evE]) r)).trans ?_
  refine seq_rt ((if_yes (G1 := G ++ [DO.lst (acc ++ F.map fp)]) (val_ok (cmp_ok' (a := .str "root") (c := .tup [.str "pow", .str "root"]) (G1 := G ++ [DO.lst (acc ++ F.map fp)]) (var_ok rfl) (by simp [evEs, evE]) i_root))).trans ?_)
  have hfr := E_fraction (n := n + k + 3) (G := G ++ [DO.lst (acc ++ F.map fp)]) (p := 1) (q := i) (by omega) (by omega)
  rw [hlow] at hfr
  refine (set_ok (d := fD (1, i)) (G1 := G ++ [DO.lst (acc ++ F.map fp)]) ?_).trans ?_
  · rw [ifx_ok (eqS rfl q_root_pow), if_neg (by decide)]
    exact call_ok (ds := [.int 1, .int i]) (G1 := G ++ [DO.lst (acc ++ F.map fp)]) (by simp [evEs, evE, ix2]) hfr
  · refine ret_ok (tup2_ok (G1 := G ++ [DO.lst (acc ++ F.map fp)]) (call_ok (ds := [uD p, fD (1, i)]) (G1 := G ++ [DO.lst (acc ++ F.map fp)]) ?_ (E_power (n := n + k + 1) (cs.mono (Nat.le_succ _)) (hf.mono (by omega)) (by omega))) (call_ok (ds := [uD u, fD (1, i)]) (G1 := G ++ [DO.lst (acc ++ F.map fp)]) ?_ (E_power (n := n + k + 1) (us.mono (Nat.le_succ _)) (hf.mono (by omega)) (by omega))))
    · simp [evEs, evE]
    · simp [evEs, evE]
theorem fa_app {k : Nat} (h : ∀ p ∈ F, p.1.length = vs.length ∧ p.2.length = bs.length ∧ Us (Mb k) p.1 ∧ Us (Mb k) p.2) (h' : ∀ p ∈ F', p.1.length = vs.length ∧ p.2.length = bs.length ∧ Us (Mb k) p.1 ∧ Us (Mb k) p.2) : ∀ p ∈ F ++ F', p.1.length = vs.length ∧ p.2.length = bs.length ∧ Us (Mb k) p.1 ∧ Us (Mb k) p.2 := fun p hp => by
  rcases List.mem_append.mp hp with z | z
  · exact h p z
  · exact h' p z
theorem app_map {acc : List D} : acc ++ F.map fp ++ F'.map fp = acc ++ (F ++ F').map fp := by rw [List.map_append, List.append_assoc]
theorem f_mul (hk : 1 ≤ k) (hk3 : k ≤ 3) (h : FOk bs vs k a p u F) (h' : FOk bs vs k c q v F') : FOk bs vs (k + 1) (.tup [.str "mul", a, c]) (List.zipWith fplus p q) (List.zipWith fplus u v) (F ++ F') := by
  obtain ⟨cl, ul, cs, us, fl, fa, hr⟩ := h
  obtain ⟨cl', ul', cs', us', fl', fa', hr'⟩ := h'
  have hM := mb_le hk3
  have h3 := mb_ge k hk
  refine ⟨by rw [List.length_zipWith]; omega, by rw [List.length_zipWith]; omega, by rw [mb_succ hk]; exact us_plus cs cs', by rw [mb_succ hk]; exact us_plus us us', by rw [Nat.pow_succ, List.length_append]; omega, fa_app (fa_up hk fa) (fa_up hk fa'), fun n G acc hacc => ?_⟩
  rw [Nat.pow_succ] at hacc
  have r := hr n G acc (by omega)
  have r' := hr' n G (acc ++ F.map fp) (by rw [List.length_append, List.length_map]; omega)
  rw [app_map] at r'
  refine fo_in (n := n + k + 4) ?_
  unfold b_form_of
  simp only [tailOf]
  refine (skip (eqS rfl q_mul_var)).trans ((skip (eqS rfl q_mul_unit)).trans ?_)
  refine (set2_ok (call_ok (ds := [.tup bs, .tup vs, a, .ref G.length]) (G1 := G ++ [DO.lst acc]) (by simp [evEs, evE]) r)).trans ?_
  refine (skip (G1 := G ++ [DO.lst (acc ++ F.map fp)]) (val_ok (cmp_ok' (a := .str "mul") (c := .tup [.str "pow", .str "root"]) (G1 := G ++ [DO.lst (acc ++ F.map fp)]) (var_ok rfl) (by simp [evEs, evE]) i_mul))).trans ?_
  refine (set2_ok (call_ok (ds := [.tup bs, .tup vs, c, .ref G.length]) (G1 := G ++ [DO.lst (acc ++ F.map fp)]) (by simp [evEs, evE, ix2]) r')).trans ?_
  refine seq_rt ((if_yes (eqS rfl q_mul_mul)).trans (ret_ok (tup2_ok (G1 := G ++ [DO.lst (acc ++ (F ++ F').map fp)]) (call_ok (ds := [uD p, uD q]) (G1 := G ++ [DO.lst (acc ++ (F ++ F').map fp)]) ?_ (E_product (n := n + k + 1) cs cs' (by omega))) (call_ok (ds := [uD u, uD v]) (G1 := G ++ [DO.lst (acc ++ (F ++ F').map fp)]) ?_ (E_product (n := n + k + 1) us us' (by omega))))))
  · simp [evEs, evE]
  · simp [evEs, evE]
theorem f_div (hk : 1 ≤ k) (hk3 : k ≤ 3) (h : FOk bs vs k a p u F) (h' : FOk bs vs k c q v F') : FOk bs vs (k + 1) (.tup [.str "div", a, c]) (List.zipWith fminus p q) (List.zipWith fminus u v) (F ++ F') := by
  obtain ⟨cl, ul, cs, us, fl, fa, hr⟩ := h
  obtain ⟨cl', ul', cs', us', fl', fa', hr'⟩ := h'
  have hM := mb_le hk3
  have h3 := mb_ge k hk
  refine ⟨by rw [List.length_zipWith]; omega, by rw [List.length_zipWith]; omega, by rw [mb_succ hk]; exact us_minus cs cs', by rw [mb_succ hk]; exact us_minus us us', by rw [Nat.pow_succ, List.length_append]; omega, fa_app (fa_up hk fa) (fa_up hk fa'), fun n G acc hacc => ?_⟩
  rw [Nat.pow_succ] at hacc
  have r := hr n G acc (by omega)
  have r' := hr' n G (acc ++ F.map fp) (by rw [List.length_append, List.length_map]; omega)
  rw [app_map] at r'
  refine fo_in (n := n + k + 4) ?_
  unfold b_form_of
  simp only [tailOf]
  refine (skip (eqS rfl q_div_var)).trans ((skip (eqS rfl q_div_unit)).trans ?_)
  refine (set2_ok (call_ok (ds := [.tup bs, .tup vs, a, .ref G.length]) (G1 := G ++ [DO.lst acc]) (by simp [evEs, evE]) r)).trans ?_
  refine (skip (G1 := G ++ [DO.lst (acc ++ F.map fp)]) (val_ok (cmp_ok' (a := .str "div") (c := .tup [.str "pow", .str "root"]) (G1 := G ++ [DO.lst (acc ++ F.map fp)]) (var_ok rfl) (by simp [evEs, evE]) i_div))).trans ?_
  refine (set2_ok (call_ok (ds := [.tup bs, .tup vs, c, .ref G.length]) (G1 := G ++ [DO.lst (acc ++ F.map fp)]) (by simp [evEs, evE, ix2]) r')).trans ?_
  refine (skip (eqS rfl q_div_mul)).trans ?_
  refine seq_rt ((if_yes (eqS rfl q_div_div)).trans (ret_ok (tup2_ok (G1 := G ++ [DO.lst (acc ++ (F ++ F').map fp)]) (call_ok (ds := [uD p, uD q]) (G1 := G ++ [DO.lst (acc ++ (F ++ F').map fp)]) ?_ (E_quotient (n := n + k + 1) cs cs' (by omega))) (call_ok (ds := [uD u, uD v]) (G1 := G ++ [DO.lst (acc ++ (F ++ F').map fp)]) ?_ (E_quotient (n := n + k + 1) us us' (by omega))))))
  · simp [evEs, evE]
  · simp [evEs, evE]
theorem f_add (hk : 1 ≤ k) (hk3 : k ≤ 3) (h : FOk bs vs k a p u F) (h' : FOk bs vs k c q v F') : FOk bs vs (k + 1) (.tup [.str "add", a, c]) p u (F ++ F' ++ [(List.zipWith fminus p q, List.zipWith fminus v u)]) := by
  obtain ⟨cl, ul, cs, us, fl, fa, hr⟩ := h
  obtain ⟨cl', ul', cs', us', fl', fa', hr'⟩ := h'
  have hM := mb_le hk3
  have h3 := mb_ge k hk
  refine ⟨cl, ul, cs.mono (mb_up hk), us.mono (mb_up hk), by rw [Nat.pow_succ, List.length_append, List.length_append, List.length_singleton]; omega, fa_app (fa_app (fa_up hk fa) (fa_up hk fa')) (fun z hz => ?_), fun n G acc hacc => ?_⟩
  · rw [List.mem_singleton.mp hz]
    exact ⟨by show (List.zipWith fminus p q).length = _; rw [List.length_zipWith]; omega, by show (List.zipWith fminus v u).length = _; rw [List.length_zipWith]; omega, by rw [mb_succ hk]; exact us_minus cs cs', by rw [mb_succ hk]; exact us_minus us' us⟩
  rw [Nat.pow_succ] at hacc
  have r := hr n G acc (by omega)
  have r' := hr' n G (acc ++ F.map fp) (by rw [List.length_append, List.length_map]; omega)
  rw [app_map] at r'
  refine fo_in (n := n + k + 4) ?_
  unfold b_form_of
  simp only [tailOf]
  refine (skip (eqS rfl q_add_var)).trans ((skip (eqS rfl q_add_unit)).trans ?_)
  refine (set2_ok (call_ok (ds := [.tup bs, .tup vs, a, .ref G.length]) (G1 := G ++ [DO.lst acc]) (by simp [evEs, evE]) r)).trans ?_
  refine (skip (G1 := G ++ [DO.lst (acc ++ F.map fp)]) (val_ok (cmp_ok' (a := .str "add") (c := .tup [.str "pow", .str "root"]) (G1 := G ++ [DO.lst (acc ++ F.map fp)]) (var_ok rfl) (by simp [evEs, evE]) i_add))).trans ?_
  refine (set2_ok (call_ok (ds := [.tup bs, .tup vs, c, .ref G.length]) (G1 := G ++ [DO.lst (acc ++ F.map fp)]) (by simp [evEs, evE, ix2]) r')).trans ?_
  refine (skip (eqS rfl q_add_mul)).trans ((skip (eqS rfl q_add_div)).trans ?_)
  rw [List.map_append (l₁ := F ++ F'), ← List.append_assoc]
  have ap := append_at (G := G) (b := G.length + 1) (Φ := run T (n + k + 4)) (τ := [some (.tup bs), some (.tup vs), some (.tup [.str "add", a, c]), some (.ref G.length), some (.str "add"), some a, none, some (uD p), some (uD u), none, some (uD q), some (uD v)]) (o := .var 3) (e := .tup (.cons (.call "quotient" (.cons (.var 7) (.cons (.var 10) .nil))) (.cons (.call "quotient" (.cons (.var 11) (.cons (.var 8) .nil))) .nil))) (x := fp (List.zipWith fminus p q, List.zipWith fminus v u)) (L := acc ++ (F ++ F').map fp) (var_ok rfl)
    (tup2_ok (G1 := G ++ [DO.lst (acc ++ (F ++ F').map fp)]) (call_ok (ds := [uD p, uD q]) (G1 := G ++ [DO.lst (acc ++ (F ++ F').map fp)]) (by simp [evEs, evE]) (E_quotient (n := n + k + 1) cs cs' (by omega))) (call_ok (ds := [uD v, uD u]) (G1 := G ++ [DO.lst (acc ++ (F ++ F').map fp)]) (by simp [evEs, evE]) (E_quotient (n := n + k + 1) us' us (by omega)))) fp_store (by rw [List.length_append, List.length_map, List.length_append]; show _ < 16777216; omega)
  refine (seq_nx (by rw [evS]; exact congrArg (fun o => Out.then o _) ap)).trans (ret_ok (tup2_ok (var_ok rfl) (var_ok rfl)))
end
end K04

set_option Elab.async false
set_option linter.all false
set_option maxRecDepth 100000
/-! K04W: the form tells the value at every assignment. -/
namespace K04
open PySem L2 U
inductive Gaps (w : List (List Fr)) : List (List Fr × List Fr) → List (List Fr) → Prop where
  | nil : Gaps w [] []
  | cons {p : List Fr × List Fr} {g : List Fr} {F : List (List Fr × List Fr)} {gs : List (List Fr)} (h : GapW w p g) (t : Gaps w F gs) : Gaps w (p :: F) (g :: gs)
theorem Gaps.app {w : List (List Fr)} {F F' : List (List Fr × List Fr)} {gs gs' : List (List Fr)} (h : Gaps w F gs) (h' : Gaps w F' gs') : Gaps w (F ++ F') (gs ++ gs') := by
  induction h with
  | nil => exact h'
  | cons h t ih => exact .cons h ih
section
variable {w : List (List Fr)} {c e u v u' v' : List Fr} {M : Nat}
theorem dens {M : Nat} {u : List Fr} (h : Us M u) : ∀ q ∈ u, 0 < q.2 := fun q hq => (h.bd q hq).2.1
theorem at_var {n m j : Nat} {x : List Fr} (hw : w.length = n) (hx : w[j]? = some x) : AtW w (ev n j) (zr m) x := by
  intro i hi
  have hj : j < w.length := (List.getElem?_eq_some_iff.mp hx).1
  rw [dot_ev (by unfold col; rw [List.length_map]; exact hw) (by omega)]
  have e1 : (col w i).getD j 0 = rv (x.getD i (0, 1)) := by
    unfold col
    rw [List.getD_eq_getElem?_getD, List.getElem?_map, hx]
    rfl
  have e2 : (zr m).getD i (0, 1) = (0, 1) := by
    have hm : (zr m).getD i (0, 1) ∈ zr m := getD_mem hi
    exact (List.mem_replicate.mp hm).2
  rw [e1, e2, rv_zero]
  grind
theorem at_unit {n : Nat} : AtW w (zr n) u u := by
  intro i hi
  rw [show dot ((zr n).map rv) (col w i) = 0 from dot_rep]
  grind
theorem at_times {f : Fr} (hf : 0 < f.2) (hc : Us M c) (hu : Us M u) (hu' : Us M u') (hl : u'.length = u.length) (h : AtW w c u u') : AtW w (c.map fun q => ftimes q f) (u.map fun q => ftimes q f) (u'.map fun q => ftimes q f) := by
  intro i hi
  rw [List.length_map] at hi
  rw [getD_map (by omega), getD_map hi, rv_times (dens hu' _ (getD_mem (by omega))) hf, rv_times (dens hu _ (getD_mem hi)) hf, dot_times hf (dens hc), h i hi]
  grind
theorem at_plus (hc : Us M c) (he : Us M e) (hu : Us M u) (hv : Us M v) (hu' : Us M u') (hv' : Us M v') (hce : c.length = e.length) (huv : u.length = v.length) (hl : u'.length = u.length) (hl' : v'.length = v.length) (h : AtW w c u u') (h' : AtW w e v v') : AtW w (List.zipWith fplus c e) (List.zipWith fplus u v) (List.zipWith fplus u' v') := by
  intro i hi
  rw [List.length_zipWith] at hi
  rw [getD_zip (by omega) (by omega), getD_zip (by omega) (by omega), rv_plus (dens hu' _ (getD_mem (by omega))) (dens hv' _ (getD_mem (by omega))), rv_plus (dens hu _ (getD_mem (by omega))) (dens hv _ (getD_mem (by omega))), dot_plus hce (dens hc) (dens he), h i (by omega), h' i (by omega)]
  grind
theorem at_minus (hc : Us M c) (he : Us M e) (hu : Us M u) (hv : Us M v) (hu' : Us M u') (hv' : Us M v') (hce : c.length = e.length) (huv : u.length = v.length) (hl : u'.length = u.length) (hl' : v'.length = v.length) (h : AtW w c u u') (h' : AtW w e v v') : AtW w (List.zipWith fminus c e) (List.zipWith fminus u v) (List.zipWith fminus u' v') := by
  intro i hi
  rw [List.length_zipWith] at hi
  rw [getD_zip (by omega) (by omega), getD_zip (by omega) (by omega), rv_minus (dens hu' _ (getD_mem (by omega))) (dens hv' _ (getD_mem (by omega))), rv_minus (dens hu _ (getD_mem (by omega))) (dens hv _ (getD_mem (by omega))), dot_minus hce (dens hc) (dens he), h i (by omega), h' i (by omega)]
  grind
theorem gap_at (hc : Us M c) (he : Us M e) (hu : Us M u) (hv : Us M v) (hu' : Us M u') (hv' : Us M v') (hce : c.length = e.length) (huv : u.length = v.length) (hl : u'.length = u.length) (hl' : v'.length = v.length) (h : AtW w c u u') (h' : AtW w e v v') : GapW w (List.zipWith fminus c e, List.zipWith fminus v u) (List.zipWith fminus u' v') := by
  intro i hi
  have hi : i < (List.zipWith fminus v u).length := hi
  rw [List.length_zipWith] at hi
  show _ = dot ((List.zipWith fminus c e).map rv) (col w i) - rv ((List.zipWith fminus v u).getD i (0, 1))
  rw [getD_zip (by omega) (by omega), getD_zip (by omega) (by omega), rv_minus (dens hu' _ (getD_mem (by omega))) (dens hv' _ (getD_mem (by omega))), rv_minus (dens hv _ (getD_mem (by omega))) (dens hu _ (getD_mem (by omega))), dot_minus hce (dens hc) (dens he), h i (by omega), h' i (by omega)]
  grind
end
/-- the form of an expression, and its value everywhere -/
structure Whole (bs vs : List D) (k : Nat) (d : D) (c u : List Fr) (F : List (List Fr × List Fr)) : Prop where
  f : FOk bs vs k d c u F
  v : ∀ (P : Hd → Prop) (w : List (List Fr)) (dd : D), Dict P bs.length vs w dd → ∃ u' gs, VOk P bs.length dd k d u' gs ∧ AtW w c u u' ∧ Gaps w F gs
theorem whole {bs vs : List D} {k : Nat} {d : D} (hb : bs ∈ basesOf) (hv : vs ∈ varsOf) (h : ExG bs vs k d) : k ≤ 4 → ∃ c u F, Whole bs vs k d c u F := by
  have H := drawn_ok hb hv
  have hb1 := H.b0
  have hb3 := H.len
  have hv0 := H.v0
  have hv1 := H.v1
  induction h with
  | @var k x h =>
    intro _
    obtain ⟨j, hj⟩ := List.getElem?_of_mem h
    have hjl : j < vs.length := (List.getElem?_eq_some_iff.mp hj).1
    refine ⟨_, _, _, f_var hb1 hb3 hv hj, fun P w dd hd => ?_⟩
    have hwj : j < w.length := by rw [hd.len]; exact hjl
    have hw : w[j]? = some w[j] := List.getElem?_eq_getElem hwj
    have ok := hd.ok w[j] (List.getElem_mem hwj)
    exact ⟨w[j], [], v_var (hd.get j x w[j] hj hw) ok.1 ok.2, at_var hd.len hw, .nil⟩
  | @unit k xs hl h =>
    intro _
    obtain ⟨u, rfl, hu⟩ := good_us h (by omega)
    rw [List.length_map] at hl
    exact ⟨_, _, _, f_unit hv0 (by omega) hl hu, fun P w dd hd => ⟨u, [], v_unit hl hu, at_unit, .nil⟩⟩
  | @pow k a i h h1 h2 ih =>
    intro hk
    obtain ⟨c, u, F, hf, hv⟩ := ih (by omega)
    have h0 := ex_pos h
    refine ⟨_, _, _, f_pow h0 (by omega) hf h1 h2, fun P w dd hd => ?_⟩
    obtain ⟨u', gs, q1, q2, q3⟩ := hv P w dd hd
    exact ⟨_, gs, v_pow h0 (by omega) q1 h1 h2, at_times (by show (0 : Int) < 1; omega) hf.cs hf.us q1.hs (by rw [q1.hl, hf.ul]) q2, q3⟩
  | @root k a i h h1 h2 ih =>
    intro hk
    obtain ⟨c, u, F, hf, hv⟩ := ih (by omega)
    have h0 := ex_pos h
    refine ⟨_, _, _, f_root h0 (by omega) hf h1 h2, fun P w dd hd => ?_⟩
    obtain ⟨u', gs, q1, q2, q3⟩ := hv P w dd hd
    exact ⟨_, gs, v_root h0 (by omega) q1 h1 h2, at_times (by show (0 : Int) < i; omega) hf.cs hf.us q1.hs (by rw [q1.hl, hf.ul]) q2, q3⟩
  | @two k s a b hs h1 h2 ih1 ih2 =>
    intro hk
    obtain ⟨c, u, F, hf, hv⟩ := ih1 (by omega)
    obtain ⟨e, v, F', hf', hv'⟩ := ih2 (by omega)
    have h0 := ex_pos h1
    have l1 : c.length = e.length := by rw [hf.cl, hf'.cl]
    have l2 : u.length = v.length := by rw [hf.ul, hf'.ul]
    rcases hs with rfl | rfl | rfl
    · refine ⟨_, _, _, f_mul h0 (by omega) hf hf', fun P w dd hd => ?_⟩
      obtain ⟨u', gs, q1, q2, q3⟩ := hv P w dd hd
      obtain ⟨v', gs', r1, r2, r3⟩ := hv' P w dd hd
      exact ⟨_, _, v_mul h0 (by omega) q1 r1, at_plus hf.cs hf'.cs hf.us hf'.us q1.hs r1.hs l1 l2 (by rw [q1.hl, hf.ul]) (by rw [r1.hl, hf'.ul]) q2 r2, q3.app r3⟩
    · refine ⟨_, _, _, f_div h0 (by omega) hf hf', fun P w dd hd => ?_⟩
      obtain ⟨u', gs, q1, q2, q3⟩ := hv P w dd hd
      obtain ⟨v', gs', r1, r2, r3⟩ := hv' P w dd hd
      exact ⟨_, _, v_div h0 (by omega) q1 r1, at_minus hf.cs hf'.cs hf.us hf'.us q1.hs r1.hs l1 l2 (by rw [q1.hl, hf.ul]) (by rw [r1.hl, hf'.ul]) q2 r2, q3.app r3⟩
    · refine ⟨_, _, _, f_add h0 (by omega) hf hf', fun P w dd hd => ?_⟩
      obtain ⟨u', gs, q1, q2, q3⟩ := hv P w dd hd
      obtain ⟨v', gs', r1, r2, r3⟩ := hv' P w dd hd
      exact ⟨_, _, v_add h0 (by omega) q1 r1, q2, (q3.app r3).app (.cons (gap_at hf.cs hf'.cs hf.us hf'.us q1.hs r1.hs l1 l2 (by rw [q1.hl, hf.ul]) (by rw [r1.hl, hf'.ul]) q2 r2) .nil)⟩
end K04

set_option Elab.async false
set_option linter.all false
set_option maxRecDepth 100000
set_option maxHeartbeats 400000
/-! K04S: statements: constraints, gaps, whether they hold. -/
namespace K04
open PySem L2 U
theorem L_constraints_of : T.lookup ("constraints_of" : Str) = some r_constraints_of.fd := by kernel_rfl
theorem L_gaps : T.lookup ("_law_gaps" : Str) = some r__law_gaps.fd := by kernel_rfl
theorem L_does_hold : T.lookup ("does_hold" : Str) = some r_does_hold.fd := by kernel_rfl
theorem add_refl' {G : Hd} {r : Nat} {xs ys : List D} (h : G[r]? = some (.lst xs)) (hl : xs.length + ys.length ≤ line) : binD G .add (.ref r) (.lst ys) = some (.lst (xs ++ ys)) := by
  have e : listD G (.ref r) = some xs := by
    unfold listD
    simp only [h]
  show (match listD G (.ref r), listD G (.lst ys) with | some xs, some ys => if xs.length + ys.length ≤ line then some (D.lst (xs ++ ys)) else none | _, _ => none) = _
  rw [e]
  show (if xs.length + ys.length ≤ line then some (D.lst (xs ++ ys)) else none) = _
  rw [if_pos hl]
theorem lst1_ok {Φ : Fn} {b : Nat} {τ : Tau} {G G1 : Hd} {e : ME} {x : D} (h : evE Φ b e τ G = .ok x G1) : evE Φ b (.lst (.cons e .nil)) τ G = .ok (.lst [x]) G1 := by
  rw [evE]
  simp only [evEs, h, Out.then_ok]
theorem bi1_ok {Φ : Fn} {b : Nat} {τ : Tau} {G G1 : Hd} {e : ME} {o : BI} {x r : D} (h : evE Φ b e τ G = .ok x G1) (h2 : biD G1 o [x] = some r) : evE Φ b (.bi o (.cons e .nil)) τ G = .ok r G1 := by
  rw [evE]
  simp only [evEs, h, Out.then_ok, h2, lift_some]
theorem frz_tup' {j m : Nat} {G : Hd} {xs : List D} (h : ∀ x ∈ xs, frz j m G x = some x) : frz (j + 1) m G (.tup xs) = some (.tup xs) := by
  show (xs.mapM (frz j m G)).map D.tup = _
  rw [mapM_id h]
  rfl
theorem frz_fps {m : Nat} {G : Hd} {C : List (List Fr × List Fr)} : frz 4 m G (.tup (C.map fp)) = some (.tup (C.map fp)) := frz_tup' fun x hx => by
  obtain ⟨p, _, rfl⟩ := List.mem_map.mp hx
  exact frz_py 3 (py_fp p)
/-- the constraints of a statement, and its gaps everywhere -/
structure Stm (bs vs : List D) (d : D) (C : List (List Fr × List Fr)) : Prop where
  len : C.length ≤ 17
  ok : ∀ p ∈ C, p.1.length = vs.length ∧ p.2.length = bs.length ∧ Us (Mb 4) p.1 ∧ Us (Mb 4) p.2
  hc : ∀ n G, run T (n + 8) "constraints_of" [.tup bs, .tup vs, d] G = .ok (.tup (C.map fp)) G
  hg : ∀ (P : Hd → Prop) (w : List (List Fr)) (dd : D), Dict P bs.length vs w dd → ∃ gs, Gaps w C gs ∧ (∀ g ∈ gs, g.length = bs.length ∧ Us (Mb 4) g) ∧ gs.length ≤ 17 ∧
    ∀ n G, P G → run T (n + 8) "_law_gaps" [d, dd] G = .ok (.lst (gs.map uD)) G ∧ run T (n + 8) "does_hold" [d, dd] G = .ok (.bl (gd bs.length gs)) G
theorem frz_gs {m : Nat} {G : Hd} {gs : List (List Fr)} : frz 4 m G (.lst (gs.map uD)) = some (.lst (gs.map uD)) := by
  refine frz_py 4 (x := .list (gs.map fun u => .tuple (u.map fP))) ?_
  show (toPys (gs.map uD)).map PyData.list = _
  rw [pys_us]
  rfl
theorem ExG.up {bs vs : List D} {k : Nat} {d : D} (h : ExG bs vs k d) : ExG bs vs (k + 1) d := by
  induction h with
  | var h => exact .var h
  | unit hl h => exact .unit hl h
  | pow h h1 h2 ih => exact .pow ih h1 h2
  | root h h1 h2 ih => exact .root ih h1 h2
  | two hs h1 h2 ih1 ih2 => exact .two hs ih1 ih2
theorem ExG.le {bs vs : List D} {k m : Nat} {d : D} (h : ExG bs vs k d) (hm : k ≤ m) : ExG bs vs m d := by
  induction hm with
  | refl => exact h
  | step _ ih => exact ih.up
theorem stm_ok {bs vs : List D} {a c : D} (hb : bs ∈ basesOf) (hv : vs ∈ varsOf) (ha : ExG bs vs 3 a) (hc : ExG bs vs 3 c) : ∃ C, Stm bs vs (.tup [a, c]) C := by
  obtain ⟨p, u, F, hf, hw⟩ := whole hb hv ha (by omega)
  obtain ⟨q, v, F', hf', hw'⟩ := whole hb hv hc (by omega)
  have l1 : p.length = q.length := by rw [hf.cl, hf'.cl]
  have l2 : u.length = v.length := by rw [hf.ul, hf'.ul]
  have hM := mb_le (k := 3) (by omega)
  have e4 : Mb 4 = 2 * (Mb 3 * Mb 3) := mb_succ (by omega)
  have fl : F.length + 1 ≤ 8 := hf.fl
  have fl' : F'.length + 1 ≤ 8 := hf'.fl
  refine ⟨F ++ F' ++ [(List.zipWith fminus p q, List.zipWith fminus v u)], ⟨?_, ?_, ?_, ?_⟩⟩
  · rw [List.length_append, List.length_append, List.length_singleton]
    omega
  · refine fa_app (fa_app (fa_up (k := 3) (by omega) hf.fa) (fa_up (k := 3) (by omega) hf'.fa)) fun z hz => ?_
    rw [List.mem_singleton.mp hz]
    have c1 := hf.cl
    have c2 := hf.ul
    exact ⟨by show (List.zipWith fminus p q).length = _; rw [List.length_zipWith]; omega, by show (List.zipWith fminus v u).length = _; rw [List.length_zipWith]; omega, by rw [e4]; exact us_minus hf.cs hf'.cs, by rw [e4]; exact us_minus hf'.us hf.us⟩
  · intro n G
    have r1 := hf.hr n G [] (by decide)
    have r2 := hf'.hr n G ([] ++ F.map fp) (by rw [List.length_append, List.length_map]; show 0 + F.length + 8 ≤ 1000; omega)
    rw [app_map] at r2
    rw [List.nil_append] at r1 r2
    rw [run_succ L_constraints_of]
    have hg : (G ++ [DO.lst ((F ++ F').map fp)])[G.length]? = some (.lst ((F ++ F').map fp)) := get_last
    refine (callF_rt (d := .tup ((F ++ F' ++ [(List.zipWith fminus p q, List.zipWith fminus v u)]).map fp)) (d' := .tup ((F ++ F' ++ [(List.zipWith fminus p q, List.zipWith fminus v u)]).map fp)) (G' := G ++ [DO.lst ((F ++ F').map fp)]) rfl rfl ?_ frz_fps).trans (by rw [List.take_left'] ; rfl)
    show evSs _ _ b_constraints_of [some (.tup bs), some (.tup vs), some (.tup [a, c]), none, none, none, none, none] _ = _
    unfold b_constraints_of
    refine (set_ok (d := .ref G.length) (G1 := G ++ [DO.lst []]) (by simp [evE, evEs, allocD, objOf])).trans ?_
    refine (set2_ok (call_ok (ds := [.tup bs, .tup vs, a, .ref G.length]) (G1 := G ++ [DO.lst []]) (by simp [evEs, evE, ix0]) r1)).trans ?_
    refine (set2_ok (call_ok (ds := [.tup bs, .tup vs, c, .ref G.length]) (G1 := G ++ [DO.lst (F.map fp)]) (by simp [evEs, evE, ix1]) r2)).trans ?_
    refine ret_ok (bi1_ok (bin_ok (G1 := G ++ [DO.lst ((F ++ F').map fp)]) (var_ok rfl) (lst1_ok (tup2_ok (G1 := G ++ [DO.lst ((F ++ F').map fp)]) (call_ok (ds := [uD p, uD q]) (G1 := G ++ [DO.lst ((F ++ F').map fp)]) (by simp [evEs, evE]) (E_quotient (n := n + 4) hf.cs hf'.cs (by omega))) (call_ok (ds := [uD v, uD u]) (G1 := G ++ [DO.lst ((F ++ F').map fp)]) (by simp [evEs, evE]) (E_quotient (n := n + 4) hf'.us hf.us (by omega))))) (add_refl' hg ?_)) ?_)
    · rw [List.length_map, List.length_append]
      show F.length + F'.length + 1 ≤ 16777216
      omega
    · rw [List.map_append (l₁ := F ++ F')]
      rfl
  · intro P w dd hd
    obtain ⟨u', gs, q1, q2, q3⟩ := hw P w dd hd
    obtain ⟨v', gs', r1, r2, r3⟩ := hw' P w dd hd
    have gl : gs.length + 1 ≤ 8 := q1.hg
    have gl' : gs'.length + 1 ≤ 8 := r1.hg
    have ul := q1.hl
    have ul' := r1.hl
    refine ⟨gs ++ gs' ++ [List.zipWith fminus u' v'], (q3.app r3).app (.cons (gap_at hf.cs hf'.cs hf.us hf'.us q1.hs r1.hs l1 l2 (by rw [ul, hf.ul]) (by rw [ul', hf'.ul]) q2 r2) .nil), ?_, ?_, fun n G hP => ⟨?_, ?_⟩⟩
    · refine ha_app (ha_app (ha_up (k := 3) (by omega) q1.ha) (ha_up (k := 3) (by omega) r1.ha)) fun z hz => ?_
      rw [List.mem_singleton.mp hz]
      exact ⟨by rw [List.length_zipWith]; omega, by rw [e4]; exact us_minus q1.hs r1.hs⟩
    · rw [List.length_append, List.length_append, List.length_singleton]
      omega
    · have x1 := (q1.hr n G hP).2
      have x2 := (r1.hr n G hP).2
      rw [run_succ L_gaps]
      refine callF_rtG rfl rfl ?_ frz_gs
      show evSs _ _ b__law_gaps [some (.tup [a, c]), some dd, none, none, none, none] _ = _
      unfold b__law_gaps
      refine (set2_ok (call_ok (ds := [a, dd]) (G1 := G) (by simp [evEs, evE, ix0]) x1)).trans ?_
      refine (set2_ok (call_ok (ds := [c, dd]) (G1 := G) (by simp [evEs, evE, ix1]) x2)).trans ?_
      rw [List.map_append, List.map_append]
      have hp := E_lplus2 (n := n + 4) (G := G) q1.hs r1.hs (by omega) (by have := mb_ge 3 (by omega); omega)
      have hp' : run T (n + 7) "_law_plus" [uD u', .tup [.int (-1), .int 1], uD v'] G = .ok (uD (List.zipWith fminus u' v')) G := hp
      refine ret_ok (bin_ok (G1 := G) (bin_ok (G1 := G) (var_ok rfl) (var_ok rfl) (add_l (by simp only [List.length_map]; show _ ≤ 16777216; omega))) (lst1_ok (x := uD (List.zipWith fminus u' v')) (call_ok (ds := [uD u', .tup [.int (-1), .int 1], uD v']) (G1 := G) ?_ hp')) (add_l (by simp only [List.length_map, List.length_append, List.length_singleton]; show _ ≤ 16777216; omega)))
      simp [evEs, evE, intD]
    · have x1 := (q1.hr n G hP).1
      have x2 := (r1.hr n G hP).1
      have hz := gap_zero (u := u') (v := v') (by omega) q1.hs.nf r1.hs.nf
      have hd : gd bs.length (gs ++ gs' ++ [List.zipWith fminus u' v']) = (gd bs.length gs && (gd bs.length gs' && decide (u' = v'))) := by
        rw [all_app, all_app, Bool.and_assoc]
        congr 2
        show (decide _ && true) = _
        rw [Bool.and_true, ← ul]
        exact decide_eq_decide.mpr hz
      rw [hd, run_succ L_does_hold]
      refine callF_rtG rfl rfl ?_ frz_bl
      show evSs _ _ b_does_hold [some (.tup [a, c]), some dd, none, none, none, none] _ = _
      unfold b_does_hold
      refine (set2_ok (call_ok (ds := [a, dd]) (G1 := G) (by simp [evEs, evE, ix0]) x1)).trans ?_
      refine (set2_ok (call_ok (ds := [c, dd]) (G1 := G) (by simp [evEs, evE, ix1]) x2)).trans ?_
      exact ret_ok (and_bl (var_ok rfl) (and_bl (var_ok rfl) (cmp_ok' (G1 := G) (var_ok rfl) (var_ok rfl) cmp_equ)))
end K04

set_option Elab.async false
set_option linter.all false
set_option maxRecDepth 100000
set_option maxHeartbeats 400000
/-! K04T: the law's own search for the constraints of a statement. -/
namespace K04
open PySem L2 U
theorem L_forms : T.lookup ("_law_forms" : Str) = some r__law_forms.fd := by kernel_rfl
def rO (x : List Fr) : DO := .lst (x.map fD)
def rowsFrom : Nat → List (List Fr) → List D
  | _, [] => []
  | i, n :: ns => .tup [.ref i, uD n] :: rowsFrom (i + 1) ns
def neg (g : List Fr) : List Fr := g.map fun q => (0 - q.1, q.2)
theorem get_mid {A B : Hd} {y : DO} : (A ++ y :: B)[A.length]? = some y := by simp
theorem set_mid {y z : DO} : ∀ {A B : Hd}, (A ++ y :: B).set A.length z = A ++ z :: B
  | [], B => rfl
  | a :: A, B => by
    rw [List.cons_append, List.length_cons, List.set_cons_succ, set_mid (A := A)]
    rfl
def cNeg : ME := (.bi .tuple (.cons (.lc (.tup (.cons (.bin .sub (.con (.int (0))) (.ix (.var 7) (.con (.int (0))))) (.cons (.ix (.var 7) (.con (.int (1)))) .nil))) (.nam 7) (.val (.var 8)) .yes [7]) .nil))
def cFound : ME := (.lc (.tup (.cons (.alloc (.lst .nil)) (.cons cNeg .nil))) (.nam 8) (.val (.var 4)) .yes [8])
section
variable {Φ : Fn} {b n : Nat} {G H : Hd} {t0 t1 t2 t3 t4 t5 t6 t7 t8 t9 t10 t11 t12 t13 : Option D}
theorem lc_unf {e : ME} {i : Nat} {it : MI} {own : List Nat} {τ : Tau} {ds : List D} {G1 : Hd} (hi : evI Φ b it τ G = .ok (.items ds) G1) (hl : ds.length ≤ line) : evE Φ b (.lc e (.nam i) it .yes own) τ G = (lcGo (lcTurn Φ b e (.nam i) .yes own τ) ds [] G1).then fun ds G => .ok (.lst ds) G := by
  rw [evE, hi]
  simp only [Out.then_ok]
  rw [if_pos hl]
  rfl
theorem neg_ok {g : List Fr} {τ : Tau} (hτ : τ.length = 14) (h8 : τ[8]? = some (some (uD g))) (hl : g.length ≤ 1000) : evE Φ b cNeg τ H = .ok (uD (neg g)) H := by
  unfold cNeg neg
  refine lc_each (g := fun q => (0 - q.1, q.2)) (evI_u (var_ok h8)) hl fun p hp => ?_
  have v7 : ((wipeD τ [7]).set 7 (some (fD p)))[7]? = some (some (fD p)) := by
    rw [List.getElem?_set_self]
    show 7 < (τ.set 7 none).length
    rw [List.length_set]
    omega
  have e0 : evE Φ b (.ix (.var 7) (.con (.int 0))) ((wipeD τ [7]).set 7 (some (fD p))) H = .ok (.int p.1) H := ix_ok' (var_ok v7) con_ok ix0'
  have e1 : evE Φ b (.ix (.var 7) (.con (.int 1))) ((wipeD τ [7]).set 7 (some (fD p))) H = .ok (.int p.2) H := ix_ok' (var_ok v7) con_ok ix1'
  exact tup2_ok (bin_ok con_ok e0 rfl) e1
theorem found_turn {g : List Fr} {τ : Tau} (hτ : τ.length = 14) (hl : g.length ≤ 1000) : lcTurn Φ b (.tup (.cons (.alloc (.lst .nil)) (.cons cNeg .nil))) (.nam 8) .yes [8] τ (uD g) H = .ok (some (.tup [.ref H.length, uD (neg g)])) (H ++ [rO []]) := by
  have h8 : ((wipeD τ [8]).set 8 (some (uD g)))[8]? = some (some (uD g)) := by
    rw [List.getElem?_set_self]
    show 8 < (τ.set 8 none).length
    rw [List.length_set]
    omega
  have hl8 : ((wipeD τ [8]).set 8 (some (uD g))).length = 14 := by
    show ((τ.set 8 none).set 8 _).length = 14
    rw [List.length_set, List.length_set]
    exact hτ
  have e1 : evE Φ b (.alloc (.lst .nil)) ((wipeD τ [8]).set 8 (some (uD g))) H = .ok (.ref H.length) (H ++ [rO []]) := by
    rw [evE, evE, evEs]
    rfl
  have q := tup2_ok e1 (neg_ok (Φ := Φ) (b := b) (H := H ++ [rO []]) hl8 h8 hl)
  unfold lcTurn
  simp only [bindT, evT, Out.then_ok, if_true, q, noexc_ok]
theorem found_go {τ : Tau} (hτ : τ.length = 14) : ∀ (gs : List (List Fr)) (acc : List D) (H : Hd), (∀ g ∈ gs, g.length ≤ 1000) → lcGo (lcTurn Φ b (.tup (.cons (.alloc (.lst .nil)) (.cons cNeg .nil))) (.nam 8) .yes [8] τ) (gs.map uD) acc H = .ok (acc ++ rowsFrom H.length (gs.map neg)) (H ++ (gs.map fun _ => []).map rO)
  | [], acc, H, _ => by simp [lcGo, rowsFrom]
  | g :: gs, acc, H, h => by
    have ih := found_go hτ gs (acc ++ [.tup [.ref H.length, uD (neg g)]]) (H ++ [rO []]) fun g hg => h g (List.mem_cons_of_mem _ hg)
    simp only [List.map_cons, lcGo, found_turn hτ (h g List.mem_cons_self), Out.then_ok, rowsFrom]
    rw [ih]
    simp
theorem found_ok {τ : Tau} {gs : List (List Fr)} (hτ : τ.length = 14) (h4 : τ[4]? = some (some (.lst (gs.map uD)))) (hg : ∀ g ∈ gs, g.length ≤ 1000) (hl : gs.length ≤ 1000) : evE Φ b cFound τ G = .ok (.lst (rowsFrom G.length (gs.map neg))) (G ++ (gs.map fun _ => []).map rO) := by
  unfold cFound
  rw [lc_unf (ds := gs.map uD) (G1 := G) (by rw [evI, var_ok h4]; rfl) (by rw [List.length_map]; show _ ≤ 16777216; omega), found_go hτ gs [] G hg]
  rfl
/-! ### one variable -/
def iBody : MSs := (.cons (.exp (.append (.ix (.var 11) (.con (.int (0)))) (.call "_law_add" (.cons (.ix (.var 13) (.con (.int (0)))) (.cons (.tup (.cons (.bin .sub (.con (.int (0))) (.ix (.ix (.var 12) (.con (.int (0)))) (.con (.int (0))))) (.cons (.ix (.ix (.var 12) (.con (.int (0)))) (.con (.int (1)))) .nil))) .nil)))))
  .nil)
def iTgt : MT := (.tpc (.nam 11) (.tpc (.nam 12) (.tpc (.nam 13) .tp0)))
def hd0 (g : List Fr) : Fr := g.getD 0 (0, 1)
def qf (a c : List Fr) : Fr := fplus (hd0 a) (0 - (hd0 c).1, (hd0 c).2)
structure Good (m : Nat) (g : List Fr) : Prop where
  len : g.length = m
  us : Us (Mb 4) g
theorem mb4 : Mb 4 ≤ 2 ^ 60 := by decide
theorem Good.hd {m : Nat} {g : List Fr} (h : Good m g) (hm : 1 ≤ m) : ∃ r, g = hd0 g :: r := by
  cases g with
  | nil => have := h.len; simp at this; omega
  | cons a r => exact ⟨r, rfl⟩
theorem Good.bd {m : Nat} {g : List Fr} (h : Good m g) (hm : 1 ≤ m) : Bd (Mb 4) (hd0 g) ∧ Nf (hd0 g) := by
  obtain ⟨r, e⟩ := h.hd hm
  have : hd0 g ∈ g := by rw [e]; exact List.mem_cons_self
  exact ⟨h.us.bd _ this, h.us.nf _ this⟩
theorem bd_neg {M : Nat} {q : Fr} (h : Bd M q) : Bd M (0 - q.1, q.2) := ⟨by have := h.1; show (0 - q.1).natAbs ≤ M; omega, h.2.1, h.2.2⟩
theorem inner_turn {m : Nat} (hm : 1 ≤ m) {x a c : List Fr} {nD : D} {A B : Hd} (ha : Good m a) (hc : Good m c) (hb : b ≤ A.length) (hx : x.length ≤ 1000) :
    forTurn (run T (n + 2)) b iTgt iBody (.tup [.tup [.ref A.length, nD], uD c, uD a]) [t0, t1, t2, t3, t4, t5, t6, t7, t8, t9, t10, t11, t12, t13] (A ++ rO x :: B) = .ok (.nx [t0, t1, t2, t3, t4, t5, t6, t7, t8, t9, t10, some (.tup [.ref A.length, nD]), some (uD c), some (uD a)]) (A ++ rO (x ++ [qf a c]) :: B) := by
  obtain ⟨ra, ea⟩ := ha.hd hm
  obtain ⟨rc, ec⟩ := hc.hd hm
  have ixa : ixD (A ++ rO x :: B) (uD a) (.int 0) = some (fD (hd0 a)) := by
    rw [ea]
    exact ix0
  have ixc : ixD (A ++ rO x :: B) (uD c) (.int 0) = some (fD (hd0 c)) := by
    rw [ec]
    exact ix0
  show evSs _ _ iBody [t0, t1, t2, t3, t4, t5, t6, t7, t8, t9, t10, some (.tup [.ref A.length, nD]), some (uD c), some (uD a)] _ = _
  generalize hτ : ([t0, t1, t2, t3, t4, t5, t6, t7, t8, t9, t10, some (.tup [.ref A.length, nD]), some (uD c), some (uD a)] : Tau) = τ
  have v11 : τ[11]? = some (some (.tup [.ref A.length, nD])) := by rw [← hτ]; rfl
  have v12 : τ[12]? = some (some (uD c)) := by rw [← hτ]; rfl
  have v13 : τ[13]? = some (some (uD a)) := by rw [← hτ]; rfl
  unfold iBody
  have g : (A ++ rO x :: B)[A.length]? = some (.lst (x.map fD)) := get_mid
  have l1 : listD (A ++ rO x :: B) (.ref A.length) = some (x.map fD) := by
    unfold listD
    simp only [g]
  have eo : evE (run T (n + 2)) b (.ix (.var 11) (.con (.int (0)))) τ (A ++ rO x :: B) = .ok (.ref A.length) (A ++ rO x :: B) := ix_ok' (var_ok v11) con_ok ix0
  have e1 : evE (run T (n + 2)) b (.ix (.var 12) (.con (.int (0)))) τ (A ++ rO x :: B) = .ok (fD (hd0 c)) (A ++ rO x :: B) := ix_ok' (var_ok v12) con_ok ixc
  have e2 : evE (run T (n + 2)) b (.ix (.var 13) (.con (.int (0)))) τ (A ++ rO x :: B) = .ok (fD (hd0 a)) (A ++ rO x :: B) := ix_ok' (var_ok v13) con_ok ixa
  have e3 : evE (run T (n + 2)) b (.tup (.cons (.bin .sub (.con (.int (0))) (.ix (.ix (.var 12) (.con (.int (0)))) (.con (.int (0))))) (.cons (.ix (.ix (.var 12) (.con (.int (0)))) (.con (.int (1)))) .nil))) τ (A ++ rO x :: B) = .ok (fD (0 - (hd0 c).1, (hd0 c).2)) (A ++ rO x :: B) :=
    tup2_ok (bin_ok con_ok (ix_ok' e1 con_ok ix0') rfl) (ix_ok' e1 con_ok ix1')
  have e4 : evE (run T (n + 2)) b (.call "_law_add" (.cons (.ix (.var 13) (.con (.int (0)))) (.cons (.tup (.cons (.bin .sub (.con (.int (0))) (.ix (.ix (.var 12) (.con (.int (0)))) (.con (.int (0))))) (.cons (.ix (.ix (.var 12) (.con (.int (0)))) (.con (.int (1)))) .nil))) .nil))) τ (A ++ rO x :: B) = .ok (fD (qf a c)) (A ++ rO x :: B) := by
    refine call_ok (ds := [fD (hd0 a), fD (0 - (hd0 c).1, (hd0 c).2)]) (G1 := A ++ rO x :: B) ?_ (E_ladd (ha.bd hm).1 (bd_neg (hc.bd hm).1) mb4)
    simp only [evEs, e2, e3, Out.then_ok]
  have ap : evE (run T (n + 2)) b (.append (.ix (.var 11) (.con (.int (0)))) (.call "_law_add" (.cons (.ix (.var 13) (.con (.int (0)))) (.cons (.tup (.cons (.bin .sub (.con (.int (0))) (.ix (.ix (.var 12) (.con (.int (0)))) (.con (.int (0))))) (.cons (.ix (.ix (.var 12) (.con (.int (0)))) (.con (.int (1)))) .nil))) .nil)))) τ (A ++ rO x :: B) = .ok .non (A ++ rO (x ++ [qf a c]) :: B) := by
    rw [evE, eo]
    simp only [Out.then_ok, l1, e4]
    unfold appendD
    have hs : storeOk b A.length (fD (qf a c)) = true := by
      unfold storeOk
      rw [decide_eq_true hb]
      rfl
    have hl : decide ((x.map fD).length < line) = true := decide_eq_true (by rw [List.length_map]; show _ < 16777216; omega)
    simp only [g, hs, hl, Bool.and_self, if_true, set_mid]
    unfold rO
    rw [List.map_append]
    rfl
  refine (seq_nx (by rw [evS, ap]; rfl)).trans (by rw [evSs])
theorem inner {m : Nat} (hm : 1 ≤ m) {E : Hd} : ∀ (X ns cs as : List (List Fr)) (A : Hd) (t11 t12 t13 : Option D), ns.length = X.length → cs.length = X.length → as.length = X.length → (∀ c ∈ cs, Good m c) → (∀ a ∈ as, Good m a) → (∀ x ∈ X, x.length ≤ 1000) → b ≤ A.length →
    ∃ t11' t12' t13', forGo (forTurn (run T (n + 2)) b iTgt iBody) (zip3L (rowsFrom A.length ns) (cs.map uD) (as.map uD)) [t0, t1, t2, t3, t4, t5, t6, t7, t8, t9, t10, t11, t12, t13] (A ++ X.map rO ++ E) = .ok (.nx [t0, t1, t2, t3, t4, t5, t6, t7, t8, t9, t10, t11', t12', t13']) (A ++ (List.zipWith (fun x q => x ++ [q]) X (List.zipWith qf as cs)).map rO ++ E)
  | [], [], [], [], A, t11, t12, t13, _, _, _, _, _, _, _ => ⟨t11, t12, t13, by simp [zip3L, rowsFrom, forGo]⟩
  | x :: X, n1 :: ns, c :: cs, a :: as, A, t11, t12, t13, h1, h2, h3, hc, ha, hx, hb => by
    obtain ⟨u1, u2, u3, ih⟩ := inner (E := E) hm X ns cs as (A ++ [rO (x ++ [qf a c])]) (some (.tup [.ref A.length, uD n1])) (some (uD c)) (some (uD a)) (by simpa using h1) (by simpa using h2) (by simpa using h3) (fun y hy => hc y (List.mem_cons_of_mem _ hy)) (fun y hy => ha y (List.mem_cons_of_mem _ hy)) (fun y hy => hx y (List.mem_cons_of_mem _ hy)) (by rw [List.length_append]; omega)
    refine ⟨u1, u2, u3, ?_⟩
    have st := inner_turn (n := n) (b := b) (t0 := t0) (t1 := t1) (t2 := t2) (t3 := t3) (t4 := t4) (t5 := t5) (t6 := t6) (t7 := t7) (t8 := t8) (t9 := t9) (t10 := t10) (t11 := t11) (t12 := t12) (t13 := t13) (nD := uD n1) (B := X.map rO ++ E) hm (ha a List.mem_cons_self) (hc c List.mem_cons_self) hb (hx x List.mem_cons_self)
    have e1 : A ++ (x :: X).map rO ++ E = A ++ rO x :: (X.map rO ++ E) := by simp
    rw [e1]
    simp only [rowsFrom, List.map_cons, zip3L, forGo, st, Out.then_ok]
    have e2 : A ++ rO (x ++ [qf a c]) :: (X.map rO ++ E) = (A ++ [rO (x ++ [qf a c])]) ++ X.map rO ++ E := by simp
    have e3 : A.length + 1 = (A ++ [rO (x ++ [qf a c])]).length := by simp
    rw [e2, e3, ih]
    simp
  | [], _ :: _, _, _, _, _, _, _, h, _, _, _, _, _, _ => by cases h
  | [], [], _ :: _, _, _, _, _, _, _, h, _, _, _, _, _ => by cases h
  | [], [], [], _ :: _, _, _, _, _, _, _, h, _, _, _, _ => by cases h
  | _ :: _, [], _, _, _, _, _, _, h, _, _, _, _, _, _ => by cases h
  | _ :: _, _ :: _, [], _, _, _, _, _, _, h, _, _, _, _, _ => by cases h
  | _ :: _, _ :: _, _ :: _, [], _, _, _, _, _, _, h, _, _, _, _ => by cases h
/-! ### the end -/
def cEnd : ME := (.lc (.tup (.cons (.bi .tuple (.cons (.ix (.var 11) (.con (.int (0)))) .nil)) (.cons (.ix (.var 11) (.con (.int (1)))) .nil))) (.nam 11) (.val (.var 6)) .yes [11])
theorem end_go {τ : Tau} (hτ : τ.length = 14) {E : Hd} : ∀ (X ns : List (List Fr)) (A : Hd) (acc : List D), ns.length = X.length → lcGo (lcTurn Φ b (.tup (.cons (.bi .tuple (.cons (.ix (.var 11) (.con (.int (0)))) .nil)) (.cons (.ix (.var 11) (.con (.int (1)))) .nil))) (.nam 11) .yes [11] τ) (rowsFrom A.length ns) acc (A ++ X.map rO ++ E) = .ok (acc ++ (List.zipWith (fun x n => (x, n)) X ns).map fp) (A ++ X.map rO ++ E)
  | [], [], A, acc, _ => by simp [rowsFrom, lcGo]
  | x :: X, n1 :: ns, A, acc, h => by
    have e1 : A ++ (x :: X).map rO ++ E = A ++ rO x :: (X.map rO ++ E) := by simp
    have e2 : A ++ (x :: X).map rO ++ E = (A ++ [rO x]) ++ X.map rO ++ E := by simp
    have ih := end_go hτ (E := E) X ns (A ++ [rO x]) (acc ++ [fp (x, n1)]) (by simpa using h)
    have e3 : A.length + 1 = (A ++ [rO x]).length := by simp
    have v11 : ((wipeD τ [11]).set 11 (some (.tup [.ref A.length, uD n1])))[11]? = some (some (.tup [.ref A.length, uD n1])) := by
      rw [List.getElem?_set_self]
      show 11 < (τ.set 11 none).length
      rw [List.length_set]
      omega
    have st : lcTurn Φ b (.tup (.cons (.bi .tuple (.cons (.ix (.var 11) (.con (.int (0)))) .nil)) (.cons (.ix (.var 11) (.con (.int (1)))) .nil))) (.nam 11) .yes [11] τ (.tup [.ref A.length, uD n1]) (A ++ (x :: X).map rO ++ E) = .ok (some (fp (x, n1))) (A ++ (x :: X).map rO ++ E) := by
      rw [e1]
      have g : (A ++ rO x :: (X.map rO ++ E))[A.length]? = some (.lst (x.map fD)) := get_mid
      have l1 : listD (A ++ rO x :: (X.map rO ++ E)) (.ref A.length) = some (x.map fD) := by
        unfold listD
        simp only [g]
      have s1 : biD (A ++ rO x :: (X.map rO ++ E)) .tuple [.ref A.length] = some (uD x) := by
        show (listD (A ++ rO x :: (X.map rO ++ E)) (.ref A.length)).map D.tup = _
        rw [l1]
        rfl
      have q : evE Φ b (.tup (.cons (.bi .tuple (.cons (.ix (.var 11) (.con (.int (0)))) .nil)) (.cons (.ix (.var 11) (.con (.int (1)))) .nil))) ((wipeD τ [11]).set 11 (some (.tup [.ref A.length, uD n1]))) (A ++ rO x :: (X.map rO ++ E)) = .ok (fp (x, n1)) (A ++ rO x :: (X.map rO ++ E)) :=
        tup2_ok (bi1_ok (ix_ok' (var_ok v11) con_ok ix0) s1) (ix_ok' (var_ok v11) con_ok ix1)
      unfold lcTurn
      simp only [bindT, evT, Out.then_ok, if_true, q, noexc_ok]
    simp only [rowsFrom, lcGo, st, Out.then_ok]
    rw [e2, e3, ih]
    simp
  | [], _ :: _, _, _, h => by cases h
  | _ :: _, [], _, _, h => by cases h
theorem rows_len : ∀ {i : Nat} {ns : List (List Fr)}, (rowsFrom i ns).length = ns.length
  | _, [] => rfl
  | i, n :: ns => by simp [rowsFrom, rows_len (i := i + 1) (ns := ns)]
theorem end_ok {τ : Tau} {X ns : List (List Fr)} {A E : Hd} (hτ : τ.length = 14) (h6 : τ[6]? = some (some (.lst (rowsFrom A.length ns)))) (hl : ns.length = X.length) (hn : ns.length ≤ 1000) : evE Φ b cEnd τ (A ++ X.map rO ++ E) = .ok (.lst ((List.zipWith (fun x n => (x, n)) X ns).map fp)) (A ++ X.map rO ++ E) := by
  unfold cEnd
  rw [lc_unf (ds := rowsFrom A.length ns) (G1 := A ++ X.map rO ++ E) (by rw [evI, var_ok h6]; rfl) (by rw [rows_len]; show _ ≤ 16777216; omega), end_go hτ X ns A [] hl]
  rfl
end
end K04

set_option Elab.async false
set_option linter.all false
set_option maxRecDepth 100000
set_option maxHeartbeats 400000
/-! K04V: the law's search finds the constraints. -/
namespace K04
open PySem L2 U
/-! ### plain -/
theorem dot_zero : ∀ {c : List Rat} {n : Nat}, dot c (List.replicate n 0) = 0
  | [], n => dot_nil
  | a :: c, 0 => rfl
  | a :: c, n + 1 => by
    have ih := dot_zero (c := c) (n := n)
    simp only [List.replicate_succ, dot, ih]
    grind
theorem dot_ind : ∀ {c : List Rat} {n j : Nat}, c.length = n → j < n → dot c ((List.replicate n 0).set j 1) = c.getD j 0
  | [], n, j, h, hj => by simp at h; omega
  | a :: c, 0, j, h, hj => by cases h
  | a :: c, n + 1, 0, h, hj => by
    have ih := dot_zero (c := c) (n := n)
    simp only [List.replicate_succ, List.set_cons_zero, dot, ih, List.getD_cons_zero]
    grind
  | a :: c, n + 1, j + 1, h, hj => by
    have ih := dot_ind (c := c) (n := n) (j := j) (by simpa using h) (by omega)
    simp only [List.replicate_succ, List.set_cons_succ, dot, ih, List.getD_cons_succ]
    grind
def w0 (n m : Nat) : List (List Fr) := List.replicate n (zr m)
def w1 (n m j : Nat) : List (List Fr) := (w0 n m).set j (ev m 0)
theorem zr_get {m i : Nat} : (zr m).getD i (0, 1) = (0, 1) := by
  unfold zr
  rw [List.getD_eq_getElem?_getD, List.getElem?_replicate]
  split <;> rfl
theorem col0 {n m i : Nat} : col (w0 n m) i = List.replicate n 0 := by
  unfold col w0
  rw [List.map_replicate, zr_get, rv_zero]
theorem col1 {n m j : Nat} (hm : 1 ≤ m) : col (w1 n m j) 0 = (List.replicate n 0).set j 1 := by
  unfold w1
  have e : col ((w0 n m).set j (ev m 0)) 0 = (col (w0 n m) 0).set j (rv ((ev m 0).getD 0 (0, 1))) := by
    unfold col
    rw [List.map_set]
  rw [e, col0]
  obtain ⟨k, rfl⟩ : ∃ k, m = k + 1 := ⟨m - 1, by omega⟩
  rw [ev_zero, List.getD_cons_zero, rv_one]
theorem neg_nf {q : Fr} (h : Nf q) : Nf (0 - q.1, q.2) := ⟨h.1, by show Int.gcd (0 - q.1) q.2 = 1; rw [Int.zero_sub, Int.neg_gcd]; exact h.2⟩
section
variable {n m : Nat}
structure Cons (n m : Nat) (p : List Fr × List Fr) : Prop where
  l1 : p.1.length = n
  l2 : p.2.length = m
  u1 : Us (Mb 4) p.1
  u2 : Us (Mb 4) p.2
theorem const_eq {C : List (List Fr × List Fr)} {gs : List (List Fr)} (hC : ∀ p ∈ C, Cons n m p) (hg : ∀ g ∈ gs, Good m g) (hG : Gaps (w0 n m) C gs) : gs.map neg = C.map (·.2) := by
  induction hG with
  | nil => rfl
  | @cons p g F gs h t ih =>
    have ih := ih (fun p hp => hC p (List.mem_cons_of_mem _ hp)) (fun g hh => hg g (List.mem_cons_of_mem _ hh))
    have c := hC p List.mem_cons_self
    have gd := hg g List.mem_cons_self
    rw [List.map_cons, List.map_cons, ih]
    congr 1
    have l1 := c.l2
    have l2 := gd.len
    refine ext_rv (by unfold neg; rw [List.length_map]; omega) (fun q hq => ?_) c.u2.nf fun i hi => ?_
    · obtain ⟨q', hq', rfl⟩ := List.mem_map.mp hq
      exact neg_nf (gd.us.nf _ hq')
    · unfold neg at hi ⊢
      rw [List.length_map] at hi
      have q := h i (by omega)
      rw [getD_map (g := fun q : Fr => (0 - q.1, q.2)) hi, rv_neg, q, col0, dot_zero]
      grind
theorem coef_eq {j : Nat} (hm : 1 ≤ m) (hj : j < n) {C : List (List Fr × List Fr)} {gs hs : List (List Fr)} (hC : ∀ p ∈ C, Cons n m p) (hg : ∀ g ∈ gs, Good m g) (hh : ∀ g ∈ hs, Good m g) (hG : Gaps (w0 n m) C gs) (hH : Gaps (w1 n m j) C hs) : List.zipWith qf hs gs = C.map fun p => p.1.getD j (0, 1) := by
  induction hG generalizing hs with
  | nil => cases hH; rfl
  | @cons p g F gs h t ih =>
    cases hH with
    | @cons _ k _ hs' h' t' =>
    have ih := ih (fun p hp => hC p (List.mem_cons_of_mem _ hp)) (fun g hh => hg g (List.mem_cons_of_mem _ hh)) (fun g hg => hh g (List.mem_cons_of_mem _ hg)) t'
    have c := hC p List.mem_cons_self
    have gg := hg g List.mem_cons_self
    have gk := hh k List.mem_cons_self
    rw [List.map_cons, List.zipWith_cons_cons, ih]
    congr 1
    have b1 := gk.bd hm
    have b2 := gg.bd hm
    have hl := c.l1
    have hl2 := c.l2
    have mem : p.1.getD j (0, 1) ∈ p.1 := getD_mem (by omega)
    refine rv_inj (plus_nf b1.1 (bd_neg b2.1)) (c.u1.nf _ mem) ?_
    unfold qf
    rw [rv_plus b1.1.2.1 (bd_neg b2.1).2.1, rv_neg]
    have q1 := h 0 (by omega)
    have q2 := h' 0 (by omega)
    have q1 : rv (hd0 g) = _ := q1
    have q2 : rv (hd0 k) = _ := q2
    rw [col0, dot_zero] at q1
    rw [col1 hm, dot_ind (by rw [List.length_map]; exact hl) hj] at q2
    rw [q1, q2]
    have e : (p.1.map rv).getD j 0 = rv (p.1.getD j (0, 1)) := by
      rw [List.getD_eq_getElem?_getD, List.getElem?_map, List.getD_eq_getElem?_getD]
      rw [List.getElem?_eq_getElem (by omega)]
      rfl
    rw [e]
    grind
theorem snoc_eq {j : Nat} (hj : j < n) : ∀ {C : List (List Fr × List Fr)}, (∀ p ∈ C, Cons n m p) → List.zipWith (fun x q => x ++ [q]) (C.map fun p => p.1.take j) (C.map fun p => p.1.getD j (0, 1)) = C.map fun p => p.1.take (j + 1)
  | [], _ => rfl
  | p :: C, h => by
    have ih := snoc_eq hj fun p hp => h p (List.mem_cons_of_mem _ hp)
    have hl := (h p List.mem_cons_self).l1
    simp only [List.map_cons, List.zipWith_cons_cons, ih]
    congr 1
    rw [List.take_succ, List.getElem?_eq_getElem (by omega), List.getD_eq_getElem?_getD, List.getElem?_eq_getElem (by omega)]
    rfl
theorem zip_both : ∀ {C : List (List Fr × List Fr)}, List.zipWith (fun x n => (x, n)) (C.map (·.1)) (C.map (·.2)) = C
  | [] => rfl
  | p :: C => by rw [List.map_cons, List.map_cons, List.zipWith_cons_cons, zip_both (C := C)]
theorem take_all : ∀ {C : List (List Fr × List Fr)}, (∀ p ∈ C, Cons n m p) → (C.map fun p => p.1.take n) = C.map (·.1)
  | [], _ => rfl
  | p :: C, h => by
    have ih := take_all fun p hp => h p (List.mem_cons_of_mem _ hp)
    have hl := (h p List.mem_cons_self).l1
    simp only [List.map_cons, ih]
    rw [List.take_of_length_le (by omega)]
end
/-! ### dicts -/
section
variable {G : Hd} {vs : List D} {z y : D}
theorem dpairs_ok (hv : vs ∈ varsOf) : dpairsD G (.lst (vs.map fun x => .tup [x, z])) = some (.dct vs (List.replicate vs.length z)) := by
  simp only [varsOf, List.mem_cons, List.not_mem_nil, or_false] at hv
  rcases hv with rfl | rfl | rfl | rfl <;> kernel_rfl
theorem dput_ok {j : Nat} {x : D} (hv : vs ∈ varsOf) (hx : vs[j]? = some x) : U.dictPut vs (List.replicate vs.length z) x y = (vs, (List.replicate vs.length z).set j y) ∧ keyD x = true := by
  simp only [varsOf, List.mem_cons, List.not_mem_nil, or_false] at hv
  have hj : j < 4 := by
    have := (List.getElem?_eq_some_iff.mp hx).1
    rcases hv with rfl | rfl | rfl | rfl <;> simp at this <;> omega
  have hj' : j = 0 ∨ j = 1 ∨ j = 2 ∨ j = 3 := by omega
  rcases hv with rfl | rfl | rfl | rfl <;> rcases hj' with rfl | rfl | rfl | rfl <;> first | (cases hx; exact ⟨by kernel_rfl, rfl⟩) | cases hx
theorem dget_ok {j : Nat} {x : D} {zs : List D} (hv : vs ∈ varsOf) (hl : zs.length = vs.length) (hx : vs[j]? = some x) (hz : zs[j]? = some z) : U.dictGet vs zs x = some z ∧ keyD x = true := by
  simp only [varsOf, List.mem_cons, List.not_mem_nil, or_false] at hv
  have hj : j < 4 := by
    have := (List.getElem?_eq_some_iff.mp hx).1
    rcases hv with rfl | rfl | rfl | rfl <;> simp at this <;> omega
  have hj' : j = 0 ∨ j = 1 ∨ j = 2 ∨ j = 3 := by omega
  rcases hv with rfl | rfl | rfl | rfl
  · obtain ⟨a, rfl⟩ : ∃ a, zs = [a] := by
      match zs, hl with
      | [a], _ => exact ⟨a, rfl⟩
    rcases hj' with rfl | rfl | rfl | rfl <;> first | (cases hx; cases hz; exact ⟨by kernel_rfl, rfl⟩) | cases hx
  · obtain ⟨a, b, rfl⟩ : ∃ a b, zs = [a, b] := by
      match zs, hl with
      | [a, b], _ => exact ⟨a, b, rfl⟩
    rcases hj' with rfl | rfl | rfl | rfl <;> first | (cases hx; cases hz; exact ⟨by kernel_rfl, rfl⟩) | cases hx
  · obtain ⟨a, b, c, rfl⟩ : ∃ a b c, zs = [a, b, c] := by
      match zs, hl with
      | [a, b, c], _ => exact ⟨a, b, c, rfl⟩
    rcases hj' with rfl | rfl | rfl | rfl <;> first | (cases hx; cases hz; exact ⟨by kernel_rfl, rfl⟩) | cases hx
  · obtain ⟨a, b, c, d, rfl⟩ : ∃ a b c d, zs = [a, b, c, d] := by
      match zs, hl with
      | [a, b, c, d], _ => exact ⟨a, b, c, d, rfl⟩
    rcases hj' with rfl | rfl | rfl | rfl <;> first | (cases hx; cases hz; exact ⟨by kernel_rfl, rfl⟩) | cases hx
end
theorem wd_dict {vs : List D} {m : Nat} {w : List (List Fr)} (hv : vs ∈ varsOf) (hl : w.length = vs.length) (hw : ∀ u ∈ w, u.length = m ∧ Us 3 u) : Dict (fun _ => True) m vs w (.dct vs (w.map uD)) where
  len := hl
  ok := hw
  get := fun j x u hx hu G _ => by
    obtain ⟨h1, h2⟩ := dget_ok (zs := w.map uD) (z := uD u) hv (by rw [List.length_map]; exact hl) hx (by rw [List.getElem?_map, hu]; rfl)
    have e : dictOf G (.dct vs (w.map uD)) = some (vs, w.map uD) := rfl
    unfold ixD
    simp only [e, h2, if_true, h1]
theorem wr_dict {vs : List D} {m r : Nat} {w : List (List Fr)} (hv : vs ∈ varsOf) (hl : w.length = vs.length) (hw : ∀ u ∈ w, u.length = m ∧ Us 3 u) : Dict (fun H => H[r]? = some (.dct vs (w.map uD))) m vs w (.ref r) where
  len := hl
  ok := hw
  get := fun j x u hx hu G hG => by
    obtain ⟨h1, h2⟩ := dget_ok (zs := w.map uD) (z := uD u) hv (by rw [List.length_map]; exact hl) hx (by rw [List.getElem?_map, hu]; rfl)
    rw [ix_ref hG h2]
    exact h1
theorem w0_ok {n m : Nat} (hm : m ≤ 1000) : ∀ u ∈ w0 n m, u.length = m ∧ Us 3 u := fun u hu => by
  rw [(List.mem_replicate.mp hu).2]
  exact ⟨by unfold zr; rw [List.length_replicate], us_zr (by decide) hm⟩
theorem w1_ok {n m j : Nat} (hm : m ≤ 1000) : ∀ u ∈ w1 n m j, u.length = m ∧ Us 3 u := fun u hu => by
  rcases List.mem_or_eq_of_mem_set hu with h | rfl
  · exact w0_ok hm u h
  · exact ⟨ev_len, us_ev (by decide) hm⟩
theorem w1_map {n m j : Nat} : (w1 n m j).map uD = (List.replicate n (uD (zr m))).set j (uD (ev m 0)) := by
  unfold w1 w0
  rw [List.map_set, List.map_replicate]
theorem one_ok {G : Hd} {bs : List D} (hb : bs ∈ basesOf) : ∃ a, slD G (uD (zr bs.length)) (some 1) none = some a ∧ binD G .add (.tup [.tup [.int 1, .int 1]]) a = some (uD (ev bs.length 0)) := by
  simp only [basesOf, List.mem_cons, List.not_mem_nil, or_false] at hb
  rcases hb with rfl | rfl | rfl | rfl
  · exact ⟨uD (zr 0), by kernel_rfl, by kernel_rfl⟩
  · exact ⟨uD (zr 1), by kernel_rfl, by kernel_rfl⟩
  · exact ⟨uD (zr 0), by kernel_rfl, by kernel_rfl⟩
  · exact ⟨uD (zr 1), by kernel_rfl, by kernel_rfl⟩
theorem zero_ok {G : Hd} {bs : List D} (hb : bs ∈ basesOf) : binD G .mul (.tup [.tup [.int 0, .int 1]]) (.int bs.length) = some (uD (zr bs.length)) := by
  have H : 1 ≤ bs.length ∧ bs.length ≤ 1000 := by
    simp only [basesOf, List.mem_cons, List.not_mem_nil, or_false] at hb
    rcases hb with rfl | rfl | rfl | rfl <;> decide
  rw [mul_rep H.1 H.2, zr_D]
end K04

set_option Elab.async false
set_option linter.all false
set_option maxRecDepth 100000
set_option maxHeartbeats 400000
/-! K04X: the law's search, run. -/
namespace K04
open PySem L2 U
def oBody : MSs := (.cons (.set (.nam 9) (.alloc (.dpairs (.lc (.tup (.cons (.var 10) (.cons (.var 3) .nil))) (.nam 10) (.val (.var 1)) .yes [10]))))
  (.cons (.setix (.var 9) (.var 5) (.bin .add (.tup (.cons (.tup (.cons (.con (.int (1))) (.cons (.con (.int (1))) .nil))) .nil)) (.sl (.var 3) (.yes (.con (.int (1)))) .no)))
  (.cons (.forr iTgt (.zip3 (.var 6) (.var 4) (.call "_law_gaps" (.cons (.var 2) (.cons (.var 9) .nil)))) iBody)
  .nil)))
section
variable {Φ : Fn} {b n : Nat} {G H : Hd} {bs vs : List D} {d z : D}
theorem pairs_ok {i : Nat} {τ : Tau} (hτ : τ.length = 14) (hi : i = 5 ∨ i = 10) (h1 : τ[1]? = some (some (.tup vs))) (h3 : τ[3]? = some (some z)) (hl : vs.length ≤ 1000) : evE Φ b (.lc (.tup (.cons (.var i) (.cons (.var 3) .nil))) (.nam i) (.val (.var 1)) .yes [i]) τ H = .ok (.lst (vs.map fun x => .tup [x, z])) H := by
  refine lc_map (g := fun x => .tup [x, z]) (by rw [evI, var_ok h1]; rfl) (by show _ ≤ 16777216; omega) fun x hx => ?_
  have hw : (wipeD τ [i]).length = 14 := by
    show (τ.set i none).length = 14
    rw [List.length_set]
    exact hτ
  refine tup2_ok (var_ok ?_) (var_ok ?_)
  · rw [List.getElem?_set_self]
    omega
  · rw [List.getElem?_set_ne (by omega)]
    show (τ.set i none)[3]? = _
    rw [List.getElem?_set_ne (by omega), h3]
theorem dp_ok {e : ME} {τ : Tau} {x r : D} (h : evE Φ b e τ G = .ok x H) (h2 : dpairsD H x = some r) : evE Φ b (.dpairs e) τ G = .ok r H := by
  rw [evE, h]
  simp only [Out.then_ok, h2, lift_some]
theorem zip3_ok {x y e : ME} {τ : Tau} {xs ys zs : List D} (h1 : evE Φ b x τ G = .ok (.lst xs) G) (h2 : evE Φ b y τ G = .ok (.lst ys) G) (h3 : evE Φ b e τ G = .ok (.lst zs) G) : evI Φ b (.zip3 x y e) τ G = .ok (.items (zip3L xs ys zs)) G := by
  rw [evI, h1]
  simp only [Out.then_ok, h2, h3, zip3D, Option.map_some, lift_some]
theorem gap_len {w : List (List Fr)} {C : List (List Fr × List Fr)} {gs : List (List Fr)} (h : Gaps w C gs) : gs.length = C.length := by
  induction h with
  | nil => rfl
  | cons h t ih => rw [List.length_cons, List.length_cons, ih]
abbrev tq (bs vs : List D) (d z : D) (st rows : List D) (t5 t7 t8 t9 t10 t11 t12 t13 : Option D) : Tau := [some (.tup bs), some (.tup vs), some d, some z, some (.lst st), t5, some (.lst rows), t7, t8, t9, t10, t11, t12, t13]
theorem outer_turn {C : List (List Fr × List Fr)} (hb : bs ∈ basesOf) (hv : vs ∈ varsOf) (S : Stm bs vs d C) {gs ns : List (List Fr)} (h0 : Gaps (w0 vs.length bs.length) C gs) (hg : ∀ g ∈ gs, Good bs.length g) (hn : ns.length = C.length) {j : Nat} {x : D} (hx : vs[j]? = some x) {E : Hd} {t5 t7 t8 t9 t10 t11 t12 t13 : Option D} :
    ∃ E' u5 u7 u8 u9 u10 u11 u12 u13, forTurn (run T (n + 8)) G.length (.nam 5) oBody x (tq bs vs d (uD (zr bs.length)) (gs.map uD) (rowsFrom G.length ns) t5 t7 t8 t9 t10 t11 t12 t13) (G ++ (C.map fun p => p.1.take j).map rO ++ E) = .ok (.nx (tq bs vs d (uD (zr bs.length)) (gs.map uD) (rowsFrom G.length ns) u5 u7 u8 u9 u10 u11 u12 u13)) (G ++ (C.map fun p => p.1.take (j + 1)).map rO ++ E') := by
  have DR := drawn_ok hb hv
  have hm := DR.b0
  have hm3 := DR.len
  have hv1 := DR.v1
  have hj : j < vs.length := (List.getElem?_eq_some_iff.mp hx).1
  have hC : ∀ p ∈ C, Cons vs.length bs.length p := fun p hp => ⟨(S.ok p hp).1, (S.ok p hp).2.1, (S.ok p hp).2.2.1, (S.ok p hp).2.2.2⟩
  generalize hH : G ++ (C.map fun p => p.1.take j).map rO ++ E = H
  have hGH : G.length ≤ H.length := by rw [← hH, List.length_append, List.length_append]; omega
  obtain ⟨hs, k1, k2, k3, k4⟩ := S.hg (fun K => K[H.length]? = some (.dct vs ((w1 vs.length bs.length j).map uD))) (w1 vs.length bs.length j) (.ref H.length) (wr_dict hv (by unfold w1 w0; rw [List.length_set, List.length_replicate]) (w1_ok (by omega)))
  have hh : ∀ g ∈ hs, Good bs.length g := fun g hg => ⟨(k2 g hg).1, (k2 g hg).2⟩
  rw [w1_map] at k4
  obtain ⟨dp, dk⟩ := dput_ok (z := uD (zr bs.length)) (y := uD (ev bs.length 0)) hv hx
  let H1 : Hd := H ++ [.dct vs (List.replicate vs.length (uD (zr bs.length)))]
  let H2 : Hd := H ++ [.dct vs ((List.replicate vs.length (uD (zr bs.length))).set j (uD (ev bs.length 0)))]
  have g1 : H1[H.length]? = some (.dct vs (List.replicate vs.length (uD (zr bs.length)))) := get_last
  have g2 : H2[H.length]? = some (.dct vs ((List.replicate vs.length (uD (zr bs.length))).set j (uD (ev bs.length 0)))) := get_last
  have kg := (k4 n H2 g2).1
  have len1 : hs.length = C.length := gap_len k1
  have len0 : gs.length = C.length := gap_len h0
  obtain ⟨a, o1, o2⟩ := one_ok (G := H1) hb
  obtain ⟨u11, u12, u13, inn⟩ := inner (n := n + 6) (b := G.length) (m := bs.length) hm (E := E ++ [.dct vs ((List.replicate vs.length (uD (zr bs.length))).set j (uD (ev bs.length 0)))]) (t0 := some (.tup bs)) (t1 := some (.tup vs)) (t2 := some d) (t3 := some (uD (zr bs.length))) (t4 := some (.lst (gs.map uD))) (t5 := some x) (t6 := some (.lst (rowsFrom G.length ns))) (t7 := t7) (t8 := t8) (t9 := some (.ref H.length)) (t10 := t10) (C.map fun p => p.1.take j) ns gs hs G t11 t12 t13 (by rw [List.length_map]; exact hn) (by rw [List.length_map]; exact len0) (by rw [List.length_map]; exact len1) hg hh (fun y hy => by
      obtain ⟨p, hp, rfl⟩ := List.mem_map.mp hy
      have := (hC p hp).l1
      rw [List.length_take]
      omega) (Nat.le_refl _)
  rw [coef_eq hm hj hC hg hh h0 k1, snoc_eq hj hC] at inn
  refine ⟨E ++ [.dct vs ((List.replicate vs.length (uD (zr bs.length))).set j (uD (ev bs.length 0)))], some x, t7, t8, some (.ref H.length), t10, u11, u12, u13, ?_⟩
  show evSs _ _ oBody (tq bs vs d (uD (zr bs.length)) (gs.map uD) (rowsFrom G.length ns) (some x) t7 t8 t9 t10 t11 t12 t13) H = _
  unfold oBody
  refine (set_ok (d := .ref H.length) (G1 := H1) ?_).trans ?_
  · rw [evE, dp_ok (pairs_ok (i := 10) rfl (.inr rfl) rfl rfl (by omega)) (dpairs_ok hv)]
    rfl
  refine (seq_nx (τ1 := tq bs vs d (uD (zr bs.length)) (gs.map uD) (rowsFrom G.length ns) (some x) t7 t8 (some (.ref H.length)) t10 t11 t12 t13) (G1 := H2) ?_).trans ?_
  · have e1 : evE (run T (n + 8)) G.length (.bin .add (.tup (.cons (.tup (.cons (.con (.int (1))) (.cons (.con (.int (1))) .nil))) .nil)) (.sl (.var 3) (.yes (.con (.int (1)))) .no)) (tq bs vs d (uD (zr bs.length)) (gs.map uD) (rowsFrom G.length ns) (some x) t7 t8 (some (.ref H.length)) t10 t11 t12 t13) H1 = .ok (uD (ev bs.length 0)) H1 := by
      refine bin_ok (a := .tup [.tup [.int 1, .int 1]]) (c := a) (G1 := H1) (by simp [evE, evEs]) ?_ o2
      rw [evE, var_ok (d := uD (zr bs.length)) rfl]
      simp only [Out.then_ok, evO, evE, intD, Option.map_some, lift_some, o1]
    show evS _ _ _ (tq bs vs d (uD (zr bs.length)) (gs.map uD) (rowsFrom G.length ns) (some x) t7 t8 (some (.ref H.length)) t10 t11 t12 t13) H1 = _
    have hst : storeOk G.length H.length (uD (ev bs.length 0)) = true := by
      unfold storeOk
      rw [decide_eq_true hGH]
      rfl
    have pt := put_ref (b := G.length) (x := uD (ev bs.length 0)) g1 dk hst (show vs.length < 16777216 by omega)
    have e9 : evE (run T (n + 8)) G.length (.var 9) (tq bs vs d (uD (zr bs.length)) (gs.map uD) (rowsFrom G.length ns) (some x) t7 t8 (some (.ref H.length)) t10 t11 t12 t13) H1 = .ok (.ref H.length) H1 := var_ok rfl
    have e5 : evE (run T (n + 8)) G.length (.var 5) (tq bs vs d (uD (zr bs.length)) (gs.map uD) (rowsFrom G.length ns) (some x) t7 t8 (some (.ref H.length)) t10 t11 t12 t13) H1 = .ok x H1 := var_ok rfl
    rw [evS, e1]
    simp only [Out.then_ok, e9, e5, pt, dp]
    show Out.ok _ ((H ++ [_]).set H.length _) = _
    rw [set_last]
  · refine (seq_nx ?_).trans (by rw [evSs])
    have ec : evE (run T (n + 8)) G.length (.call "_law_gaps" (.cons (.var 2) (.cons (.var 9) .nil))) (tq bs vs d (uD (zr bs.length)) (gs.map uD) (rowsFrom G.length ns) (some x) t7 t8 (some (.ref H.length)) t10 t11 t12 t13) H2 = .ok (.lst (hs.map uD)) H2 := call_ok (ds := [d, .ref H.length]) (G1 := H2) (by simp [evEs, evE]) kg
    have eH : H2 = G ++ (C.map fun p => p.1.take j).map rO ++ (E ++ [.dct vs ((List.replicate vs.length (uD (zr bs.length))).set j (uD (ev bs.length 0)))]) := by
      show H ++ _ = _
      rw [← hH, List.append_assoc]
    rw [for_ok (zip3_ok (xs := rowsFrom G.length ns) (ys := gs.map uD) (zs := hs.map uD) (var_ok rfl) (var_ok rfl) ec), eH]
    exact inn
theorem nil_take {C : List (List Fr × List Fr)} : (C.map fun p => p.1.take 0) = C.map fun _ => [] := by simp
theorem frz_lfps {m : Nat} {G : Hd} {C : List (List Fr × List Fr)} : frz 4 m G (.lst (C.map fp)) = some (.lst (C.map fp)) := by
  have hp : ∀ C : List (List Fr × List Fr), toPys (C.map fp) = some (C.map fun p => .tuple [.tuple (p.1.map fP), .tuple (p.2.map fP)]) := by
    intro C
    induction C with
    | nil => rfl
    | cons p C ih =>
      show (match toPy (fp p), toPys (C.map fp) with | some x, some xs => some (x :: xs) | _, _ => none) = _
      rw [py_fp, ih]
      rfl
  refine frz_py 4 (x := .list (C.map fun p => .tuple [.tuple (p.1.map fP), .tuple (p.2.map fP)])) ?_
  show (toPys (C.map fp)).map PyData.list = _
  rw [hp]
  rfl
theorem forms_run {C : List (List Fr × List Fr)} (hb : bs ∈ basesOf) (hv : vs ∈ varsOf) (S : Stm bs vs d C) : run T (n + 9) "_law_forms" [.tup bs, .tup vs, d] G = .ok (.lst (C.map fp)) G := by
  have DR := drawn_ok hb hv
  have hm := DR.b0
  have hm3 := DR.len
  have hv1 := DR.v1
  have hC : ∀ p ∈ C, Cons vs.length bs.length p := fun p hp => ⟨(S.ok p hp).1, (S.ok p hp).2.1, (S.ok p hp).2.2.1, (S.ok p hp).2.2.2⟩
  obtain ⟨gs, k1, k2, k3, k4⟩ := S.hg (fun _ => True) (w0 vs.length bs.length) (.dct vs ((w0 vs.length bs.length).map uD)) (wd_dict hv (by unfold w0; rw [List.length_replicate]) (w0_ok (by omega)))
  have hg : ∀ g ∈ gs, Good bs.length g := fun g hg => ⟨(k2 g hg).1, (k2 g hg).2⟩
  have kg := (k4 n G trivial).1
  have e0 : (w0 vs.length bs.length).map uD = List.replicate vs.length (uD (zr bs.length)) := by unfold w0; rw [List.map_replicate]
  rw [e0] at kg
  have len0 : gs.length = C.length := gap_len k1
  have ce := const_eq hC hg k1
  have fo := found_ok (Φ := run T (n + 8)) (b := G.length) (G := G) (τ := [some (.tup bs), some (.tup vs), some d, some (uD (zr bs.length)), some (.lst (gs.map uD)), none, none, none, none, none, none, none, none, none]) (gs := gs) rfl rfl (fun g hh => by have := (hg g hh).len; omega) (by omega)
  have e1 : (gs.map fun _ => ([] : List Fr)) = C.map fun p => p.1.take 0 := by
    rw [nil_take]
    apply List.ext_getElem (by simp [len0])
    intro i h1 h2
    simp
  rw [e1, ce] at fo
  have nl : (C.map (·.2)).length = C.length := List.length_map _
  obtain ⟨τ', G', e2, E, u5, u7, u8, u9, u10, u11, u12, u13, rfl, rfl⟩ := for_inv (Φ := run T (n + 8)) (b := G.length) (t := .nam 5) (it := .val (.var 1)) (s := oBody) (ds := vs) (τ := tq bs vs d (uD (zr bs.length)) (gs.map uD) (rowsFrom G.length (C.map (·.2))) none none none none none none none none) (G := G ++ (C.map fun p => p.1.take 0).map rO) (G1 := G ++ (C.map fun p => p.1.take 0).map rO)
    (I := fun i τ G' => ∃ E u5 u7 u8 u9 u10 u11 u12 u13, τ = tq bs vs d (uD (zr bs.length)) (gs.map uD) (rowsFrom G.length (C.map (·.2))) u5 u7 u8 u9 u10 u11 u12 u13 ∧ G' = G ++ (C.map fun p => p.1.take i).map rO ++ E)
    (by rw [evI, var_ok (d := .tup vs) rfl]; rfl) ⟨[], none, none, none, none, none, none, none, none, rfl, by rw [List.append_nil]⟩ (by
      rintro i x τ G' hx ⟨E, u5, u7, u8, u9, u10, u11, u12, u13, rfl, rfl⟩
      obtain ⟨E', v5, v7, v8, v9, v10, v11, v12, v13, q⟩ := outer_turn (n := n) (G := G) (E := E) (t5 := u5) (t7 := u7) (t8 := u8) (t9 := u9) (t10 := u10) (t11 := u11) (t12 := u12) (t13 := u13) hb hv S k1 hg nl hx
      exact ⟨_, _, q, E', v5, v7, v8, v9, v10, v11, v12, v13, rfl, rfl⟩)
  rw [take_all hC] at e2
  have en := end_ok (Φ := run T (n + 8)) (b := G.length) (τ := tq bs vs d (uD (zr bs.length)) (gs.map uD) (rowsFrom G.length (C.map (·.2))) u5 u7 u8 u9 u10 u11 u12 u13) (X := C.map (·.1)) (ns := C.map (·.2)) (A := G) (E := E) rfl rfl (by rw [List.length_map, List.length_map]) (by rw [List.length_map]; have := S.len; omega)
  rw [zip_both] at en
  rw [run_succ L_forms]
  refine (callF_rt (d := .lst (C.map fp)) (d' := .lst (C.map fp)) (G' := G ++ (C.map (·.1)).map rO ++ E) rfl rfl ?_ frz_lfps).trans (by rw [List.append_assoc, List.take_left'] ; rfl)
  show evSs _ _ b__law_forms [some (.tup bs), some (.tup vs), some d, none, none, none, none, none, none, none, none, none, none, none] G = _
  unfold b__law_forms
  refine (set_ok (d := uD (zr bs.length)) (G1 := G) (bin_ok (a := .tup [.tup [.int 0, .int 1]]) (c := .int bs.length) (G1 := G) (by simp [evE, evEs]) (by simp [evE, evEs]) (zero_ok hb))).trans ?_
  refine (set_ok (d := .lst (gs.map uD)) (G1 := G) (call_ok (ds := [d, .dct vs (List.replicate vs.length (uD (zr bs.length)))]) (G1 := G) ?_ kg)).trans ?_
  · have q := dp_ok (Φ := run T (n + 8)) (b := G.length) (G := G) (pairs_ok (i := 5) (τ := [some (.tup bs), some (.tup vs), some d, some (uD (zr bs.length)), none, none, none, none, none, none, none, none, none, none]) rfl (.inl rfl) rfl rfl (by omega)) (dpairs_ok hv)
    have q2 : evE (run T (n + 8)) G.length (.var 2) [some (.tup bs), some (.tup vs), some d, some (uD (zr bs.length)), none, none, none, none, none, none, none, none, none, none] G = .ok d G := var_ok rfl
    show evEs _ _ _ [some (.tup bs), some (.tup vs), some d, some (uD (zr bs.length)), none, none, none, none, none, none, none, none, none, none] G = _
    rw [evEs, q2]
    simp only [Out.then_ok]
    rw [evEs, q]
    simp only [Out.then_ok, evEs]
  refine (set_ok fo).trans ?_
  refine (seq_nx e2).trans ?_
  exact ret_ok en
end
end K04

set_option Elab.async false
set_option linter.all false
set_option maxRecDepth 100000
set_option maxHeartbeats 400000
/-! K04I: statements, models, in any heap. -/
namespace K04
open PySem L2 U
variable {n : Nat} {d x : D} {bs vs : List D} {G : Hd}
theorem L_is_name : T.lookup ("is_name" : Str) = some r_is_name.fd := by kernel_rfl
theorem L_is_ascending : T.lookup ("is_ascending" : Str) = some r_is_ascending.fd := by kernel_rfl
theorem L_are_names : T.lookup ("are_names" : Str) = some r_are_names.fd := by kernel_rfl
theorem L_are_headings : T.lookup ("are_headings" : Str) = some r_are_headings.fd := by kernel_rfl
theorem L_is_statement : T.lookup ("is_statement" : Str) = some r_is_statement.fd := by kernel_rfl
theorem L_is_model : T.lookup ("is_model" : Str) = some r_is_model.fd := by kernel_rfl
theorem L_check_model : T.lookup ("check_model" : Str) = some r_check_model.fd := by kernel_rfl
def someNames : List D := [.str "kg", .str "m", .str "s", .str "a", .str "f", .str "mass", .str "t"]
theorem E_is_name (h : x ∈ someNames) : run T (n + 1) "is_name" [x] G = .ok (.bl true) G := by
  rw [run_succ L_is_name]
  refine callF_rtG rfl rfl ?_ frz_bl
  show evSs _ _ b_is_name [some x, none] G = _
  simp only [someNames, List.mem_cons, List.not_mem_nil, or_false] at h
  rcases h with rfl | rfl | rfl | rfl | rfl | rfl | rfl <;> kernel_rfl
theorem E_ascending (h : vs ∈ basesOf ∨ vs ∈ varsOf) : run T (n + 1) "is_ascending" [.tup vs] G = .ok (.bl true) G := by
  rw [run_succ L_is_ascending]
  refine callF_rtG rfl rfl ?_ frz_bl
  show evSs _ _ b_is_ascending [some (.tup vs), none, none] G = _
  simp only [basesOf, varsOf, List.mem_cons, List.not_mem_nil, or_false] at h
  rcases h with (rfl | rfl | rfl | rfl) | (rfl | rfl | rfl | rfl) <;> kernel_rfl
theorem are_names_ok {k : Int} (hs : vs ∈ basesOf ∨ vs ∈ varsOf) (h1 : 1 ≤ vs.length) (h2 : (vs.length : Int) ≤ k) (hn : ∀ x ∈ vs, x ∈ someNames) : run T (n + 2) "are_names" [.tup vs, .int k] G = .ok (.bl true) G := by
  rw [run_succ L_are_names]
  refine callF_rtG rfl rfl ?_ frz_bl
  show evSs _ _ b_are_names [some (.tup vs), some (.int k), none] G = _
  unfold b_are_names
  have hl : vs.length ≤ 1000 := by
    simp only [basesOf, varsOf, List.mem_cons, List.not_mem_nil, or_false] at hs
    rcases hs with (rfl | rfl | rfl | rfl) | (rfl | rfl | rfl | rfl) <;> decide
  refine (skip (G1 := G) ?_).trans (ret_ok (call_ok (ds := [.tup vs]) (G1 := G) (by simp [evEs, evE]) (E_ascending hs)))
  rw [or_ok (k := false) (G1 := G) (by simp [evT, evE, evEs, isi_tuple (d := .tup vs) rfl, isT]), if_neg (by decide)]
  rw [or_ok (k := false) (G1 := G), if_neg (by decide)]
  · have ha : evE (run T (n + 1)) G.length (.bi .all (.cons (.lc (.call "is_name" (.cons (.var 2) .nil)) (.nam 2) (.val (.var 0)) .yes [2]) .nil)) [some (.tup vs), some (.int k), none] G = .ok (.bl true) G := by
      refine (all_ok (ds := vs) (p := fun _ => true) (lc_map (g := fun _ => .bl true) ?_ (show _ ≤ 16777216 by omega) ?_)).trans ?_
      · simp [evI, evE, iterD, stillD]
      · intro x hx
        exact call_ok (ds := [x]) (G1 := G) (by simp [evEs, evE, wipeD]) (E_is_name (hn x hx))
      · rw [List.all_eq_true.mpr fun _ _ => rfl]
    rw [not_ok (val_ok ha)]
    rfl
  · have c1 : cmpD G .le (.int 1) (.int vs.length) = some true := by
      show some (decide ((1 : Int) ≤ vs.length)) = _
      rw [decide_eq_true (by omega)]
    have c2 : cmpD G .le (.int vs.length) (.int k) = some true := by
      show some (decide ((vs.length : Int) ≤ k)) = _
      rw [decide_eq_true h2]
    have lv : biD G .len [.tup vs] = some (.int vs.length) := rfl
    simp only [evT, evE, evEs, Out.then_ok, List.getElem?_cons_zero, List.getElem?_cons_succ, lift_some, lv, c1, c2, Option.map_some, truD]
    rfl
theorem heads_ok (hb : bs ∈ basesOf) (hv : vs ∈ varsOf) : run T (n + 3) "are_headings" [.tup bs, .tup vs] G = .ok (.bl true) G := by
  rw [run_succ L_are_headings]
  refine callF_rtG rfl rfl ?_ frz_bl
  show evSs _ _ b_are_headings [some (.tup bs), some (.tup vs)] G = _
  unfold b_are_headings
  have DR := drawn_ok hb hv
  have nb : ∀ x ∈ bs, x ∈ someNames := by
    simp only [basesOf, List.mem_cons, List.not_mem_nil, or_false] at hb
    intro x hx
    rcases hb with rfl | rfl | rfl | rfl <;> simp [someNames] at hx ⊢ <;> grind
  have nv : ∀ x ∈ vs, x ∈ someNames := by
    simp only [varsOf, List.mem_cons, List.not_mem_nil, or_false] at hv
    intro x hx
    rcases hv with rfl | rfl | rfl | rfl <;> simp [someNames] at hx ⊢ <;> grind
  have lv : vs.length ≤ 6 := by
    simp only [varsOf, List.mem_cons, List.not_mem_nil, or_false] at hv
    rcases hv with rfl | rfl | rfl | rfl <;> decide
  have lb := DR.len
  refine ret_ok ?_
  rw [and_ok (k := true) (G1 := G) (call_ok (ds := [.tup bs, .int 3]) (G1 := G) (by simp [evEs, evE]) (are_names_ok (.inl hb) DR.b0 (by omega) nb)), if_pos rfl]
  exact call_ok (ds := [.tup vs, .int 6]) (G1 := G) (by simp [evEs, evE]) (are_names_ok (.inr hv) DR.v0 (by omega) nv)
theorem E_expression {k : Bool} (h : run T n "is_nested" [.tup bs, .tup vs, d, .int 6] G = .ok (.bl k) G) : run T (n + 1) "is_expression" [.tup bs, .tup vs, d] G = .ok (.bl k) G := by
  rw [run_succ L_is_expression]
  refine callF_rtG rfl rfl ?_ frz_bl
  show evSs _ _ b_is_expression [some (.tup bs), some (.tup vs), some d] G = _
  unfold b_is_expression
  exact ret_ok (call_ok (ds := [.tup bs, .tup vs, d, .int 6]) (G1 := G) (by simp [evEs, evE]) h)
/-- a statement that is drawn -/
def StG (bs vs : List D) (d : D) : Prop := ∃ a c, d = .tup [a, c] ∧ ExG bs vs 3 a ∧ ExG bs vs 3 c
theorem st_good (hv : Vars vs) (hb : bs.length ≤ 3) (h : StG bs vs d) : run T (n + 11) "is_statement" [.tup bs, .tup vs, d] G = .ok (.bl true) G := by
  obtain ⟨a, c, rfl, ha, hc⟩ := h
  rw [run_succ L_is_statement]
  refine callF_rtG rfl rfl ?_ frz_bl
  show evSs _ _ b_is_statement [some (.tup bs), some (.tup vs), some (.tup [a, c]), none] _ = _
  unfold b_is_statement
  refine (skip (G1 := G) ?_).trans (ret_ok ?_)
  · rw [or_ok (k := false) (G1 := G) (by simp [evT, evE, evEs, isi_tuple (d := .tup [a, c]) rfl, isT]), if_neg (by decide)]
    simp [evT, evE, evEs, cmp_neI]
  · refine (all_ok (ds := [a, c]) (p := fun _ => true) (lc_map (g := fun _ => .bl true) ?_ (show 2 ≤ 16777216 by decide) ?_)).trans rfl
    · simp [evI, evE, iterD, stillD]
    · intro x hx
      refine call_ok (ds := [.tup bs, .tup vs, x]) (G1 := G) (by simp [evEs, evE, wipeD]) (E_expression (n := n + 9) ?_)
      simp only [List.mem_cons, List.not_mem_nil, or_false] at hx
      rcases hx with rfl | rfl
      · exact nest_good hv hb ha n 6 (by decide)
      · exact nest_good hv hb hc n 6 (by decide)
theorem model_good (hb : bs ∈ basesOf) (hv : vs ∈ varsOf) {xs : List D} (hl : xs.length ≤ 8) (h : ∀ x ∈ xs, StG bs vs x) : run T (n + 12) "is_model" [.tup [.tup bs, .tup vs, .tup xs]] G = .ok (.bl true) G := by
  have DR := drawn_ok hb hv
  rw [run_succ L_is_model]
  refine callF_rtG rfl rfl ?_ frz_bl
  show evSs _ _ b_is_model [some (.tup [.tup bs, .tup vs, .tup xs]), none] _ = _
  unfold b_is_model
  refine (skip (G1 := G) ?_).trans ((skip (G1 := G) ?_).trans (ret_ok ?_))
  · rw [or_ok (k := false) (G1 := G) (by simp [evT, evE, evEs, isi_tuple (d := .tup [.tup bs, .tup vs, .tup xs]) rfl, isT]), if_neg (by decide)]
    rw [or_ok (k := false) (G1 := G) (by simp [evT, evE, evEs, cmp_neI]), if_neg (by decide)]
    exact not_ok (val_ok (call_ok (ds := [.tup bs, .tup vs]) (G1 := G) (by simp [evEs, evE, ix0, ix1]) (heads_ok (n := n + 8) hb hv)))
  · rw [or_ok (k := false) (G1 := G) (by simp [evT, evE, evEs, ix2, isi_tuple (d := .tup xs) rfl, isT]), if_neg (by decide)]
    simp [evT, evE, evEs, ix2]
    omega
  · refine (all_ok (ds := xs) (p := fun _ => true) (lc_map (g := fun _ => .bl true) ?_ (show _ ≤ 16777216 by omega) ?_)).trans ?_
    · simp [evI, evE, iterD, stillD, ix2]
    · intro x hx
      exact call_ok (ds := [.tup bs, .tup vs, x]) (G1 := G) (by simp [evEs, evE, wipeD, ix0, ix1]) (st_good DR.vars DR.len (h x hx))
    · rw [List.all_eq_true.mpr fun _ _ => rfl]
theorem model_no (h : plain d = true) (h2 : isT d = false) : run T (n + 1) "is_model" [d] G = .ok (.bl false) G := by
  rw [run_succ L_is_model]
  refine callF_rtG rfl rfl ?_ frz_bl
  show evSs _ _ b_is_model [some d, none] _ = _
  unfold b_is_model
  refine seq_rt ((if_yes (G1 := G) ?_).trans (ret_ok (by rw [evE])))
  rw [or_ok (k := true) (G1 := G) (by simp [evT, evE, evEs, isi_tuple h, h2]), if_pos rfl]
theorem model_len {xs : List D} (h : xs.length ≠ 3) : run T (n + 1) "is_model" [.tup xs] G = .ok (.bl false) G := by
  rw [run_succ L_is_model]
  refine callF_rtG rfl rfl ?_ frz_bl
  show evSs _ _ b_is_model [some (.tup xs), none] _ = _
  unfold b_is_model
  refine seq_rt ((if_yes (G1 := G) ?_).trans (ret_ok (by rw [evE])))
  rw [or_ok (k := false) (G1 := G) (by simp [evT, evE, evEs, isi_tuple (d := .tup xs) rfl, isT]), if_neg (by decide)]
  rw [or_ok (k := true) (G1 := G), if_pos rfl]
  have e : ((xs.length : Int) == 3) = false := by
    rw [beq_eq_false_iff_ne]
    omega
  simp [evT, evE, evEs, cmp_neI, e]
theorem model_out (hb : bs ∈ basesOf) (hv : vs ∈ varsOf) (h1 : plain d = true) (h2 : isT d = false) : run T (n + 4) "is_model" [.tup [.tup bs, .tup vs, d]] G = .ok (.bl false) G := by
  rw [run_succ L_is_model]
  refine callF_rtG rfl rfl ?_ frz_bl
  show evSs _ _ b_is_model [some (.tup [.tup bs, .tup vs, d]), none] _ = _
  unfold b_is_model
  refine (skip (G1 := G) ?_).trans (seq_rt ((if_yes (G1 := G) ?_).trans (ret_ok (by rw [evE]))))
  · rw [or_ok (k := false) (G1 := G) (by simp [evT, evE, evEs, isi_tuple (d := .tup [.tup bs, .tup vs, d]) rfl, isT]), if_neg (by decide)]
    rw [or_ok (k := false) (G1 := G) (by simp [evT, evE, evEs, cmp_neI]), if_neg (by decide)]
    exact not_ok (val_ok (call_ok (ds := [.tup bs, .tup vs]) (G1 := G) (by simp [evEs, evE, ix0, ix1]) (heads_ok hb hv)))
  · rw [or_ok (k := true) (G1 := G) (by simp [evT, evE, evEs, ix2, isi_tuple h1, h2]), if_pos rfl]
/-! ### checks -/
theorem exc_raise {Φ : Fn} {b : Nat} {c : MB} {s : Str} {y ss : MSs} {τ : Tau} {G G1 : Hd} (h : evT Φ b c τ G = .ok true G1) : evSs Φ b (.cons (.iff c (.cons (.raise s) .nil) y) ss) τ G = .exc s G1 := by
  rw [evSs, evS, h]
  simp only [Out.then_ok, if_true, evSs, evS, Out.then_exc]
theorem callF_exc {Φ : Fn} {fd : FDef} {ds : List D} {G G' : Hd} {c : Str} (hn : ds.length = fd.n) (he : evSs Φ G.length fd.body (List.replicate fd.pre none ++ (ds.map some ++ List.replicate (fd.slots - ds.length) none)) G = .exc c G') : callF Φ fd ds G = .exc c (G'.take G.length) := by
  unfold callF
  rw [if_pos hn, he]
theorem callF_nx {Φ : Fn} {fd : FDef} {ds : List D} {G G' : Hd} {τ : Tau} (hn : ds.length = fd.n) (he : evSs Φ G.length fd.body (List.replicate fd.pre none ++ (ds.map some ++ List.replicate (fd.slots - ds.length) none)) G = .ok (.nx τ) G') : callF Φ fd ds G = .ok .non (G'.take G.length) := by
  unfold callF
  rw [if_pos hn, he]
theorem check_ok (h : run T n "is_model" [d] G = .ok (.bl true) G) : run T (n + 1) "check_model" [d] G = .ok .non G := by
  rw [run_succ L_check_model]
  refine (callF_nx (G' := G) (τ := [some d]) rfl ?_).trans (by rw [List.take_length])
  show evSs _ _ b_check_model [some d] G = _
  unfold b_check_model
  exact (skip (G1 := G) (not_ok (val_ok (call_ok (ds := [d]) (G1 := G) (by simp [evEs, evE]) h)))).trans (by rw [evSs])
theorem check_bad (h : run T n "is_model" [d] G = .ok (.bl false) G) : run T (n + 1) "check_model" [d] G = .exc "InvalidModel" G := by
  rw [run_succ L_check_model]
  refine (callF_exc (G' := G) rfl ?_).trans (by rw [List.take_length])
  show evSs _ _ b_check_model [some d] G = _
  unfold b_check_model
  exact exc_raise (not_ok (val_ok (call_ok (ds := [d]) (G1 := G) (by simp [evEs, evE]) h)))
/-! ### the same data -/
theorem eq_self {j : Nat} (h : Sh j d) (hj : j ≤ 64) : cmpD G .ne d d = some false := by
  obtain ⟨y, h1, h2, h3⟩ := h
  have e : toPyG G d = some y := by
    cases d <;> first | exact h1 | cases h1
  have hs : SeqAt.shaped y = true := shaped_sh (d := d) ⟨y, h1, h2, h3⟩ hj h1
  show (eqD G d d).map (!·) = _
  unfold eqD
  rw [e]
  simp only [hs, Bool.and_self, if_true, SeqAt.eqv_refl y h2]
  rfl
end K04

set_option Elab.async false
set_option linter.all false
set_option maxRecDepth 100000
set_option maxHeartbeats 0
/-! K04P: drawn models. -/
namespace K04
open PySem L2 U
variable {n : Nat} {d : D} {bs vs : List D} {sc : D} {Φ : Fn}
section
variable {b : Nat} {τ : Tau} {G G1 G2 G3 : Hd}
theorem sl_ok' {x : ME} {lo hi : MO} {a r : D} {l h : Option Int} (h1 : evE Φ b x τ G = .ok a G1) (h2 : evO Φ b lo τ G1 = .ok l G2) (h3 : evO Φ b hi τ G2 = .ok h G3) (h4 : slD G3 a l h = some r) : evE Φ b (.sl x lo hi) τ G = .ok r G3 := by
  rw [evE, h1]
  simp only [Out.then_ok, h2, h3, h4, lift_some]
theorem no_ok : evO Φ b .no τ G = .ok none G := by rw [evO]
theorem yes_ok {e : ME} {i : Int} (h : evE Φ b e τ G = .ok (.int i) G1) : evO Φ b (.yes e) τ G = .ok (some i) G1 := by
  rw [evO, h]
  rfl
end
def mBody : MSs := (.cons (.set (.nam 7) (.call "_law_expression" (.cons (.var 0) (.cons (.var 1) (.cons (.var 3) (.cons (.var 4) (.cons (.con (.int (2))) .nil)))))))
  (.cons (.set (.nam 8) (.call "_law_expression" (.cons (.var 0) (.cons (.var 1) (.cons (.var 3) (.cons (.var 4) (.cons (.bin .add (.con (.int (1))) (.call "_law_draw" (.cons (.var 0) (.cons (.var 1) (.cons (.con (.int (3))) .nil))))) .nil)))))))
  (.cons (.exp (.append (.var 5) (.tup (.cons (.var 7) (.cons (.var 8) .nil)))))
  .nil)))
theorem model_turn (hD : DrawOk Φ sc) (hE : ∀ k, k < 3 → ExprOk Φ sc bs vs (k + 1)) {o0 o1 : DO} (ht : Town o0 o1) {G : Hd} {acc : List D} {x m3 : D} {t6 t7 t8 : Option D} (hl : acc.length < line) :
    ∃ (p0 p1 : DO) (y : D) (t7' t8' : Option D), Town p0 p1 ∧ StG bs vs y ∧ forTurn Φ (G.length + 2) (.nam 6) mBody x [some sc, some (.ref 1), some m3, some (.tup bs), some (.tup vs), some (.ref (G.length + 2)), t6, t7, t8] (o0 :: o1 :: G ++ [.lst acc]) = .ok (.nx [some sc, some (.ref 1), some m3, some (.tup bs), some (.tup vs), some (.ref (G.length + 2)), some x, t7', t8']) (p0 :: p1 :: G ++ [.lst (acc ++ [y])]) := by
  obtain ⟨q0, q1, a, ht1, ha, e1⟩ := hE 1 (by decide) o0 o1 ht 2 rfl (G ++ [.lst acc])
  have s1 : evE Φ (G.length + 2) (.call "_law_expression" (.cons (.var 0) (.cons (.var 1) (.cons (.var 3) (.cons (.var 4) (.cons (.con (.int (2))) .nil)))))) [some sc, some (.ref 1), some m3, some (.tup bs), some (.tup vs), some (.ref (G.length + 2)), some x, t7, t8] (o0 :: o1 :: G ++ [.lst acc]) = .ok a (q0 :: q1 :: G ++ [.lst acc]) := call_ok (ds := [sc, .ref 1, .tup bs, .tup vs, .int 2]) (G1 := o0 :: o1 :: G ++ [.lst acc]) (by simp [evEs, evE]) e1
  obtain ⟨k, r0, r1, hk, ht2, e2⟩ := drawE (b := G.length + 2) (e := .con (.int 3)) (τ := [some sc, some (.ref 1), some m3, some (.tup bs), some (.tup vs), some (.ref (G.length + 2)), some x, some a, t8]) hD ht1 3 (z := 3) rfl (by decide) (by decide) (G ++ [.lst acc]) (by simp [evEs, evE])
  obtain ⟨u0, u1, c, ht3, hc, e3⟩ := hE k hk r0 r1 ht2 (1 + (k : Int)) (by omega) (G ++ [.lst acc])
  have s2 : evE Φ (G.length + 2) (.call "_law_expression" (.cons (.var 0) (.cons (.var 1) (.cons (.var 3) (.cons (.var 4) (.cons (.bin .add (.con (.int (1))) (.call "_law_draw" (.cons (.var 0) (.cons (.var 1) (.cons (.con (.int (3))) .nil))))) .nil)))))) [some sc, some (.ref 1), some m3, some (.tup bs), some (.tup vs), some (.ref (G.length + 2)), some x, some a, t8] (q0 :: q1 :: G ++ [.lst acc]) = .ok c (u0 :: u1 :: G ++ [.lst acc]) := by
    refine call_ok (ds := [sc, .ref 1, .tup bs, .tup vs, .int (1 + (k : Int))]) (G1 := r0 :: r1 :: G ++ [.lst acc]) ?_ e3
    have v : evE Φ (G.length + 2) (.bin .add (.con (.int (1))) (.call "_law_draw" (.cons (.var 0) (.cons (.var 1) (.cons (.con (.int (3))) .nil))))) [some sc, some (.ref 1), some m3, some (.tup bs), some (.tup vs), some (.ref (G.length + 2)), some x, some a, t8] (q0 :: q1 :: G ++ [.lst acc]) = .ok (.int (1 + (k : Int))) (r0 :: r1 :: G ++ [.lst acc]) := bin_ok con_ok e2 rfl
    have w : ∀ (i : Nat) (z : D), ([some sc, some (.ref 1), some m3, some (.tup bs), some (.tup vs), some (.ref (G.length + 2)), some x, some a, t8] : Tau)[i]? = some (some z) → evE Φ (G.length + 2) (.var i) [some sc, some (.ref 1), some m3, some (.tup bs), some (.tup vs), some (.ref (G.length + 2)), some x, some a, t8] (q0 :: q1 :: G ++ [.lst acc]) = .ok z (q0 :: q1 :: G ++ [.lst acc]) := fun i z h => var_ok h
    simp only [evEs, w 0 sc rfl, w 1 (.ref 1) rfl, w 3 (.tup bs) rfl, w 4 (.tup vs) rfl, v, Out.then_ok]
  refine ⟨u0, u1, .tup [a, c], some a, some c, ht3, ⟨a, c, rfl, ExG.le ha (by omega), ExG.le hc (by omega)⟩, ?_⟩
  show evSs Φ (G.length + 2) mBody [some sc, some (.ref 1), some m3, some (.tup bs), some (.tup vs), some (.ref (G.length + 2)), some x, t7, t8] _ = _
  unfold mBody
  let τ : Tau := [some sc, some (.ref 1), some m3, some (.tup bs), some (.tup vs), some (.ref (G.length + 2)), some x, some a, some c]
  refine (set_ok s1).trans ?_
  refine (set_ok s2).trans ?_
  refine (seq_nx (τ1 := τ) (G1 := u0 :: u1 :: G ++ [.lst (acc ++ [.tup [a, c]])]) ?_).trans (by rw [evSs])
  have q := append_last (o := .var 5) (e := .tup (.cons (.var 7) (.cons (.var 8) .nil))) (x := .tup [a, c]) (b0 := u0) (b1 := u1) (Nat.le_refl _) (show evE Φ (G.length + 2) (.var 5) τ (u0 :: u1 :: G ++ [.lst acc]) = _ from var_ok rfl) (by simp [evE, evEs, τ]) hl
  rw [evS]
  show (evE Φ _ _ τ _).then _ = _
  rw [q]
  rfl
theorem bases_in {G : Hd} {i j : Nat} (hi : i < 2) (hj : j < 2) : ∃ bs ∈ basesOf, ∃ a, slD G (.tup [.str "kg", .str "m", .str "s"]) (some (i : Int)) none = some a ∧ slD G a none (some (1 + (j : Int))) = some (.tup bs) := by
  have h1 : i = 0 ∨ i = 1 := by omega
  have h2 : j = 0 ∨ j = 1 := by omega
  rcases h1 with rfl | rfl <;> rcases h2 with rfl | rfl
  · exact ⟨[.str "kg"], by simp [basesOf], _, rfl, rfl⟩
  · exact ⟨[.str "kg", .str "m"], by simp [basesOf], _, rfl, rfl⟩
  · exact ⟨[.str "m"], by simp [basesOf], _, rfl, rfl⟩
  · exact ⟨[.str "m", .str "s"], by simp [basesOf], _, rfl, rfl⟩
theorem vars_in' {G : Hd} {i : Nat} (hi : i < 4) : ∃ vs ∈ varsOf, slD G (.tup [.str "a", .str "f", .str "mass", .str "t", .str "v"]) none (some (1 + (i : Int))) = some (.tup vs) := by
  have h1 : i = 0 ∨ i = 1 ∨ i = 2 ∨ i = 3 := by omega
  rcases h1 with rfl | rfl | rfl | rfl
  · exact ⟨[.str "a"], by simp [varsOf], rfl⟩
  · exact ⟨[.str "a", .str "f"], by simp [varsOf], rfl⟩
  · exact ⟨[.str "a", .str "f", .str "mass"], by simp [varsOf], rfl⟩
  · exact ⟨[.str "a", .str "f", .str "mass", .str "t"], by simp [varsOf], rfl⟩
theorem range_some {m : Nat} (h : m < 1000) : ∃ ds, rangeD 0 (m : Int) = some ds ∧ ds.length = m := by
  unfold rangeD
  have p : (2 : Int) ^ 62 = 4611686018427387904 := by decide
  rw [p]
  rw [if_pos (by omega)]
  exact ⟨_, rfl, by simp⟩
theorem rng_ok {b : Nat} {τ : Tau} {G G1 : Hd} {e : ME} {m : Int} {ds : List D} (h : evE Φ b e τ G = .ok (.int m) G1) (hr : rangeD 0 m = some ds) : evI Φ b (.rng1 e) τ G = .ok (.items ds) G1 := by
  rw [evI, h]
  simp only [Out.then_ok, intD, Option.bind_some, hr, Option.map_some, lift_some]
theorem frz_tupk {j m : Nat} {G : Hd} {xs : List D} (h : ∀ x ∈ xs, frz j m G x = some x) : frz (j + 1) m G (.tup xs) = some (.tup xs) := by
  show (xs.mapM (frz j m G)).map D.tup = _
  rw [mapM_id h]
  rfl
theorem st_wd (H : Drawn bs vs) {x : D} (h : StG bs vs x) : Wd 6 x := by
  obtain ⟨a, c, rfl, ha, hc⟩ := h
  refine .inr ⟨_, rfl, by simp, fun y hy => ?_⟩
  simp only [List.mem_cons, List.not_mem_nil, or_false] at hy
  rcases hy with rfl | rfl
  · exact ex_wd H.len H.vl ha
  · exact ex_wd H.len H.vl hc
theorem model_run (hns : ∀ n, DrawOk (run T (n + 1)) sc) {o0 o1 : DO} (ht : Town o0 o1) (n : Nat) (G : Hd) :
    ∃ (p0 p1 : DO) (bs vs xs : List D), Town p0 p1 ∧ bs ∈ basesOf ∧ vs ∈ varsOf ∧ xs.length ≤ 4 ∧ (∀ x ∈ xs, StG bs vs x) ∧ run T (n + 6) "_law_model" [sc, .ref 1, .int 4] (o0 :: o1 :: G) = .ok (.tup [.tup bs, .tup vs, .tup xs]) (p0 :: p1 :: G) := by
  have hD : DrawOk (run T (n + 5)) sc := hns (n + 4)
  generalize hΦ : run T (n + 5) = Φ at hD
  let τ0 : Tau := [some sc, some (.ref 1), some (.int 4), none, none, none, none, none, none]
  obtain ⟨i, q0, q1, hi, ht1, e1⟩ := drawE (b := G.length + 2) (e := .con (.int 2)) (τ := τ0) hD ht 2 (z := 2) rfl (by decide) (by decide) G (by simp [evEs, evE, τ0])
  obtain ⟨j, r0, r1, hj, ht2, e2⟩ := drawE (b := G.length + 2) (e := .con (.int 2)) (τ := τ0) hD ht1 2 (z := 2) rfl (by decide) (by decide) G (by simp [evEs, evE, τ0])
  obtain ⟨bs, hbs, a, b1, b2⟩ := bases_in (G := r0 :: r1 :: G) hi hj
  have b1' : slD (q0 :: q1 :: G) (.tup [.str "kg", .str "m", .str "s"]) (some (i : Int)) none = some a := b1
  have s1 : evE Φ (G.length + 2) (.sl (.sl (.tup (.cons (.con (.str "kg")) (.cons (.con (.str "m")) (.cons (.con (.str "s")) .nil)))) (.yes (.call "_law_draw" (.cons (.var 0) (.cons (.var 1) (.cons (.con (.int (2))) .nil))))) .no) .no (.yes (.bin .add (.con (.int (1))) (.call "_law_draw" (.cons (.var 0) (.cons (.var 1) (.cons (.con (.int (2))) .nil))))))) τ0 (o0 :: o1 :: G) = .ok (.tup bs) (r0 :: r1 :: G) :=
    sl_ok' (sl_ok' (a := .tup [.str "kg", .str "m", .str "s"]) (G1 := o0 :: o1 :: G) (by simp [evE, evEs]) (yes_ok e1) no_ok b1') no_ok (yes_ok (bin_ok (r := .int (1 + (j : Int))) con_ok e2 rfl)) b2
  let τ1 : Tau := [some sc, some (.ref 1), some (.int 4), some (.tup bs), none, none, none, none, none]
  obtain ⟨k, u0, u1, hk, ht3, e3⟩ := drawE (b := G.length + 2) (e := .con (.int 4)) (τ := τ1) hD ht2 4 (z := 4) rfl (by decide) (by decide) G (by simp [evEs, evE, τ1])
  obtain ⟨vs, hvs, b3⟩ := vars_in' (G := u0 :: u1 :: G) hk
  have s2 : evE Φ (G.length + 2) (.sl (.tup (.cons (.con (.str "a")) (.cons (.con (.str "f")) (.cons (.con (.str "mass")) (.cons (.con (.str "t")) (.cons (.con (.str "v")) .nil)))))) .no (.yes (.bin .add (.con (.int (1))) (.call "_law_draw" (.cons (.var 0) (.cons (.var 1) (.cons (.con (.int (4))) .nil))))))) τ1 (r0 :: r1 :: G) = .ok (.tup vs) (u0 :: u1 :: G) :=
    sl_ok' (a := .tup [.str "a", .str "f", .str "mass", .str "t", .str "v"]) (G1 := r0 :: r1 :: G) (by simp [evE, evEs]) no_ok (yes_ok (bin_ok (r := .int (1 + (k : Int))) con_ok e3 rfl)) b3
  have H := drawn_ok hbs hvs
  have hE : ∀ k, k < 3 → ExprOk Φ sc bs vs (k + 1) := by
    intro k hk
    rw [← hΦ]
    have : k = 0 ∨ k = 1 ∨ k = 2 := by omega
    rcases this with rfl | rfl | rfl
    · exact exprs_run hns H 0 (n + 2)
    · exact exprs_run hns H 1 (n + 1)
    · exact exprs_run hns H 2 n
  let τ2 : Tau := [some sc, some (.ref 1), some (.int 4), some (.tup bs), some (.tup vs), some (.ref (G.length + 2)), none, none, none]
  obtain ⟨m, w0, w1, hm, ht4, e4⟩ := drawE (b := G.length + 2) (e := .bin .add (.var 2) (.con (.int (1)))) (τ := τ2) hD ht3 5 (z := 4 + 1) rfl (by decide) (by decide) (G ++ [.lst []]) (by simp [evEs, evE, τ2])
  obtain ⟨ds, hds, hdl⟩ := range_some (m := m) (by omega)
  have hit : evI Φ (G.length + 2) (.rng1 (.call "_law_draw" (.cons (.var 0) (.cons (.var 1) (.cons (.bin .add (.var 2) (.con (.int (1)))) .nil))))) τ2 (u0 :: u1 :: G ++ [.lst []]) = .ok (.items ds) (w0 :: w1 :: G ++ [.lst []]) := rng_ok e4 hds
  obtain ⟨τ', G', e5, p0, p1, acc, t6, t7, t8, ht', rfl, rfl, hl, hg⟩ := for_inv (Φ := Φ) (b := G.length + 2) (t := .nam 6) (s := mBody) (τ := τ2) (ds := ds)
    (I := fun i τ G' => ∃ p0 p1 acc t6 t7 t8, Town p0 p1 ∧ τ = [some sc, some (.ref 1), some (.int 4), some (.tup bs), some (.tup vs), some (.ref (G.length + 2)), t6, t7, t8] ∧ G' = p0 :: p1 :: G ++ [.lst acc] ∧ acc.length = i ∧ ∀ x ∈ acc, StG bs vs x)
    hit ⟨w0, w1, [], none, none, none, ht4, rfl, rfl, rfl, fun x hx => (nomatch hx)⟩ (by
      rintro i x τ G' hx ⟨p0, p1, acc, t6, t7, t8, ht', rfl, rfl, hl, hg⟩
      have hi : i < ds.length := (List.getElem?_eq_some_iff.mp hx).1
      obtain ⟨q0, q1, y, t7', t8', ht2, hy, e⟩ := model_turn (bs := bs) (vs := vs) (m3 := .int 4) (t6 := t6) (t7 := t7) (t8 := t8) (x := x) (G := G) hD hE ht' (acc := acc) (show _ < 16777216 by omega)
      refine ⟨_, _, e, q0, q1, acc ++ [y], some x, t7', t8', ht2, rfl, rfl, by simp [hl], fun z hz => ?_⟩
      rcases List.mem_append.mp hz with hz | hz
      · exact hg z hz
      · rw [List.mem_singleton.mp hz]; exact hy)
  have hal : acc.length ≤ 4 := by omega
  refine ⟨p0, p1, bs, vs, acc, ht', hbs, hvs, hal, hg, ?_⟩
  show run T (n + 5 + 1) _ _ _ = _
  rw [run_succ L_model, hΦ]
  have fz : frz 4 (G.length + 2) (p0 :: p1 :: G ++ [.lst acc]) (.tup [.tup bs, .tup vs, .tup acc]) = some (.tup [.tup bs, .tup vs, .tup acc]) := by
    refine frz_tupk fun y hy => ?_
    simp only [List.mem_cons, List.not_mem_nil, or_false] at hy
    rcases hy with rfl | rfl | rfl
    · exact frz_tupk fun z hz => frz_wd 2 (leaf_wd (k := 0) (H.bl z hz))
    · exact frz_tupk fun z hz => frz_wd 2 (leaf_wd (k := 0) (H.vl z hz))
    · exact frz_tupk fun z hz => frz_wd 2 (st_wd H (hg z hz))
  refine (callF_rt (G := o0 :: o1 :: G) (d := .tup [.tup bs, .tup vs, .tup acc]) (d' := .tup [.tup bs, .tup vs, .tup acc]) (G' := p0 :: p1 :: G ++ [.lst acc]) rfl rfl ?_ fz).trans (by simp)
  show evSs Φ (G.length + 2) b__law_model τ0 _ = _
  unfold b__law_model
  refine (set_ok s1).trans ?_
  refine (set_ok s2).trans ?_
  refine (set_ok (d := .ref (G.length + 2)) (G1 := u0 :: u1 :: G ++ [.lst []]) (by simp [evE, evEs, allocD, objOf])).trans ?_
  unfold mBody at e5
  refine (seq_nx e5).trans ?_
  refine ret_ok ?_
  have g1 : (p0 :: p1 :: G ++ [DO.lst acc])[G.length + 2]? = some (.lst acc) := by simp
  have l1 : biD (p0 :: p1 :: G ++ [.lst acc]) .tuple [.ref (G.length + 2)] = some (.tup acc) := by
    show (seqD (p0 :: p1 :: G ++ [.lst acc]) (.ref (G.length + 2))).map D.tup = _
    have : seqD (p0 :: p1 :: G ++ [.lst acc]) (.ref (G.length + 2)) = some acc := by
      show listD (p0 :: p1 :: G ++ [.lst acc]) (.ref (G.length + 2)) = some acc
      unfold listD
      simp only [g1]
    rw [this]
    rfl
  have w : ∀ (i : Nat) (z : D), ([some sc, some (.ref 1), some (.int 4), some (.tup bs), some (.tup vs), some (.ref (G.length + 2)), t6, t7, t8] : Tau)[i]? = some (some z) → evE Φ (G.length + 2) (.var i) [some sc, some (.ref 1), some (.int 4), some (.tup bs), some (.tup vs), some (.ref (G.length + 2)), t6, t7, t8] (p0 :: p1 :: G ++ [.lst acc]) = .ok z (p0 :: p1 :: G ++ [.lst acc]) := fun i z h => var_ok h
  have v5 : evE Φ (G.length + 2) (.bi .tuple (.cons (.var 5) .nil)) [some sc, some (.ref 1), some (.int 4), some (.tup bs), some (.tup vs), some (.ref (G.length + 2)), t6, t7, t8] (p0 :: p1 :: G ++ [.lst acc]) = .ok (.tup acc) (p0 :: p1 :: G ++ [.lst acc]) := by
    rw [evE]
    simp only [evEs, w 5 (.ref (G.length + 2)) rfl, Out.then_ok, l1, lift_some]
  rw [evE]
  simp only [evEs, w 3 (.tup bs) rfl, w 4 (.tup vs) rfl, v5, Out.then_ok]
end K04

set_option Elab.async false
set_option linter.all false
set_option maxRecDepth 100000
set_option maxHeartbeats 400000
/-! K04E: assignments. -/
namespace K04
open PySem L2 U
variable {n : Nat} {d x : D} {bs vs : List D} {G : Hd}
theorem L_is_assignment : T.lookup ("is_assignment" : Str) = some r_is_assignment.fd := by kernel_rfl
/-- a unit that was drawn -/
def Ug (m : Nat) (y : D) : Prop := ∃ xs, y = .tup xs ∧ xs.length = m ∧ ∀ x ∈ xs, frGood x
theorem ug_unit (hb : bs.length ≤ 3) (h : Ug bs.length x) : run T (n + 5) "is_unit" [.tup bs, x] G = .ok (.bl true) G := by
  obtain ⟨xs, rfl, hl, hg⟩ := h
  refine E_unit ?_
  rw [E_frs (fun x hx => .inl (hg x hx)) (by rw [hl]; exact Nat.le_trans hb (by decide))]
  have e1 : ((xs.length : Int) == (bs.length : Int)) = true := by rw [hl]; exact beq_self_eq_true _
  have e2 : xs.all pairI = true := List.all_eq_true.mpr fun x hx => good_pair (hg x hx)
  rw [e1, e2]
  rfl
theorem asg_in {k : Bool} {xs : List D} {p : D → Bool} (hl : xs.length ≤ 1000) (hp : xs.length = vs.length → ∀ x ∈ xs, run T n "is_unit" [.tup bs, x] G = .ok (.bl (p x)) G) (hk : k = (((xs.length : Int) == (vs.length : Int)) && xs.all p)) :
    run T (n + 1) "is_assignment" [.tup bs, .tup vs, .tup xs] G = .ok (.bl k) G := by
  rw [run_succ L_is_assignment]
  refine callF_rtG rfl rfl ?_ frz_bl
  show evSs _ _ b_is_assignment [some (.tup bs), some (.tup vs), some (.tup xs), none] _ = _
  unfold b_is_assignment
  refine ret_ok ?_
  rw [and_ok (k := true) (G1 := G) (by simp [evE, evEs, isi_tuple (d := .tup xs) rfl, isT]), if_pos rfl]
  rw [and_ok (k := (xs.length : Int) == (vs.length : Int)) (G1 := G) (by simp [evE, evEs, cmp_eqI])]
  subst hk
  cases e : (xs.length : Int) == (vs.length : Int) with
  | false => rw [if_neg (by decide)]; rfl
  | true =>
    rw [if_pos rfl]
    have e' : xs.length = vs.length := by have := eq_of_beq e; omega
    refine all_ok (lc_map (g := fun x => .bl (p x)) ?_ (by show _ ≤ 16777216; omega) ?_)
    · simp [evI, evE, iterD, stillD]
    · intro x hh
      exact call_ok (ds := [.tup bs, x]) (G1 := G) (by simp [evEs, evE, wipeD]) (hp e' x hh)
theorem asg_no (h : plain d = true) (h2 : isT d = false) : run T (n + 1) "is_assignment" [.tup bs, .tup vs, d] G = .ok (.bl false) G := by
  rw [run_succ L_is_assignment]
  refine callF_rtG rfl rfl ?_ frz_bl
  show evSs _ _ b_is_assignment [some (.tup bs), some (.tup vs), some d, none] _ = _
  unfold b_is_assignment
  refine ret_ok ?_
  rw [and_ok (k := false) (G1 := G) (by simp [evE, evEs, isi_tuple h, h2]), if_neg (by decide)]
theorem asg_good (H : Drawn bs vs) {xs : List D} (hl : xs.length = vs.length) (hg : ∀ x ∈ xs, Ug bs.length x) : run T (n + 6) "is_assignment" [.tup bs, .tup vs, .tup xs] G = .ok (.bl true) G := by
  have h1 := H.v1
  refine asg_in (p := fun _ => true) (by omega) (fun _ x hx => ug_unit H.len (hg x hx)) ?_
  rw [hl, beq_self_eq_true, Bool.true_and]
  exact (List.all_eq_true.mpr fun _ _ => rfl).symm
theorem asg_len {xs : List D} (hl : xs.length ≤ 1000) (h : xs.length ≠ vs.length) : run T (n + 1) "is_assignment" [.tup bs, .tup vs, .tup xs] G = .ok (.bl false) G := by
  refine asg_in (p := fun _ => true) hl (fun e => absurd e h) ?_
  have : ((xs.length : Int) == (vs.length : Int)) = false := beq_eq_false_iff_ne.mpr (by omega)
  rw [this]
  rfl
theorem ug_us {m : Nat} (hm : m ≤ 3) {y : D} (h : Ug m y) : ∃ u : List Fr, y = uD u ∧ u.length = m ∧ Us 3 u := by
  obtain ⟨xs, rfl, hl, hg⟩ := h
  obtain ⟨u, rfl, hu⟩ := good_us hg (by omega)
  exact ⟨u, rfl, by rw [List.length_map] at hl; exact hl, hu⟩

theorem asg_w {m : Nat} (hm : m ≤ 3) : ∀ {as : List D}, (∀ x ∈ as, Ug m x) → ∃ w : List (List Fr), as = w.map uD ∧ ∀ u ∈ w, u.length = m ∧ Us 3 u
  | [], _ => ⟨[], rfl, fun u hu => nomatch hu⟩
  | a :: as, h => by
    obtain ⟨w, rfl, hw⟩ := asg_w hm fun x hx => h x (List.mem_cons_of_mem _ hx)
    obtain ⟨u, rfl, h1, h2⟩ := ug_us hm (h a List.mem_cons_self)
    refine ⟨u :: w, rfl, fun y hy => ?_⟩
    rcases List.mem_cons.mp hy with rfl | hy
    · exact ⟨h1, h2⟩
    · exact hw y hy
theorem dzip_ok {zs : List D} (hv : vs ∈ varsOf) (hl : zs.length = vs.length) : dzipD (.tup vs) (.tup zs) = some (.dct vs zs) := by
  simp only [varsOf, List.mem_cons, List.not_mem_nil, or_false] at hv
  rcases hv with rfl | rfl | rfl | rfl
  · match zs, hl with
    | [a], _ => kernel_rfl
  · match zs, hl with
    | [a, b], _ => kernel_rfl
  · match zs, hl with
    | [a, b, c], _ => kernel_rfl
  · match zs, hl with
    | [a, b, c, d], _ => kernel_rfl
end K04

set_option Elab.async false
set_option linter.all false
set_option maxRecDepth 100000
set_option maxHeartbeats 400000
/-! K04Y: constraints, violations, and what the law finds. -/
namespace K04
open PySem L2 U
variable {n : Nat} {d x : D} {bs vs xs : List D} {G : Hd}
theorem L_all_constraints : T.lookup ("all_constraints" : Str) = some r_all_constraints.fd := by kernel_rfl
theorem L_constraints : T.lookup ("constraints" : Str) = some r_constraints.fd := by kernel_rfl
theorem L_violations : T.lookup ("violations" : Str) = some r_violations.fd := by kernel_rfl
theorem L_check_assignment : T.lookup ("check_assignment" : Str) = some r_check_assignment.fd := by kernel_rfl
theorem L_holds : T.lookup ("holds" : Str) = some r_holds.fd := by kernel_rfl
theorem L_violated : T.lookup ("violated" : Str) = some r_violated.fd := by kernel_rfl
theorem L_lholds : T.lookup ("_law_holds" : Str) = some r__law_holds.fd := by kernel_rfl
open Classical in
noncomputable def cf (bs vs : List D) (x : D) : List (List Fr × List Fr) := if h : ∃ C, Stm bs vs x C then h.choose else []
theorem cf_ok (hb : bs ∈ basesOf) (hv : vs ∈ varsOf) (h : StG bs vs x) : Stm bs vs x (cf bs vs x) := by
  obtain ⟨a, c, rfl, ha, hc⟩ := h
  have e := stm_ok hb hv ha hc
  unfold cf
  rw [dif_pos e]
  exact e.choose_spec
noncomputable def cT (bs vs : List D) (x : D) : D := .tup ((cf bs vs x).map fp)
theorem frz_cT {m : Nat} : frz 4 m G (.tup (xs.map (cT bs vs))) = some (.tup (xs.map (cT bs vs))) := frz_tup' fun y hy => by
  obtain ⟨x, _, rfl⟩ := List.mem_map.mp hy
  exact frz_tup' fun y hy => by
    obtain ⟨p, _, rfl⟩ := List.mem_map.mp hy
    exact frz_py 2 (py_fp p)
theorem sh_cT : Sh 5 (.tup (xs.map (cT bs vs))) := Sh.tup (j := 4) fun y hy => by
  obtain ⟨x, _, rfl⟩ := List.mem_map.mp hy
  exact Sh.tup (j := 3) fun y hy => by
    obtain ⟨p, _, rfl⟩ := List.mem_map.mp hy
    exact Sh.tup (j := 2) fun y hy => by
      simp only [List.mem_cons, List.not_mem_nil, or_false] at hy
      rcases hy with rfl | rfl <;> exact sh_u
theorem tuple_lst {ys : List D} : biD G .tuple [.lst ys] = some (.tup ys) := rfl
theorem constraints_run (hb : bs ∈ basesOf) (hv : vs ∈ varsOf) (hl : xs.length ≤ 8) (hs : ∀ x ∈ xs, StG bs vs x) : run T (n + 14) "constraints" [.tup [.tup bs, .tup vs, .tup xs]] G = .ok (.tup (xs.map (cT bs vs))) G := by
  have ha : run T (n + 13) "all_constraints" [.tup [.tup bs, .tup vs, .tup xs]] G = .ok (.tup (xs.map (cT bs vs))) G := by
    rw [run_succ L_all_constraints]
    refine callF_rtG rfl rfl ?_ frz_cT
    show evSs _ _ b_all_constraints [some (.tup [.tup bs, .tup vs, .tup xs]), none] _ = _
    unfold b_all_constraints
    refine ret_ok (bi1_ok (lc_map (g := cT bs vs) (ds := xs) ?_ (show _ ≤ 16777216 by omega) fun x hx => ?_) tuple_lst)
    · simp [evI, evE, iterD, stillD, ix2]
    · exact call_ok (ds := [.tup bs, .tup vs, x]) (G1 := G) (by simp [evEs, evE, wipeD, ix0, ix1]) ((cf_ok hb hv (hs x hx)).hc (n + 4) G)
  rw [run_succ L_constraints]
  refine callF_rtG rfl rfl ?_ frz_cT
  show evSs _ _ b_constraints [some (.tup [.tup bs, .tup vs, .tup xs])] _ = _
  unfold b_constraints
  have ck : evE (run T (n + 13)) G.length (.call "check_model" (.cons (.var 0) .nil)) [some (.tup [.tup bs, .tup vs, .tup xs])] G = .ok .non G := call_ok (ds := [.tup [.tup bs, .tup vs, .tup xs]]) (G1 := G) (by simp [evEs, evE]) (check_ok (model_good hb hv hl hs))
  refine (seq_nx (τ1 := [some (.tup [.tup bs, .tup vs, .tup xs])]) (G1 := G) (by rw [evS, ck]; rfl)).trans (ret_ok ?_)
  exact call_ok (ds := [.tup [.tup bs, .tup vs, .tup xs]]) (G1 := G) (by simp [evEs, evE]) ha
/-! ### which hold -/
def resB : Out D → Bool
  | .ok (.bl r) _ => r
  | _ => false
def hold (dd x : D) : Bool := resB (run T 8 "does_hold" [x, dd] [])
theorem st_at (hb : bs ∈ basesOf) (hv : vs ∈ varsOf) (h : StG bs vs x) {w : List (List Fr)} (hl : w.length = vs.length) (hw : ∀ u ∈ w, u.length = bs.length ∧ Us 3 u) : ∃ gs : List (List Fr), gs.length ≤ 17 ∧ hold (.dct vs (w.map uD)) x = gd bs.length gs ∧ ∀ n G, run T (n + 8) "_law_gaps" [x, .dct vs (w.map uD)] G = .ok (.lst (gs.map uD)) G ∧ run T (n + 8) "does_hold" [x, .dct vs (w.map uD)] G = .ok (.bl (hold (.dct vs (w.map uD)) x)) G := by
  obtain ⟨gs, _, _, h3, h4⟩ := (cf_ok hb hv h).hg (fun _ => True) w (.dct vs (w.map uD)) (wd_dict hv hl hw)
  have e : hold (.dct vs (w.map uD)) x = gd bs.length gs := by
    unfold hold
    rw [(h4 0 [] trivial).2]
    rfl
  refine ⟨gs, h3, e, fun n G => ⟨(h4 n G trivial).1, ?_⟩⟩
  rw [e]
  exact (h4 n G trivial).2
def pick (p : D → Bool) : Nat → List D → List Int
  | _, [] => []
  | k, x :: xs => if p x then (k : Int) :: pick p (k + 1) xs else pick p (k + 1) xs
theorem pick_len {p : D → Bool} : ∀ {k : Nat} {xs : List D}, (pick p k xs).length ≤ xs.length
  | _, [] => Nat.le_refl _
  | k, x :: xs => by
    have ih := pick_len (p := p) (k := k + 1) (xs := xs)
    unfold pick
    split
    · rw [List.length_cons, List.length_cons]; omega
    · rw [List.length_cons]; omega
theorem pick_snoc {p : D → Bool} {y : D} : ∀ {k : Nat} {xs : List D}, pick p k (xs ++ [y]) = pick p k xs ++ if p y then [((k + xs.length : Nat) : Int)] else []
  | k, [] => by simp [pick]
  | k, x :: xs => by
    have ih := pick_snoc (p := p) (y := y) (k := k + 1) (xs := xs)
    rw [List.cons_append, pick, pick, ih, List.length_cons, show k + 1 + xs.length = k + (xs.length + 1) by omega]
    split <;> simp
def vf (p : D → Bool) : D → Option D
  | .tup [i, x] => if p x then some i else none
  | _ => none
theorem enum_pick {p : D → Bool} : ∀ {k : Nat} {xs : List D}, (enumFrom k xs).filterMap (vf p) = (pick p k xs).map D.int
  | _, [] => rfl
  | k, x :: xs => by
    have ih := enum_pick (p := p) (k := k + 1) (xs := xs)
    unfold enumFrom pick
    rw [List.filterMap_cons]
    cases e : p x with
    | true =>
      have : vf p (.tup [.int k, x]) = some (.int k) := by simp [vf, e]
      rw [this, if_pos rfl]
      simp only [ih, List.map_cons]
    | false =>
      have : vf p (.tup [.int k, x]) = none := by simp [vf, e]
      rw [this, if_neg (by decide)]
      simp only [ih]
theorem frz_ints {m : Nat} {L : List Int} : frz 4 m G (.tup (L.map D.int)) = some (.tup (L.map D.int)) := frz_tup' fun y hy => by
  obtain ⟨x, _, rfl⟩ := List.mem_map.mp hy
  rfl
theorem sh_ints {L : List Int} : Sh 1 (.tup (L.map D.int)) := Sh.tup (j := 0) fun y hy => by
  obtain ⟨x, _, rfl⟩ := List.mem_map.mp hy
  exact Sh.int
section
variable {w : List (List Fr)} (hb : bs ∈ basesOf) (hv : vs ∈ varsOf) (hl : xs.length ≤ 8) (hs : ∀ x ∈ xs, StG bs vs x) (hw0 : w.length = vs.length) (hw : ∀ u ∈ w, u.length = bs.length ∧ Us 3 u)
include hb hv hl hs hw0 hw
theorem violations_run : run T (n + 9) "violations" [.tup [.tup bs, .tup vs, .tup xs], .tup (w.map uD)] G = .ok (.tup ((pick (fun x => !hold (.dct vs (w.map uD)) x) 0 xs).map D.int)) G := by
  rw [run_succ L_violations]
  refine callF_rtG rfl rfl ?_ frz_ints
  show evSs _ _ b_violations [some (.tup [.tup bs, .tup vs, .tup xs]), some (.tup (w.map uD)), none, none, none] _ = _
  unfold b_violations
  refine (set_ok (d := .dct vs (w.map uD)) (G1 := G) ?_).trans ?_
  · rw [evE, ix_ok' (G1 := G) (G2 := G) (a := .tup [.tup bs, .tup vs, .tup xs]) (c := .int 1) (r := .tup vs) (var_ok rfl) con_ok ix1]
    simp only [Out.then_ok]
    rw [var_ok (d := .tup (w.map uD)) rfl]
    simp only [Out.then_ok, dzip_ok hv (show (w.map uD).length = vs.length by rw [List.length_map]; exact hw0), lift_some]
  · refine ret_ok (bi1_ok (lc_pure (f := vf fun x => !hold (.dct vs (w.map uD)) x) (ds := enumFrom 0 xs) ?_ (by rw [enumLen]; show _ ≤ 16777216; omega) fun y hy => ?_) ?_)
    · rw [evI, ix_ok' (G1 := G) (G2 := G) (a := .tup [.tup bs, .tup vs, .tup xs]) (c := .int 2) (r := .tup xs) (var_ok rfl) con_ok ix2]
      rfl
    · obtain ⟨i, hi⟩ := List.getElem?_of_mem hy
      obtain ⟨z, hz, rfl⟩ := enumGet hi
      have hm : z ∈ xs := List.mem_of_getElem? hz
      obtain ⟨gs, _, _, h4⟩ := st_at hb hv (hs z hm) hw0 hw
      have e1 : evT (run T (n + 8)) G.length (.not (.val (.call "does_hold" (.cons (.var 4) (.cons (.var 2) .nil))))) [some (.tup [.tup bs, .tup vs, .tup xs]), some (.tup (w.map uD)), some (.dct vs (w.map uD)), some (.int ((0 + i : Nat) : Int)), some z] G = .ok (!hold (.dct vs (w.map uD)) z) G := not_ok (val_ok (call_ok (ds := [z, .dct vs (w.map uD)]) (G1 := G) (by simp [evEs, evE]) (h4 n G).2))
      unfold lcTurn
      show noexc ((evT (run T (n + 8)) G.length (.not (.val (.call "does_hold" (.cons (.var 4) (.cons (.var 2) .nil))))) [some (.tup [.tup bs, .tup vs, .tup xs]), some (.tup (w.map uD)), some (.dct vs (w.map uD)), some (.int ((0 + i : Nat) : Int)), some z] G).then _) = _
      rw [e1]
      simp only [Out.then_ok, vf]
      rcases Bool.eq_false_or_eq_true (hold (.dct vs (w.map uD)) z) with hq | hq
      · simp only [hq, Bool.not_true, Bool.false_eq_true, if_false]
        rfl
      · simp only [hq, Bool.not_false, if_true]
        rw [evE]
        rfl
    · rw [enum_pick]
      rfl
end
theorem lcGo_f {turn : D → Hd → Out (Option D)} {G : Hd} {p : List Fr → Bool} : ∀ {gs : List (List Fr)} {acc : List D}, (∀ w ∈ gs, turn (uD w) G = .ok (if p w then some (uD w) else none) G) → lcGo turn (gs.map uD) acc G = .ok (acc ++ (gs.filter p).map uD) G
  | [], acc, _ => by simp [lcGo]
  | w :: gs, acc, h => by
    have ih := fun acc => lcGo_f (turn := turn) (p := p) (gs := gs) (acc := acc) fun y hy => h y (List.mem_cons_of_mem _ hy)
    simp only [List.map_cons, lcGo, h w List.mem_cons_self, Out.then_ok]
    cases e : p w with
    | true => simp only [if_true, ih, List.filter_cons, e, List.map_cons, List.append_assoc, List.cons_append, List.nil_append]
    | false => simp [ih, List.filter_cons, e]
theorem eq_nil {G : Hd} {gs : List (List Fr)} : cmpD G .eq (.lst (gs.map uD)) (.lst []) = some gs.isEmpty := by
  have e1 : toPy (.lst (gs.map uD)) = some (.list (gs.map fun u => .tuple (u.map fP))) := by
    rw [toPy, pys_us]
    rfl
  have e2 : toPyG G (.lst (gs.map uD)) = some (.list (gs.map fun u => .tuple (u.map fP))) := e1
  have s1 : SeqAt.shaped (.list (gs.map fun u => .tuple (u.map fP))) = true := shaped_sh (Sh.lst (j := 2) fun x hx => by obtain ⟨u, _, rfl⟩ := List.mem_map.mp hx; exact sh_u) (by decide) e1
  show eqD G _ _ = _
  unfold eqD
  rw [e2]
  show (if SeqAt.shaped _ && SeqAt.shaped (.list []) then some (PyData.eqv _ (.list [])) else none) = _
  rw [s1]
  have s2 : SeqAt.shaped (.list []) = true := by kernel_rfl
  rw [s2]
  cases gs <;> simp [PyData.eqv, PyData.eqvAll]
theorem filt_nil {m : Nat} : ∀ {gs : List (List Fr)}, (gs.filter fun w => !decide (w = zr m)).isEmpty = gd m gs
  | [] => rfl
  | w :: gs => by
    have ih := filt_nil (m := m) (gs := gs)
    by_cases h : w = zr m
    · subst h
      rw [List.filter_cons, decide_eq_true rfl, Bool.not_true, if_neg (by decide), ih]
      show _ = (decide (zr m = zr m) && gd m gs)
      rw [decide_eq_true rfl, Bool.true_and]
    · simp only [List.filter_cons, decide_eq_false h, Bool.not_false, if_true]
      show false = (decide (w = zr m) && gd m gs)
      rw [decide_eq_false h]
      rfl

def gCode : ME := (.cmp .eq (.lc (.var 7) (.nam 7) (.val (.call "_law_gaps" (.cons (.var 5) (.cons (.var 2) .nil)))) (.val (.cmp .ne (.var 7) (.var 6))) [7]) (.lst .nil))
theorem g_code {Φ : Fn} {b m : Nat} {t0 t1 t3 t4 t7 : Option D} {dd z : D} {gs : List (List Fr)} (hl : gs.length ≤ 1000) (h : Φ "_law_gaps" [z, dd] G = .ok (.lst (gs.map uD)) G) : evE Φ b gCode [t0, t1, some dd, t3, t4, some z, some (uD (zr m)), t7] G = .ok (.bl (gd m gs)) G := by
  unfold gCode
  have q1 : evE Φ b (.lc (.var 7) (.nam 7) (.val (.call "_law_gaps" (.cons (.var 5) (.cons (.var 2) .nil)))) (.val (.cmp .ne (.var 7) (.var 6))) [7]) [t0, t1, some dd, t3, t4, some z, some (uD (zr m)), t7] G = .ok (.lst ((gs.filter fun w => !decide (w = zr m)).map uD)) G := by
    rw [evE]
    have hi : evI Φ b (.val (.call "_law_gaps" (.cons (.var 5) (.cons (.var 2) .nil)))) [t0, t1, some dd, t3, t4, some z, some (uD (zr m)), t7] G = .ok (.items (gs.map uD)) G := by
      rw [evI, call_ok (ds := [z, dd]) (G1 := G) (by simp [evEs, evE]) h]
      rfl
    rw [hi]
    simp only [Out.then_ok]
    rw [if_pos (by rw [List.length_map]; show _ ≤ 16777216; omega)]
    have q := lcGo_f (turn := lcTurn Φ b (.var 7) (.nam 7) (.val (.cmp .ne (.var 7) (.var 6))) [7] [t0, t1, some dd, t3, t4, some z, some (uD (zr m)), t7]) (G := G) (p := fun w => !decide (w = zr m)) (gs := gs) (acc := []) (by
      intro w hw
      have e1 : evT Φ b (.val (.cmp .ne (.var 7) (.var 6))) [t0, t1, some dd, t3, t4, some z, some (uD (zr m)), some (uD w)] G = .ok (!decide (w = zr m)) G := val_ok (cmp_ok' (G1 := G) (var_ok rfl) (var_ok rfl) cmp_neu)
      have e2 : evE Φ b (.var 7) [t0, t1, some dd, t3, t4, some z, some (uD (zr m)), some (uD w)] G = .ok (uD w) G := var_ok rfl
      show noexc ((evT Φ b (.val (.cmp .ne (.var 7) (.var 6))) [t0, t1, some dd, t3, t4, some z, some (uD (zr m)), some (uD w)] G).then fun k G => if k then (evE Φ b (.var 7) [t0, t1, some dd, t3, t4, some z, some (uD (zr m)), some (uD w)] G).then fun y G => .ok (some y) G else .ok none G) = _
      rw [e1]
      simp only [Out.then_ok, e2]
      cases decide (w = zr m)
      · rfl
      · rfl)
    show ((lcGo (lcTurn Φ b (.var 7) (.nam 7) (.val (.cmp .ne (.var 7) (.var 6))) [7] [t0, t1, some dd, t3, t4, some z, some (uD (zr m)), t7]) (gs.map uD) [] G).then fun ds G => Out.ok (D.lst ds) G) = _
    rw [q]
    rfl
  rw [← filt_nil]
  exact cmp_ok' (G1 := G) q1 (by rw [evE, evEs]; rfl) eq_nil
def hBody : MSs := (.cons (.set (.nam 6) (.bin .mul (.tup (.cons (.tup (.cons (.con (.int (0))) (.cons (.con (.int (1))) .nil))) .nil)) (.bi .len (.cons (.ix (.var 0) (.con (.int (0)))) .nil))))
  (.cons (.iff (.val gCode)
    (.cons (.exp (.append (.var 3) (.var 4)))
  .nil)
    .nil)
  .nil))
theorem enum_ok {Φ : Fn} {b : Nat} {e : ME} {τ : Tau} {G1 : Hd} (h : evE Φ b e τ G = .ok (.tup xs) G1) : evI Φ b (.enum e) τ G = .ok (.items (enumFrom 0 xs)) G1 := by
  rw [evI, h]
  rfl
section
variable {w : List (List Fr)} (hb : bs ∈ basesOf) (hv : vs ∈ varsOf) (hl : xs.length ≤ 8) (hs : ∀ x ∈ xs, StG bs vs x) (hw0 : w.length = vs.length) (hw : ∀ u ∈ w, u.length = bs.length ∧ Us 3 u)
include hb hv hl hs hw0 hw
theorem lholds_run : run T (n + 9) "_law_holds" [.tup [.tup bs, .tup vs, .tup xs], .tup (w.map uD)] G = .ok (.lst ((pick (hold (.dct vs (w.map uD))) 0 xs).map D.int)) G := by
  generalize hp : hold (.dct vs (w.map uD)) = p
  have eD : evE (run T (n + 8)) G.length (.dzip (.ix (.var 0) (.con (.int (1)))) (.var 1)) [some (.tup [.tup bs, .tup vs, .tup xs]), some (.tup (w.map uD)), none, none, none, none, none, none] G = .ok (.dct vs (w.map uD)) G := by
    rw [evE, ix_ok' (G1 := G) (G2 := G) (a := .tup [.tup bs, .tup vs, .tup xs]) (c := .int 1) (r := .tup vs) (var_ok rfl) con_ok ix1]
    simp only [Out.then_ok]
    rw [var_ok (d := .tup (w.map uD)) rfl]
    simp only [Out.then_ok, dzip_ok hv (show (w.map uD).length = vs.length by rw [List.length_map]; exact hw0), lift_some]
  have eA : evE (run T (n + 8)) G.length (.alloc (.lst .nil)) [some (.tup [.tup bs, .tup vs, .tup xs]), some (.tup (w.map uD)), none, none, none, none, none, none] G = .ok (.ref G.length) (G ++ [DO.lst []]) := by
    rw [evE, evE, evEs]
    rfl
  let M : D := .tup [.tup bs, .tup vs, .tup xs]
  obtain ⟨τ', G', e2, t4, t5, t6, t7, rfl, rfl⟩ := for_inv (Φ := run T (n + 8)) (b := G.length) (t := .tpc (.nam 4) (.tpc (.nam 5) .tp0)) (it := .enum (.ix (.var 0) (.con (.int (2))))) (s := hBody) (ds := enumFrom 0 xs) (τ := [some M, some (.tup (w.map uD)), some (.dct vs (w.map uD)), some (.ref G.length), none, none, none, none]) (G := G ++ [DO.lst []]) (G1 := G ++ [DO.lst []])
    (I := fun i τ G' => ∃ t4 t5 t6 t7, τ = [some M, some (.tup (w.map uD)), some (.dct vs (w.map uD)), some (.ref G.length), t4, t5, t6, t7] ∧ G' = G ++ [DO.lst ((pick p 0 (xs.take i)).map D.int)])
    (enum_ok (ix_ok' (G1 := G ++ [DO.lst []]) (var_ok rfl) con_ok ix2)) ⟨none, none, none, none, rfl, rfl⟩ (by
      rintro i x τ G' hx ⟨t4, t5, t6, t7, rfl, rfl⟩
      obtain ⟨z, hz, rfl⟩ := enumGet hx
      have hm : z ∈ xs := List.mem_of_getElem? hz
      obtain ⟨gs, h3, h5, h4⟩ := st_at hb hv (hs z hm) hw0 hw
      have hi : i < xs.length := (List.getElem?_eq_some_iff.mp hz).1
      have tk : xs.take (i + 1) = xs.take i ++ [z] := by rw [List.take_succ, hz]; rfl
      have tl : (xs.take i).length = i := by rw [List.length_take]; omega
      have pl := pick_len (p := p) (k := 0) (xs := xs.take i)
      rw [hp] at h5
      refine ⟨[some M, some (.tup (w.map uD)), some (.dct vs (w.map uD)), some (.ref G.length), some (.int ((0 + i : Nat) : Int)), some z, some (uD (zr bs.length)), t7], G ++ [DO.lst ((pick p 0 (xs.take (i + 1))).map D.int)], ?_, _, _, _, _, rfl, rfl⟩
      show evSs _ _ hBody [some M, some (.tup (w.map uD)), some (.dct vs (w.map uD)), some (.ref G.length), some (.int ((0 + i : Nat) : Int)), some z, t6, t7] _ = _
      unfold hBody
      refine (set_ok (d := uD (zr bs.length)) (G1 := G ++ [DO.lst ((pick p 0 (xs.take i)).map D.int)]) (bin_ok (a := .tup [.tup [.int 0, .int 1]]) (c := .int bs.length) (G1 := G ++ [DO.lst ((pick p 0 (xs.take i)).map D.int)]) (by simp [evE, evEs]) ?_ (zero_ok hb))).trans ?_
      · refine bi1_ok (x := .tup bs) (ix_ok' (G1 := G ++ [DO.lst ((pick p 0 (xs.take i)).map D.int)]) (var_ok rfl) con_ok ix0) rfl
      have gc := g_code (Φ := run T (n + 8)) (b := G.length) (m := bs.length) (G := G ++ [DO.lst ((pick p 0 (xs.take i)).map D.int)]) (t0 := some M) (t1 := some (.tup (w.map uD))) (t3 := some (.ref G.length)) (t4 := some (.int ((0 + i : Nat) : Int))) (t7 := t7) (dd := .dct vs (w.map uD)) (z := z) (gs := gs) (by omega) (h4 n _).1
      rw [tk, pick_snoc, tl]
      rw [← h5] at gc
      rcases Bool.eq_false_or_eq_true (p z) with hq | hq
      · rw [hq] at gc
        rw [hq, if_pos rfl]
        refine (seq_nx (τ1 := [some M, some (.tup (w.map uD)), some (.dct vs (w.map uD)), some (.ref G.length), some (.int ((0 + i : Nat) : Int)), some z, some (uD (zr bs.length)), t7]) (G1 := G ++ [DO.lst ((pick p 0 (xs.take i) ++ [((0 + i : Nat) : Int)]).map D.int)]) ((if_yes (val_ok gc)).trans ?_)).trans (by rw [evSs])
        have ap := append_at (G := G) (b := G.length) (Φ := run T (n + 8)) (τ := [some M, some (.tup (w.map uD)), some (.dct vs (w.map uD)), some (.ref G.length), some (.int ((0 + i : Nat) : Int)), some z, some (uD (zr bs.length)), t7]) (o := .var 3) (e := .var 4) (x := .int ((0 + i : Nat) : Int)) (L := (pick p 0 (xs.take i)).map D.int) (var_ok rfl) (var_ok rfl) (by unfold storeOk; rw [decide_eq_true (Nat.le_refl _)]; rfl) (by rw [List.length_map]; show _ < 16777216; omega)
        rw [List.map_append]
        exact (seq_nx (by rw [evS, ap]; rfl)).trans (by rw [evSs]; rfl)
      · rw [hq] at gc
        rw [hq, if_neg (by decide), List.append_nil]
        exact (skip (val_ok gc)).trans (by rw [evSs]))
  rw [enumLen, List.take_length] at e2
  rw [run_succ L_lholds]
  have hg : (G ++ [DO.lst ((pick p 0 xs).map D.int)])[G.length]? = some (.lst ((pick p 0 xs).map D.int)) := get_last
  have fz : frz 4 G.length (G ++ [DO.lst ((pick p 0 xs).map D.int)]) (.ref G.length) = some (.lst ((pick p 0 xs).map D.int)) := by
    unfold frz
    simp only [Nat.lt_irrefl, if_false, hg]
    rw [mapM_id fun y hy => by
      obtain ⟨x, _, rfl⟩ := List.mem_map.mp hy
      rfl]
    rfl
  refine (callF_rt (d := .ref G.length) (d' := .lst ((pick p 0 xs).map D.int)) (G' := G ++ [DO.lst ((pick p 0 xs).map D.int)]) rfl rfl ?_ fz).trans (by rw [List.take_left'] ; rfl)
  show evSs _ _ b__law_holds [some M, some (.tup (w.map uD)), none, none, none, none, none, none] _ = _
  unfold b__law_holds
  refine (par_ok (ds := [.dct vs (w.map uD), .ref G.length]) (G1 := G ++ [DO.lst []]) ?_ rfl).trans ?_
  · rw [evEs, eD]
    simp only [Out.then_ok]
    rw [evEs, eA]
    simp only [Out.then_ok, evEs]
  · exact (seq_nx e2).trans (ret_ok (var_ok rfl))
end
end K04

set_option Elab.async false
set_option linter.all false
set_option maxRecDepth 100000
set_option maxHeartbeats 400000
/-! K04J: holds, violated; errors by name. -/
namespace K04
open PySem L2 U
variable {n : Nat} {d x a : D} {bs vs xs : List D} {G : Hd}
theorem seq_exc {Φ : Fn} {b : Nat} {e : ME} {ss : MSs} {τ : Tau} {G1 : Hd} {c : Str} (h : evE Φ b e τ G = .exc c G1) : evSs Φ b (.cons (.exp e) ss) τ G = .exc c G1 := by
  rw [evSs, evS, h]
  rfl
theorem seq_exp {Φ : Fn} {b : Nat} {e : ME} {ss : MSs} {τ : Tau} {G1 : Hd} {r : D} (h : evE Φ b e τ G = .ok r G1) : evSs Φ b (.cons (.exp e) ss) τ G = evSs Φ b ss τ G1 := seq_nx (by rw [evS, h]; rfl)
theorem call_exc {Φ : Fn} {b : Nat} {τ : Tau} {G1 G2 : Hd} {f c : Str} {es : MEs} {ds : List D} (h : evEs Φ b es τ G = .ok ds G1) (h2 : Φ f ds G1 = .exc c G2) : evE Φ b (.call f es) τ G = .exc c G2 := by rw [evE, h]; exact h2
theorem catch_ok {Φ : Fn} {b : Nat} {τ : Tau} {G1 : Hd} {e : ME} {ns : List Str} {c : Str} {r : D} (h : evE Φ b e τ G = .exc c G1) (hc : ns.contains c = true) (hr : Φ resX [.exc c] G1 = .ok r G1) : evE Φ b (.catch e ns) τ G = .ok r G1 := by
  rw [evE, h]
  simp only [hc, if_true, hr, noexc_ok]
/-! ### checks -/
theorem cha_ok (h : run T n "is_assignment" [.tup bs, .tup vs, a] G = .ok (.bl true) G) : run T (n + 1) "check_assignment" [.tup (.tup bs :: .tup vs :: xs), a] G = .ok .non G := by
  rw [run_succ L_check_assignment]
  refine (callF_nx (G' := G) (τ := [some (.tup (.tup bs :: .tup vs :: xs)), some a]) rfl ?_).trans (by rw [List.take_length])
  show evSs _ _ b_check_assignment [some (.tup (.tup bs :: .tup vs :: xs)), some a] G = _
  unfold b_check_assignment
  exact (skip (G1 := G) (not_ok (val_ok (call_ok (ds := [.tup bs, .tup vs, a]) (G1 := G) (by simp [evEs, evE, ix0, ix1]) h)))).trans (by rw [evSs])
theorem cha_bad (h : run T n "is_assignment" [.tup bs, .tup vs, a] G = .ok (.bl false) G) : run T (n + 1) "check_assignment" [.tup (.tup bs :: .tup vs :: xs), a] G = .exc "InvalidAssignment" G := by
  rw [run_succ L_check_assignment]
  refine (callF_exc (G' := G) rfl ?_).trans (by rw [List.take_length])
  show evSs _ _ b_check_assignment [some (.tup (.tup bs :: .tup vs :: xs)), some a] G = _
  unfold b_check_assignment
  exact exc_raise (not_ok (val_ok (call_ok (ds := [.tup bs, .tup vs, a]) (G1 := G) (by simp [evEs, evE, ix0, ix1]) h)))
theorem holds_model (h : run T n "check_model" [d] G = .exc "InvalidModel" G) : run T (n + 1) "holds" [d, a] G = .exc "InvalidModel" G := by
  rw [run_succ L_holds]
  refine (callF_exc (G' := G) rfl ?_).trans (by rw [List.take_length])
  show evSs _ _ b_holds [some d, some a] G = _
  unfold b_holds
  exact seq_exc (call_exc (ds := [d]) (G1 := G) (by simp [evEs, evE]) h)
theorem holds_asg (h : run T n "check_model" [d] G = .ok .non G) (h2 : run T n "check_assignment" [d, a] G = .exc "InvalidAssignment" G) : run T (n + 1) "holds" [d, a] G = .exc "InvalidAssignment" G := by
  rw [run_succ L_holds]
  refine (callF_exc (G' := G) rfl ?_).trans (by rw [List.take_length])
  show evSs _ _ b_holds [some d, some a] G = _
  unfold b_holds
  refine (seq_exp (call_ok (ds := [d]) (G1 := G) (by simp [evEs, evE]) h)).trans ?_
  exact seq_exc (call_exc (ds := [d, a]) (G1 := G) (by simp [evEs, evE]) h2)
theorem violated_model (h : run T n "check_model" [d] G = .exc "InvalidModel" G) : run T (n + 1) "violated" [d, a] G = .exc "InvalidModel" G := by
  rw [run_succ L_violated]
  refine (callF_exc (G' := G) rfl ?_).trans (by rw [List.take_length])
  show evSs _ _ b_violated [some d, some a] G = _
  unfold b_violated
  exact seq_exc (call_exc (ds := [d]) (G1 := G) (by simp [evEs, evE]) h)
theorem violated_asg (h : run T n "check_model" [d] G = .ok .non G) (h2 : run T n "check_assignment" [d, a] G = .exc "InvalidAssignment" G) : run T (n + 1) "violated" [d, a] G = .exc "InvalidAssignment" G := by
  rw [run_succ L_violated]
  refine (callF_exc (G' := G) rfl ?_).trans (by rw [List.take_length])
  show evSs _ _ b_violated [some d, some a] G = _
  unfold b_violated
  refine (seq_exp (call_ok (ds := [d]) (G1 := G) (by simp [evEs, evE]) h)).trans ?_
  exact seq_exc (call_exc (ds := [d, a]) (G1 := G) (by simp [evEs, evE]) h2)
theorem constraints_bad (h : run T n "check_model" [d] G = .exc "InvalidModel" G) : run T (n + 1) "constraints" [d] G = .exc "InvalidModel" G := by
  rw [run_succ L_constraints]
  refine (callF_exc (G' := G) rfl ?_).trans (by rw [List.take_length])
  show evSs _ _ b_constraints [some d] G = _
  unfold b_constraints
  exact seq_exc (call_exc (ds := [d]) (G1 := G) (by simp [evEs, evE]) h)
theorem eq_none {L : List Int} : cmpD G .eq (.tup (L.map D.int)) (.tup []) = some L.isEmpty := by
  obtain ⟨y, h1, h2, h3⟩ := sh_ints (L := L)
  have s1 := shaped_sh sh_ints (by decide) h1
  have e2 : toPyG G (.tup (L.map D.int)) = some y := h1
  show eqD G _ _ = _
  unfold eqD
  rw [e2]
  show (if SeqAt.shaped y && SeqAt.shaped (.tuple []) then some (PyData.eqv y (.tuple [])) else none) = _
  rw [s1]
  have s2 : SeqAt.shaped (.tuple []) = true := by kernel_rfl
  rw [s2]
  cases L with
  | nil => cases h1; rfl
  | cons i L =>
    have : toPy (.tup ((i :: L).map D.int)) = (toPys (D.int i :: L.map D.int)).map PyData.tuple := by rw [toPy]; rfl
    rw [this] at h1
    unfold toPys at h1
    cases e : toPys (L.map D.int) with
    | none => simp only [e] at h1; cases h1
    | some ys =>
      simp only [e, toPy] at h1
      cases h1
      rfl
section
variable {w : List (List Fr)} (hb : bs ∈ basesOf) (hv : vs ∈ varsOf) (hl : xs.length ≤ 8) (hs : ∀ x ∈ xs, StG bs vs x) (hw0 : w.length = vs.length) (hw : ∀ u ∈ w, u.length = bs.length ∧ Us 3 u) (ha : ∀ n G, run T (n + 6) "is_assignment" [.tup bs, .tup vs, .tup (w.map uD)] G = .ok (.bl true) G)
include hb hv hl hs hw0 hw ha
theorem violated_run : run T (n + 14) "violated" [.tup [.tup bs, .tup vs, .tup xs], .tup (w.map uD)] G = .ok (.tup ((pick (fun x => !hold (.dct vs (w.map uD)) x) 0 xs).map D.int)) G := by
  rw [run_succ L_violated]
  refine callF_rtG rfl rfl ?_ frz_ints
  show evSs _ _ b_violated [some (.tup [.tup bs, .tup vs, .tup xs]), some (.tup (w.map uD))] _ = _
  unfold b_violated
  refine (seq_exp (call_ok (ds := [.tup [.tup bs, .tup vs, .tup xs]]) (G1 := G) (by simp [evEs, evE]) (check_ok (model_good hb hv hl hs)))).trans ?_
  refine (seq_exp (call_ok (ds := [.tup [.tup bs, .tup vs, .tup xs], .tup (w.map uD)]) (G1 := G) (by simp [evEs, evE]) (cha_ok (n := n + 12) (ha (n + 6) G)))).trans (ret_ok ?_)
  exact call_ok (ds := [.tup [.tup bs, .tup vs, .tup xs], .tup (w.map uD)]) (G1 := G) (by simp [evEs, evE]) (violations_run (n := n + 4) hb hv hl hs hw0 hw)
theorem holds_run : run T (n + 14) "holds" [.tup [.tup bs, .tup vs, .tup xs], .tup (w.map uD)] G = .ok (.bl (pick (fun x => !hold (.dct vs (w.map uD)) x) 0 xs).isEmpty) G := by
  rw [run_succ L_holds]
  refine callF_rtG rfl rfl ?_ frz_bl
  show evSs _ _ b_holds [some (.tup [.tup bs, .tup vs, .tup xs]), some (.tup (w.map uD))] _ = _
  unfold b_holds
  refine (seq_exp (call_ok (ds := [.tup [.tup bs, .tup vs, .tup xs]]) (G1 := G) (by simp [evEs, evE]) (check_ok (model_good hb hv hl hs)))).trans ?_
  refine (seq_exp (call_ok (ds := [.tup [.tup bs, .tup vs, .tup xs], .tup (w.map uD)]) (G1 := G) (by simp [evEs, evE]) (cha_ok (n := n + 12) (ha (n + 6) G)))).trans (ret_ok ?_)
  exact cmp_ok' (G1 := G) (call_ok (ds := [.tup [.tup bs, .tup vs, .tup xs], .tup (w.map uD)]) (G1 := G) (by simp [evEs, evE]) (violations_run (n := n + 4) hb hv hl hs hw0 hw)) (by rw [evE, evEs]; rfl) eq_none
end
/-! ### the rest of the indices -/
theorem nin_ok {i : Int} {L : List Int} : cmpD G .nin (.int i) (.lst (L.map D.int)) = some (!(L.any fun z => z == i)) := by
  have h1 : (flatD (.int i) && (L.map D.int).all flatD) = true := by
    rw [List.all_map]
    show (true && L.all fun _ => true) = true
    rw [List.all_eq_true.mpr fun _ _ => rfl]
    rfl
  show ((seqD G (.lst (L.map D.int))).bind (inSeq (.int i))).map (!·) = _
  show (inSeq (.int i) (L.map D.int)).map (!·) = _
  unfold inSeq
  rw [h1, if_pos rfl, List.any_map]
  rfl
theorem pick_any {p : D → Bool} {z : Int} : ∀ {k : Nat} {xs : List D}, ((pick p k xs).any fun y => y == z) = true ↔ ∃ (t : Nat) (x : D), xs[t]? = some x ∧ p x = true ∧ z = ((k + t : Nat) : Int)
  | k, [] => by simp [pick]
  | k, x :: xs => by
    have ih := pick_any (p := p) (z := z) (k := k + 1) (xs := xs)
    have r : (∃ (t : Nat) (y : D), (x :: xs)[t]? = some y ∧ p y = true ∧ z = ((k + t : Nat) : Int)) ↔ (p x = true ∧ z = (k : Int)) ∨ ∃ (t : Nat) (y : D), xs[t]? = some y ∧ p y = true ∧ z = ((k + 1 + t : Nat) : Int) := by
      constructor
      · rintro ⟨t, y, h1, h2, h3⟩
        cases t with
        | zero => cases h1; exact .inl ⟨h2, by simpa using h3⟩
        | succ t => exact .inr ⟨t, y, h1, h2, by omega⟩
      · rintro (⟨h1, h2⟩ | ⟨t, y, h1, h2, h3⟩)
        · exact ⟨0, x, rfl, h1, by simpa using h2⟩
        · exact ⟨t + 1, y, h1, h2, by omega⟩
    have pe : pick p k (x :: xs) = if p x then (k : Int) :: pick p (k + 1) xs else pick p (k + 1) xs := by rw [pick]
    rw [r, ← ih, pe]
    cases e : p x with
    | true =>
      rw [if_pos rfl, List.any_cons, Bool.or_eq_true, beq_iff_eq]
      constructor
      · rintro (h | h)
        · exact .inl ⟨rfl, h.symm⟩
        · exact .inr h
      · rintro (⟨_, h⟩ | h)
        · exact .inl h.symm
        · exact .inr h
    | false =>
      rw [if_neg (by decide)]
      constructor
      · exact .inr
      · rintro (⟨h, _⟩ | h)
        · cases h
        · exact h
def rf (L : List Int) : D → Option D
  | .int i => if L.any (fun z => z == i) then none else some (.int i)
  | _ => none
theorem rest_pick {p : D → Bool} {L : List Int} : ∀ {xs : List D} {k : Nat}, (∀ (t : Nat) (x : D), xs[t]? = some x → L.any (fun z => z == ((k + t : Nat) : Int)) = p x) → ((List.range xs.length).map fun (t : Nat) => D.int ((k + t : Nat) : Int)).filterMap (rf L) = (pick (fun x => !p x) k xs).map D.int
  | [], _, _ => rfl
  | x :: xs, k, h => by
    have ih := rest_pick (p := p) (L := L) (xs := xs) (k := k + 1) fun t y hy => by rw [show k + 1 + t = k + (t + 1) by omega]; exact h (t + 1) y hy
    have h0 := h 0 x rfl
    rw [List.length_cons, List.range_succ_eq_map, List.map_cons, List.map_map, List.filterMap_cons]
    have e : ((List.range xs.length).map ((fun (t : Nat) => D.int ((k + t : Nat) : Int)) ∘ Nat.succ)) = (List.range xs.length).map fun (t : Nat) => D.int ((k + 1 + t : Nat) : Int) := by
      apply List.map_congr_left
      intro t _
      show D.int ((k + (t + 1) : Nat) : Int) = _
      rw [show k + (t + 1) = k + 1 + t by omega]
    rw [e, ih]
    have pe : pick (fun x => !p x) k (x :: xs) = if (!p x) = true then (k : Int) :: pick (fun x => !p x) (k + 1) xs else pick (fun x => !p x) (k + 1) xs := by rw [pick]
    have re : rf L (.int ((k + 0 : Nat) : Int)) = if p x then none else some (.int ((k + 0 : Nat) : Int)) := by
      show (if (L.any fun z => z == ((k + 0 : Nat) : Int)) = true then none else some (D.int ((k + 0 : Nat) : Int))) = _
      rw [h0]
    rw [pe, re]
    cases p x <;> simp
theorem bad_ok {Φ : Fn} {b : Nat} {τ : Tau} {p : D → Bool} (hl : xs.length ≤ 8) (hτ : τ.length = 16) (h6 : τ[6]? = some (some (.tup xs))) (h11 : τ[11]? = some (some (.lst ((pick p 0 xs).map D.int)))) :
    evE Φ b (.bi .tuple (.cons (.lc (.var 13) (.nam 13) (.rng1 (.bi .len (.cons (.var 6) .nil))) (.val (.cmp .nin (.var 13) (.var 11))) [13]) .nil)) τ G = .ok (.tup ((pick (fun x => !p x) 0 xs).map D.int)) G := by
  have hr : rangeD 0 (xs.length : Int) = some ((List.range xs.length).map fun (t : Nat) => D.int ((0 + t : Nat) : Int)) := by
    unfold rangeD
    have p62 : (2 : Int) ^ 62 = 4611686018427387904 := by decide
    rw [p62, if_pos (by omega)]
    have e1 : ((xs.length : Int) - 0).toNat = xs.length := by omega
    have e2 : (fun (k : Nat) => D.int (0 + (k : Int))) = fun (t : Nat) => D.int ((0 + t : Nat) : Int) := by
      funext t
      have e3 : (0 + (t : Int)) = ((0 + t : Nat) : Int) := by omega
      rw [e3]
    rw [e1, e2]
  refine bi1_ok (x := .lst ((pick (fun x => !p x) 0 xs).map D.int)) ?_ rfl
  rw [← rest_pick (L := pick p 0 xs) (xs := xs) (k := 0)]
  · refine lc_pure (rng_ok (bi1_ok (var_ok h6) rfl) hr) (by rw [List.length_map, List.length_range]; show _ ≤ 16777216; omega) fun y hy => ?_
    obtain ⟨t, _, rfl⟩ := List.mem_map.mp hy
    have hw : (wipeD τ [13]).length = 16 := by
      show (τ.set 13 none).length = 16
      rw [List.length_set]
      exact hτ
    have v13 : ((wipeD τ [13]).set 13 (some (.int ((0 + t : Nat) : Int))))[13]? = some (some (.int ((0 + t : Nat) : Int))) := by
      rw [List.getElem?_set_self]
      omega
    have v11 : ((wipeD τ [13]).set 13 (some (.int ((0 + t : Nat) : Int))))[11]? = some (some (.lst ((pick p 0 xs).map D.int))) := by
      rw [List.getElem?_set_ne (by omega)]
      show (τ.set 13 none)[11]? = _
      rw [List.getElem?_set_ne (by omega), h11]
    have e1 : evT Φ b (.val (.cmp .nin (.var 13) (.var 11))) ((wipeD τ [13]).set 13 (some (.int ((0 + t : Nat) : Int)))) G = .ok (!((pick p 0 xs).any fun z => z == ((0 + t : Nat) : Int))) G := val_ok (cmp_ok' (G1 := G) (var_ok v13) (var_ok v11) nin_ok)
    have e2 : evE Φ b (.var 13) ((wipeD τ [13]).set 13 (some (.int ((0 + t : Nat) : Int)))) G = .ok (.int ((0 + t : Nat) : Int)) G := var_ok v13
    unfold lcTurn
    simp only [bindT, e1, Out.then_ok, e2, rf]
    generalize (pick p 0 xs).any (fun z => z == ((0 + t : Nat) : Int)) = k
    cases k <;> rfl
  · intro t x hx
    rcases Bool.eq_false_or_eq_true (p x) with hq | hq
    · rw [hq]
      exact pick_any.mpr ⟨t, x, hx, hq, rfl⟩
    · rw [hq, Bool.eq_false_iff]
      intro h
      obtain ⟨t', x', h1, h2, h3⟩ := pick_any.mp h
      have : t = t' := by omega
      subst this
      rw [hx] at h1
      cases h1
      rw [hq] at h2
      cases h2
/-! ### errors by name -/
theorem L_resX : T.lookup resX = some ⟨1, resR.N.length - 1, false, resR.body, 1⟩ := by kernel_rfl
theorem upd_last {Φ : Fn} {b : Nat} {e : ME} {τ : Tau} {ks vs ks2 vs2 ks3 vs3 : List D} (h4 : τ[4]? = some (some (.ref G.length))) (he : evE Φ b e τ (G ++ [DO.dct ks vs]) = .ok (.dct ks2 vs2) (G ++ [DO.dct ks vs])) (hm : mergeD ks2 vs2 (ks, vs) = (ks3, vs3)) (hs : (vs2.all fun v => storeOk b G.length v) = true) (hl : ks.length + ks2.length < line) :
    evE Φ b (.update (.var 4) e) τ (G ++ [DO.dct ks vs]) = .ok .non (G ++ [DO.dct ks3 vs3]) := by
  have g : (G ++ [DO.dct ks vs])[G.length]? = some (.dct ks vs) := get_last
  have pd : plainDict (G ++ [DO.dct ks vs]) (.ref G.length) = true := by
    unfold plainDict
    simp only [g]
  rw [evE, var_ok h4]
  simp only [Out.then_ok, pd, if_true, he]
  unfold updD
  simp only [g, hs, decide_eq_true hl, Bool.and_self, if_true, hm, set_last]
theorem keys_lc {Φ : Fn} {b : Nat} {τ : Tau} {K V : List D} (hτ : τ.length = 7) (h4 : τ[4]? = some (some (.ref G.length))) (hl : K.length ≤ 1000) (hK : ∀ x ∈ K, keyD x = true ∧ ∃ k, U.dictGet K V x = some (.bl k)) :
    evE Φ b (.lc (.var 6) (.nam 6) (.keys 4) (.val (.ix (.var 4) (.var 6))) [6]) τ (G ++ [DO.dct K V]) = .ok (.lst (K.filterMap fun x => match U.dictGet K V x with | some (.bl true) => some x | _ => none)) (G ++ [DO.dct K V]) := by
  have g : (G ++ [DO.dct K V])[G.length]? = some (.dct K V) := get_last
  have hi : evI Φ b (.keys 4) τ (G ++ [DO.dct K V]) = .ok (.lock G.length K V) (G ++ [DO.dct K V]) := by
    rw [evI, h4]
    simp only [g]
  rw [evE, hi]
  simp only [Out.then_ok]
  rw [if_pos (show K.length ≤ 16777216 by omega), set_last]
  have g2 : (G ++ [DO.lkd K V])[G.length]? = some (.lkd K V) := get_last
  have q := lcGo_pure (turn := lcTurn Φ b (.var 6) (.nam 6) (.val (.ix (.var 4) (.var 6))) [6] τ) (G := G ++ [DO.lkd K V]) (f := fun x => match U.dictGet K V x with | some (.bl true) => some x | _ => none) (xs := K) (acc := []) (by
    intro x hx
    obtain ⟨k1, k, k2⟩ := hK x hx
    have hw : (wipeD τ [6]).length = 7 := by
      show (τ.set 6 none).length = 7
      rw [List.length_set]
      exact hτ
    have v6 : ((wipeD τ [6]).set 6 (some x))[6]? = some (some x) := by
      rw [List.getElem?_set_self]
      omega
    have v4 : ((wipeD τ [6]).set 6 (some x))[4]? = some (some (.ref G.length)) := by
      rw [List.getElem?_set_ne (by omega)]
      show (τ.set 6 none)[4]? = _
      rw [List.getElem?_set_ne (by omega), h4]
    have ix : ixD (G ++ [DO.lkd K V]) (.ref G.length) x = some (.bl k) := by
      have dk : dictOf (G ++ [DO.lkd K V]) (.ref G.length) = some (K, V) := by
        unfold dictOf
        simp only [g2]
      unfold ixD
      simp only [dk, k1, if_true, k2]
    have e1 : evT Φ b (.val (.ix (.var 4) (.var 6))) ((wipeD τ [6]).set 6 (some x)) (G ++ [DO.lkd K V]) = .ok k (G ++ [DO.lkd K V]) := val_ok (ix_ok' (G1 := G ++ [DO.lkd K V]) (var_ok v4) (var_ok v6) ix)
    have e2 : evE Φ b (.var 6) ((wipeD τ [6]).set 6 (some x)) (G ++ [DO.lkd K V]) = .ok x (G ++ [DO.lkd K V]) := var_ok v6
    unfold lcTurn
    simp only [bindT, e1, Out.then_ok, e2, k2]
    cases k <;> rfl)
  show ((lcGo (lcTurn Φ b (.var 6) (.nam 6) (.val (.ix (.var 4) (.var 6))) [6] τ) K [] (G ++ [DO.lkd K V])).then fun ds G_1 => Out.ok ds (G_1.set G.length (DO.dct K V))).then _ = _
  rw [q]
  simp only [Out.then_ok, set_last, List.nil_append]
theorem res_m : run T (n + 1) resX [.exc "InvalidModel"] G = .ok (.tup [.str "model"]) G := by
  rw [run_succ L_resX]
  refine (callF_rt (d := .tup [.str "model"]) (d' := .tup [.str "model"]) (G' := G ++ [DO.dct [.str "expression", .str "index", .str "assignment", .str "model", .str "inconsistent", .str "unlike", .str "statement", .str "units", .str "bound", .str "results", .str "too many", .str "same", .str "undo", .str "text"] [.bl false, .bl false, .bl false, .bl true, .bl false, .bl false, .bl false, .bl false, .bl false, .bl false, .bl false, .bl false, .bl false, .bl false]]) rfl rfl ?_ rfl).trans (by rw [List.take_left'] ; rfl)
  show evSs _ _ b_res [none, some (.exc "InvalidModel"), none, none, none, none, none] G = _
  unfold b_res
  refine (skip (G1 := G) (by kernel_rfl)).trans ?_
  refine (set_ok (d := .ref G.length) (G1 := G ++ [DO.dct [.str "expression", .str "index"] [.bl false, .bl false]]) ?_).trans ?_
  · have q : ∀ e : ME, evE (run T n) G.length e [none, some (.exc "InvalidModel"), none, none, none, none, none] G = .ok (.dct [.str "expression", .str "index"] [.bl false, .bl false]) G → evE (run T n) G.length (.alloc e) [none, some (.exc "InvalidModel"), none, none, none, none, none] G = .ok (.ref G.length) (G ++ [DO.dct [.str "expression", .str "index"] [.bl false, .bl false]]) := fun e h => by
      rw [evE, h]
      rfl
    exact q _ (by kernel_rfl)
  refine (seq_exp (upd_last (ks2 := [.str "assignment", .str "model"]) (vs2 := [.bl false, .bl true]) (ks3 := [.str "expression", .str "index", .str "assignment", .str "model"]) (vs3 := [.bl false, .bl false, .bl false, .bl true]) rfl (by kernel_rfl) (by kernel_rfl) ?_ (by show _ < 16777216; decide))).trans ?_
  · simp [storeOk, U.closed]
  refine (seq_exp (upd_last (ks2 := [.str "inconsistent", .str "unlike"]) (vs2 := [.bl false, .bl false]) (ks3 := [.str "expression", .str "index", .str "assignment", .str "model", .str "inconsistent", .str "unlike"]) (vs3 := [.bl false, .bl false, .bl false, .bl true, .bl false, .bl false]) rfl (by kernel_rfl) (by kernel_rfl) ?_ (by show _ < 16777216; decide))).trans ?_
  · simp [storeOk, U.closed]
  refine (seq_exp (upd_last (ks2 := [.str "statement", .str "units"]) (vs2 := [.bl false, .bl false]) (ks3 := [.str "expression", .str "index", .str "assignment", .str "model", .str "inconsistent", .str "unlike", .str "statement", .str "units"]) (vs3 := [.bl false, .bl false, .bl false, .bl true, .bl false, .bl false, .bl false, .bl false]) rfl (by kernel_rfl) (by kernel_rfl) ?_ (by show _ < 16777216; decide))).trans ?_
  · simp [storeOk, U.closed]
  refine (seq_exp (upd_last (ks2 := [.str "bound", .str "results"]) (vs2 := [.bl false, .bl false]) (ks3 := [.str "expression", .str "index", .str "assignment", .str "model", .str "inconsistent", .str "unlike", .str "statement", .str "units", .str "bound", .str "results"]) (vs3 := [.bl false, .bl false, .bl false, .bl true, .bl false, .bl false, .bl false, .bl false, .bl false, .bl false]) rfl (by kernel_rfl) (by kernel_rfl) ?_ (by show _ < 16777216; decide))).trans ?_
  · simp [storeOk, U.closed]
  refine (seq_exp (upd_last (ks2 := [.str "too many", .str "same"]) (vs2 := [.bl false, .bl false]) (ks3 := [.str "expression", .str "index", .str "assignment", .str "model", .str "inconsistent", .str "unlike", .str "statement", .str "units", .str "bound", .str "results", .str "too many", .str "same"]) (vs3 := [.bl false, .bl false, .bl false, .bl true, .bl false, .bl false, .bl false, .bl false, .bl false, .bl false, .bl false, .bl false]) rfl (by kernel_rfl) (by kernel_rfl) ?_ (by show _ < 16777216; decide))).trans ?_
  · simp [storeOk, U.closed]
  refine (seq_exp (upd_last (ks2 := [.str "undo", .str "text"]) (vs2 := [.bl false, .bl false]) (ks3 := [.str "expression", .str "index", .str "assignment", .str "model", .str "inconsistent", .str "unlike", .str "statement", .str "units", .str "bound", .str "results", .str "too many", .str "same", .str "undo", .str "text"]) (vs3 := [.bl false, .bl false, .bl false, .bl true, .bl false, .bl false, .bl false, .bl false, .bl false, .bl false, .bl false, .bl false, .bl false, .bl false]) rfl (by kernel_rfl) (by kernel_rfl) ?_ (by show _ < 16777216; decide))).trans ?_
  · simp [storeOk, U.closed]
  refine (set_ok (d := .lst [.str "model"]) (G1 := G ++ [DO.dct [.str "expression", .str "index", .str "assignment", .str "model", .str "inconsistent", .str "unlike", .str "statement", .str "units", .str "bound", .str "results", .str "too many", .str "same", .str "undo", .str "text"] [.bl false, .bl false, .bl false, .bl true, .bl false, .bl false, .bl false, .bl false, .bl false, .bl false, .bl false, .bl false, .bl false, .bl false]]) ((keys_lc rfl rfl (by decide) ?_).trans (by kernel_rfl))).trans ?_
  · intro x hx
    simp only [List.mem_cons, List.not_mem_nil, or_false] at hx
    rcases hx with rfl | rfl | rfl | rfl | rfl | rfl | rfl | rfl | rfl | rfl | rfl | rfl | rfl | rfl
    · exact ⟨rfl, false, by kernel_rfl⟩
    · exact ⟨rfl, false, by kernel_rfl⟩
    · exact ⟨rfl, false, by kernel_rfl⟩
    · exact ⟨rfl, true, by kernel_rfl⟩
    · exact ⟨rfl, false, by kernel_rfl⟩
    · exact ⟨rfl, false, by kernel_rfl⟩
    · exact ⟨rfl, false, by kernel_rfl⟩
    · exact ⟨rfl, false, by kernel_rfl⟩
    · exact ⟨rfl, false, by kernel_rfl⟩
    · exact ⟨rfl, false, by kernel_rfl⟩
    · exact ⟨rfl, false, by kernel_rfl⟩
    · exact ⟨rfl, false, by kernel_rfl⟩
    · exact ⟨rfl, false, by kernel_rfl⟩
    · exact ⟨rfl, false, by kernel_rfl⟩
  · exact ret_ok (by kernel_rfl)
theorem res_a : run T (n + 1) resX [.exc "InvalidAssignment"] G = .ok (.tup [.str "assignment"]) G := by
  rw [run_succ L_resX]
  refine (callF_rt (d := .tup [.str "assignment"]) (d' := .tup [.str "assignment"]) (G' := G ++ [DO.dct [.str "expression", .str "index", .str "assignment", .str "model", .str "inconsistent", .str "unlike", .str "statement", .str "units", .str "bound", .str "results", .str "too many", .str "same", .str "undo", .str "text"] [.bl false, .bl false, .bl true, .bl false, .bl false, .bl false, .bl false, .bl false, .bl false, .bl false, .bl false, .bl false, .bl false, .bl false]]) rfl rfl ?_ rfl).trans (by rw [List.take_left'] ; rfl)
  show evSs _ _ b_res [none, some (.exc "InvalidAssignment"), none, none, none, none, none] G = _
  unfold b_res
  refine (skip (G1 := G) (by kernel_rfl)).trans ?_
  refine (set_ok (d := .ref G.length) (G1 := G ++ [DO.dct [.str "expression", .str "index"] [.bl false, .bl false]]) ?_).trans ?_
  · have q : ∀ e : ME, evE (run T n) G.length e [none, some (.exc "InvalidAssignment"), none, none, none, none, none] G = .ok (.dct [.str "expression", .str "index"] [.bl false, .bl false]) G → evE (run T n) G.length (.alloc e) [none, some (.exc "InvalidAssignment"), none, none, none, none, none] G = .ok (.ref G.length) (G ++ [DO.dct [.str "expression", .str "index"] [.bl false, .bl false]]) := fun e h => by
      rw [evE, h]
      rfl
    exact q _ (by kernel_rfl)
  refine (seq_exp (upd_last (ks2 := [.str "assignment", .str "model"]) (vs2 := [.bl true, .bl false]) (ks3 := [.str "expression", .str "index", .str "assignment", .str "model"]) (vs3 := [.bl false, .bl false, .bl true, .bl false]) rfl (by kernel_rfl) (by kernel_rfl) ?_ (by show _ < 16777216; decide))).trans ?_
  · simp [storeOk, U.closed]
  refine (seq_exp (upd_last (ks2 := [.str "inconsistent", .str "unlike"]) (vs2 := [.bl false, .bl false]) (ks3 := [.str "expression", .str "index", .str "assignment", .str "model", .str "inconsistent", .str "unlike"]) (vs3 := [.bl false, .bl false, .bl true, .bl false, .bl false, .bl false]) rfl (by kernel_rfl) (by kernel_rfl) ?_ (by show _ < 16777216; decide))).trans ?_
  · simp [storeOk, U.closed]
  refine (seq_exp (upd_last (ks2 := [.str "statement", .str "units"]) (vs2 := [.bl false, .bl false]) (ks3 := [.str "expression", .str "index", .str "assignment", .str "model", .str "inconsistent", .str "unlike", .str "statement", .str "units"]) (vs3 := [.bl false, .bl false, .bl true, .bl false, .bl false, .bl false, .bl false, .bl false]) rfl (by kernel_rfl) (by kernel_rfl) ?_ (by show _ < 16777216; decide))).trans ?_
  · simp [storeOk, U.closed]
  refine (seq_exp (upd_last (ks2 := [.str "bound", .str "results"]) (vs2 := [.bl false, .bl false]) (ks3 := [.str "expression", .str "index", .str "assignment", .str "model", .str "inconsistent", .str "unlike", .str "statement", .str "units", .str "bound", .str "results"]) (vs3 := [.bl false, .bl false, .bl true, .bl false, .bl false, .bl false, .bl false, .bl false, .bl false, .bl false]) rfl (by kernel_rfl) (by kernel_rfl) ?_ (by show _ < 16777216; decide))).trans ?_
  · simp [storeOk, U.closed]
  refine (seq_exp (upd_last (ks2 := [.str "too many", .str "same"]) (vs2 := [.bl false, .bl false]) (ks3 := [.str "expression", .str "index", .str "assignment", .str "model", .str "inconsistent", .str "unlike", .str "statement", .str "units", .str "bound", .str "results", .str "too many", .str "same"]) (vs3 := [.bl false, .bl false, .bl true, .bl false, .bl false, .bl false, .bl false, .bl false, .bl false, .bl false, .bl false, .bl false]) rfl (by kernel_rfl) (by kernel_rfl) ?_ (by show _ < 16777216; decide))).trans ?_
  · simp [storeOk, U.closed]
  refine (seq_exp (upd_last (ks2 := [.str "undo", .str "text"]) (vs2 := [.bl false, .bl false]) (ks3 := [.str "expression", .str "index", .str "assignment", .str "model", .str "inconsistent", .str "unlike", .str "statement", .str "units", .str "bound", .str "results", .str "too many", .str "same", .str "undo", .str "text"]) (vs3 := [.bl false, .bl false, .bl true, .bl false, .bl false, .bl false, .bl false, .bl false, .bl false, .bl false, .bl false, .bl false, .bl false, .bl false]) rfl (by kernel_rfl) (by kernel_rfl) ?_ (by show _ < 16777216; decide))).trans ?_
  · simp [storeOk, U.closed]
  refine (set_ok (d := .lst [.str "assignment"]) (G1 := G ++ [DO.dct [.str "expression", .str "index", .str "assignment", .str "model", .str "inconsistent", .str "unlike", .str "statement", .str "units", .str "bound", .str "results", .str "too many", .str "same", .str "undo", .str "text"] [.bl false, .bl false, .bl true, .bl false, .bl false, .bl false, .bl false, .bl false, .bl false, .bl false, .bl false, .bl false, .bl false, .bl false]]) ((keys_lc rfl rfl (by decide) ?_).trans (by kernel_rfl))).trans ?_
  · intro x hx
    simp only [List.mem_cons, List.not_mem_nil, or_false] at hx
    rcases hx with rfl | rfl | rfl | rfl | rfl | rfl | rfl | rfl | rfl | rfl | rfl | rfl | rfl | rfl
    · exact ⟨rfl, false, by kernel_rfl⟩
    · exact ⟨rfl, false, by kernel_rfl⟩
    · exact ⟨rfl, true, by kernel_rfl⟩
    · exact ⟨rfl, false, by kernel_rfl⟩
    · exact ⟨rfl, false, by kernel_rfl⟩
    · exact ⟨rfl, false, by kernel_rfl⟩
    · exact ⟨rfl, false, by kernel_rfl⟩
    · exact ⟨rfl, false, by kernel_rfl⟩
    · exact ⟨rfl, false, by kernel_rfl⟩
    · exact ⟨rfl, false, by kernel_rfl⟩
    · exact ⟨rfl, false, by kernel_rfl⟩
    · exact ⟨rfl, false, by kernel_rfl⟩
    · exact ⟨rfl, false, by kernel_rfl⟩
    · exact ⟨rfl, false, by kernel_rfl⟩
  · exact ret_ok (by kernel_rfl)
end K04

set_option Elab.async false
set_option linter.all false
set_option maxRecDepth 100000
set_option maxHeartbeats 1000000
/-! K04L: the law. -/
namespace K04
open PySem L2 U
variable {n : Nat} {d : D} {bs vs : List D} {sc : D} {Φ : Fn}
theorem L_law : T.lookup ("law" : Str) = some r_law.fd := by kernel_rfl
theorem L_law_is : T.lookup ("_law_is" : Str) = some r__law_is.fd := by kernel_rfl
theorem lcGo_units {G : Hd} {turn : D → Hd → Out (Option D)} {m : Nat} (h : ∀ x o0 o1, Town o0 o1 → ∃ p0 p1 y, Town p0 p1 ∧ Ug m y ∧ turn x (o0 :: o1 :: G) = .ok (some y) (p0 :: p1 :: G)) : ∀ (ds acc : List D) (o0 o1 : DO), Town o0 o1 → ∃ (p0 p1 : DO) (ys : List D), Town p0 p1 ∧ ys.length = ds.length ∧ (∀ y ∈ ys, Ug m y) ∧ lcGo turn ds acc (o0 :: o1 :: G) = .ok (acc ++ ys) (p0 :: p1 :: G)
  | [], acc, o0, o1, ht => by
    refine ⟨o0, o1, [], ht, rfl, ?_, by simp [lcGo]⟩
    intro y hy
    cases hy
  | x :: ds, acc, o0, o1, ht => by
    obtain ⟨q0, q1, y, ht1, hy, e⟩ := h x o0 o1 ht
    obtain ⟨p0, p1, ys, ht2, hl, hg, e2⟩ := lcGo_units h ds (acc ++ [y]) q0 q1 ht1
    refine ⟨p0, p1, y :: ys, ht2, by simp [hl], fun z hz => ?_, ?_⟩
    · rcases List.mem_cons.mp hz with rfl | hz
      · exact hy
      · exact hg z hz
    · simp only [lcGo, e, Out.then_ok, e2, List.append_assoc, List.cons_append, List.nil_append]
theorem is_self {G : Hd} {k : Bool} : run T (n + 1) "_law_is" [.bl k, .bl k] G = .ok (.bl true) G := by
  rw [run_succ L_law_is]
  refine callF_rtG rfl rfl ?_ frz_bl
  show evSs _ _ b__law_is [some (.bl k), some (.bl k)] G = _
  unfold b__law_is
  refine ret_ok ?_
  rw [and_ok (k := true) (G1 := G) (by simp [evE, evEs, isi_bool (d := .bl k) rfl, isB]), if_pos rfl]
  refine cmp_ok' (G1 := G) (var_ok rfl) (var_ok rfl) ?_
  rw [cmp_eqB, beq_self_eq_true]
theorem ne_ref {H : Hd} {r : Nat} {ds ds' : List D} {k : Bool} (h : H[r]? = some (.lst ds)) (h2 : cmpD [] .ne (.lst ds) (.lst ds') = some k) : cmpD H .ne (.ref r) (.lst ds') = some k := by
  have e1 : toPyG H (.ref r) = toPyG [] (.lst ds) := by
    have e : toPyG H (.ref r) = (toPys ds).map .list := by
      unfold toPyG
      simp only [h]
    rw [e]
    show _ = toPy (.lst ds)
    rw [toPy]
  have e2 : toPyG H (.lst ds') = toPyG [] (.lst ds') := rfl
  have h2 : (eqD [] (.lst ds) (.lst ds')).map (!·) = some k := h2
  show (eqD H (.ref r) (.lst ds')).map (!·) = some k
  unfold eqD at h2 ⊢
  rw [e1, e2]
  exact h2
theorem setT3_ok {b : Nat} {τ : Tau} {G G1 : Hd} {ss : MSs} {e : ME} {i j k : Nat} {x y z : D} (h : evE Φ b e τ G = .ok (.tup [x, y, z]) G1) : evSs Φ b (.cons (.set (.tpc (.nam i) (.tpc (.nam j) (.tpc (.nam k) .tp0))) e) ss) τ G = evSs Φ b ss (((τ.set i (some x)).set j (some y)).set k (some z)) G1 := seq_nx (by rw [evS, h]; rfl)
/-! ### errors -/
def oA : MSs := (.cons (.set (.nam 15) (.alloc (.lst (.cons (.catch (.call "holds" (.cons (.var 3) (.cons (.var 14) .nil))) (glos cons)) .nil))))
  (.cons (.exp (.append (.var 15) (.catch (.call "violated" (.cons (.var 3) (.cons (.var 14) .nil))) (glos cons))))
  (.cons (.iff (.val (.cmp .ne (.var 15) (.bin .mul (.lst (.cons (.tup (.cons (.con (.str "assignment")) .nil)) .nil)) (.con (.int (2))))))
    (.cons (.ret (.con (.bl false)))
  .nil)
    .nil)
  .nil)))
def oM : MSs := (.cons (.set (.nam 15) (.alloc (.lst (.cons (.catch (.call "constraints" (.cons (.var 14) .nil)) (glos cons)) .nil))))
  (.cons (.exp (.append (.var 15) (.catch (.call "holds" (.cons (.var 14) (.cons (.con .non) .nil))) (glos cons))))
  (.cons (.exp (.append (.var 15) (.catch (.call "violated" (.cons (.var 14) (.cons (.con .non) .nil))) (glos cons))))
  (.cons (.iff (.val (.cmp .ne (.var 15) (.bin .mul (.lst (.cons (.tup (.cons (.con (.str "model")) .nil)) .nil)) (.con (.int (3))))))
    (.cons (.ret (.con (.bl false)))
  .nil)
    .nil)
  .nil))))
theorem has_m : (glos cons).contains ("InvalidModel" : Str) = true := by kernel_rfl
theorem has_a : (glos cons).contains ("InvalidAssignment" : Str) = true := by kernel_rfl
theorem n_asg : cmpD [] .ne (.lst [.tup [.str "assignment"], .tup [.str "assignment"]]) (.lst [.tup [.str "assignment"], .tup [.str "assignment"]]) = some false := by kernel_rfl
theorem n_mod : cmpD [] .ne (.lst [.tup [.str "model"], .tup [.str "model"], .tup [.str "model"]]) (.lst [.tup [.str "model"], .tup [.str "model"], .tup [.str "model"]]) = some false := by kernel_rfl
abbrev tl (t0 t1 t2 t3 t4 t5 t6 t7 t8 t9 t10 t11 t12 t13 t14 t15 : Option D) : Tau := [t0, t1, t2, t3, t4, t5, t6, t7, t8, t9, t10, t11, t12, t13, t14, t15]
section
variable {t0 t1 t2 t3 t4 t5 t6 t7 t8 t9 t10 t11 t12 t13 t14 t15 : Option D} {M a : D} {H : Hd}
theorem alloc1_ok {b : Nat} {e : ME} {τ : Tau} {G : Hd} {x : D} (h : evE Φ b e τ G = .ok x G) : evE Φ b (.alloc (.lst (.cons e .nil))) τ G = .ok (.ref G.length) (G ++ [DO.lst [x]]) := by
  rw [evE, lst1_ok h]
  rfl
theorem st0 {i : Nat} {x : D} : storeOk 0 i x = true := by
  unfold storeOk
  rw [decide_eq_true (Nat.zero_le _)]
  rfl
theorem turnA (h1 : ∀ G, Φ "holds" [M, a] G = .exc "InvalidAssignment" G) (h2 : ∀ G, Φ "violated" [M, a] G = .exc "InvalidAssignment" G) (hr : ∀ G, Φ resX [.exc "InvalidAssignment"] G = .ok (.tup [.str "assignment"]) G) :
    forTurn Φ 0 (.nam 14) oA a (tl t0 t1 t2 (some M) t4 t5 t6 t7 t8 t9 t10 t11 t12 t13 t14 t15) H = .ok (.nx (tl t0 t1 t2 (some M) t4 t5 t6 t7 t8 t9 t10 t11 t12 t13 (some a) (some (.ref H.length)))) (H ++ [DO.lst [.tup [.str "assignment"], .tup [.str "assignment"]]]) := by
  show evSs _ _ oA (tl t0 t1 t2 (some M) t4 t5 t6 t7 t8 t9 t10 t11 t12 t13 (some a) t15) _ = _
  unfold oA
  refine (set_ok (alloc1_ok (catch_ok (call_exc (ds := [M, a]) (G1 := H) (by simp [evEs, evE]) (h1 H)) has_a (hr H)))).trans ?_
  have ap := append_at (G := H) (b := 0) (Φ := Φ) (τ := tl t0 t1 t2 (some M) t4 t5 t6 t7 t8 t9 t10 t11 t12 t13 (some a) (some (.ref H.length))) (o := .var 15) (e := .catch (.call "violated" (.cons (.var 3) (.cons (.var 14) .nil))) (glos cons)) (x := .tup [.str "assignment"]) (L := [.tup [.str "assignment"]]) (var_ok rfl) (catch_ok (call_exc (ds := [M, a]) (G1 := H ++ [DO.lst [.tup [.str "assignment"]]]) (by simp [evEs, evE]) (h2 _)) has_a (hr _)) st0 (by decide)
  refine (seq_exp ap).trans ?_
  refine (skip (G1 := H ++ [DO.lst [.tup [.str "assignment"], .tup [.str "assignment"]]]) (val_ok (cmp_ok' (a := .ref H.length) (c := .lst [.tup [.str "assignment"], .tup [.str "assignment"]]) (G1 := H ++ [DO.lst [.tup [.str "assignment"], .tup [.str "assignment"]]]) (var_ok rfl) (by kernel_rfl) (ne_ref get_last n_asg)))).trans (by first | (rw [evSs]; done) | (rw [evSs]; rfl))
theorem loopA (hr : ∀ G, Φ resX [.exc "InvalidAssignment"] G = .ok (.tup [.str "assignment"]) G) : ∀ (ds : List D), (∀ a ∈ ds, (∀ G, Φ "holds" [M, a] G = .exc "InvalidAssignment" G) ∧ ∀ G, Φ "violated" [M, a] G = .exc "InvalidAssignment" G) → ∀ t14 t15 H, ∃ E u14 u15, forGo (forTurn Φ 0 (.nam 14) oA) ds (tl t0 t1 t2 (some M) t4 t5 t6 t7 t8 t9 t10 t11 t12 t13 t14 t15) H = .ok (.nx (tl t0 t1 t2 (some M) t4 t5 t6 t7 t8 t9 t10 t11 t12 t13 u14 u15)) (H ++ E)
  | [], _, t14, t15, H => ⟨[], t14, t15, by rw [List.append_nil]; rfl⟩
  | a :: ds, h, t14, t15, H => by
    obtain ⟨E, u14, u15, e⟩ := loopA hr ds (fun y hy => h y (List.mem_cons_of_mem _ hy)) (some a) (some (.ref H.length)) (H ++ [DO.lst [.tup [.str "assignment"], .tup [.str "assignment"]]])
    refine ⟨[DO.lst [.tup [.str "assignment"], .tup [.str "assignment"]]] ++ E, u14, u15, ?_⟩
    rw [forGo, turnA (h a List.mem_cons_self).1 (h a List.mem_cons_self).2 hr]
    simp only [Out.then_ok]
    rw [e, List.append_assoc]
theorem turnM (h0 : ∀ G, Φ "constraints" [a] G = .exc "InvalidModel" G) (h1 : ∀ G, Φ "holds" [a, .non] G = .exc "InvalidModel" G) (h2 : ∀ G, Φ "violated" [a, .non] G = .exc "InvalidModel" G) (hr : ∀ G, Φ resX [.exc "InvalidModel"] G = .ok (.tup [.str "model"]) G) :
    forTurn Φ 0 (.nam 14) oM a (tl t0 t1 t2 t3 t4 t5 t6 t7 t8 t9 t10 t11 t12 t13 t14 t15) H = .ok (.nx (tl t0 t1 t2 t3 t4 t5 t6 t7 t8 t9 t10 t11 t12 t13 (some a) (some (.ref H.length)))) (H ++ [DO.lst [.tup [.str "model"], .tup [.str "model"], .tup [.str "model"]]]) := by
  show evSs _ _ oM (tl t0 t1 t2 t3 t4 t5 t6 t7 t8 t9 t10 t11 t12 t13 (some a) t15) _ = _
  unfold oM
  refine (set_ok (alloc1_ok (catch_ok (call_exc (ds := [a]) (G1 := H) (by simp [evEs, evE]) (h0 H)) has_m (hr H)))).trans ?_
  have ap := append_at (G := H) (b := 0) (Φ := Φ) (τ := tl t0 t1 t2 t3 t4 t5 t6 t7 t8 t9 t10 t11 t12 t13 (some a) (some (.ref H.length))) (o := .var 15) (e := .catch (.call "holds" (.cons (.var 14) (.cons (.con .non) .nil))) (glos cons)) (x := .tup [.str "model"]) (L := [.tup [.str "model"]]) (var_ok rfl) (catch_ok (call_exc (ds := [a, .non]) (G1 := H ++ [DO.lst [.tup [.str "model"]]]) (by simp [evEs, evE]) (h1 _)) has_m (hr _)) st0 (by decide)
  refine (seq_exp ap).trans ?_
  have ap2 := append_at (G := H) (b := 0) (Φ := Φ) (τ := tl t0 t1 t2 t3 t4 t5 t6 t7 t8 t9 t10 t11 t12 t13 (some a) (some (.ref H.length))) (o := .var 15) (e := .catch (.call "violated" (.cons (.var 14) (.cons (.con .non) .nil))) (glos cons)) (x := .tup [.str "model"]) (L := [.tup [.str "model"], .tup [.str "model"]]) (var_ok rfl) (catch_ok (call_exc (ds := [a, .non]) (G1 := H ++ [DO.lst [.tup [.str "model"], .tup [.str "model"]]]) (by simp [evEs, evE]) (h2 _)) has_m (hr _)) st0 (by decide)
  refine (seq_exp ap2).trans ?_
  refine (skip (G1 := H ++ [DO.lst [.tup [.str "model"], .tup [.str "model"], .tup [.str "model"]]]) (val_ok (cmp_ok' (a := .ref H.length) (c := .lst [.tup [.str "model"], .tup [.str "model"], .tup [.str "model"]]) (G1 := H ++ [DO.lst [.tup [.str "model"], .tup [.str "model"], .tup [.str "model"]]]) (var_ok rfl) (by kernel_rfl) (ne_ref get_last n_mod)))).trans (by first | (rw [evSs]; done) | (rw [evSs]; rfl))
theorem loopM (hr : ∀ G, Φ resX [.exc "InvalidModel"] G = .ok (.tup [.str "model"]) G) : ∀ (ds : List D), (∀ a ∈ ds, (∀ G, Φ "constraints" [a] G = .exc "InvalidModel" G) ∧ (∀ G, Φ "holds" [a, .non] G = .exc "InvalidModel" G) ∧ ∀ G, Φ "violated" [a, .non] G = .exc "InvalidModel" G) → ∀ t14 t15 H, ∃ E u14 u15, forGo (forTurn Φ 0 (.nam 14) oM) ds (tl t0 t1 t2 t3 t4 t5 t6 t7 t8 t9 t10 t11 t12 t13 t14 t15) H = .ok (.nx (tl t0 t1 t2 t3 t4 t5 t6 t7 t8 t9 t10 t11 t12 t13 u14 u15)) (H ++ E)
  | [], _, t14, t15, H => ⟨[], t14, t15, by rw [List.append_nil]; rfl⟩
  | a :: ds, h, t14, t15, H => by
    obtain ⟨E, u14, u15, e⟩ := loopM hr ds (fun y hy => h y (List.mem_cons_of_mem _ hy)) (some a) (some (.ref H.length)) (H ++ [DO.lst [.tup [.str "model"], .tup [.str "model"], .tup [.str "model"]]])
    refine ⟨[DO.lst [.tup [.str "model"], .tup [.str "model"], .tup [.str "model"]]] ++ E, u14, u15, ?_⟩
    rw [forGo, turnM (h a List.mem_cons_self).1 (h a List.mem_cons_self).2.1 (h a List.mem_cons_self).2.2 hr]
    simp only [Out.then_ok]
    rw [e, List.append_assoc]
end
structure Tn (Φ : Fn) (sc : D) : Prop where
  model : ∀ o0 o1, Town o0 o1 → ∀ G, ∃ (p0 p1 : DO) (bs vs xs : List D), Town p0 p1 ∧ bs ∈ basesOf ∧ vs ∈ varsOf ∧ xs.length ≤ 4 ∧ (∀ x ∈ xs, StG bs vs x) ∧ Φ "_law_model" [sc, .ref 1, .int 4] (o0 :: o1 :: G) = .ok (.tup [.tup bs, .tup vs, .tup xs]) (p0 :: p1 :: G)
  unit : ∀ {bs vs}, Drawn bs vs → UnitOk Φ sc bs
  forms : ∀ {bs vs d G}, bs ∈ basesOf → vs ∈ varsOf → StG bs vs d → Φ "_law_forms" [.tup bs, .tup vs, d] G = .ok (.lst ((cf bs vs d).map fp)) G
  cons : ∀ {bs vs xs G}, bs ∈ basesOf → vs ∈ varsOf → xs.length ≤ 4 → (∀ x ∈ xs, StG bs vs x) → Φ "constraints" [.tup [.tup bs, .tup vs, .tup xs]] G = .ok (.tup (xs.map (cT bs vs))) G
  holds : ∀ {bs vs xs as}, bs ∈ basesOf → vs ∈ varsOf → xs.length ≤ 4 → (∀ x ∈ xs, StG bs vs x) → as.length = vs.length → (∀ x ∈ as, Ug bs.length x) → ∃ p : D → Bool, ∀ G, Φ "_law_holds" [.tup [.tup bs, .tup vs, .tup xs], .tup as] G = .ok (.lst ((pick p 0 xs).map D.int)) G ∧ Φ "violated" [.tup [.tup bs, .tup vs, .tup xs], .tup as] G = .ok (.tup ((pick (fun x => !p x) 0 xs).map D.int)) G ∧ Φ "holds" [.tup [.tup bs, .tup vs, .tup xs], .tup as] G = .ok (.bl (pick (fun x => !p x) 0 xs).isEmpty) G
  same : ∀ {k G}, Φ "_law_is" [.bl k, .bl k] G = .ok (.bl true) G
  bada : ∀ {bs vs xs as}, bs ∈ basesOf → vs ∈ varsOf → xs.length ≤ 4 → (∀ x ∈ xs, StG bs vs x) → as.length = vs.length → ∀ a ∈ [D.non, .tup [], .tup (as.drop 1), .tup (as ++ as.take 1)], (∀ G, Φ "holds" [.tup [.tup bs, .tup vs, .tup xs], a] G = .exc "InvalidAssignment" G) ∧ ∀ G, Φ "violated" [.tup [.tup bs, .tup vs, .tup xs], a] G = .exc "InvalidAssignment" G
  badm : ∀ {bs vs xs}, bs ∈ basesOf → vs ∈ varsOf → ∀ a ∈ [D.non, .tup [.tup bs, .tup vs], .tup [.tup bs, .tup vs, .non], .tup [.tup bs, .tup vs.reverse, .tup xs, .tup []]], (∀ G, Φ "constraints" [a] G = .exc "InvalidModel" G) ∧ (∀ G, Φ "holds" [a, .non] G = .exc "InvalidModel" G) ∧ ∀ G, Φ "violated" [a, .non] G = .exc "InvalidModel" G
  resm : ∀ G, Φ resX [.exc "InvalidModel"] G = .ok (.tup [.str "model"]) G
  resa : ∀ G, Φ resX [.exc "InvalidAssignment"] G = .ok (.tup [.str "assignment"]) G
theorem tn_ok {ns : List Int} (hns : ns.length ≤ 63) : Tn (run T 39) (.lst (ns.map D.int)) where
  model := fun o0 o1 ht G => model_run (fun n => draw_ok hns n) ht 33 G
  unit := fun {bs vs} H o0 o1 ht G => unit_run (n := 38) (draw_ok hns 37) ht H.len G
  forms := fun hb hv h => forms_run (n := 30) hb hv (cf_ok hb hv h)
  cons := fun hb hv hl hs => constraints_run (n := 25) hb hv (by omega) hs
  holds := by
    intro bs vs xs as hb hv hl hs ha hg
    have H := drawn_ok hb hv
    obtain ⟨w, rfl, hw⟩ := asg_w H.len hg
    rw [List.length_map] at ha
    have ag : ∀ n G, run T (n + 6) "is_assignment" [.tup bs, .tup vs, .tup (w.map uD)] G = .ok (.bl true) G := fun n G => asg_good H (by rw [List.length_map]; exact ha) hg
    refine ⟨hold (.dct vs (w.map uD)), fun G => ⟨lholds_run (n := 30) hb hv (by omega) hs ha hw, violated_run (n := 25) hb hv (by omega) hs ha hw ag, holds_run (n := 25) hb hv (by omega) hs ha hw ag⟩⟩
  same := is_self (n := 38)
  bada := by
    intro bs vs xs as hb hv hl hs ha a hm
    have H := drawn_ok hb hv
    have h0 := H.v0
    have h1 := H.v1
    have bad : ∀ G, run T 36 "is_assignment" [.tup bs, .tup vs, a] G = .ok (.bl false) G := fun G => by
      simp only [List.mem_cons, List.not_mem_nil, or_false] at hm
      rcases hm with rfl | rfl | rfl | rfl
      · exact asg_no (n := 35) rfl rfl
      · exact asg_len (n := 35) (Nat.zero_le _) (by show 0 ≠ _; omega)
      · exact asg_len (n := 35) (by rw [List.length_drop]; omega) (by rw [List.length_drop]; omega)
      · exact asg_len (n := 35) (by rw [List.length_append, List.length_take]; omega) (by rw [List.length_append, List.length_take]; omega)
    have ck : ∀ G, run T 38 "check_model" [.tup [.tup bs, .tup vs, .tup xs]] G = .ok .non G := fun G => check_ok (n := 37) (model_good (n := 25) hb hv (by omega) hs)
    have ca : ∀ G, run T 38 "check_assignment" [.tup [.tup bs, .tup vs, .tup xs], a] G = .exc "InvalidAssignment" G := fun G => cha_bad (n := 37) (by
      simp only [List.mem_cons, List.not_mem_nil, or_false] at hm
      rcases hm with rfl | rfl | rfl | rfl
      · exact asg_no (n := 36) rfl rfl
      · exact asg_len (n := 36) (Nat.zero_le _) (by show 0 ≠ _; omega)
      · exact asg_len (n := 36) (by rw [List.length_drop]; omega) (by rw [List.length_drop]; omega)
      · exact asg_len (n := 36) (by rw [List.length_append, List.length_take]; omega) (by rw [List.length_append, List.length_take]; omega))
    exact ⟨fun G => holds_asg (n := 38) (ck G) (ca G), fun G => violated_asg (n := 38) (ck G) (ca G)⟩
  badm := by
    intro bs vs xs hb hv a hm
    have ck : ∀ G, run T 38 "check_model" [a] G = .exc "InvalidModel" G := fun G => check_bad (n := 37) (by
      simp only [List.mem_cons, List.not_mem_nil, or_false] at hm
      rcases hm with rfl | rfl | rfl | rfl
      · exact model_no (n := 36) rfl rfl
      · exact model_len (n := 36) (by simp)
      · exact model_out (n := 33) hb hv rfl rfl
      · exact model_len (n := 36) (by simp))
    exact ⟨fun G => constraints_bad (n := 38) (ck G), fun G => holds_model (n := 38) (ck G), fun G => violated_model (n := 38) (ck G)⟩
  resm := fun G => res_m (n := 38)
  resa := fun G => res_a (n := 38)
def bodyOf : MSs → MSs
  | .cons _ (.cons (.forr _ _ s) _) => s
  | _ => .nil
theorem tups4 {b : Nat} {τ : Tau} {G : Hd} {e1 e2 e3 e4 : ME} {x1 x2 x3 x4 : D} (h1 : evE Φ b e1 τ G = .ok x1 G) (h2 : evE Φ b e2 τ G = .ok x2 G) (h3 : evE Φ b e3 τ G = .ok x3 G) (h4 : evE Φ b e4 τ G = .ok x4 G) : evI Φ b (.val (.tup (.cons e1 (.cons e2 (.cons e3 (.cons e4 .nil)))))) τ G = .ok (.items [x1, x2, x3, x4]) G := by
  rw [evI, evE]
  simp only [evEs, h1, h2, h3, h4, Out.then_ok]
  rfl
theorem turn (F : Tn Φ sc) {o0 o1 : DO} (ht : Town o0 o1) {G : Hd} {x : D} {t2 t3 t4 t5 t6 t7 t8 t9 t10 t11 t12 t13 t14 t15 : Option D} :
    ∃ (p0 p1 : DO) (G' : Hd) (r : Tau), Town p0 p1 ∧ r.length = 14 ∧ forTurn Φ 0 (.nam 2) (bodyOf b_law) x (tl (some sc) (some (.ref 1)) t2 t3 t4 t5 t6 t7 t8 t9 t10 t11 t12 t13 t14 t15) (o0 :: o1 :: G) = .ok (.nx (some sc :: some (.ref 1) :: r)) (p0 :: p1 :: G') := by
  obtain ⟨p0, p1, bs, vs, xs, ht1, hb, hv, hl, hs, e1⟩ := F.model o0 o1 ht G
  have DR := drawn_ok hb hv
  have hU := F.unit DR
  let M : D := .tup [.tup bs, .tup vs, .tup xs]
  let τ1 : Tau := tl (some sc) (some (.ref 1)) (some x) (some M) (some (.tup bs)) (some (.tup vs)) (some (.tup xs)) (some (.tup (xs.map (cT bs vs)))) t8 t9 t10 t11 t12 t13 t14 t15
  obtain ⟨q0, q1, as, ht2, ha, hg, e2⟩ := lcGo_units (G := G) (m := bs.length) (turn := lcTurn Φ 0 (.call "_law_unit" (.cons (.var 0) (.cons (.var 1) (.cons (.var 4) .nil)))) (.nam 10) .yes [10] τ1) (by
    intro y a0 a1 hta
    obtain ⟨b0, b1, us, h1, h2, h3, h4⟩ := hU a0 a1 hta G
    refine ⟨b0, b1, .tup us, h1, ⟨us, rfl, h2, h3⟩, ?_⟩
    have q : evE Φ 0 (.call "_law_unit" (.cons (.var 0) (.cons (.var 1) (.cons (.var 4) .nil)))) ((wipeD τ1 [10]).set 10 (some y)) (a0 :: a1 :: G) = .ok (.tup us) (b0 :: b1 :: G) := call_ok (ds := [sc, .ref 1, .tup bs]) (G1 := a0 :: a1 :: G) (by simp [evEs, evE, wipeD, τ1, tl]) h4
    unfold lcTurn
    simp only [bindT, evT, Out.then_ok, if_true, q, noexc_ok]) vs [] p0 p1 ht1
  rw [List.nil_append] at e2
  obtain ⟨p, hp⟩ := F.holds hb hv hl hs ha hg
  obtain ⟨hp1, hp2, hp3⟩ := hp (q0 :: q1 :: G)
  have h0 := DR.v0
  have h1 := DR.v1
  let B : D := .tup ((pick (fun x => !p x) 0 xs).map D.int)
  obtain ⟨E1, a14, a15, l1⟩ := loopA (Φ := Φ) (M := M) (t0 := some sc) (t1 := some (.ref 1)) (t2 := some x) (t4 := some (.tup bs)) (t5 := some (.tup vs)) (t6 := some (.tup xs)) (t7 := some (.tup (xs.map (cT bs vs)))) (t8 := t8) (t9 := some (.tup as)) (t10 := t10) (t11 := some (.lst ((pick p 0 xs).map D.int))) (t12 := some B) (t13 := t13) F.resa [D.non, .tup [], .tup (as.drop 1), .tup (as ++ as.take 1)] (F.bada hb hv hl hs ha) t14 t15 (q0 :: q1 :: G)
  obtain ⟨E2, b14, b15, l2⟩ := loopM (Φ := Φ) (t0 := some sc) (t1 := some (.ref 1)) (t2 := some x) (t3 := some M) (t4 := some (.tup bs)) (t5 := some (.tup vs)) (t6 := some (.tup xs)) (t7 := some (.tup (xs.map (cT bs vs)))) (t8 := t8) (t9 := some (.tup as)) (t10 := t10) (t11 := some (.lst ((pick p 0 xs).map D.int))) (t12 := some B) (t13 := t13) F.resm [D.non, .tup [.tup bs, .tup vs], .tup [.tup bs, .tup vs, .non], .tup [.tup bs, .tup vs.reverse, .tup xs, .tup []]] (F.badm hb hv) a14 a15 (q0 :: q1 :: G ++ E1)
  refine ⟨q0, q1, G ++ E1 ++ E2, [some x, some M, some (.tup bs), some (.tup vs), some (.tup xs), some (.tup (xs.map (cT bs vs))), t8, some (.tup as), t10, some (.lst ((pick p 0 xs).map D.int)), some B, t13, b14, b15], ht2, rfl, ?_⟩
  show evSs _ _ (bodyOf b_law) (tl (some sc) (some (.ref 1)) (some x) t3 t4 t5 t6 t7 t8 t9 t10 t11 t12 t13 t14 t15) _ = _
  unfold b_law
  simp only [bodyOf]
  refine (set_ok (call_ok (ds := [sc, .ref 1, .int 4]) (G1 := o0 :: o1 :: G) (by simp [evEs, evE]) e1)).trans ?_
  refine (setT3_ok (x := .tup bs) (y := .tup vs) (z := .tup xs) (G1 := p0 :: p1 :: G) (var_ok rfl)).trans ?_
  refine (set_ok (d := .tup (xs.map (cT bs vs))) (G1 := p0 :: p1 :: G) (bi1_ok (lc_map (g := cT bs vs) (ds := xs) ?_ (show _ ≤ 16777216 by omega) fun y hy => ?_) tuple_lst)).trans ?_
  · rw [evI, var_ok (d := .tup xs) rfl]
    rfl
  · exact bi1_ok (call_ok (ds := [.tup bs, .tup vs, y]) (G1 := p0 :: p1 :: G) (by simp [evEs, evE, wipeD]) (F.forms hb hv (hs y hy))) rfl
  refine (skip (G1 := p0 :: p1 :: G) (val_ok (cmp_ok' (G1 := p0 :: p1 :: G) (call_ok (ds := [M]) (G1 := p0 :: p1 :: G) (by simp [evEs, evE, M]) (F.cons hb hv hl hs)) (var_ok rfl) (eq_self sh_cT (by decide))))).trans ?_
  refine (set_ok (d := .tup as) (G1 := q0 :: q1 :: G) (bi1_ok (x := .lst as) ?_ tuple_lst)).trans ?_
  · show evE Φ 0 _ τ1 _ = _
    rw [lc_unf (ds := vs) (G1 := p0 :: p1 :: G) (by rw [evI, var_ok (d := .tup vs) rfl]; rfl) (show _ ≤ 16777216 by omega), e2]
    rfl
  refine (set_ok (call_ok (ds := [M, .tup as]) (G1 := q0 :: q1 :: G) (by simp [evEs, evE, M]) hp1)).trans ?_
  refine (set_ok (d := B) (G1 := q0 :: q1 :: G) (bad_ok (by omega) rfl rfl rfl)).trans ?_
  refine (skip (G1 := q0 :: q1 :: G) (val_ok (cmp_ok' (G1 := q0 :: q1 :: G) (call_ok (ds := [M, .tup as]) (G1 := q0 :: q1 :: G) (by simp [evEs, evE, M]) hp2) (var_ok rfl) (eq_self sh_ints (by decide))))).trans ?_
  refine (skip (G1 := q0 :: q1 :: G) (not_ok (k := true) (val_ok (call_ok (ds := [.bl (pick (fun x => !p x) 0 xs).isEmpty, .bl (pick (fun x => !p x) 0 xs).isEmpty]) (G1 := q0 :: q1 :: G) ?_ F.same)))).trans ?_
  · have c1 : ∀ τ : Tau, τ[3]? = some (some M) → τ[9]? = some (some (.tup as)) → evE Φ 0 (.call "holds" (.cons (.var 3) (.cons (.var 9) .nil))) τ (q0 :: q1 :: G) = .ok (.bl (pick (fun x => !p x) 0 xs).isEmpty) (q0 :: q1 :: G) := fun τ h3 h9 => call_ok (ds := [M, .tup as]) (G1 := q0 :: q1 :: G) (by simp only [evEs, var_ok h3, var_ok h9, Out.then_ok]) hp3
    have c2 : ∀ τ : Tau, τ[12]? = some (some B) → evE Φ 0 (.cmp .eq (.var 12) (.tup .nil)) τ (q0 :: q1 :: G) = .ok (.bl (pick (fun x => !p x) 0 xs).isEmpty) (q0 :: q1 :: G) := fun τ h12 => cmp_ok' (G1 := q0 :: q1 :: G) (var_ok h12) (by rw [evE, evEs]; rfl) eq_none
    rw [evEs, c1 _ rfl rfl]
    simp only [Out.then_ok]
    rw [evEs, c2 _ rfl]
    simp only [Out.then_ok, evEs]
  have s1 : ∀ (τ : Tau) (K : Hd), τ[9]? = some (some (.tup as)) → evE Φ 0 (.sl (.var 9) (.yes (.con (.int (1)))) .no) τ K = .ok (.tup (as.drop 1)) K := fun τ K h9 => sl_ok' (var_ok h9) (yes_ok con_ok) no_ok (by show some (D.tup (cutD as (some ((1 : Nat) : Int)) none)) = _; rw [cut_from (by omega)])
  have s2 : ∀ (τ : Tau) (K : Hd), τ[9]? = some (some (.tup as)) → evE Φ 0 (.sl (.var 9) .no (.yes (.con (.int (1))))) τ K = .ok (.tup (as.take 1)) K := fun τ K h9 => sl_ok' (var_ok h9) no_ok (yes_ok con_ok) (by show some (D.tup (cutD as none (some ((1 : Nat) : Int)))) = _; rw [cut_to (by omega)])
  have s3 : ∀ (τ : Tau) (K : Hd), τ[9]? = some (some (.tup as)) → evE Φ 0 (.bin .add (.var 9) (.sl (.var 9) .no (.yes (.con (.int (1)))))) τ K = .ok (.tup (as ++ as.take 1)) K := fun τ K h9 => bin_ok (var_ok h9) (s2 τ K h9) (by
    show (if as.length + (as.take 1).length ≤ line then some (D.tup (as ++ as.take 1)) else none) = _
    rw [if_pos (by rw [List.length_take]; show _ ≤ 16777216; omega)])
  refine (seq_nx (τ1 := tl (some sc) (some (.ref 1)) (some x) (some M) (some (.tup bs)) (some (.tup vs)) (some (.tup xs)) (some (.tup (xs.map (cT bs vs)))) t8 (some (.tup as)) t10 (some (.lst ((pick p 0 xs).map D.int))) (some B) t13 a14 a15) (G1 := q0 :: q1 :: G ++ E1) ?_).trans ?_
  · rw [for_ok (tups4 con_ok (by rw [evE, evEs]; rfl) (s1 _ _ rfl) (s3 _ _ rfl))]
    exact l1
  refine (seq_nx (τ1 := tl (some sc) (some (.ref 1)) (some x) (some M) (some (.tup bs)) (some (.tup vs)) (some (.tup xs)) (some (.tup (xs.map (cT bs vs)))) t8 (some (.tup as)) t10 (some (.lst ((pick p 0 xs).map D.int))) (some B) t13 b14 b15) (G1 := q0 :: q1 :: G ++ E1 ++ E2) ?_).trans (by rw [evSs]; rfl)
  rw [for_ok (tups4 con_ok ?_ ?_ ?_)]
  · exact l2
  · refine sl_ok' (a := M) (var_ok rfl) no_ok (yes_ok con_ok) ?_
    show some (D.tup (cutD [.tup bs, .tup vs, .tup xs] none (some ((2 : Nat) : Int)))) = _
    rw [cut_to (by simp)]
    rfl
  · simp [evE, evEs]
  · simp [evE, evEs, revD]
theorem rng5 : rangeD 0 5 = some [.int 0, .int 1, .int 2, .int 3, .int 4] := by kernel_rfl
theorem law_run (ns : List Int) (hns : ns.length ≤ 63) (_ : ∀ z ∈ ns, Builtin.Int.intBits z ≤ 1048576) : ∃ G, run T 40 "law" [.lst (ns.map D.int)] [] = .ok (.bl true) G := by
  have F := tn_ok hns
  have hbeg : run T 39 "_law_begun" [] [] = .ok (.ref 1) [.dct [] [], tw 0] := begun L_begun 38
  refine ⟨[], ?_⟩
  rw [run_succ L_law 39]
  generalize run T 39 = Φ at F hbeg
  generalize D.lst (ns.map D.int) = sc at F
  have hi : ∀ τ G, evI Φ 0 (.rng1 (.con (.int 5))) τ G = .ok (.items [.int 0, .int 1, .int 2, .int 3, .int 4]) G := fun τ G => rng_ok con_ok rng5
  obtain ⟨τ', G', e, r, p0, p1, K, rfl, hr, rfl, ht⟩ := for_inv (Φ := Φ) (b := 0) (t := .nam 2) (s := bodyOf b_law) (τ := [some sc, some (.ref 1), none, none, none, none, none, none, none, none, none, none, none, none, none, none])
    (I := fun _ τ G => ∃ (r : Tau) (p0 p1 : DO) (K : Hd), τ = some sc :: some (.ref 1) :: r ∧ r.length = 14 ∧ G = p0 :: p1 :: K ∧ Town p0 p1) (hi _ [.dct [] [], tw 0]) ⟨_, _, _, _, rfl, rfl, rfl, town0⟩ (by
      rintro i x τ G hx ⟨r, p0, p1, K, rfl, hr, rfl, ht⟩
      match r, hr with
      | [t2, t3, t4, t5, t6, t7, t8, t9, t10, t11, t12, t13, t14, t15], _ =>
        obtain ⟨q0, q1, K', r', ht', hr', e⟩ := turn F ht (G := K) (x := x) (t2 := t2) (t3 := t3) (t4 := t4) (t5 := t5) (t6 := t6) (t7 := t7) (t8 := t8) (t9 := t9) (t10 := t10) (t11 := t11) (t12 := t12) (t13 := t13) (t14 := t14) (t15 := t15)
        exact ⟨_, _, e, r', q0, q1, K', rfl, hr', rfl, ht'⟩)
  refine (callF_rt (G := []) (d := .bl true) (d' := .bl true) (G' := p0 :: p1 :: K) rfl rfl ?_ frz_bl).trans rfl
  show evSs Φ 0 b_law [some sc, none, none, none, none, none, none, none, none, none, none, none, none, none, none, none] [] = _
  unfold b_law at e ⊢
  simp only [bodyOf] at e
  refine (set_ok (d := .ref 1) (G1 := [.dct [] [], tw 0]) (call_ok (ds := []) (G1 := []) (by rw [evEs]) hbeg)).trans ?_
  exact (seq_nx e).trans (ret_ok con_ok)
end K04

set_option Elab.async false
set_option linter.all false
set_option maxRecDepth 100000
set_option maxHeartbeats 0
open PySem PySem.W PySem.Calls PyProof.Rows
theorem PySem.Challenge.cw_unitlogic_k04_constraints_holds : PySem.Challenge.rw_unitlogic_k04_constraints.Holds := by
  w_on; o_law
  refine HandSHeadRun.head_any (r := OpenLaw.row PySem.Challenge.rw_unitlogic_k04_constraints) (q := view (OpenLaw.row PySem.Challenge.rw_unitlogic_k04_constraints).prog [72]) (H := U.hookU 5 K04.rows K04.res K04.cons) (ob := K04.ob) (M := 40000) (loose := K04.loose) (d := HandSHeadRun.topDef (OpenLaw.row PySem.Challenge.rw_unitlogic_k04_constraints).prog 72) (kwd := []) K04.ob_eq
    (by kernel_rfl) (fun s => by kernel_rfl) K04.headRun (by kernel_rfl) (by kernel_rfl) (by kernel_rfl) (by rfl) (by first | assumption | decide +kernel) (by decide +kernel) ⟨rfl, rfl, rfl, rfl, rfl, by decide +kernel⟩ ?hw ?hc
  case hw => w_witness2
  case hc =>
    refine LamX.walk_ofTsE (l := PySem.Challenge.rw_unitlogic_k04_constraints) (n := 63) (k := 3 * 40) (x := "script") (CX := fun _ => U.CXA PySem.Challenge.pw_unitlogic_k04_constraints) rfl (by decide) (by kernel_rfl) ⟨rfl, by decide, by decide⟩ ?F ?hX
    case F =>
      intro w mg fa h Y G hmg0
      have hmg : mg ("law" : PySem.Str) = some (.ref fa) := by
        have e : (HandSHeadRun.topDef (OpenLaw.row PySem.Challenge.rw_unitlogic_k04_constraints).prog 72).name = ("law" : PySem.Str) := by kernel_rfl
        rw [← e]
        exact hmg0
      exact U.law_facts (m := 63) (n := 40) (by decide +kernel) K04.rows_ok K04.rows_lam K04.res_is (by kernel_rfl) (by kernel_rfl) (by kernel_rfl) K04.law_run Y G hmg
    case hX => exact fun w => U.cxa_no
