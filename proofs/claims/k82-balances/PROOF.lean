import PyProof.Rows.All
import Wide.All
import OpenK.AllK
import Wide.FinOn
import HandS.ForMost
import HandS.ForExc
import HandS.TupAny
import HandS.TupMul
import HandS.Wide
import HandS.Defaults
import HandS.StrMore
import HandS.Zip
import HandS.Rev
import HandS.SetFor
import HandS.TryMany
import HandS.More
import KE.DataMinMax
import KE.SortData
import HandS.Deep
import PyProof.Rows.InDataRows
import KE.DataCmp
import HandS.IsInst
import PyProof.MaxThree
import HandS.Walk
import HandS.ExcOwn
import HandS.ExcCtx
import HandS.Flow
import HandS.Head0
import HandS.Head1
import HandS.Head2
import HandS.HeadEnd
import HandS.HeadHook1
import HandS.HeadHook2
import HandS.Ends
import HandS.Codes
import KE.KStateDown
import HandS.Words
import HandS.WordsExc
import PySem.Challenge.RW_skerrylight_k82_balances
section
set_option autoImplicit false
set_option linter.all false
/-! SkCore: a small language of my own (data, expressions, statements) and its evaluator. -/
namespace Sk
open PySem (Str)

/-- a value: immutable data by structure, a list or dict by its place in the store -/
inductive D where
  | non | bl (b : Bool) | int (i : Int) | str (s : Str) | tup (xs : List D) | ref (i : Nat)
  deriving Inhabited
/-- a simple key -/
abbrev Ky := Sum Int Str
/-- what stands in the store -/
inductive O where
  | lst (xs : List D)
  | ro (xs : List D)
  | dk (kvs : List (Ky × D))
  | dt (kvs : List (List Ky × D))
  | ins (c : String) (fs : List (String × D))
abbrev Store := List O
abbrev Env := List (Option D)
structure Exc where
  cls : String
  fs : List (String × D)
inductive Res (α : Type) where
  | ok (a : α) (M : Store)
  | exc (x : Exc) (M : Store)
  | bad
def Res.bind {α β : Type} : Res α → (α → Store → Res β) → Res β
  | .ok a M, f => f a M
  | .exc x M, _ => .exc x M
  | .bad, _ => .bad
inductive Out where
  | nx (ρ : Env) (M : Store)
  | rt (d : D) (M : Store)
  | bk (ρ : Env) (M : Store)
  | ct (ρ : Env) (M : Store)
  | exc (x : Exc) (ρ : Env) (M : Store)
  | bad

def lim : Nat := 16777216

mutual
def D.pure : D → Bool
  | .tup xs => D.pures xs
  | .ref _ => false
  | .non => true
  | .bl _ => true
  | .int _ => true
  | .str _ => true
def D.pures : List D → Bool
  | [] => true
  | x :: xs => x.pure && D.pures xs
end
mutual
/-- depth at most n -/
def D.dle : D → Nat → Bool
  | .tup xs, n => match n with
    | 0 => false
    | n + 1 => D.dles xs n
  | .non, _ => true
  | .bl _, _ => true
  | .int _, _ => true
  | .str _, _ => true
  | .ref _, _ => true
def D.dles : List D → Nat → Bool
  | [], _ => true
  | x :: xs, n => x.dle n && D.dles xs n
end
mutual
/-- Python's == of data -/
def D.eqv : D → D → Bool
  | .non, b => (match b with | .non => true | _ => false)
  | .bl x, b => (match b with | .bl y => x == y | .int j => (if x then 1 else 0) == j | _ => false)
  | .int i, b => (match b with | .int j => i == j | .bl y => i == (if y then 1 else 0) | _ => false)
  | .str s, b => (match b with | .str t => s == t | _ => false)
  | .tup xs, b => (match b with | .tup ys => D.eqvs xs ys | _ => false)
  | .ref _, _ => false
def D.eqvs : List D → List D → Bool
  | [], ys => (match ys with | [] => true | _ :: _ => false)
  | x :: xs, ys => (match ys with | [] => false | y :: ys => D.eqv x y && D.eqvs xs ys)
end
mutual
/-- can be compared, place by place -/
def D.alike : D → D → Bool
  | .non, b => (match b with | .non => true | _ => false)
  | .bl _, b => (match b with | .bl _ => true | _ => false)
  | .int _, b => (match b with | .int _ => true | _ => false)
  | .str _, b => (match b with | .str _ => true | _ => false)
  | .tup xs, b => (match b with | .tup ys => D.alikes xs ys | _ => false)
  | .ref _, _ => false
def D.alikes : List D → List D → Bool
  | [], _ => true
  | x :: xs, ys => (match ys with | [] => true | y :: ys => D.alike x y && D.alikes xs ys)
end
mutual
/-- Python's < of alike data -/
def D.lt : D → D → Bool
  | .bl x, b => (match b with | .bl y => !x && y | _ => false)
  | .int i, b => (match b with | .int j => decide (i < j) | _ => false)
  | .str s, b => (match b with | .str t => decide (s.cps.toList < t.cps.toList) | _ => false)
  | .tup xs, b => (match b with | .tup ys => D.lts xs ys | _ => false)
  | .non, _ => false
  | .ref _, _ => false
def D.lts : List D → List D → Bool
  | [], ys => (match ys with | [] => false | _ :: _ => true)
  | x :: xs, ys => (match ys with | [] => false | y :: ys => if D.eqv x y then D.lts xs ys else D.lt x y)
end
def D.isNon : D → Bool
  | .non => true
  | _ => false
def allAlike (xs : List D) : Bool := xs.all fun a => xs.all fun b => D.alike a b

def O.pure : O → Bool
  | .lst xs => D.pures xs
  | .ro xs => D.pures xs
  | .dk kvs => kvs.all fun p => p.2.pure
  | .dt kvs => kvs.all fun p => p.2.pure
  | .ins _ fs => fs.all fun p => p.2.pure

/-- behind an expression, a call: what was made and is not held is forgotten; n: the store's size ahead of it -/
def gc (n : Nat) (d : D) (M : Store) : Res D :=
  if d.pure = true then .ok d (M.take n) else
  match d with
  | .ref j => if j < n then .ok d (M.take n) else
    (match M[j]? with
    | some o => if o.pure = true then .ok (.ref n) (M.take n ++ [o]) else .ok d M
    | none => .bad)
  | _ => .ok d M
def Res.gc (n : Nat) : Res D → Res D
  | .ok d M => Sk.gc n d M
  | .exc x M => .exc x (M.take n)
  | .bad => .bad

/-! ### reading -/
def listAt (M : Store) (i : Nat) : Option (List D) := match M[i]? with
  | some (.lst xs) => some xs
  | some (.ro xs) => some xs
  | _ => none
/-- the items of a tuple or a list -/
def seqOf (M : Store) : D → Option (List D)
  | .tup xs => some xs
  | .ref i => listAt M i
  | _ => none
/-- the place that an index means among n items -/
def ixN (n : Nat) (i : Int) : Option Nat :=
  let j := if i < 0 then i + n else i
  if 0 ≤ j ∧ j < n then some j.toNat else none
/-- the item there -/
def atI {α : Type} (xs : List α) (i : Int) : Option α := match ixN xs.length i with
  | some j => xs[j]?
  | none => none
/-- a slice's end, within n items; d where it is left out -/
def sIx (n d : Nat) : Option Int → Nat
  | some v => if 0 ≤ v then min v.toNat n else (v + n).toNat
  | none => d
/-- a slice -/
def cut {α : Type} (xs : List α) (lo hi : Option Int) : List α :=
  let a := sIx xs.length 0 lo
  (xs.drop a).take (sIx xs.length xs.length hi - a)
def chars (s : Str) : List D := s.cps.toList.map fun c => .str ⟨#[c]⟩
def keyOf : D → Option Ky
  | .int i => some (.inl i)
  | .str s => some (.inr s)
  | _ => none
def keysOf : List D → Option (List Ky)
  | [] => some []
  | d :: ds => match keyOf d, keysOf ds with
    | some k, some ks => some (k :: ks)
    | _, _ => none
def kD : Ky → D
  | .inl i => .int i
  | .inr s => .str s
section
variable {κ : Type} [DecidableEq κ]
def getK (kvs : List (κ × D)) (k : κ) : Option D := match kvs with
  | [] => none
  | p :: r => if p.1 = k then some p.2 else getK r k
def putK (kvs : List (κ × D)) (k : κ) (v : D) : List (κ × D) := match getK kvs k with
  | some _ => kvs.map fun p => if p.1 = k then (k, v) else p
  | none => kvs ++ [(k, v)]
end
/-- o[k] of the dict o: none: no dict or no key; some none: not there -/
def dictGet (M : Store) (i : Nat) (k : D) : Option (Option D) := match M[i]? with
  | some (.dk kvs) => (keyOf k).map fun q => getK kvs q
  | some (.dt _) => none
  | _ => none

/-! ### truth -/
def truth (M : Store) : D → Option Bool
  | .non => some false
  | .bl b => some b
  | .int i => some (i != 0)
  | .str s => some ((s.length : Int) != 0)
  | .tup xs => some (!xs.isEmpty)
  | .ref i => match M[i]? with
    | some (.lst xs) => some (!xs.isEmpty)
    | some (.ro xs) => some (!xs.isEmpty)
    | some (.dk kvs) => some (!kvs.isEmpty)
    | _ => none
def truthR (d : D) (M : Store) : Res Bool := match truth M d with
  | some b => .ok b M
  | none => .bad

/-! ### operators -/
inductive BOp where
  | add | sub | mul | fdiv | mod | pow
  deriving DecidableEq
inductive COp where
  | eq | ne | lt | le | gt | ge | is | isnot | in | notin
  deriving DecidableEq
def smallI (i : Int) : Bool := decide (-(2 ^ 64) < i ∧ i < 2 ^ 64)
def okMul (i j : Int) : Bool := smallI i || smallI j || decide (i.natAbs.log2 + j.natAbs.log2 < 1000000)
def okDiv (j : Int) : Bool := decide (0 < j ∧ j < 1073741824) || decide (0 < j ∧ j.natAbs.log2 < 9000)
def okPow (i j : Int) : Bool := decide (0 ≤ j ∧ j ≤ 1000000 ∧ i.natAbs < 2 ^ 64)
def alloc (M : Store) (o : O) : Res D := .ok (.ref M.length) (M ++ [o])
def strRep (s : Str) (k : Int) : Str := ⟨((List.replicate k.toNat s.cps.toList).flatten).toArray⟩
def addD (a b : D) (M : Store) : Res D := match a, b with
  | .int i, .int j => .ok (.int (i + j)) M
  | .str s, .str t => if s.length + t.length ≤ lim then .ok (.str (s ++ t)) M else .bad
  | .tup xs, .tup ys => if xs.length + ys.length ≤ lim then .ok (.tup (xs ++ ys)) M else .bad
  | .ref i, .ref j => (match M[i]?, M[j]? with
    | some (.lst xs), some (.lst ys) => if xs.length + ys.length ≤ lim then alloc M (.lst (xs ++ ys)) else .bad
    | _, _ => .bad)
  | _, _ => .bad
def mulD (a b : D) (M : Store) : Res D := match a, b with
  | .int i, .int j => if okMul i j = true then .ok (.int (i * j)) M else .bad
  | .tup xs, .int k => if xs ≠ [] ∧ 2 ≤ k ∧ k ≤ 1000 ∧ xs.length ≤ 1000 then .ok (.tup (List.replicate k.toNat xs).flatten) M else .bad
  | .ref i, .int k => (match M[i]? with
    | some (.lst xs) => if -(2 ^ 63) ≤ k ∧ k < 2 ^ 63 ∧ xs.length * k.toNat ≤ lim then alloc M (.lst (List.replicate k.toNat xs).flatten) else .bad
    | _ => .bad)
  | .str s, .int k => if k ≤ 1000000 ∧ -1000000 ≤ k ∧ s.length ≤ 16 then .ok (.str (strRep s k)) M else .bad
  | _, _ => .bad
def binD (o : BOp) (a b : D) (M : Store) : Res D := match o with
  | .add => addD a b M
  | .sub => (match a, b with
    | .int i, .int j => .ok (.int (i - j)) M
    | _, _ => .bad)
  | .mul => mulD a b M
  | .fdiv => (match a, b with
    | .int i, .int j => if okDiv j = true then .ok (.int (i / j)) M else .bad
    | _, _ => .bad)
  | .mod => (match a, b with
    | .int i, .int j => if 0 < j then .ok (.int (i % j)) M else .bad
    | _, _ => .bad)
  | .pow => (match a, b with
    | .int i, .int j => if okPow i j = true then .ok (.int (i ^ j.toNat)) M else .bad
    | _, _ => .bad)
/-- == : none where it is not said -/
def eqM (M : Store) (a b : D) : Option Bool := match a, b with
  | .ref i, .ref j => (match listAt M i, listAt M j with
    | some xs, some ys => if D.pures xs = true ∧ D.pures ys = true ∧ D.dles xs 50 = true ∧ D.dles ys 50 = true then some (D.eqvs xs ys) else none
    | _, _ => none)
  | .ref i, b => (match listAt M i with
    | some xs => if D.pures xs = true ∧ b.pure = true ∧ D.dles xs 50 = true ∧ b.dle 50 = true then some false else none
    | none => none)
  | a, .ref j => (match listAt M j with
    | some ys => if a.pure = true ∧ D.pures ys = true ∧ a.dle 50 = true ∧ D.dles ys 50 = true then some false else none
    | none => none)
  | a, b => if a.pure = true ∧ b.pure = true ∧ a.dle 50 = true ∧ b.dle 50 = true then some (D.eqv a b) else none
def okLt (a b : D) : Bool := D.alike a b && !a.isNon && a.pure && b.pure && a.dle 50 && b.dle 50
/-- y in s: is the code list y within s -/
def isInfix (y : List Nat) : List Nat → Bool
  | [] => y.isEmpty
  | c :: s => y.isPrefixOf (c :: s) || isInfix y s
def inM (M : Store) (a b : D) : Option Bool := match b with
  | .str t => (match a with
    | .str s => if s.length = 1 then some (decide (s.cps.getD 0 0 ∈ t.cps.toList)) else none
    | _ => none)
  | .tup ys => if a.pure = true ∧ D.pures ys = true ∧ a.dle 50 = true ∧ D.dles ys 50 = true then some (ys.any fun y => D.eqv y a) else none
  | .ref i => (match M[i]? with
    | some (.lst ys) => if a.pure = true ∧ D.pures ys = true ∧ a.dle 50 = true ∧ D.dles ys 50 = true then some (ys.any fun y => D.eqv y a) else none
    | some (.ro ys) => if a.pure = true ∧ D.pures ys = true ∧ a.dle 50 = true ∧ D.dles ys 50 = true then some (ys.any fun y => D.eqv y a) else none
    | _ => (dictGet M i a).map fun o => o.isSome)
  | _ => none
def optB (M : Store) : Option Bool → Res D
  | some b => .ok (.bl b) M
  | none => .bad
def cmpD (o : COp) (a b : D) (M : Store) : Res D := match o with
  | .eq => optB M (eqM M a b)
  | .ne => optB M ((eqM M a b).map fun c => !c)
  | .lt => if okLt a b = true then .ok (.bl (D.lt a b)) M else .bad
  | .le => if okLt a b = true then .ok (.bl (!D.lt b a)) M else .bad
  | .gt => if okLt a b = true then .ok (.bl (D.lt b a)) M else .bad
  | .ge => if okLt a b = true then .ok (.bl (!D.lt a b)) M else .bad
  | .is => (match b with
    | .non => .ok (.bl a.isNon) M
    | _ => .bad)
  | .isnot => (match b with
    | .non => .ok (.bl (!a.isNon)) M
    | _ => .bad)
  | .in => optB M (inM M a b)
  | .notin => optB M ((inM M a b).map fun c => !c)
def ixL (xs : List D) (b : D) (M : Store) : Res D := match b with
  | .int i => (match atI xs i with
    | some d => .ok d M
    | none => .bad)
  | _ => .bad
def ixD (a b : D) (M : Store) : Res D := match a, b with
  | .str s, .int i => (match atI s.cps.toList i with
    | some c => .ok (.str ⟨#[c]⟩) M
    | none => .bad)
  | .tup xs, .int i => (match atI xs i with
    | some d => .ok d M
    | none => .bad)
  | .ref j, b => (match M[j]? with
    | some (.lst xs) => ixL xs b M
    | some (.ro xs) => ixL xs b M
    | _ => (match dictGet M j b with
      | some (some d) => .ok d M
      | _ => .bad))
  | _, _ => .bad
def slcD (a : D) (lo hi : Option Int) (M : Store) : Res D := match a with
  | .str s => .ok (.str ⟨(cut s.cps.toList lo hi).toArray⟩) M
  | .tup xs => .ok (.tup (cut xs lo hi)) M
  | .ref i => (match listAt M i with
    | some xs => alloc M (.lst (cut xs lo hi))
    | none => .bad)
  | _ => .bad

/-! ### built-in functions -/
inductive Blt where
  | len | tuple | list | sorted | min | max | minD | sum | abs | int | str | ord | any | all | lcm | gcd
  deriving DecidableEq
def sumI : List D → Option Int
  | [] => some 0
  | .int i :: ds => (sumI ds).map fun s => i + s
  | _ :: _ => none
def intOf : D → Option Int
  | .int i => some i
  | _ => none
def intsOf : List D → Option (List Int)
  | [] => some []
  | .int i :: ds => (intsOf ds).map fun s => i :: s
  | _ :: _ => none
def bestMin (x : D) (xs : List D) : D := xs.foldl (fun a y => if D.lt y a = true then y else a) x
def bestMax (x : D) (xs : List D) : D := xs.foldl (fun a y => if D.lt a y = true then y else a) x
def okOrd (xs : List D) : Bool := allAlike xs && D.pures xs && D.dles xs 50 && xs.all fun d => !d.isNon
def D.isTup : D → Bool
  | .tup xs => !xs.isEmpty
  | _ => false
def D.noTup : D → Bool
  | .tup _ => false
  | .non => false
  | _ => true
/-- can be sorted -/
def okSort (xs : List D) : Bool := okOrd xs && (xs.all D.isTup || xs.all D.noTup)
def sortD (xs : List D) : List D := xs.mergeSort fun a b => !D.lt b a
/-- a text that the library takes as such -/
def strFit (s : Str) : Bool := decide (s.length ≤ lim) && s.cps.all (· < 0x110000)
def keysFit (kvs : List (Ky × D)) : Bool := kvs.all fun p => match p.1 with
  | .inl _ => true
  | .inr s => strFit s
def lenM (M : Store) : D → Option Nat
  | .str s => some s.length
  | .tup xs => some xs.length
  | .ref i => match M[i]? with
    | some (.lst xs) => some xs.length
    | some (.ro xs) => some xs.length
    | some (.dk kvs) => some kvs.length
    | _ => none
  | _ => none
def bltD (f : Blt) (ds : List D) (M : Store) : Res D := match f with
  | .len => (match ds with
    | [d] => (match lenM M d with
      | some n => .ok (.int (n : Nat)) M
      | none => .bad)
    | _ => .bad)
  | .tuple => (match ds with
    | [d] => (match seqOf M d with
      | some xs => .ok (.tup xs) M
      | none => .bad)
    | _ => .bad)
  | .list => (match ds with
    | [d] => (match seqOf M d with
      | some xs => alloc M (.lst xs)
      | none => .bad)
    | _ => .bad)
  | .sorted => (match ds with
    | [.ref i] => (match M[i]? with
      | some (.lst xs) => if okSort xs = true then alloc M (.lst (sortD xs)) else .bad
      | some (.dk kvs) => if okSort (kvs.map fun p => kD p.1) = true ∧ keysFit kvs = true then alloc M (.lst (sortD (kvs.map fun p => kD p.1))) else .bad
      | _ => .bad)
    | _ => .bad)
  | .min => (match ds with
    | [d] => (match seqOf M d with
      | some (x :: xs) => if okOrd (x :: xs) = true then .ok (bestMin x xs) M else .bad
      | _ => .bad)
    | [.int i, .int j] => .ok (.int (if j < i then j else i)) M
    | [.int i, .int j, .int k] => .ok (.int (if j < i then (if k < j then k else j) else (if k < i then k else i))) M
    | _ => .bad)
  | .max => (match ds with
    | [d] => (match seqOf M d with
      | some (x :: xs) => if okOrd (x :: xs) = true then .ok (bestMax x xs) M else .bad
      | _ => .bad)
    | [.int i, .int j] => .ok (.int (if j > i then j else i)) M
    | _ => .bad)
  | .sum => (match ds with
    | [.ref i] => (match listAt M i with
      | some xs => (match intsOf xs with
        | some ns => .ok (.int ns.sum) M
        | none => .bad)
      | none => .bad)
    | _ => .bad)
  | .abs => (match ds with
    | [.int i] => .ok (.int (if i < 0 then -i else i)) M
    | _ => .bad)
  | .int => (match ds with
    | [.int i] => .ok (.int i) M
    | [.bl b] => .ok (.int (if b then 1 else 0)) M
    | _ => .bad)
  | _ => .bad
def isiD (M : Store) (d : D) (T : String) : Option Bool := match d with
  | .non => some (T == "NoneType")
  | .bl _ => some (T == "bool" || T == "int")
  | .int _ => some (T == "int")
  | .str _ => some (T == "str")
  | .tup _ => some (T == "tuple")
  | .ref i => (match M[i]? with
    | some (.lst _) => some (T == "list")
    | some (.ro _) => some (T == "list")
    | _ => none)
/-- methods that store nothing -/
inductive Mth where
  | get | pop | index | count | split | join | startswith | replace
  deriving DecidableEq
/-- the receiver's type -/
def isLst (M : Store) : D → Bool
  | .ref i => (match M[i]? with
    | some (.lst _) => true
    | _ => false)
  | _ => false
def tyM (m : Mth) (M : Store) (o : D) : Bool := match m with
  | .get => (match o with
    | .ref i => (match M[i]? with
      | some (.dk _) => true
      | _ => false)
    | _ => false)
  | .pop => isLst M o
  | _ => false
def mthD (m : Mth) (o : D) (ds : List D) (M : Store) : Res D := match m with
  | .get => (match o, ds with
    | .ref i, [k, x] => (match dictGet M i k with
      | some (some d) => .ok d M
      | some none => .ok x M
      | none => .bad)
    | _, _ => .bad)
  | .pop => (match o, ds with
    | .ref i, [] => (match M[i]? with
      | some (.lst xs) => (match xs[xs.length - 1]? with
        | some d => .ok d (M.set i (.lst xs.dropLast))
        | none => .bad)
      | _ => .bad)
    | .ref i, [.int j] => (match M[i]? with
      | some (.lst xs) => (match ixN xs.length j with
        | some k => (match xs[k]? with
          | some d => .ok d (M.set i (.lst (xs.eraseIdx k)))
          | none => .bad)
        | none => .bad)
      | _ => .bad)
    | _, _ => .bad)
  | _ => .bad

/-! ### what a loop walks -/
inductive Ik where
  | val | rng | zip | rev | items
  deriving DecidableEq
def rngD (lo : Int) (n : Nat) : List D := (List.range n).map fun (i : Nat) => D.int (lo + (i : Int))
def okR (i : Int) : Bool := decide (-(2 ^ 62) ≤ i ∧ i < 2 ^ 62)
/-- the items; the list that must stand meanwhile -/
def walkD (k : Ik) (ds : List D) (M : Store) : Option (List D × Option Nat) := match k with
  | .val => (match ds with
    | [.tup xs] => some (xs, none)
    | [.str s] => some (chars s, none)
    | [.ref i] => (match M[i]? with
      | some (.lst xs) => some (xs, some i)
      | some (.ro xs) => some (xs, none)
      | _ => none)
    | _ => none)
  | .rng => (match ds with
    | [.int j] => if okR j = true then some (rngD 0 j.toNat, none) else none
    | [.int i, .int j] => if okR i = true ∧ okR j = true then some (rngD i (j - i).toNat, none) else none
    | _ => none)
  | _ => none
/-- a list made for the walk alone is forgotten -/
def walkG (n : Nat) (k : Ik) (ds : List D) (M : Store) : Res (List D × Option Nat) := match walkD k ds M with
  | some (xs, w) => (match w with
    | some i => if n ≤ i then (if D.pures xs = true then .ok (xs, none) (M.take n) else .ok (xs, some i) M) else .ok (xs, some i) (M.take n)
    | none => if D.pures xs = true then .ok (xs, none) (M.take n) else .ok (xs, none) M)
  | none => .bad
/-- o[k] = x -/
def putD (n : Nat) (k x : D) (M : Store) : Option Store := match M[n]? with
  | some (.lst xs) => (match k with
    | .int q => (match ixN xs.length q with
      | some j => some (M.set n (.lst (xs.set j x)))
      | none => none)
    | _ => none)
  | some (.dk kvs) => (match keyOf k with
    | some q => if kvs.length < lim then some (M.set n (.dk (putK kvs q x))) else none
    | none => none)
  | _ => none
def stands (w : Option (Nat × List D)) (M : Store) : Prop := match w with
  | none => True
  | some (i, xs) => M[i]? = some (.lst xs)

/-! ### the language -/
inductive Tg where
  | one (i : Nat)
  | many (is : List Nat)
inductive E where
  | var (i : Nat)
  | cst (d : D)
  | glb (x : String)
  | bin (o : BOp) (a b : E)
  | neg (a : E)
  | cmp (o : COp) (a b : E)
  | chain (o p : COp) (a b c : E)
  | and (a b : E)
  | or (a b : E)
  | not (a : E)
  | ite (c a b : E)
  | tup (es : List E)
  | lst (es : List E)
  | dct (t : Bool)
  | ix (a b : E)
  | slc (a : E)
  | slcL (a lo : E)
  | slcU (a hi : E)
  | slcLU (a lo hi : E)
  | call (f : String) (es : List E)
  | blt (f : Blt) (es : List E)
  | mth (m : Mth) (o : E) (es : List E)
  | isi (a : E) (ts : List String)
  | fld (a : E) (f : String)
  | lc (elt : E) (tg : Tg) (k : Ik) (its ifs : List E) (own : List Nat)
inductive S where
  | set (i : Nat) (e : E)
  | unp (is : List Nat) (e : E)
  | par (i j : Nat) (a b : E)
  | put (v o i : E)
  | app (o e : E)
  | ext (o e : E)
  | rev (o : E)
  | exp (e : E)
  | ret (e : E)
  | retN
  | iff (c : E) (a b : List S)
  | for (tg : Tg) (k : Ik) (its : List E) (body : List S) (kill : List Nat)
  | while (c : E) (body : List S) (kill : List Nat)
  | brk
  | cnt
  | pass
structure Def where
  params : Nat
  names : List String
  body : List S

structure Cx where
  call : String → List D → Store → Res D
  glob : String → Option D
  base : Nat

def wipe (ρ : Env) : List Nat → Env
  | [] => ρ
  | v :: vs => (wipe ρ vs).set v none
def setMany (ρ : Env) : List Nat → List D → Option Env
  | [], [] => some ρ
  | i :: is, d :: ds => setMany (ρ.set i (some d)) is ds
  | _, _ => none
def assignT (M : Store) (tg : Tg) (d : D) (ρ : Env) : Option Env := match tg with
  | .one i => some (ρ.set i (some d))
  | .many is => (match d with
    | .tup xs => setMany ρ is xs
    | _ => none)

/-- a comprehension's items, by its block -/
def lcL (blk : D → Store → Res (Option D)) : List D → Store → Res (List D)
  | [], M => .ok [] M
  | x :: xs, M => (blk x M).bind fun o M1 => (lcL blk xs M1).bind fun ys M2 => match o with
    | some y => .ok (y :: ys) M2
    | none => .ok ys M2
def noExc {α : Type} : Res α → Res α
  | .exc _ _ => .bad
  | r => r
section
open Classical
noncomputable def lcW (w : Option (Nat × List D)) (blk : D → Store → Res (Option D)) : List D → Store → Res (List D)
  | [], M => if stands w M then .ok [] M else .bad
  | x :: xs, M => if stands w M then (blk x M).bind fun o M1 => (lcW w blk xs M1).bind fun ys M2 => match o with
    | some y => .ok (y :: ys) M2
    | none => .ok ys M2
    else .bad
/-- a for loop over fixed items -/
noncomputable def forL (w : Option (Nat × List D)) (body : D → Env → Store → Out) : List D → Env → Store → Out
  | [], ρ, M => if stands w M then .nx ρ M else .bad
  | x :: xs, ρ, M => if stands w M then (match body x ρ M with
    | .nx ρ' M' => forL w body xs ρ' M'
    | .ct ρ' M' => forL w body xs ρ' M'
    | .bk ρ' M' => .nx ρ' M'
    | .rt d M' => .rt d M'
    | .exc x ρ' M' => .exc x ρ' M'
    | .bad => .bad) else .bad
/-- n turns of a while loop at most -/
def whileN (c : Env → Store → Res Bool) (body : Env → Store → Out) : Nat → Env → Store → Option Out
  | 0, _, _ => none
  | n + 1, ρ, M => match c ρ M with
    | .ok b M1 => if b = true then (match body ρ M1 with
      | .nx ρ' M' => whileN c body n ρ' M'
      | .ct ρ' M' => whileN c body n ρ' M'
      | .bk ρ' M' => some (.nx ρ' M')
      | .rt d M' => some (.rt d M')
      | .exc x ρ' M' => some (.exc x ρ' M')
      | .bad => some .bad) else some (.nx ρ M1)
    | .exc x M1 => some (.exc x ρ M1)
    | .bad => some .bad
noncomputable def whileD (c : Env → Store → Res Bool) (body : Env → Store → Out) (ρ : Env) (M : Store) : Out :=
  if h : ∃ n o, whileN c body n ρ M = some o then Classical.choose (Classical.choose_spec h) else .bad
end

def Out.kill (ks : List Nat) : Out → Out
  | .nx ρ M => .nx (wipe ρ ks) M
  | .ct ρ M => .ct (wipe ρ ks) M
  | .bk ρ M => .bk (wipe ρ ks) M
  | .rt d M => .rt d M
  | .exc x ρ M => .exc x ρ M
  | .bad => .bad
def Res.out (ρ : Env) (r : Res D) (f : D → Store → Out) : Out := match r with
  | .ok d M => f d M
  | .exc x M => .exc x ρ M
  | .bad => .bad
def Res.outB (ρ : Env) (r : Res Bool) (f : Bool → Store → Out) : Out := match r with
  | .ok d M => f d M
  | .exc x M => .exc x ρ M
  | .bad => .bad
def Out.andThen (o : Out) (f : Env → Store → Out) : Out := match o with
  | .nx ρ M => f ρ M
  | o => o

mutual
noncomputable def ev (c : Cx) : E → Env → Store → Res D
  | .var i, ρ, M => (match ρ[i]? with
    | some (some d) => .ok d M
    | _ => .bad)
  | .cst d, _, M => .ok d M
  | .glb x, _, M => (match c.glob x with
    | some d => .ok d M
    | none => .bad)
  | .bin o a b, ρ, M => (ev c a ρ M).bind fun x M1 => (ev c b ρ M1).bind fun y M2 => binD o x y M2
  | .neg a, ρ, M => (ev c a ρ M).bind fun x M1 => match x with
    | .int i => .ok (.int (-i)) M1
    | _ => .bad
  | .cmp o a b, ρ, M => (ev c a ρ M).bind fun x M1 => (ev c b ρ M1).bind fun y M2 => cmpD o x y M2
  | .chain o p a b d, ρ, M => (ev c a ρ M).bind fun x M1 => (ev c b ρ M1).bind fun y M2 => (cmpD o x y M2).bind fun r M3 => match r with
    | .bl true => (ev c d ρ M3).bind fun z M4 => cmpD p y z M4
    | .bl false => .ok (.bl false) M3
    | _ => .bad
  | .and a b, ρ, M => (ev c a ρ M).bind fun x M1 => (truthR x M1).bind fun t M2 => if t = true then ev c b ρ M2 else .ok x M2
  | .or a b, ρ, M => (ev c a ρ M).bind fun x M1 => (truthR x M1).bind fun t M2 => if t = true then .ok x M2 else ev c b ρ M2
  | .not a, ρ, M => (ev c a ρ M).bind fun x M1 => (truthR x M1).bind fun t M2 => .ok (.bl (!t)) M2
  | .ite t a b, ρ, M => (ev c t ρ M).bind fun x M1 => (truthR x M1).bind fun t M2 => if t = true then ev c a ρ M2 else ev c b ρ M2
  | .tup es, ρ, M => (evs c es ρ M).bind fun xs M1 => .ok (.tup xs) M1
  | .lst es, ρ, M => (evs c es ρ M).bind fun xs M1 => alloc M1 (.lst xs)
  | .dct t, _, M => alloc M (if t = true then .dt [] else .dk [])
  | .ix a b, ρ, M => (ev c a ρ M).bind fun x M1 => (ev c b ρ M1).bind fun y M2 => ixD x y M2
  | .slc a, ρ, M => (ev c a ρ M).bind fun x M1 => slcD x none none M1
  | .slcL a lo, ρ, M => (ev c a ρ M).bind fun x M1 => (ev c lo ρ M1).bind fun l M2 => match l with
    | .int i => slcD x (some i) none M2
    | _ => .bad
  | .slcU a hi, ρ, M => (ev c a ρ M).bind fun x M1 => (ev c hi ρ M1).bind fun h M2 => match h with
    | .int i => slcD x none (some i) M2
    | _ => .bad
  | .slcLU a lo hi, ρ, M => (ev c a ρ M).bind fun x M1 => (ev c lo ρ M1).bind fun l M2 => (match l with
    | .int i => (ev c hi ρ M2).bind fun h M3 => match h with
      | .int j => slcD x (some i) (some j) M3
      | _ => .bad
    | _ => .bad)
  | .call f es, ρ, M => (evs c es ρ M).bind fun xs M1 => c.call f xs M1
  | .blt f es, ρ, M => (evs c es ρ M).bind fun xs M1 => bltD f xs M1
  | .mth m o es, ρ, M => (ev c o ρ M).bind fun x M1 => if tyM m M1 x = true then (evs c es ρ M1).bind fun xs M2 => mthD m x xs M2 else .bad
  | .isi a ts, ρ, M => (ev c a ρ M).bind fun x M1 => (match ts with
    | [t] => optB M1 (isiD M1 x t)
    | [t, u] => optB M1 (match isiD M1 x t, isiD M1 x u with
      | some p, some q => some (p || q)
      | _, _ => none)
    | _ => .bad)
  | .fld a f, ρ, M => .bad
  | .lc elt tg k its ifs own, ρ, M => (evs c its ρ M).bind fun ds M1 => (walkG M.length k ds M1).bind fun (xs, w) M2 => if xs.length ≤ lim then
      (lcW (w.map fun i => (i, xs)) (fun x M3 => match assignT M3 tg x (wipe ρ own) with
        | none => .bad
        | some ρ1 => noExc ((evt c ifs ρ1 M3).bind fun t M4 => if t = true then ((ev c elt ρ1 M4).gc M4.length).bind fun y M5 => .ok (some y) M5 else .ok none M4)) xs M2).bind fun ys M3 => alloc M3 (.lst ys) else .bad
noncomputable def evs (c : Cx) : List E → Env → Store → Res (List D)
  | [], _, M => .ok [] M
  | e :: es, ρ, M => (ev c e ρ M).bind fun x M1 => (evs c es ρ M1).bind fun xs M2 => .ok (x :: xs) M2
/-- tests, one after another -/
noncomputable def evt (c : Cx) : List E → Env → Store → Res Bool
  | [], _, M => .ok true M
  | e :: es, ρ, M => ((ev c e ρ M).bind truthR).bind fun t M1 => if t = true then evt c es ρ (M1.take M.length) else .ok false (M1.take M.length)
end
/-- an expression of a statement -/
noncomputable def evg (c : Cx) (e : E) (ρ : Env) (M : Store) : Res D := (ev c e ρ M).gc M.length
noncomputable def evb (c : Cx) (e : E) (ρ : Env) (M : Store) : Res Bool := match (ev c e ρ M).bind truthR with
  | .ok b M1 => .ok b (M1.take M.length)
  | .exc x M1 => .exc x (M1.take M.length)
  | .bad => .bad
/-- may o take d? -/
def okIn (c : Cx) (i : Nat) (d : D) : Bool := decide (c.base ≤ i) || d.pure
mutual
noncomputable def ex (c : Cx) : S → Env → Store → Out
  | .set i e, ρ, M => (evg c e ρ M).out ρ fun d M1 => .nx (ρ.set i (some d)) M1
  | .unp is e, ρ, M => (evg c e ρ M).out ρ fun d M1 => match assignT M1 (.many is) d ρ with
    | some ρ1 => .nx ρ1 M1
    | none => .bad
  | .par i j a b, ρ, M => (evg c a ρ M).out ρ fun x M1 => (evg c b ρ M1).out ρ fun y M2 => .nx ((ρ.set i (some x)).set j (some y)) M2
  | .put v o i, ρ, M => (evg c v ρ M).out ρ fun x M1 => (ev c o ρ M1).out ρ fun a M2 => (ev c i ρ M2).out ρ fun k M3 => (match a with
    | .ref n => if okIn c n x = true then (match putD n k x M3 with
      | some M4 => .nx ρ (M4.take M1.length)
      | none => .bad) else .bad
    | _ => .bad)
  | .app o e, ρ, M => (ev c o ρ M).out ρ fun a M1 => if isLst M1 a = true ∧ M1.length = M.length then (evg c e ρ M1).out ρ fun x M2 => (match a with
    | .ref n => (match M2[n]? with
      | some (.lst xs) => if xs.length < lim ∧ okIn c n x = true then .nx ρ (M2.set n (.lst (xs ++ [x]))) else .bad
      | _ => .bad)
    | _ => .bad) else .bad
  | .ext o e, ρ, M => (ev c o ρ M).out ρ fun a M1 => if isLst M1 a = true then (ev c e ρ M1).out ρ fun b M2 => (match a, b with
    | .ref n, .ref m => (match M2[n]?, M2[m]? with
      | some (.lst xs), some (.lst ys) => if xs.length + ys.length ≤ lim ∧ D.pures ys = true ∧ n < M.length then .nx ρ ((M2.set n (.lst (xs ++ ys))).take M.length) else .bad
      | _, _ => .bad)
    | _, _ => .bad) else .bad
  | .rev o, ρ, M => (ev c o ρ M).out ρ fun a M1 => (match a with
    | .ref n => (match M1[n]? with
      | some (.lst xs) => .nx ρ (M1.set n (.lst xs.reverse))
      | _ => .bad)
    | _ => .bad)
  | .exp e, ρ, M => (evg c e ρ M).out ρ fun _ M1 => .nx ρ M1
  | .ret e, ρ, M => (evg c e ρ M).out ρ fun d M1 => .rt d M1
  | .retN, _, M => .rt .non M
  | .iff t a b, ρ, M => (evb c t ρ M).outB ρ fun k M1 => if k = true then exs c a ρ M1 else exs c b ρ M1
  | .for tg k its body kill, ρ, M => (match (evs c its ρ M).bind (walkG M.length k) with
    | .ok (xs, w) M1 => forL (w.map fun i => (i, xs)) (fun x ρ1 M2 => match assignT M2 tg x ρ1 with
      | some ρ2 => (exs c body ρ2 M2).kill kill
      | none => .bad) xs (wipe ρ kill) M1
    | .exc x M1 => .exc x ρ (M1.take M.length)
    | .bad => .bad)
  | .while t body kill, ρ, M => whileD (evb c t) (fun ρ1 M1 => (exs c body ρ1 M1).kill kill) (wipe ρ kill) M
  | .brk, ρ, M => .bk ρ M
  | .cnt, ρ, M => .ct ρ M
  | .pass, ρ, M => .nx ρ M
noncomputable def exs (c : Cx) : List S → Env → Store → Out
  | [], ρ, M => .nx ρ M
  | s :: ss, ρ, M => (ex c s ρ M).andThen fun ρ1 M1 => exs c ss ρ1 M1
end

/-- a call's end -/
def leave (n : Nat) : Out → Res D
  | .rt d M => gc n d M
  | .nx _ M => .ok .non (M.take n)
  | .exc x _ M => .exc x (M.take n)
  | _ => .bad
def init (d : Def) (vs : List D) : Env := vs.map some ++ List.replicate (d.names.length - vs.length) none
/-- a call at depth k at most -/
noncomputable def run (T : String → Option Def) (G : String → Option D) : Nat → String → List D → Store → Res D
  | 0, _, _, _ => .bad
  | k + 1, f, vs, M => match T f with
    | some d => if vs.length = d.params then leave M.length (exs ⟨run T G k, G, M.length⟩ d.body (init d vs) M) else .bad
    | none => .bad
end Sk
end
section
set_option Elab.async false
set_option linter.all false
set_option autoImplicit false
set_option maxRecDepth 100000
/-! SkA: the relation between my data and the hand layer's abstract heap. -/
namespace Sk
open PySem PySem.Spec PyProof.Rows L2

theorem lim_eq : lim = sizeLine := by rw [sizeLine_eq]; rfl

section
variable (K : PySem.W.Frag) (ι : List Addr) (H : Hp)
mutual
/-- a datum stands at a value -/
def RelD : D → V → Prop
  | .non, v => v = .non
  | .bl b, v => v = .bl b
  | .int i, v => v = .int i
  | .str s, v => v = .str s ∧ s.length ≤ sizeLine ∧ PyData.strOk s = true
  | .tup xs, v => ∃ a vs, v = .ref a ∧ SqT K H a vs ∧ RelDs xs vs
  | .ref i, v => ∃ a, v = .ref a ∧ ι[i]? = some a
def RelDs : List D → List V → Prop
  | [], vs => vs = []
  | x :: xs, vs => ∃ v r, vs = v :: r ∧ RelD x v ∧ RelDs xs r
end
/-- a list that is only read -/
def RoL (a : Addr) (vs : List V) : Prop := (∃ o, H a = some (.frz o (.lst vs))) ∨
  ∃ (o : Obj) (its : Array Value) (n : Nat), K.lookup a = some o ∧ o.cls = .type "list" ∧ o.dict = none ∧ o.data = .seq its n ∧ its.size ≤ sizeLine ∧ Vals vs its.toList
def RelKV {κ : Type} : List (κ × D) → List (κ × V) → Prop := Paired fun (p : κ × D) (q : κ × V) => p.1 = q.1 ∧ RelD K ι H p.2 q.2
/-- an object of the store stands at an address -/
def OR : O → Addr → Prop
  | .lst xs, a => ∃ vs, H a = some (.lst vs) ∧ RelDs K ι H xs vs
  | .ro xs, a => ∃ vs, RoL K H a vs ∧ RelDs K ι H xs vs
  | .dk kvs, a => ∃ kv, H a = some (.dK kv) ∧ RelKV K ι H kvs kv
  | .dt kvs, a => ∃ kv, H a = some (.dT kv) ∧ RelKV K ι H kvs kv
  | .ins _ _, _ => False
def O.mut : O → Bool
  | .ro _ => false
  | _ => true
structure SR (M : Store) : Prop where
  len : ι.length = M.length
  obj : ∀ (i : Nat) (o : O) (a : Addr), M[i]? = some o → ι[i]? = some a → OR K ι H o a
  inj : ∀ (i j : Nat) (a : Addr) (o o' : O), ι[i]? = some a → ι[j]? = some a → M[i]? = some o → M[j]? = some o' → o.mut = true → o'.mut = true → i = j
  pos : 0 < M.length
  kind : ∀ (i : Nat) (o : O), M[i]? = some o → (o.mut = true ↔ i ≠ 0)
def REnv (ρ : Env) (σ : L2.St) : Prop := ρ.length = σ.length ∧ ∀ (i : Nat) (d : D), ρ[i]? = some (some d) → ∃ v, σ[i]? = some (some v) ∧ RelD K ι H d v
end
def Imm : HO → Prop
  | .tup _ => True
  | .frz _ _ => True
  | _ => False
/-- how the abstract heap goes on -/
structure Step (ι : List Addr) (H : Hp) (ι' : List Addr) (H' : Hp) : Prop where
  ext : ∃ t, ι' = ι ++ t ∧ ∀ p ∈ t, H p = none
  imm : ∀ a o, H a = some o → Imm o → H' a = some o
  out : ∀ a o, H a = some o → a ∉ ι.drop 1 → H' a = some o
  dom : ∀ a, H a ≠ none → H' a ≠ none

section
variable {K : PySem.W.Frag} {ι ι' ι2 : List Addr} {H H' H2 : Hp}
theorem Step.refl : Step ι H ι H := ⟨⟨[], by simp, by simp⟩, fun _ _ h _ => h, fun _ _ h _ => h, fun _ h => h⟩
theorem Step.trans (a : Step ι H ι' H') (b : Step ι' H' ι2 H2) : Step ι H ι2 H2 := by
  obtain ⟨t, rfl, ht⟩ := a.ext
  obtain ⟨u, rfl, hu⟩ := b.ext
  refine ⟨⟨t ++ u, by simp, fun p hp => ?_⟩, fun x o h i => b.imm x o (a.imm x o h i) i, fun x o h n => ?_, fun x h => b.dom x (a.dom x h)⟩
  · rcases List.mem_append.mp hp with h | h
    · exact ht p h
    · cases e : H p with
      | none => rfl
      | some o => exact absurd (hu p h) (a.dom p (by rw [e]; simp))
  · refine b.out x o (a.out x o h n) fun hm => ?_
    rw [List.drop_append] at hm
    rcases List.mem_append.mp hm with hm | hm
    · exact n hm
    · rw [ht x (List.mem_of_mem_drop hm)] at h; cases h
theorem Step.get (a : Step ι H ι' H') {i : Nat} {x : Addr} (h : ι[i]? = some x) : ι'[i]? = some x := by
  obtain ⟨t, rfl, _⟩ := a.ext
  have := (List.getElem?_eq_some_iff.mp h).1
  rw [List.getElem?_append_left this]; exact h
theorem Step.sqT (a : Step ι H ι' H') {x : Addr} {vs : List V} (h : SqT K H x vs) : SqT K H' x vs := by
  rcases h with (h | ⟨o, h⟩) | h
  · exact .inl (.inl (a.imm _ _ h trivial))
  · exact .inl (.inr ⟨o, a.imm _ _ h trivial⟩)
  · exact .inr h
theorem Step.roL (a : Step ι H ι' H') {x : Addr} {vs : List V} (h : RoL K H x vs) : RoL K H' x vs := by
  rcases h with ⟨o, h⟩ | h
  · exact .inl ⟨o, a.imm _ _ h trivial⟩
  · exact .inr h
theorem RoL.sqL {x : Addr} {vs : List V} (h : RoL K H x vs) : SqL K H x vs := by
  rcases h with ⟨o, h⟩ | h
  · exact .inl (.inr ⟨o, h⟩)
  · exact .inr h
mutual
theorem RelD.mono (hi : ∀ (i : Nat) (x : Addr), ι[i]? = some x → ι'[i]? = some x) (hs : ∀ x vs, SqT K H x vs → SqT K H' x vs) : ∀ {d : D} {v : V}, RelD K ι H d v → RelD K ι' H' d v
  | .non, _, h => by simpa only [RelD] using h
  | .bl _, _, h => by simpa only [RelD] using h
  | .int _, _, h => by simpa only [RelD] using h
  | .str _, _, h => by simpa only [RelD] using h
  | .tup xs, v, h => by
    simp only [RelD] at h ⊢
    obtain ⟨x, vs, e, h1, hr⟩ := h
    exact ⟨x, vs, e, hs _ _ h1, RelDs.mono hi hs hr⟩
  | .ref i, v, h => by
    simp only [RelD] at h ⊢
    obtain ⟨x, e, h1⟩ := h
    exact ⟨x, e, hi _ _ h1⟩
theorem RelDs.mono (hi : ∀ (i : Nat) (x : Addr), ι[i]? = some x → ι'[i]? = some x) (hs : ∀ x vs, SqT K H x vs → SqT K H' x vs) : ∀ {xs : List D} {vs : List V}, RelDs K ι H xs vs → RelDs K ι' H' xs vs
  | [], _, h => by simpa only [RelDs] using h
  | x :: xs, vs, h => by
    simp only [RelDs] at h ⊢
    obtain ⟨v, r, e, h1, h2⟩ := h
    exact ⟨v, r, e, RelD.mono hi hs h1, RelDs.mono hi hs h2⟩
end
theorem RelD.step (a : Step ι H ι' H') {d : D} {v : V} (h : RelD K ι H d v) : RelD K ι' H' d v := h.mono (fun _ _ h => a.get h) fun _ _ h => a.sqT h
theorem RelDs.step (a : Step ι H ι' H') {xs : List D} {vs : List V} (h : RelDs K ι H xs vs) : RelDs K ι' H' xs vs := h.mono (fun _ _ h => a.get h) fun _ _ h => a.sqT h
theorem RelKV.step {κ : Type} (a : Step ι H ι' H') {xs : List (κ × D)} {vs : List (κ × V)} (h : RelKV K ι H xs vs) : RelKV K ι' H' xs vs := Paired.mapP h fun _ _ q => ⟨q.1, q.2.step a⟩
theorem REnv.step (a : Step ι H ι' H') {ρ : Env} {σ : L2.St} (h : REnv K ι H ρ σ) : REnv K ι' H' ρ σ := ⟨h.1, fun i d e => by
  obtain ⟨v, h1, h2⟩ := h.2 i d e
  exact ⟨v, h1, h2.step a⟩⟩

/-! ### lists of data -/
theorem RelDs.length : ∀ {xs : List D} {vs : List V}, RelDs K ι H xs vs → xs.length = vs.length
  | [], _, h => by simp only [RelDs] at h; subst h; rfl
  | x :: xs, vs, h => by
    simp only [RelDs] at h
    obtain ⟨v, r, rfl, _, h2⟩ := h
    simp [RelDs.length h2]
theorem RelDs.get : ∀ {xs : List D} {vs : List V} {i : Nat} {d : D}, RelDs K ι H xs vs → xs[i]? = some d → ∃ v, vs[i]? = some v ∧ RelD K ι H d v
  | [], _, _, _, _, e => by simp at e
  | x :: xs, vs, i, d, h, e => by
    simp only [RelDs] at h
    obtain ⟨v, r, rfl, h1, h2⟩ := h
    cases i with
    | zero => simp at e; subst e; exact ⟨v, rfl, h1⟩
    | succ i =>
      obtain ⟨w, e1, e2⟩ := RelDs.get (i := i) (d := d) h2 (by simpa using e)
      exact ⟨w, by simpa using e1, e2⟩
theorem RelDs.getV : ∀ {xs : List D} {vs : List V} {i : Nat} {v : V}, RelDs K ι H xs vs → vs[i]? = some v → ∃ d, xs[i]? = some d ∧ RelD K ι H d v
  | [], _, _, _, h, e => by simp only [RelDs] at h; subst h; simp at e
  | x :: xs, vs, i, d, h, e => by
    simp only [RelDs] at h
    obtain ⟨v, r, rfl, h1, h2⟩ := h
    cases i with
    | zero => simp at e; subst e; exact ⟨x, rfl, h1⟩
    | succ i =>
      obtain ⟨w, e1, e2⟩ := RelDs.getV (i := i) (v := d) h2 (by simpa using e)
      exact ⟨w, by simpa using e1, e2⟩
theorem RelDs.append : ∀ {xs ys : List D} {vs ws : List V}, RelDs K ι H xs vs → RelDs K ι H ys ws → RelDs K ι H (xs ++ ys) (vs ++ ws)
  | [], _, _, _, h, g => by simp only [RelDs] at h; subst h; exact g
  | x :: xs, ys, vs, ws, h, g => by
    simp only [RelDs] at h
    obtain ⟨v, r, rfl, h1, h2⟩ := h
    simp only [List.cons_append, RelDs]
    exact ⟨v, r ++ ws, rfl, h1, RelDs.append h2 g⟩
theorem RelDs.one {d : D} {v : V} (h : RelD K ι H d v) : RelDs K ι H [d] [v] := by
  simp only [RelDs]
  exact ⟨v, [], rfl, h, rfl⟩
theorem RelDs.nil : RelDs K ι H [] [] := by simp only [RelDs]
theorem RelDs.take : ∀ {xs : List D} {vs : List V} (n : Nat), RelDs K ι H xs vs → RelDs K ι H (xs.take n) (vs.take n)
  | _, _, 0, _ => by simp [RelDs]
  | [], _, n + 1, h => by simp only [RelDs] at h; subst h; simp [RelDs]
  | x :: xs, vs, n + 1, h => by
    simp only [RelDs] at h
    obtain ⟨v, r, rfl, h1, h2⟩ := h
    simp only [List.take_succ_cons, RelDs]
    exact ⟨v, r.take n, rfl, h1, RelDs.take n h2⟩
theorem RelDs.drop : ∀ {xs : List D} {vs : List V} (n : Nat), RelDs K ι H xs vs → RelDs K ι H (xs.drop n) (vs.drop n)
  | _, _, 0, h => by simpa using h
  | [], _, n + 1, h => by simp only [RelDs] at h; subst h; simp [RelDs]
  | x :: xs, vs, n + 1, h => by
    simp only [RelDs] at h
    obtain ⟨v, r, rfl, h1, h2⟩ := h
    simpa using RelDs.drop n h2
theorem RelDs.set : ∀ {xs : List D} {vs : List V} {d : D} {v : V} (i : Nat), RelDs K ι H xs vs → RelD K ι H d v → RelDs K ι H (xs.set i d) (vs.set i v)
  | [], _, _, _, _, h, _ => by simp only [RelDs] at h; subst h; simp [RelDs]
  | x :: xs, vs, d, v, 0, h, g => by
    simp only [RelDs] at h
    obtain ⟨w, r, rfl, h1, h2⟩ := h
    simp only [List.set_cons_zero, RelDs]
    exact ⟨v, r, rfl, g, h2⟩
  | x :: xs, vs, d, v, i + 1, h, g => by
    simp only [RelDs] at h
    obtain ⟨w, r, rfl, h1, h2⟩ := h
    simp only [List.set_cons_succ, RelDs]
    exact ⟨w, r.set i v, rfl, h1, RelDs.set i h2 g⟩
theorem RelDs.eraseIdx : ∀ {xs : List D} {vs : List V} (i : Nat), RelDs K ι H xs vs → RelDs K ι H (xs.eraseIdx i) (vs.eraseIdx i)
  | [], _, _, h => by simp only [RelDs] at h; subst h; simp [RelDs]
  | x :: xs, vs, 0, h => by
    simp only [RelDs] at h
    obtain ⟨w, r, rfl, h1, h2⟩ := h
    simpa using h2
  | x :: xs, vs, i + 1, h => by
    simp only [RelDs] at h
    obtain ⟨w, r, rfl, h1, h2⟩ := h
    simp only [List.eraseIdx_cons_succ, RelDs]
    exact ⟨w, r.eraseIdx i, rfl, h1, RelDs.eraseIdx i h2⟩
theorem RelDs.dropLast {xs : List D} {vs : List V} (h : RelDs K ι H xs vs) : RelDs K ι H xs.dropLast vs.dropLast := by
  rw [List.dropLast_eq_take, List.dropLast_eq_take, ← h.length]
  exact h.take _
theorem RelDs.reverse : ∀ {xs : List D} {vs : List V}, RelDs K ι H xs vs → RelDs K ι H xs.reverse vs.reverse
  | [], _, h => by simp only [RelDs] at h; subst h; simp [RelDs]
  | x :: xs, vs, h => by
    simp only [RelDs] at h
    obtain ⟨v, r, rfl, h1, h2⟩ := h
    rw [List.reverse_cons, List.reverse_cons]
    exact RelDs.append (RelDs.reverse h2) (.one h1)
theorem RelDs.reps {xs : List D} {vs : List V} (h : RelDs K ι H xs vs) : ∀ n : Nat, RelDs K ι H (List.replicate n xs).flatten (List.replicate n vs).flatten
  | 0 => by simp [RelDs]
  | n + 1 => by
    rw [List.replicate_succ, List.replicate_succ, List.flatten_cons, List.flatten_cons]
    exact h.append (RelDs.reps h n)
theorem RelDs.isEmpty {xs : List D} {vs : List V} (h : RelDs K ι H xs vs) : vs.isEmpty = xs.isEmpty := by
  have := h.length
  cases xs <;> cases vs <;> simp_all
theorem relDs_ints : ∀ ns : List Int, RelDs K ι H (ns.map D.int) (ns.map V.int)
  | [] => by simp [RelDs]
  | n :: ns => by simp only [List.map_cons, RelDs]; exact ⟨_, _, rfl, rfl, relDs_ints ns⟩

/-! ### the store -/
section
variable {M : Store}
theorem SR.at {i : Nat} {o : O} (s : SR K ι H M) (h : M[i]? = some o) : ∃ a, ι[i]? = some a ∧ OR K ι H o a := by
  have hl : i < M.length := (List.getElem?_eq_some_iff.mp h).1
  have hi : i < ι.length := by rw [s.len]; exact hl
  exact ⟨ι[i], by simp [hi], s.obj i o _ h (by simp [hi])⟩
theorem SR.ref {i : Nat} {o : O} {v : V} (s : SR K ι H M) (h : M[i]? = some o) (r : RelD K ι H (.ref i) v) : ∃ a, v = .ref a ∧ ι[i]? = some a ∧ OR K ι H o a := by
  simp only [RelD] at r
  obtain ⟨a, e, hi⟩ := r
  exact ⟨a, e, hi, s.obj i o a h hi⟩
theorem OR.mono (hi : ∀ (i : Nat) (x : Addr), ι[i]? = some x → ι'[i]? = some x) (hs : ∀ x vs, SqT K H x vs → SqT K H' x vs) (hr : ∀ x vs, RoL K H x vs → RoL K H' x vs) {o : O} {x : Addr} (hx : o.mut = true → ∀ u, H x = some u → H' x = some u) (h : OR K ι H o x) : OR K ι' H' o x := by
  cases o with
  | lst xs => obtain ⟨vs, e, r⟩ := h; exact ⟨vs, hx rfl _ e, r.mono hi hs⟩
  | ro xs => obtain ⟨vs, e, r⟩ := h; exact ⟨vs, hr _ _ e, r.mono hi hs⟩
  | dk kvs => obtain ⟨vs, e, r⟩ := h; exact ⟨vs, hx rfl _ e, Paired.mapP r fun _ _ q => ⟨q.1, q.2.mono hi hs⟩⟩
  | dt kvs => obtain ⟨vs, e, r⟩ := h; exact ⟨vs, hx rfl _ e, Paired.mapP r fun _ _ q => ⟨q.1, q.2.mono hi hs⟩⟩
  | ins c fs => exact h.elim
theorem OR.step (a : Step ι H ι' H') {o : O} {x : Addr} (hx : o.mut = true → ∀ u, H x = some u → H' x = some u) (h : OR K ι H o x) : OR K ι' H' o x := h.mono (fun _ _ h => a.get h) (fun _ _ h => a.sqT h) (fun _ _ h => a.roL h) hx
theorem OR.here {o : O} {x : Addr} (h : OR K ι H o x) (hm : o.mut = true) : ∃ u, H x = some u ∧ ¬ Imm u := by
  cases o with
  | lst xs => obtain ⟨vs, e, r⟩ := h; exact ⟨_, e, fun z => z⟩
  | ro xs => cases hm
  | dk kvs => obtain ⟨vs, e, r⟩ := h; exact ⟨_, e, fun z => z⟩
  | dt kvs => obtain ⟨vs, e, r⟩ := h; exact ⟨_, e, fun z => z⟩
  | ins c fs => exact h.elim
/-- a new thing is laid that the store does not hold -/
theorem Step.fresh {p : Addr} {u : HO} (hp : H p = none) : Step ι H ι (upd H p u) :=
  ⟨⟨[], by simp, by simp⟩, fun a o h _ => by rw [upd_ne (ne_of_none h hp)]; exact h, fun a o h _ => by rw [upd_ne (ne_of_none h hp)]; exact h, fun a h e => by
    by_cases hb : a = p
    · subst hb; exact h hp
    · rw [upd_ne hb] at e; exact h e⟩
theorem SR.same (s : SR K ι H M) (a : Step ι H ι H') (hx : ∀ (i : Nat) (x : Addr) (o : O) (u : HO), M[i]? = some o → ι[i]? = some x → o.mut = true → H x = some u → H' x = some u) : SR K ι H' M :=
  ⟨s.len, fun i o x h hi => (s.obj i o x h hi).step a fun hm u => hx i x o u h hi hm, s.inj, s.pos, s.kind⟩
theorem SR.fresh {p : Addr} {u : HO} (s : SR K ι H M) (hp : H p = none) : SR K ι (upd H p u) M :=
  s.same (Step.fresh hp) fun i x o w _ _ _ h => by rw [upd_ne (ne_of_none h hp)]; exact h
/-- .. that the store holds from now on -/
theorem Step.alloc {p : Addr} {u : HO} (hp : H p = none) : Step ι H (ι ++ [p]) (upd H p u) :=
  ⟨⟨[p], rfl, by simpa using hp⟩, (Step.fresh (ι := ι) hp).imm, (Step.fresh (ι := ι) hp).out, (Step.fresh (ι := ι) hp).dom⟩
theorem Step.more (t : List Addr) (h : ∀ p ∈ t, H p = none) : Step ι H (ι ++ t) H := ⟨⟨t, rfl, h⟩, fun _ _ h _ => h, fun _ _ h _ => h, fun _ h => h⟩
theorem SR.alloc {p : Addr} {u : HO} {o : O} (s : SR K ι H M) (hp : H p = none) (new : OR K (ι ++ [p]) (upd H p u) o p) (hm : o.mut = true) : SR K (ι ++ [p]) (upd H p u) (M ++ [o]) := by
  have st : Step ι H (ι ++ [p]) (upd H p u) := Step.alloc hp
  refine ⟨by simp [s.len], fun i q x h hi => ?_, fun i j x q q' h1 h2 h3 h4 m1 m2 => ?_, by simp, fun i q h => ?_⟩
  rotate_left 2
  · by_cases hl : i < M.length
    · rw [List.getElem?_append_left hl] at h
      exact s.kind i q h
    · rw [List.getElem?_append_right (by omega)] at h
      have e0 : i - M.length = 0 := by
        have := (List.getElem?_eq_some_iff.mp h).1
        simp at this; omega
      rw [e0] at h
      simp at h
      subst h
      have := s.pos
      exact ⟨fun _ => by omega, fun _ => hm⟩
  · by_cases hl : i < M.length
    · rw [List.getElem?_append_left hl] at h
      rw [List.getElem?_append_left (by rw [s.len]; exact hl)] at hi
      exact (s.obj i q x h hi).step st fun _ w hw => by rw [upd_ne (ne_of_none hw hp)]; exact hw
    · rw [List.getElem?_append_right (by omega)] at h
      rw [List.getElem?_append_right (by rw [s.len]; omega)] at hi
      have e0 : i - M.length = 0 := by
        have := (List.getElem?_eq_some_iff.mp h).1
        simp at this; omega
      rw [e0] at h
      rw [s.len, e0] at hi
      simp at h hi
      subst h hi
      exact new
  · have key : ∀ k y r, (ι ++ [p])[k]? = some y → (M ++ [o])[k]? = some r → r.mut = true → (k < M.length ∧ ι[k]? = some y ∧ M[k]? = some r ∧ y ≠ p) ∨ (k = M.length ∧ y = p) := fun k y r e1 e2 hm => by
      by_cases hl : k < M.length
      · rw [List.getElem?_append_left hl] at e2
        rw [List.getElem?_append_left (by rw [s.len]; exact hl)] at e1
        obtain ⟨w, hw, _⟩ := (s.obj k r y e2 e1).here hm
        exact .inl ⟨hl, e1, e2, ne_of_none hw hp⟩
      · rw [List.getElem?_append_right (by omega)] at e2
        rw [List.getElem?_append_right (by rw [s.len]; omega)] at e1
        have e0 : k - M.length = 0 := by
          have := (List.getElem?_eq_some_iff.mp e2).1
          simp at this; omega
        rw [s.len, e0] at e1
        simp at e1
        exact .inr ⟨by omega, e1.symm⟩
    rcases key i x q h1 h3 m1 with ⟨_, a1, a2, a3⟩ | ⟨a1, a2⟩
    · rcases key j x q' h2 h4 m2 with ⟨_, b1, b2, b3⟩ | ⟨b1, b2⟩
      · exact s.inj i j x q q' a1 b1 a2 b2 m1 m2
      · exact absurd b2 a3
    · rcases key j x q' h2 h4 m2 with ⟨_, b1, b2, b3⟩ | ⟨b1, b2⟩
      · exact absurd a2 b3
      · omega
/-- an object of the store is written -/
theorem Step.write {i : Nat} {x : Addr} {o : O} {u : HO} (s : SR K ι H M) (h : M[i]? = some o) (hm : o.mut = true) (hi : ι[i]? = some x) : Step ι H ι (upd H x u) := by
  obtain ⟨w, hw, ni⟩ := (s.obj i o x h hi).here hm
  refine ⟨⟨[], by simp, by simp⟩, fun a q e im => ?_, fun a q e n => ?_, fun a e => ?_⟩
  · rw [upd_ne]
    · exact e
    · rintro rfl
      rw [hw] at e; cases e; exact ni im
  · rw [upd_ne]
    · exact e
    · rintro rfl
      have h0 := (s.kind i o h).mp hm
      refine n (List.mem_of_getElem? (i := i - 1) ?_)
      rw [List.getElem?_drop, show 1 + (i - 1) = i by omega]
      exact hi
  · by_cases hb : a = x
    · subst hb; rw [upd_same]; simp
    · rw [upd_ne hb]; exact e
theorem SR.write {i : Nat} {x : Addr} {o o' : O} {u : HO} (s : SR K ι H M) (h : M[i]? = some o) (hm : o.mut = true) (hi : ι[i]? = some x) (new : OR K ι (upd H x u) o' x) (hm' : o'.mut = true) : SR K ι (upd H x u) (M.set i o') := by
  have st : Step ι H ι (upd H x u) := Step.write s h hm hi
  have hil : i < M.length := (List.getElem?_eq_some_iff.mp h).1
  refine ⟨by simp [s.len], fun j q y hj hy => ?_, fun j k y q q' h1 h2 h3 h4 m1 m2 => ?_, by simpa using s.pos, fun j q hj => ?_⟩
  rotate_left 2
  · by_cases e : i = j
    · subst e
      rw [List.getElem?_set_self hil] at hj
      cases hj
      exact ⟨fun _ => (s.kind i o h).mp hm, fun _ => hm'⟩
    · rw [List.getElem?_set_ne e] at hj
      exact s.kind j q hj
  · by_cases e : i = j
    · subst e
      rw [List.getElem?_set_self hil] at hj
      rw [hi] at hy
      cases hj; cases hy
      exact new
    · rw [List.getElem?_set_ne e] at hj
      refine (s.obj j q y hj hy).step st fun hmq w hw => ?_
      rw [upd_ne]
      · exact hw
      · rintro rfl
        exact e (s.inj i j y o q hi hy h hj hm hmq)
  · have key : ∀ (k : Nat) (r : O), (M.set i o')[k]? = some r → r.mut = true → ∃ r' : O, M[k]? = some r' ∧ r'.mut = true := fun k r e m => by
      by_cases z : i = k
      · subst z; exact ⟨o, h, hm⟩
      · rw [List.getElem?_set_ne z] at e; exact ⟨r, e, m⟩
    obtain ⟨r1, a1, a2⟩ := key j q h3 m1
    obtain ⟨r2, b1, b2⟩ := key k q' h4 m2
    exact s.inj j k y r1 r2 h1 h2 a1 b1 a2 b2
end
end

/-! ### which places a datum names -/
mutual
def D.under (n : Nat) : D → Prop
  | .tup xs => D.unders n xs
  | .ref i => i < n
  | .non => True
  | .bl _ => True
  | .int _ => True
  | .str _ => True
def D.unders (n : Nat) : List D → Prop
  | [] => True
  | x :: xs => D.under n x ∧ D.unders n xs
end
def O.under (n : Nat) : O → Prop
  | .lst xs => D.unders n xs
  | .ro xs => D.unders n xs
  | .dk kvs => ∀ p ∈ kvs, D.under n p.2
  | .dt kvs => ∀ p ∈ kvs, D.under n p.2
  | .ins _ fs => ∀ p ∈ fs, D.under n p.2
theorem D.unders_mem {n : Nat} : ∀ {xs : List D}, D.unders n xs ↔ ∀ x ∈ xs, x.under n
  | [] => by simp [D.unders]
  | x :: xs => by simp only [D.unders, D.unders_mem (xs := xs), List.mem_cons, forall_eq_or_imp]
mutual
theorem D.pure_under {n : Nat} : ∀ {d : D}, d.pure = true → d.under n
  | .tup xs, h => by simp only [D.pure] at h; simp only [D.under]; exact D.pures_under h
  | .ref i, h => by simp [D.pure] at h
  | .non, _ => by simp only [D.under]
  | .bl _, _ => by simp only [D.under]
  | .int _, _ => by simp only [D.under]
  | .str _, _ => by simp only [D.under]
theorem D.pures_under {n : Nat} : ∀ {xs : List D}, D.pures xs = true → D.unders n xs
  | [], _ => by simp only [D.unders]
  | x :: xs, h => by
    simp only [D.pures, Bool.and_eq_true] at h
    simp only [D.unders]
    exact ⟨D.pure_under h.1, D.pures_under h.2⟩
end
theorem D.pures_mem : ∀ {xs : List D}, D.pures xs = true ↔ ∀ x ∈ xs, x.pure = true
  | [] => by simp [D.pures]
  | x :: xs => by simp only [D.pures, Bool.and_eq_true, D.pures_mem (xs := xs), List.mem_cons, forall_eq_or_imp]
theorem O.pure_under {n : Nat} {o : O} (h : o.pure = true) : o.under n := by
  cases o with
  | lst xs => exact D.pures_under h
  | ro xs => exact D.pures_under h
  | dk kvs => exact fun p hp => D.pure_under (List.all_eq_true.mp h p hp)
  | dt kvs => exact fun p hp => D.pure_under (List.all_eq_true.mp h p hp)
  | ins c fs => exact fun p hp => D.pure_under (List.all_eq_true.mp h p hp)
mutual
theorem D.under_mono {n m : Nat} (hn : n ≤ m) : ∀ {d : D}, d.under n → d.under m
  | .tup xs, h => by simp only [D.under] at h ⊢; exact D.unders_mono hn h
  | .ref i, h => by simp only [D.under] at h ⊢; omega
  | .non, _ => by simp only [D.under]
  | .bl _, _ => by simp only [D.under]
  | .int _, _ => by simp only [D.under]
  | .str _, _ => by simp only [D.under]
theorem D.unders_mono {n m : Nat} (hn : n ≤ m) : ∀ {xs : List D}, D.unders n xs → D.unders m xs
  | [], _ => by simp only [D.unders]
  | x :: xs, h => by
    simp only [D.unders] at h ⊢
    exact ⟨D.under_mono hn h.1, D.unders_mono hn h.2⟩
end
/-- the objects below b name places below b alone -/
def Below (b : Nat) (M : Store) : Prop := ∀ (i : Nat) (o : O), i < b → M[i]? = some o → o.under b
section
variable {K : PySem.W.Frag} {ι ι' : List Addr} {H : Hp} {M : Store}
mutual
theorem RelD.under : ∀ {d : D} {v : V}, RelD K ι H d v → d.under ι.length
  | .tup xs, v, h => by
    simp only [RelD] at h
    obtain ⟨_, vs, _, _, h⟩ := h
    simp only [D.under]; exact RelDs.under h
  | .ref i, v, h => by
    simp only [RelD] at h
    obtain ⟨_, _, h⟩ := h
    simp only [D.under]; exact (List.getElem?_eq_some_iff.mp h).1
  | .non, _, _ => by simp only [D.under]
  | .bl _, _, _ => by simp only [D.under]
  | .int _, _, _ => by simp only [D.under]
  | .str _, _, _ => by simp only [D.under]
theorem RelDs.under : ∀ {xs : List D} {vs : List V}, RelDs K ι H xs vs → D.unders ι.length xs
  | [], _, _ => by simp only [D.unders]
  | x :: xs, vs, h => by
    simp only [RelDs] at h
    obtain ⟨_, _, _, h1, h2⟩ := h
    simp only [D.unders]
    exact ⟨RelD.under h1, RelDs.under h2⟩
end
theorem Paired.memL {α β : Type} {F : α → β → Prop} : ∀ {l : List α} {r : List β}, Paired F l r → ∀ x ∈ l, ∃ y ∈ r, F x y
  | _, _, .nil, x, h => by cases h
  | _, _, .cons q t, x, h => by
    rcases List.mem_cons.mp h with rfl | h
    · exact ⟨_, List.mem_cons_self, q⟩
    · obtain ⟨y, hy, f⟩ := Paired.memL t x h
      exact ⟨y, List.mem_cons_of_mem _ hy, f⟩
theorem OR.under {o : O} {a : Addr} (h : OR K ι H o a) : o.under ι.length := by
  cases o with
  | lst xs => obtain ⟨_, _, r⟩ := h; exact r.under
  | ro xs => obtain ⟨_, _, r⟩ := h; exact r.under
  | dk kvs => obtain ⟨_, _, r⟩ := h; exact fun p hp => let ⟨_, _, f⟩ := Paired.memL r p hp; f.2.under
  | dt kvs => obtain ⟨_, _, r⟩ := h; exact fun p hp => let ⟨_, _, f⟩ := Paired.memL r p hp; f.2.under
  | ins c fs => exact h.elim
theorem SR.belowAll (s : SR K ι H M) : Below M.length M := fun i o _ h => by
  obtain ⟨a, _, q⟩ := s.at h
  rw [← s.len]; exact q.under
-- names that lie within a shorter list
mutual
theorem RelD.cut {n : Nat} : ∀ {d : D} {v : V}, RelD K ι H d v → d.under n → RelD K (ι.take n) H d v
  | .non, _, h, _ => by simpa only [RelD] using h
  | .bl _, _, h, _ => by simpa only [RelD] using h
  | .int _, _, h, _ => by simpa only [RelD] using h
  | .str _, _, h, _ => by simpa only [RelD] using h
  | .tup xs, v, h, b => by
    simp only [RelD] at h ⊢
    simp only [D.under] at b
    obtain ⟨x, vs, e, hs, hr⟩ := h
    exact ⟨x, vs, e, hs, RelDs.cut hr b⟩
  | .ref i, v, h, b => by
    simp only [RelD] at h ⊢
    simp only [D.under] at b
    obtain ⟨x, e, hs⟩ := h
    exact ⟨x, e, by rw [List.getElem?_take_of_lt b]; exact hs⟩
theorem RelDs.cut {n : Nat} : ∀ {xs : List D} {vs : List V}, RelDs K ι H xs vs → D.unders n xs → RelDs K (ι.take n) H xs vs
  | [], _, h, _ => by simpa only [RelDs] using h
  | x :: xs, vs, h, b => by
    simp only [RelDs] at h ⊢
    simp only [D.unders] at b
    obtain ⟨v, r, e, h1, h2⟩ := h
    exact ⟨v, r, e, RelD.cut h1 b.1, RelDs.cut h2 b.2⟩
end
mutual
theorem RelD.anyI : ∀ {d : D} {v : V}, RelD K ι H d v → d.pure = true → RelD K ι' H d v
  | .non, _, h, _ => by simpa only [RelD] using h
  | .bl _, _, h, _ => by simpa only [RelD] using h
  | .int _, _, h, _ => by simpa only [RelD] using h
  | .str _, _, h, _ => by simpa only [RelD] using h
  | .tup xs, v, h, b => by
    simp only [RelD] at h ⊢
    simp only [D.pure] at b
    obtain ⟨x, vs, e, hs, hr⟩ := h
    exact ⟨x, vs, e, hs, RelDs.anyI hr b⟩
  | .ref i, v, h, b => by simp [D.pure] at b
theorem RelDs.anyI : ∀ {xs : List D} {vs : List V}, RelDs K ι H xs vs → D.pures xs = true → RelDs K ι' H xs vs
  | [], _, h, _ => by simpa only [RelDs] using h
  | x :: xs, vs, h, b => by
    simp only [RelDs] at h ⊢
    simp only [D.pures, Bool.and_eq_true] at b
    obtain ⟨v, r, e, h1, h2⟩ := h
    exact ⟨v, r, e, RelD.anyI h1 b.1, RelDs.anyI h2 b.2⟩
end
theorem Paired.mapM {α β : Type} {F G : α → β → Prop} : ∀ {l : List α} {r : List β}, Paired F l r → (∀ a b, a ∈ l → F a b → G a b) → Paired G l r
  | _, _, .nil, _ => .nil
  | _, _, .cons q t, f => .cons (f _ _ List.mem_cons_self q) (Paired.mapM t fun a b h => f a b (List.mem_cons_of_mem _ h))
theorem OR.cut {n : Nat} {o : O} {a : Addr} (h : OR K ι H o a) (b : o.under n) : OR K (ι.take n) H o a := by
  cases o with
  | lst xs => obtain ⟨vs, e, r⟩ := h; exact ⟨vs, e, r.cut b⟩
  | ro xs => obtain ⟨vs, e, r⟩ := h; exact ⟨vs, e, r.cut b⟩
  | dk kvs => obtain ⟨vs, e, r⟩ := h; exact ⟨vs, e, Paired.mapM r fun p q hp f => ⟨f.1, f.2.cut (b p hp)⟩⟩
  | dt kvs => obtain ⟨vs, e, r⟩ := h; exact ⟨vs, e, Paired.mapM r fun p q hp f => ⟨f.1, f.2.cut (b p hp)⟩⟩
  | ins c fs => exact h.elim
theorem OR.anyI {o : O} {a : Addr} (h : OR K ι H o a) (b : o.pure = true) : OR K ι' H o a := by
  cases o with
  | lst xs => obtain ⟨vs, e, r⟩ := h; exact ⟨vs, e, r.anyI b⟩
  | ro xs => obtain ⟨vs, e, r⟩ := h; exact ⟨vs, e, r.anyI b⟩
  | dk kvs => obtain ⟨vs, e, r⟩ := h; exact ⟨vs, e, Paired.mapM r fun p q hp f => ⟨f.1, f.2.anyI (List.all_eq_true.mp b p hp)⟩⟩
  | dt kvs => obtain ⟨vs, e, r⟩ := h; exact ⟨vs, e, Paired.mapM r fun p q hp f => ⟨f.1, f.2.anyI (List.all_eq_true.mp b p hp)⟩⟩
  | ins c fs => exact h.elim
/-- the store cut at n -/
theorem SR.cut {n : Nat} (s : SR K ι H M) (b : Below n M) (h0 : 0 < n) : SR K (ι.take n) H (M.take n) := by
  refine ⟨by simp [s.len], fun i o a h hi => ?_, fun i j a o o' h1 h2 h3 h4 m1 m2 => ?_, by have := s.pos; simp; omega, fun i o h => ?_⟩
  rotate_left 2
  · have hin : i < n := by
      have := (List.getElem?_eq_some_iff.mp h).1
      rw [List.length_take] at this; omega
    rw [List.getElem?_take_of_lt hin] at h
    exact s.kind i o h
  · have hin : i < n := by
      have := (List.getElem?_eq_some_iff.mp h).1
      rw [List.length_take] at this; omega
    rw [List.getElem?_take_of_lt hin] at h hi
    exact (s.obj i o a h hi).cut (b i o hin h)
  · have lt : ∀ k r, (M.take n)[k]? = some r → k < n := fun k r e => by
      have := (List.getElem?_eq_some_iff.mp e).1
      rw [List.length_take] at this; omega
    have l1 := lt _ _ h3
    have l2 := lt _ _ h4
    rw [List.getElem?_take_of_lt l1] at h1 h3
    rw [List.getElem?_take_of_lt l2] at h2 h4
    exact s.inj i j a o o' h1 h2 h3 h4 m1 m2
/-- .. and one pure object more -/
theorem SR.cutOne {n j : Nat} {o : O} {a : Addr} (s : SR K ι H M) (b : Below n M) (h0 : 0 < n) (hn : n ≤ j) (h : M[j]? = some o) (hi : ι[j]? = some a) (hp : o.pure = true) : SR K (ι.take n ++ [a]) H (M.take n ++ [o]) := by
  have hj : j < M.length := (List.getElem?_eq_some_iff.mp h).1
  have hl : (ι.take n).length = n := by rw [List.length_take, s.len]; omega
  have hl' : (M.take n).length = n := by rw [List.length_take]; omega
  have sc := s.cut b h0
  have key : ∀ k x r, (ι.take n ++ [a])[k]? = some x → (M.take n ++ [o])[k]? = some r → (k < n ∧ (ι.take n)[k]? = some x ∧ (M.take n)[k]? = some r ∧ ι[k]? = some x ∧ M[k]? = some r) ∨ (k = n ∧ x = a ∧ r = o) := fun k x r e1 e2 => by
    by_cases hk : k < n
    · rw [List.getElem?_append_left (by omega)] at e1 e2
      exact .inl ⟨hk, e1, e2, by rw [List.getElem?_take_of_lt hk] at e1; exact e1, by rw [List.getElem?_take_of_lt hk] at e2; exact e2⟩
    · rw [List.getElem?_append_right (by omega)] at e1 e2
      have e0 : k - n = 0 := by
        have := (List.getElem?_eq_some_iff.mp e2).1
        rw [hl'] at this; simp at this; omega
      rw [hl, e0] at e1
      rw [hl', e0] at e2
      simp at e1 e2
      exact .inr ⟨by omega, e1.symm, e2.symm⟩
  refine ⟨by simp [hl, hl'], fun i q x e1 e2 => ?_, fun i k x q q' h1 h2 h3 h4 m1 m2 => ?_, by simp, fun i q e => ?_⟩
  rotate_left 2
  · by_cases hk : i < n
    · rw [List.getElem?_append_left (by omega)] at e
      exact sc.kind i q e
    · rw [List.getElem?_append_right (by omega)] at e
      have e0 : i - n = 0 := by
        have := (List.getElem?_eq_some_iff.mp e).1
        rw [hl'] at this; simp at this; omega
      rw [hl', e0] at e
      simp at e
      subst e
      exact ⟨fun _ => by omega, fun _ => (s.kind j _ h).mpr (by omega)⟩
  · rcases key i x q e2 e1 with ⟨hk, a1, a2, _, _⟩ | ⟨_, rfl, rfl⟩
    · have r := sc.obj i q x a2 a1
      refine r.mono (fun k y e => ?_) (fun _ _ h => h) (fun _ _ h => h) fun _ _ h => h
      rw [List.getElem?_append_left (List.getElem?_eq_some_iff.mp e).1]; exact e
    · exact (s.obj j _ _ h hi).anyI hp
  · rcases key i x q h1 h3 with ⟨hk, _, _, a3, a4⟩ | ⟨a1, a2, a3⟩
    · rcases key k x q' h2 h4 with ⟨_, _, _, b3, b4⟩ | ⟨b1, b2, b3⟩
      · exact s.inj i k x q q' a3 b3 a4 b4 m1 m2
      · subst b2 b3
        have := s.inj i j _ q _ a3 hi a4 h m1 m2
        omega
    · rcases key k x q' h2 h4 with ⟨_, _, _, b3, b4⟩ | ⟨b1, b2, b3⟩
      · subst a2 a3
        have := s.inj k j _ q' _ b3 hi b4 h m2 m1
        omega
      · omega
end
end Sk
end
section
set_option Elab.async false
set_option linter.all false
set_option autoImplicit false
set_option maxRecDepth 100000
/-! SkB: operators by values. -/
namespace Sk
open PySem PySem.Spec PyProof.Rows L2

/-! ### data as the library's data -/
mutual
def D.toP : D → PyData
  | .non => .none
  | .bl b => .bool b
  | .int i => .int i
  | .str s => .str s
  | .tup xs => .tuple (D.toPs xs)
  | .ref _ => .none
def D.toPs : List D → List PyData
  | [] => []
  | x :: xs => x.toP :: D.toPs xs
end
theorem D.toPs_map : ∀ xs : List D, D.toPs xs = xs.map D.toP
  | [] => by simp [D.toPs]
  | x :: xs => by simp [D.toPs, D.toPs_map xs]
section
variable {K : PySem.W.Frag} {ι ι' : List Addr} {H H' : Hp} {M : Store}
mutual
theorem RelD.dp : ∀ {d : D} {v : V}, RelD K ι H d v → d.pure = true → Dp K H v d.toP
  | .non, v, h, _ => by simp only [RelD] at h; subst h; simp only [D.toP]; exact .non
  | .bl _, v, h, _ => by simp only [RelD] at h; subst h; simp only [D.toP]; exact .bl _
  | .int _, v, h, _ => by simp only [RelD] at h; subst h; simp only [D.toP]; exact .int _
  | .str _, v, h, _ => by simp only [RelD] at h; obtain ⟨rfl, _⟩ := h; simp only [D.toP]; exact .str _
  | .tup xs, v, h, p => by
    simp only [RelD] at h
    simp only [D.pure] at p
    obtain ⟨a, vs, rfl, hs, hr⟩ := h
    simp only [D.toP]
    exact .tup hs (RelDs.dp hr p)
  | .ref i, v, h, p => by simp [D.pure] at p
theorem RelDs.dp : ∀ {xs : List D} {vs : List V}, RelDs K ι H xs vs → D.pures xs = true → DpAll K H vs (D.toPs xs)
  | [], _, h, _ => by simp only [RelDs] at h; subst h; simp only [D.toPs]; exact .nil
  | x :: xs, vs, h, p => by
    simp only [RelDs] at h
    simp only [D.pures, Bool.and_eq_true] at p
    obtain ⟨v, r, rfl, h1, h2⟩ := h
    simp only [D.toPs]
    exact .cons (RelD.dp h1 p.1) (RelDs.dp h2 p.2)
end
mutual
theorem RelD.lay : ∀ {d : D} {v : V}, RelD K ι H d v → d.toP.canLay0 = true
  | .non, v, h => by simp [D.toP, PyData.canLay0]
  | .bl _, v, h => by simp [D.toP, PyData.canLay0]
  | .int _, v, h => by simp [D.toP, PyData.canLay0]
  | .str _, v, h => by simp only [RelD] at h; simp [D.toP, PyData.canLay0, h.2.2]
  | .tup xs, v, h => by
    simp only [RelD] at h
    obtain ⟨a, vs, rfl, hs, hr⟩ := h
    simp only [D.toP, PyData.canLay0]
    exact RelDs.lay hr
  | .ref i, v, h => by simp [D.toP, PyData.canLay0]
theorem RelDs.lay : ∀ {xs : List D} {vs : List V}, RelDs K ι H xs vs → PyData.canLayAll0 (D.toPs xs) = true
  | [], _, h => by simp [D.toPs, PyData.canLayAll0]
  | x :: xs, vs, h => by
    simp only [RelDs] at h
    obtain ⟨v, r, rfl, h1, h2⟩ := h
    simp only [D.toPs, PyData.canLayAll0, Bool.and_eq_true]
    exact ⟨RelD.lay h1, RelDs.lay h2⟩
end
mutual
theorem D.dle_depth : ∀ {d : D} {n : Nat}, d.dle n = true → d.toP.depth ≤ n
  | .non, _, _ => by simp [D.toP, PyData.depth]
  | .bl _, _, _ => by simp [D.toP, PyData.depth]
  | .int _, _, _ => by simp [D.toP, PyData.depth]
  | .str _, _, _ => by simp [D.toP, PyData.depth]
  | .ref _, _, _ => by simp [D.toP, PyData.depth]
  | .tup xs, n, h => by
    cases n with
    | zero => simp [D.dle] at h
    | succ n =>
      simp only [D.dle] at h
      simp only [D.toP, PyData.depth]
      have := D.dles_depth h
      omega
theorem D.dles_depth : ∀ {xs : List D} {n : Nat}, D.dles xs n = true → PyData.depthAll (D.toPs xs) ≤ n
  | [], _, _ => by simp [D.toPs, PyData.depthAll]
  | x :: xs, n, h => by
    simp only [D.dles, Bool.and_eq_true] at h
    have h1 := D.dle_depth h.1
    have h2 := D.dles_depth h.2
    simp only [D.toPs, PyData.depthAll]
    omega
end
theorem RelD.shaped {d : D} {v : V} (h : RelD K ι H d v) (hd : d.dle 50 = true) : SeqAt.shaped d.toP = true := by
  have := D.dle_depth hd
  show (d.toP.canLay0 && decide (d.toP.depth ≤ 64)) = true
  rw [h.lay, Bool.true_and]
  exact decide_eq_true (by omega)
theorem RelDs.shapedL {xs : List D} {vs : List V} (h : RelDs K ι H xs vs) (hd : D.dles xs 50 = true) : SeqAt.shaped (.list (D.toPs xs)) = true := by
  have := D.dles_depth hd
  show ((PyData.list (D.toPs xs)).canLay0 && decide ((PyData.list (D.toPs xs)).depth ≤ 64)) = true
  simp only [PyData.canLay0, PyData.depth, h.lay, Bool.true_and]
  exact decide_eq_true (by omega)
theorem RelDs.shapedT {xs : List D} {vs : List V} (h : RelDs K ι H xs vs) (hd : D.dles xs 50 = true) : SeqAt.shaped (.tuple (D.toPs xs)) = true := by
  have := D.dles_depth hd
  show ((PyData.tuple (D.toPs xs)).canLay0 && decide ((PyData.tuple (D.toPs xs)).depth ≤ 64)) = true
  simp only [PyData.canLay0, PyData.depth, h.lay, Bool.true_and]
  exact decide_eq_true (by omega)
mutual
theorem D.eqv_toP : ∀ {a b : D}, a.pure = true → b.pure = true → PyData.eqv a.toP b.toP = D.eqv a b
  | .non, b, _, hb => by cases b <;> simp_all [D.toP, D.eqv, PyData.eqv, D.pure]
  | .bl x, b, _, hb => by cases b <;> simp_all [D.toP, D.eqv, PyData.eqv, D.pure]
  | .int i, b, _, hb => by cases b <;> simp_all [D.toP, D.eqv, PyData.eqv, D.pure]
  | .str s, b, _, hb => by cases b <;> simp_all [D.toP, D.eqv, PyData.eqv, D.pure]
  | .ref i, b, h, hb => by simp [D.pure] at h
  | .tup xs, b, h, hb => by
    cases b with
    | tup ys =>
      simp only [D.pure] at h hb
      simp only [D.toP, D.eqv, PyData.eqv]
      exact D.eqvs_toP h hb
    | ref i => simp [D.pure] at hb
    | _ => simp [D.toP, D.eqv, PyData.eqv]
theorem D.eqvs_toP : ∀ {xs ys : List D}, D.pures xs = true → D.pures ys = true → PyData.eqvAll (D.toPs xs) (D.toPs ys) = D.eqvs xs ys
  | [], ys, _, _ => by cases ys <;> simp [D.toPs, D.eqvs, PyData.eqvAll]
  | x :: xs, ys, h, g => by
    cases ys with
    | nil => simp [D.toPs, D.eqvs, PyData.eqvAll]
    | cons y ys =>
      simp only [D.pures, Bool.and_eq_true] at h g
      simp only [D.toPs, D.eqvs, PyData.eqvAll]
      rw [D.eqv_toP h.1 g.1, D.eqvs_toP h.2 g.2]
end
mutual
theorem D.alike_toP : ∀ {a b : D}, D.alike a b = true → PySem.W.alike a.toP b.toP = true
  | .non, b, h => by cases b <;> simp_all [D.toP, D.alike, PySem.W.alike]
  | .bl x, b, h => by cases b <;> simp_all [D.toP, D.alike, PySem.W.alike]
  | .int i, b, h => by cases b <;> simp_all [D.toP, D.alike, PySem.W.alike]
  | .str s, b, h => by cases b <;> simp_all [D.toP, D.alike, PySem.W.alike]
  | .ref i, b, h => by simp [D.alike] at h
  | .tup xs, b, h => by
    cases b with
    | tup ys =>
      simp only [D.alike] at h
      simp only [D.toP, PySem.W.alike]
      exact D.alikes_toP h
    | _ => simp [D.alike] at h
theorem D.alikes_toP : ∀ {xs ys : List D}, D.alikes xs ys = true → PySem.W.alikeAll (D.toPs xs) (D.toPs ys) = true
  | [], ys, _ => by simp [D.toPs, PySem.W.alikeAll]
  | x :: xs, ys, h => by
    cases ys with
    | nil => simp [D.toPs, PySem.W.alikeAll]
    | cons y ys =>
      simp only [D.alikes, Bool.and_eq_true] at h
      simp only [D.toPs, PySem.W.alikeAll, Bool.and_eq_true]
      exact ⟨D.alike_toP h.1, D.alikes_toP h.2⟩
end
theorem lex_ends (l : List (Int ⊕ List Nat)) : PyProof.Rows.lexLt itemOrd [Sum.inl 0] (Sum.inl 1 :: l) = true ∧ PyProof.Rows.lexLt itemOrd (Sum.inl 1 :: l) [Sum.inl 0] = false ∧ PyProof.Rows.lexLt itemOrd [(Sum.inl 0 : Int ⊕ List Nat)] [Sum.inl 0] = false := by
  have h1 := PySem.W.lex_atom (p := Sum.inl 0) (q := Sum.inl 1) (by intro z; cases z) ([] : List (Int ⊕ List Nat)) l
  have h2 := PySem.W.lex_atom (p := Sum.inl 1) (q := Sum.inl 0) (by intro z; cases z) l ([] : List (Int ⊕ List Nat))
  rw [h1, h2, PySem.W.lex_one, PySem.W.lex_one, PySem.W.lex_one]
  refine ⟨?_, ?_, ?_⟩ <;> rfl
mutual
theorem D.lt_toP : ∀ {a b : D}, D.alike a b = true → a.pure = true → b.pure = true → PySem.W.dataLt a.toP b.toP = D.lt a b
  | .non, b, h, _, _ => by
    cases b <;> simp_all [D.alike]
    simp only [D.toP, D.lt]; rfl
  | .bl x, b, h, _, _ => by
    cases b <;> simp_all [D.alike]
    rename_i y _
    simp only [D.toP, D.lt, PySem.W.dataLt_bool]
    cases x <;> cases y <;> rfl
  | .int i, b, h, _, _ => by
    cases b <;> simp_all [D.alike]
    simp only [D.toP, D.lt, PySem.W.dataLt_int]
  | .str s, b, h, _, _ => by
    cases b <;> simp_all [D.alike]
    simp only [D.toP, D.lt, PySem.W.dataLt_str]
  | .ref i, b, h, _, _ => by simp [D.alike] at h
  | .tup xs, b, h, p, q => by
    cases b with
    | tup ys =>
      simp only [D.alike] at h
      simp only [D.pure] at p q
      simp only [D.toP, D.lt, PySem.W.dataLt_tuple]
      exact D.lts_toP h p q
    | _ => simp [D.alike] at h
theorem D.lts_toP : ∀ {xs ys : List D}, D.alikes xs ys = true → D.pures xs = true → D.pures ys = true → PyProof.Rows.lexLt itemOrd (PySem.W.keyToksAll (D.toPs xs)) (PySem.W.keyToksAll (D.toPs ys)) = D.lts xs ys
  | [], ys, _, _, _ => by
    cases ys with
    | nil => simp only [D.toPs, D.lts, PySem.W.keyToksAll]; exact (lex_ends []).2.2
    | cons y ys => simp only [D.toPs, D.lts, PySem.W.keyToksAll]; exact (lex_ends _).1
  | x :: xs, ys, h, p, q => by
    cases ys with
    | nil => simp only [D.toPs, D.lts, PySem.W.keyToksAll]; exact (lex_ends _).2.1
    | cons y ys =>
      simp only [D.alikes, Bool.and_eq_true] at h
      simp only [D.pures, Bool.and_eq_true] at p q
      simp only [D.toPs, D.lts]
      have ha := D.alike_toP h.1
      have he := D.eqv_toP p.1 q.1
      cases e : D.eqv x y with
      | true =>
        rw [e] at he
        rw [PySem.W.dataLt_all_yes ha he, if_pos rfl]
        exact D.lts_toP h.2 p.2 q.2
      | false =>
        rw [e] at he
        rw [PySem.W.dataLt_all_no ha he, if_neg (by simp)]
        exact D.lt_toP h.1 p.1 q.1
end
theorem D.toP_ne_none {d : D} (h : d.isNon = false) (p : d.pure = true) : d.toP ≠ .none := by
  cases d <;> simp_all [D.isNon, D.toP, D.pure]
end

/-! ### results -/
section
variable (K : PySem.W.Frag) (ι : List Addr) (H : Hp)
/-- what is wanted of a result -/
def OkR (Q : VK) : Res D → Prop
  | .ok d M' => ∀ ι' H' v, Step ι H ι' H' → SR K ι' H' M' → RelD K ι' H' d v → Q v H'
  | _ => False
/-- a binary operator by data -/
def rB (f : D → D → Store → Res D) : R2 := fun x y H Q => ∃ ι M a b, SR K ι H M ∧ RelD K ι H a x ∧ RelD K ι H b y ∧ OkR K ι H Q (f a b M)
def rA (f : List D → Store → Res D) : List V → Hp → VK → Prop := fun vs H Q => ∃ ι M ds, SR K ι H M ∧ RelDs K ι H ds vs ∧ OkR K ι H Q (f ds M)
def rMt (f : D → List D → Store → Res D) : V → List V → Hp → VK → Prop := fun x vs H Q => ∃ ι M a ds, SR K ι H M ∧ RelD K ι H a x ∧ RelDs K ι H ds vs ∧ OkR K ι H Q (f a ds M)
end
section
variable {K : PySem.W.Frag} {ι ι' : List Addr} {H H' : Hp} {M : Store}
theorem OkR.same {Q : VK} {d : D} {v : V} (h : OkR K ι H Q (.ok d M)) (s : SR K ι H M) (r : RelD K ι H d v) : Q v H := h ι H v .refl s r
/-- a new object, held by the store -/
theorem OkR.new {Q : VK} {o : O} {u : HO} {p : Addr} (h : OkR K ι H Q (alloc M o)) (s : SR K ι H M) (hp : H p = none) (hm : o.mut = true) (new : OR K (ι ++ [p]) (upd H p u) o p) : Q (.ref p) (upd H p u) := by
  refine h (ι ++ [p]) (upd H p u) (.ref p) (Step.alloc hp) (s.alloc hp new hm) ?_
  simp only [RelD]
  exact ⟨p, rfl, by rw [List.getElem?_append_right (by rw [s.len]; exact Nat.le_refl _), s.len]; simp⟩
/-- a new tuple -/
theorem OkR.newT {Q : VK} {xs : List D} {vs : List V} {p : Addr} (h : OkR K ι H Q (.ok (.tup xs) M)) (s : SR K ι H M) (hp : H p = none) (r : RelDs K ι H xs vs) : Q (.ref p) (upd H p (.tup vs)) := by
  refine h ι (upd H p (.tup vs)) (.ref p) (Step.fresh hp) (s.fresh hp) ?_
  simp only [RelD]
  exact ⟨p, vs, rfl, .inl (.inl upd_same), r.step (Step.fresh hp)⟩
theorem relD_str {s t : Str} {v : V} (h : RelD K ι H (.str s) v) : v = .str s ∧ s.length ≤ sizeLine ∧ PyData.strOk s = true := by simpa only [RelD] using h
theorem relD_int {i : Int} {v : V} (h : RelD K ι H (.int i) v) : v = .int i := by simpa only [RelD] using h
theorem relD_bl {i : Bool} {v : V} (h : RelD K ι H (.bl i) v) : v = .bl i := by simpa only [RelD] using h
theorem relD_non {v : V} (h : RelD K ι H .non v) : v = .non := by simpa only [RelD] using h
theorem RelD.ints {i : Int} : RelD K ι H (.int i) (.int i) := by simp only [RelD]
theorem RelD.bls {i : Bool} : RelD K ι H (.bl i) (.bl i) := by simp only [RelD]
theorem RelD.nons : RelD K ι H .non .non := by simp only [RelD]
theorem RelD.strs {s : Str} (h : s.length ≤ sizeLine) (g : PyData.strOk s = true) : RelD K ι H (.str s) (.str s) := by simpa only [RelD, true_and] using ⟨h, g⟩
theorem strOk_app {s t : Str} (h : PyData.strOk s = true) (g : PyData.strOk t = true) : PyData.strOk (s ++ t) = true := by
  have e : (s ++ t).cps = s.cps ++ t.cps := rfl
  unfold PyData.strOk at h g ⊢
  rw [e, Array.all_append, h, g]; rfl
theorem strOk_list {s : Str} : PyData.strOk s = true ↔ ∀ c ∈ s.cps.toList, c < 1114112 := by
  unfold PyData.strOk
  rw [Array.all_eq_true_iff_forall_mem]
  constructor
  · intro h c hc
    simpa using h c (Array.mem_toList_iff.mp hc)
  · intro h c hc
    simpa using h c (Array.mem_toList_iff.mpr hc)
theorem strOk_of {l : List Nat} (h : ∀ c ∈ l, c < 1114112) : PyData.strOk ⟨l.toArray⟩ = true := strOk_list.mpr (by simpa using h)
theorem listAt_lst {i : Nat} {xs : List D} (h : listAt M i = some xs) : M[i]? = some (.lst xs) ∨ M[i]? = some (.ro xs) := by
  unfold listAt at h
  split at h
  · cases h; rename_i e; exact .inl e
  · cases h; rename_i e; exact .inr e
  · cases h
/-- a list that may be read -/
theorem SR.list {i : Nat} {xs : List D} {v : V} (s : SR K ι H M) (h : listAt M i = some xs) (r : RelD K ι H (.ref i) v) : ∃ a vs, v = .ref a ∧ SqL K H a vs ∧ RelDs K ι H xs vs := by
  rcases listAt_lst h with e | e
  · obtain ⟨a, rfl, _, vs, q, rs⟩ := s.ref e r
    exact ⟨a, vs, rfl, .inl (.inl q), rs⟩
  · obtain ⟨a, rfl, _, vs, q, rs⟩ := s.ref e r
    exact ⟨a, vs, rfl, q.sqL, rs⟩
theorem SR.lst {i : Nat} {xs : List D} {v : V} (s : SR K ι H M) (e : M[i]? = some (.lst xs)) (r : RelD K ι H (.ref i) v) : ∃ a vs, v = .ref a ∧ ι[i]? = some a ∧ H a = some (.lst vs) ∧ RelDs K ι H xs vs := by
  obtain ⟨a, rfl, hi, vs, q, rs⟩ := s.ref e r
  exact ⟨a, vs, rfl, hi, q, rs⟩
end

section
variable {X : L2.Cx}
theorem okMul_ok {i j : Int} (h : okMul i j = true) : IntMulOk i j := by
  unfold okMul smallI at h
  simp only [Bool.or_eq_true, decide_eq_true_eq] at h
  rcases h with (h | h) | h
  · exact CMul.ok (.inl h)
  · exact CMul.ok (.inr h)
  · exact CMulW.ok h
theorem op_mulA : OpR X (binaryOp .Mult) (rI IntMulOk fun i j => .int (i * j)) := opI fun _ _ _ _ _ _ _ hc q => mul_int q hc
theorem op_fdivA : OpR X (binaryOp .FloorDiv) (rI (fun _ j => okDiv j = true) fun i j => .int (i / j)) := by
  intro pins s σ H x y v u Q I rx ry h
  obtain ⟨i, j, rfl, rfl, hc, q⟩ := h
  unfold okDiv at hc
  simp only [Bool.or_eq_true, decide_eq_true_eq] at hc
  rcases hc with hc | hc
  · exact op_fdiv pins s σ H _ _ v u Q I rx ry ⟨i, j, rfl, rfl, hc, q⟩
  · exact op_fdivW pins s σ H _ _ v u Q I rx ry ⟨i, j, rfl, rfl, hc, q⟩

theorem ob_add : OpR X (binaryOp .Add) (rB X.K (binD .add)) := by
  intro pins s σ H x y v u Q I rx ry h
  obtain ⟨ι, M, a, b, S, ra, rb, h⟩ := h
  cases a with
  | int i =>
    cases b with
    | int j =>
      rw [relD_int ra] at rx
      rw [relD_int rb] at ry
      exact op_add pins s σ H _ _ v u Q I rx ry ⟨i, j, rfl, rfl, OkR.same h S .ints⟩
    | _ => exact h.elim
  | str s1 =>
    cases b with
    | str s2 =>
      obtain ⟨rfl, l1, k1⟩ := relD_str (t := s1) ra
      obtain ⟨rfl, l2, k2⟩ := relD_str (t := s1) rb
      simp only [binD, addD] at h
      split at h
      · rename_i hl
        rw [lim_eq] at hl
        refine op_add_str pins s σ H _ _ v u Q I rx ry ⟨s1, s2, rfl, rfl, hl, OkR.same h S (.strs ?_ (strOk_app k1 k2))⟩
        have e : (s1 ++ s2).length = s1.length + s2.length := Array.size_append
        rw [e]; exact hl
      · exact h.elim
    | _ => exact h.elim
  | tup xs =>
    cases b with
    | tup ys =>
      simp only [RelD] at ra rb
      obtain ⟨a1, vs, rfl, h1, r1⟩ := ra
      obtain ⟨b1, ws, rfl, h2, r2⟩ := rb
      simp only [binD, addD] at h
      split at h
      · rename_i hl
        rw [lim_eq] at hl
        refine op_catA pins s σ H _ _ v u Q I rx ry ⟨a1, b1, vs, ws, rfl, rfl, h1, h2, by rw [← r1.length, ← r2.length]; exact hl, fun e => ?_, fun e e2 => ?_, fun _ _ p hp => OkR.newT h S hp (r1.append r2)⟩
        · refine OkR.same h S ?_
          have : xs = [] := by have := r1.length; rw [e] at this; simpa using this
          subst this
          simp only [List.nil_append, RelD]
          exact ⟨b1, ws, rfl, h2, r2⟩
        · refine OkR.same h S ?_
          have : ys = [] := by have := r2.length; rw [e2] at this; simpa using this
          subst this
          simp only [List.append_nil, RelD]
          exact ⟨a1, vs, rfl, h1, r1⟩
      · exact h.elim
    | _ => exact h.elim
  | ref i =>
    cases b with
    | ref j =>
      simp only [binD, addD] at h
      split at h
      · rename_i xs ys e1 e2
        obtain ⟨a1, vs, rfl, _, h1, r1⟩ := S.lst e1 ra
        obtain ⟨b1, ws, rfl, _, h2, r2⟩ := S.lst e2 rb
        split at h
        · rename_i hl
          rw [lim_eq] at hl
          refine op_cat pins s σ H _ _ v u Q I rx ry ⟨a1, b1, vs, ws, rfl, rfl, h1, h2, by rw [← r1.length, ← r2.length]; exact hl, fun p hp => OkR.new h S hp rfl ⟨_, upd_same, (r1.append r2).step (Step.alloc hp)⟩⟩
        · exact h.elim
      · exact h.elim
    | _ => exact h.elim
  | _ => exact h.elim
theorem ob_sub : OpR X (binaryOp .Sub) (rB X.K (binD .sub)) := by
  intro pins s σ H x y v u Q I rx ry h
  obtain ⟨ι, M, a, b, S, ra, rb, h⟩ := h
  simp only [binD] at h
  split at h
  · rename_i i j
    rw [relD_int ra] at rx
    rw [relD_int rb] at ry
    exact op_sub pins s σ H _ _ v u Q I rx ry ⟨i, j, rfl, rfl, OkR.same h S .ints⟩
  · exact h.elim
theorem ob_fdiv : OpR X (binaryOp .FloorDiv) (rB X.K (binD .fdiv)) := by
  intro pins s σ H x y v u Q I rx ry h
  obtain ⟨ι, M, a, b, S, ra, rb, h⟩ := h
  simp only [binD] at h
  split at h
  · rename_i i j
    rw [relD_int ra] at rx
    rw [relD_int rb] at ry
    split at h
    · rename_i hc
      exact op_fdivA pins s σ H _ _ v u Q I rx ry ⟨i, j, rfl, rfl, hc, OkR.same h S .ints⟩
    · exact h.elim
  · exact h.elim
theorem ob_mod : OpR X (binaryOp .Mod) (rB X.K (binD .mod)) := by
  intro pins s σ H x y v u Q I rx ry h
  obtain ⟨ι, M, a, b, S, ra, rb, h⟩ := h
  simp only [binD] at h
  split at h
  · rename_i i j
    rw [relD_int ra] at rx
    rw [relD_int rb] at ry
    split at h
    · rename_i hc
      exact op_mod pins s σ H _ _ v u Q I rx ry ⟨i, j, rfl, rfl, hc, OkR.same h S .ints⟩
    · exact h.elim
  · exact h.elim
theorem ob_pow : OpR X (binaryOp .Pow) (rB X.K (binD .pow)) := by
  intro pins s σ H x y v u Q I rx ry h
  obtain ⟨ι, M, a, b, S, ra, rb, h⟩ := h
  simp only [binD] at h
  split at h
  · rename_i i j
    rw [relD_int ra] at rx
    rw [relD_int rb] at ry
    split at h
    · rename_i hc
      unfold okPow at hc
      exact op_pow pins s σ H _ _ v u Q I rx ry ⟨i, j, rfl, rfl, (by simp only [decide_eq_true_eq] at hc; exact hc), OkR.same h S .ints⟩
    · exact h.elim
  · exact h.elim
end
end Sk
end
section
set_option Elab.async false
set_option linter.all false
set_option autoImplicit false
set_option maxRecDepth 100000
/-! SkB2: products, comparisons, items, slices. -/
namespace Sk
open PySem PySem.Spec PyProof.Rows L2
section
variable {X : L2.Cx}

/-! ### products -/
theorem foldl_reps (c : Array Nat) : ∀ (n : Nat) (acc : Array Nat), ((List.replicate n c).foldl (· ++ ·) acc).toList = acc.toList ++ (List.replicate n c.toList).flatten
  | 0, acc => by simp
  | n + 1, acc => by
    rw [List.replicate_succ, List.foldl_cons, foldl_reps c n]
    simp [List.replicate_succ]
theorem strRep_eq (s : Str) (k : Int) (hk : ¬ k < 1) : strRep s k = ⟨(List.replicate k.toNat s.cps).foldl (· ++ ·) #[]⟩ := by
  unfold strRep
  congr 1
  apply Array.ext'
  rw [foldl_reps]; simp
theorem txtMul_eq (s : Str) (k : Int) : Txt.mul s k = strRep s k := by
  unfold Txt.mul
  by_cases h : k < 1
  · rw [if_pos h]
    have : k.toNat = 0 := by omega
    unfold strRep; rw [this]; rfl
  · rw [if_neg h]
    by_cases h1 : (k == 1 || s.length == 0) = true
    · rw [if_pos h1]
      rw [Bool.or_eq_true] at h1
      rcases h1 with h1 | h1
      · have : k = 1 := by simpa using h1
        subst this
        unfold strRep
        have e : (List.replicate (Int.toNat 1) s.cps.toList).flatten = s.cps.toList := by simp
        rw [e]
      · have hl : s.cps.toList = [] := by
          have : s.cps.size = 0 := by simpa [Str.length] using h1
          simpa using this
        unfold strRep; rw [hl]
        have : s = ⟨#[]⟩ := by
          cases s with
          | mk c => congr 1; simpa using hl
        rw [this]; simp
    · rw [if_neg h1, strRep_eq s k h]
theorem strRep_len (s : Str) (k : Int) : (strRep s k).length = k.toNat * s.length := by
  unfold strRep Str.length
  simp [List.length_flatten]
theorem strRep_ok {s : Str} (k : Int) (h : PyData.strOk s = true) : PyData.strOk (strRep s k) = true := by
  unfold strRep
  refine strOk_of fun c hc => ?_
  rw [List.mem_flatten] at hc
  obtain ⟨l, hl, hc⟩ := hc
  rw [List.mem_replicate] at hl
  exact strOk_list.mp h c (hl.2 ▸ hc)
theorem ob_mul : OpR X (binaryOp .Mult) (rB X.K (binD .mul)) := by
  intro pins s σ H x y v u Q I rx ry h
  obtain ⟨ι, M, a, b, S, ra, rb, h⟩ := h
  cases a with
  | int i =>
    cases b with
    | int j =>
      rw [relD_int ra] at rx
      rw [relD_int rb] at ry
      simp only [binD, mulD] at h
      split at h
      · rename_i hc
        exact op_mulA pins s σ H _ _ v u Q I rx ry ⟨i, j, rfl, rfl, okMul_ok hc, OkR.same h S .ints⟩
      · exact h.elim
    | _ => exact h.elim
  | tup xs =>
    cases b with
    | int k =>
      simp only [RelD] at ra
      obtain ⟨a1, vs, rfl, h1, r1⟩ := ra
      rw [relD_int rb] at ry
      simp only [binD, mulD] at h
      split at h
      · rename_i hc
        obtain ⟨c1, c2, c3, c4⟩ := hc
        refine op_repT pins s σ H _ _ v u Q I rx ry ⟨a1, k, vs, rfl, rfl, h1, fun e => c1 ?_, c2, c3, by rw [← r1.length]; exact c4, fun p hp => OkR.newT h S hp (r1.reps _)⟩
        have := r1.length
        rw [e] at this
        simpa using this
      · exact h.elim
    | _ => exact h.elim
  | ref i =>
    cases b with
    | int k =>
      rw [relD_int rb] at ry
      simp only [binD, mulD] at h
      split at h
      · rename_i xs e1
        obtain ⟨a1, vs, rfl, _, h1, r1⟩ := S.lst e1 ra
        split at h
        · rename_i hc
          obtain ⟨c1, c2, c3⟩ := hc
          rw [lim_eq] at c3
          refine op_rep pins s σ H _ _ v u Q I rx ry ⟨a1, k, vs, rfl, rfl, h1, c1, c2, by rw [← r1.length]; exact c3, fun p hp => OkR.new h S hp rfl ⟨_, upd_same, (r1.reps _).step (Step.alloc hp)⟩⟩
        · exact h.elim
      · exact h.elim
    | _ => exact h.elim
  | str z =>
    cases b with
    | int k =>
      obtain ⟨rfl, l1, k1⟩ := relD_str (t := z) ra
      rw [relD_int rb] at ry
      simp only [binD, mulD] at h
      split at h
      · rename_i hc
        obtain ⟨c1, c2, c3⟩ := hc
        obtain ⟨t1, rfl⟩ := rx
        obtain ⟨t2, rfl⟩ := ry
        have hm : z.length * k.toNat ≤ 16 * 1000000 := Nat.mul_le_mul c3 (by omega)
        refine SB.mul ⟨?_, fun hk _ => ?_, fun hk _ => ?_⟩ fun t' k' => ?_
        · rw [decide_eq_false (by omega), decide_eq_false (by omega)]; rfl
        · intro z
          have h2 : (2 ^ 63 - 1 : Int) / k ≥ 16 := Int.le_ediv_of_mul_le (by omega) (by omega)
          omega
        · unfold Builtin.Str.tooLong
          rw [decide_eq_false]
          rw [sizeLine_eq]; omega
        · rw [txtMul_eq]
          refine ⟨.str (strRep z k), H, I.tok _, ⟨_, rfl⟩, OkR.same h S (.strs ?_ (strRep_ok k k1))⟩
          rw [strRep_len, sizeLine_eq, Nat.mul_comm]; omega
      · exact h.elim
    | _ => exact h.elim
  | _ => exact h.elim

/-! ### comparisons -/
theorem OkR.bool {K : PySem.W.Frag} {ι : List Addr} {H : Hp} {M : Store} {Q : VK} {o : Option Bool} (h : OkR K ι H Q (optB M o)) (s : SR K ι H M) : ∃ b, o = some b ∧ Q (.bl b) H := by
  cases o with
  | none => exact h.elim
  | some b => exact ⟨b, rfl, OkR.same h s .bls⟩
theorem eqM_dp {K : PySem.W.Frag} {ι : List Addr} {H : Hp} {M : Store} {a b : D} {x y : V} {k : Bool} (S : SR K ι H M) (ra : RelD K ι H a x) (rb : RelD K ι H b y) (e : eqM M a b = some k) :
    ∃ d d', Dp K H x d ∧ Dp K H y d' ∧ SeqAt.shaped d = true ∧ SeqAt.shaped d' = true ∧ PyData.eqv d d' = k := by
  have plain : a.pure = true ∧ b.pure = true ∧ a.dle 50 = true ∧ b.dle 50 = true → D.eqv a b = k → ∃ d d', Dp K H x d ∧ Dp K H y d' ∧ SeqAt.shaped d = true ∧ SeqAt.shaped d' = true ∧ PyData.eqv d d' = k := fun ⟨p, q, l, m⟩ e =>
    ⟨_, _, ra.dp p, rb.dp q, ra.shaped l, rb.shaped m, by rw [D.eqv_toP p q]; exact e⟩
  have mixL : ∀ i, a = .ref i → (∀ j, b ≠ .ref j) → (match listAt M i with
    | some xs => if D.pures xs = true ∧ b.pure = true ∧ D.dles xs 50 = true ∧ b.dle 50 = true then some false else none
    | none => none) = some k → ∃ d d', Dp K H x d ∧ Dp K H y d' ∧ SeqAt.shaped d = true ∧ SeqAt.shaped d' = true ∧ PyData.eqv d d' = k := by
    rintro i rfl hb e
    split at e
    · rename_i xs hl
      split at e
      · rename_i hc
        obtain ⟨p, q, l, m⟩ := hc
        cases e
        obtain ⟨a1, vs, rfl, hs, r⟩ := S.list hl ra
        refine ⟨.list (D.toPs xs), b.toP, .lst hs (r.dp p), rb.dp q, r.shapedL l, rb.shaped m, ?_⟩
        cases b <;> simp_all [D.toP, PyData.eqv, D.pure]
      · cases e
    · cases e
  have mixR : ∀ j, b = .ref j → (∀ i, a ≠ .ref i) → (match listAt M j with
    | some ys => if a.pure = true ∧ D.pures ys = true ∧ a.dle 50 = true ∧ D.dles ys 50 = true then some false else none
    | none => none) = some k → ∃ d d', Dp K H x d ∧ Dp K H y d' ∧ SeqAt.shaped d = true ∧ SeqAt.shaped d' = true ∧ PyData.eqv d d' = k := by
    rintro j rfl ha e
    split at e
    · rename_i xs hl
      split at e
      · rename_i hc
        obtain ⟨p, q, l, m⟩ := hc
        cases e
        obtain ⟨a1, vs, rfl, hs, r⟩ := S.list hl rb
        refine ⟨a.toP, .list (D.toPs xs), ra.dp p, .lst hs (r.dp q), ra.shaped l, r.shapedL m, ?_⟩
        cases a <;> simp_all [D.toP, PyData.eqv, D.pure]
      · cases e
    · cases e
  cases a with
  | ref i =>
    cases b with
    | ref j =>
      simp only [eqM] at e
      split at e
      · rename_i xs ys e1 e2
        split at e
        · rename_i hc
          obtain ⟨p, q, l, m⟩ := hc
          cases e
          obtain ⟨a1, vs, rfl, hs, r⟩ := S.list e1 ra
          obtain ⟨b1, ws, rfl, hs2, r2⟩ := S.list e2 rb
          refine ⟨.list (D.toPs xs), .list (D.toPs ys), .lst hs (r.dp p), .lst hs2 (r2.dp q), r.shapedL l, r2.shapedL m, ?_⟩
          simp only [PyData.eqv]
          exact D.eqvs_toP p q
        · cases e
      · cases e
    | _ => exact mixL i rfl (fun j z => by cases z) e
  | non =>
    cases b with
    | ref j => exact mixR j rfl (fun j z => by cases z) e
    | _ => simp only [eqM] at e; split at e <;> first | (rename_i hc; exact plain hc (Option.some.inj e)) | cases e
  | bl _ =>
    cases b with
    | ref j => exact mixR j rfl (fun j z => by cases z) e
    | _ => simp only [eqM] at e; split at e <;> first | (rename_i hc; exact plain hc (Option.some.inj e)) | cases e
  | int _ =>
    cases b with
    | ref j => exact mixR j rfl (fun j z => by cases z) e
    | _ => simp only [eqM] at e; split at e <;> first | (rename_i hc; exact plain hc (Option.some.inj e)) | cases e
  | str _ =>
    cases b with
    | ref j => exact mixR j rfl (fun j z => by cases z) e
    | _ => simp only [eqM] at e; split at e <;> first | (rename_i hc; exact plain hc (Option.some.inj e)) | cases e
  | tup _ =>
    cases b with
    | ref j => exact mixR j rfl (fun j z => by cases z) e
    | _ => simp only [eqM] at e; split at e <;> first | (rename_i hc; exact plain hc (Option.some.inj e)) | cases e
/-- room on the stack -/
def Rm (X : L2.Cx) : Prop := X.A.units + 200 < cLine
theorem oc_eq (hu : Rm X) : OpR X (compareOp .Eq) (rB X.K (cmpD .eq)) := by
  intro pins s σ H x y v u Q I rx ry h
  obtain ⟨ι, M, a, b, S, ra, rb, h⟩ := h
  obtain ⟨k, e, q⟩ := OkR.bool h S
  obtain ⟨d, d', h1, h2, h3, h4, h5⟩ := eqM_dp S ra rb e
  exact op_eqD (by unfold Rm at hu; omega) pins s σ H _ _ v u Q I rx ry ⟨d, d', h1, h2, h3, h4, by rw [h5]; exact q⟩
theorem oc_ne (hu : Rm X) : OpR X (compareOp .NotEq) (rB X.K (cmpD .ne)) := by
  intro pins s σ H x y v u Q I rx ry h
  obtain ⟨ι, M, a, b, S, ra, rb, h⟩ := h
  obtain ⟨k, e, q⟩ := OkR.bool h S
  obtain ⟨k', e', rfl⟩ := Option.map_eq_some_iff.mp e
  obtain ⟨d, d', h1, h2, h3, h4, h5⟩ := eqM_dp S ra rb e'
  exact op_neD (by unfold Rm at hu; omega) pins s σ H _ _ v u Q I rx ry ⟨d, d', h1, h2, h3, h4, by rw [h5]; exact q⟩
theorem okLt_facts {a b : D} (h : okLt a b = true) : D.alike a b = true ∧ a.isNon = false ∧ a.pure = true ∧ b.pure = true ∧ a.dle 50 = true ∧ b.dle 50 = true := by
  unfold okLt at h
  simp only [Bool.and_eq_true, Bool.not_eq_true'] at h
  obtain ⟨⟨⟨⟨⟨h1, h2⟩, h3⟩, h4⟩, h5⟩, h6⟩ := h
  exact ⟨h1, h2, h3, h4, h5, h6⟩
theorem lt_room {a b : D} (hu : Rm X) (h : a.dle 50 = true) : X.A.units + min a.toP.depth b.toP.depth < cLine := by
  have := D.dle_depth h
  unfold Rm at hu
  omega
theorem D.alike_comm {a b : D} (h : D.alike a b = true) (p : a.pure = true) (q : b.pure = true) : PySem.W.alike b.toP a.toP = true := by
  rw [PySem.W.alike_comm]; exact D.alike_toP h
mutual
theorem D.alike_symm : ∀ {a b : D}, D.alike a b = true → D.alike b a = true
  | .non, b, h => by cases b <;> simp_all [D.alike]
  | .bl x, b, h => by cases b <;> simp_all [D.alike]
  | .int i, b, h => by cases b <;> simp_all [D.alike]
  | .str s, b, h => by cases b <;> simp_all [D.alike]
  | .ref i, b, h => by simp [D.alike] at h
  | .tup xs, b, h => by
    cases b with
    | tup ys => simp only [D.alike] at h ⊢; exact D.alikes_symm h
    | _ => simp [D.alike] at h
theorem D.alikes_symm : ∀ {xs ys : List D}, D.alikes xs ys = true → D.alikes ys xs = true
  | [], ys, _ => by cases ys <;> simp [D.alikes]
  | x :: xs, ys, h => by
    cases ys with
    | nil => simp [D.alikes]
    | cons y ys =>
      simp only [D.alikes, Bool.and_eq_true] at h ⊢
      exact ⟨D.alike_symm h.1, D.alikes_symm h.2⟩
end
theorem oc_lt (hu : Rm X) : OpR X (compareOp .Lt) (rB X.K (cmpD .lt)) := by
  intro pins s σ H x y v u Q I rx ry h
  obtain ⟨ι, M, a, b, S, ra, rb, h⟩ := h
  simp only [cmpD] at h
  split at h
  · rename_i hc
    obtain ⟨h1, h2, h3, h4, h5, h6⟩ := okLt_facts hc
    obtain ⟨as, r1⟩ := Dp.reads I _ _ _ (ra.dp h3) rx
    obtain ⟨bs, r2⟩ := Dp.reads I _ _ _ (rb.dp h4) ry
    refine PySem.W.lt_data r1 r2 (D.alike_toP h1) (D.toP_ne_none h2 h3) (lt_room hu h5) ⟨.bl _, H, I, rfl, ?_⟩
    rw [D.lt_toP h1 h3 h4]
    exact OkR.same h S .bls
  · exact h.elim
theorem oc_gt (hu : Rm X) : OpR X (compareOp .Gt) (rB X.K (cmpD .gt)) := by
  intro pins s σ H x y v u Q I rx ry h
  obtain ⟨ι, M, a, b, S, ra, rb, h⟩ := h
  simp only [cmpD] at h
  split at h
  · rename_i hc
    obtain ⟨h1, h2, h3, h4, h5, h6⟩ := okLt_facts hc
    obtain ⟨as, r1⟩ := Dp.reads I _ _ _ (ra.dp h3) rx
    obtain ⟨bs, r2⟩ := Dp.reads I _ _ _ (rb.dp h4) ry
    refine PySem.W.gt_data r1 r2 (D.alike_toP h1) (D.toP_ne_none h2 h3) (lt_room hu h5) ⟨.bl _, H, I, rfl, ?_⟩
    rw [D.lt_toP (D.alike_symm h1) h4 h3]
    exact OkR.same h S .bls
  · exact h.elim
theorem oc_le (hu : Rm X) : OpR X (compareOp .LtE) (rB X.K (cmpD .le)) := by
  intro pins s σ H x y v u Q I rx ry h
  obtain ⟨ι, M, a, b, S, ra, rb, h⟩ := h
  simp only [cmpD] at h
  split at h
  · rename_i hc
    obtain ⟨h1, h2, h3, h4, h5, h6⟩ := okLt_facts hc
    obtain ⟨as, r1⟩ := Dp.reads I _ _ _ (ra.dp h3) rx
    obtain ⟨bs, r2⟩ := Dp.reads I _ _ _ (rb.dp h4) ry
    refine PySem.W.le_data r1 r2 (D.alike_toP h1) (D.toP_ne_none h2 h3) (lt_room hu h5) ⟨.bl _, H, I, rfl, ?_⟩
    rw [D.lt_toP (D.alike_symm h1) h4 h3]
    exact OkR.same h S .bls
  · exact h.elim
theorem oc_ge (hu : Rm X) : OpR X (compareOp .GtE) (rB X.K (cmpD .ge)) := by
  intro pins s σ H x y v u Q I rx ry h
  obtain ⟨ι, M, a, b, S, ra, rb, h⟩ := h
  simp only [cmpD] at h
  split at h
  · rename_i hc
    obtain ⟨h1, h2, h3, h4, h5, h6⟩ := okLt_facts hc
    obtain ⟨as, r1⟩ := Dp.reads I _ _ _ (ra.dp h3) rx
    obtain ⟨bs, r2⟩ := Dp.reads I _ _ _ (rb.dp h4) ry
    refine PySem.W.ge_data r1 r2 (D.alike_toP h1) (D.toP_ne_none h2 h3) (lt_room hu h5) ⟨.bl _, H, I, rfl, ?_⟩
    rw [D.lt_toP h1 h3 h4]
    exact OkR.same h S .bls
  · exact h.elim
theorem isNon_v {K : PySem.W.Frag} {ι : List Addr} {H : Hp} {a : D} {x : V} (r : RelD K ι H a x) : decide (x = .non) = a.isNon := by
  cases a with
  | non => rw [relD_non r]; rfl
  | bl b => rw [relD_bl r]; rfl
  | int b => rw [relD_int r]; rfl
  | str b => rw [(relD_str (t := b) r).1]; rfl
  | tup xs => simp only [RelD] at r; obtain ⟨_, _, rfl, _⟩ := r; rfl
  | ref i => simp only [RelD] at r; obtain ⟨_, rfl, _⟩ := r; rfl
theorem oc_is : OpR X (compareOp .Is) (rB X.K (cmpD .is)) := by
  intro pins s σ H x y v u Q I rx ry h
  obtain ⟨ι, M, a, b, S, ra, rb, h⟩ := h
  simp only [cmpD] at h
  split at h
  · rw [relD_non rb] at ry
    exact op_isN pins s σ H _ _ v u Q I rx ry ⟨rfl, by rw [isNon_v ra]; exact OkR.same h S .bls⟩
  · exact h.elim
theorem oc_isnot : OpR X (compareOp .IsNot) (rB X.K (cmpD .isnot)) := by
  intro pins s σ H x y v u Q I rx ry h
  obtain ⟨ι, M, a, b, S, ra, rb, h⟩ := h
  simp only [cmpD] at h
  split at h
  · rw [relD_non rb] at ry
    exact op_notN pins s σ H _ _ v u Q I rx ry ⟨rfl, by rw [isNon_v ra]; exact OkR.same h S .bls⟩
  · exact h.elim

/-! ### dicts, read -/
theorem kD_kV {K : PySem.W.Frag} {ι : List Addr} {H : Hp} {k : D} {q : Ky} {y : V} (e : keyOf k = some q) (r : RelD K ι H k y) : y = kV q := by
  cases k with
  | int i => cases e; exact relD_int r
  | str z => cases e; exact (relD_str (t := z) r).1
  | _ => cases e
theorem getK_val {K : PySem.W.Frag} {ι : List Addr} {H : Hp} {κ : Type} [DecidableEq κ] : ∀ {kvs : List (κ × D)} {kv : List (κ × V)} (k : κ), RelKV K ι H kvs kv →
    (∀ d, getK kvs k = some d → ∃ v, valV kv k = some v ∧ RelD K ι H d v) ∧ (getK kvs k = none → valV kv k = none)
  | [], _, k, h => by
    cases h
    exact ⟨fun d h => (by cases h), fun _ => rfl⟩
  | p :: _, [], k, h => by cases h
  | p :: l, q :: r, k, h => by
    obtain ⟨hq, t⟩ : (p.1 = q.1 ∧ RelD K ι H p.2 q.2) ∧ RelKV K ι H l r := by cases h with | cons a b => exact ⟨a, b⟩
    obtain ⟨ih1, ih2⟩ := getK_val k t
    by_cases e : p.1 = k
    · have e2 : q.1 = k := hq.1 ▸ e
      have g : getK (p :: l) k = some p.2 := by rw [getK, if_pos e]
      constructor
      · intro d h
        rw [g] at h; cases h
        exact ⟨q.2, valV_pos e2, hq.2⟩
      · intro h; rw [g] at h; cases h
    · have e2 : ¬ q.1 = k := hq.1 ▸ e
      have g : getK (p :: l) k = getK l k := by rw [getK, if_neg e]
      constructor
      · intro d h
        rw [g] at h
        rw [valV_neg e2]
        exact ih1 d h
      · intro h
        rw [g] at h
        rw [valV_neg e2]
        exact ih2 h
theorem SR.dget {K : PySem.W.Frag} {ι : List Addr} {H : Hp} {M : Store} {i : Nat} {k : D} {x y : V} {o : Option D} (S : SR K ι H M) (e : dictGet M i k = some o) (rx : RelD K ι H (.ref i) x) (ry : RelD K ι H k y) :
    ∃ a ov, x = .ref a ∧ DGet H a y ov ∧ ov.isSome = o.isSome ∧ ∀ d, o = some d → ∃ v, ov = some v ∧ RelD K ι H d v := by
  unfold dictGet at e
  split at e
  · rename_i kvs e1
    obtain ⟨a, rfl, _, kv, h1, h2⟩ := S.ref e1 rx
    obtain ⟨q, hq, rfl⟩ := Option.map_eq_some_iff.mp e
    obtain ⟨g1, g2⟩ := getK_val q h2
    rw [kD_kV hq ry]
    refine ⟨a, _, rfl, DGet.k h1, ?_, fun d hd => ?_⟩
    · cases e : getK kvs q with
      | none => rw [g2 e]; rfl
      | some d => obtain ⟨v, hv, _⟩ := g1 d e; rw [hv]; rfl
    · exact g1 d hd
  · cases e
  · cases e
end
end Sk
end
section
set_option Elab.async false
set_option linter.all false
set_option autoImplicit false
set_option maxRecDepth 100000
/-! SkB3: in, items, slices, truth, built-in functions. -/
namespace Sk
open PySem PySem.Spec PyProof.Rows L2
section
variable {X : L2.Cx}
theorem any_eqv {a : D} (p : a.pure = true) : ∀ {ys : List D}, D.pures ys = true → ((D.toPs ys).any fun z => PyData.eqv z a.toP) = ys.any fun y => D.eqv y a
  | [], _ => by simp [D.toPs]
  | y :: ys, h => by
    simp only [D.pures, Bool.and_eq_true] at h
    simp only [D.toPs, List.any_cons, any_eqv p h.2, D.eqv_toP h.1 p]
theorem sign_of {s : Str} (h : s.length = 1) : s = ⟨#[s.cps.getD 0 0]⟩ := by
  obtain ⟨c⟩ := s
  have hc : c.size = 1 := h
  have : c.toList.length = 1 := by simpa using hc
  match c, hc with
  | ⟨[x]⟩, _ => rfl
/-- y in s: what the answer means -/
theorem inM_cases {K : PySem.W.Frag} {ι : List Addr} {H : Hp} {M : Store} {a b : D} {x y : V} {k : Bool} (S : SR K ι H M) (ra : RelD K ι H a x) (rb : RelD K ι H b y) (e : inM M a b = some k) :
    (∃ (c : Nat) (z : Str), x = .str ⟨#[c]⟩ ∧ y = .str z ∧ k = decide (c ∈ z.cps.toList)) ∨
    (∃ d ds, Dp K H x d ∧ (Dp K H y (.list ds) ∧ SeqAt.shaped (.list ds) = true ∨ Dp K H y (.tuple ds) ∧ SeqAt.shaped (.tuple ds) = true) ∧ SeqAt.shaped d = true ∧ k = ds.any fun z => PyData.eqv z d) ∨
    (∃ a o, y = .ref a ∧ DGet H a x o ∧ k = o.isSome) := by
  cases b with
  | str t =>
    cases a with
    | str s =>
      simp only [inM] at e
      split at e
      · rename_i h1
        cases e
        refine .inl ⟨s.cps.getD 0 0, t, ?_, (relD_str (t := s) rb).1, rfl⟩
        rw [(relD_str (t := s) ra).1, ← sign_of h1]
      · cases e
    | _ => simp [inM] at e
  | tup ys =>
    simp only [inM] at e
    split at e
    · rename_i hc
      obtain ⟨p, q, l, m⟩ := hc
      cases e
      simp only [RelD] at rb
      obtain ⟨a1, vs, rfl, hs, r⟩ := rb
      exact .inr (.inl ⟨a.toP, D.toPs ys, ra.dp p, .inr ⟨.tup hs (r.dp q), r.shapedT m⟩, ra.shaped l, by rw [any_eqv p q]⟩)
    · cases e
  | ref i =>
    have key : ∀ ys, listAt M i = some ys → (if a.pure = true ∧ D.pures ys = true ∧ a.dle 50 = true ∧ D.dles ys 50 = true then some (ys.any fun y => D.eqv y a) else none) = some k →
        ∃ d ds, Dp K H x d ∧ (Dp K H y (.list ds) ∧ SeqAt.shaped (.list ds) = true ∨ Dp K H y (.tuple ds) ∧ SeqAt.shaped (.tuple ds) = true) ∧ SeqAt.shaped d = true ∧ k = ds.any fun z => PyData.eqv z d := by
      intro ys hl e
      split at e
      · rename_i hc
        obtain ⟨p, q, l, m⟩ := hc
        cases e
        obtain ⟨a1, vs, rfl, hs, r⟩ := S.list hl rb
        exact ⟨a.toP, D.toPs ys, ra.dp p, .inl ⟨.lst hs (r.dp q), r.shapedL m⟩, ra.shaped l, by rw [any_eqv p q]⟩
      · cases e
    simp only [inM] at e
    split at e
    · rename_i ys e1
      exact .inr (.inl (key ys (by unfold listAt; rw [e1]) e))
    · rename_i ys e1
      exact .inr (.inl (key ys (by unfold listAt; rw [e1]) e))
    · obtain ⟨o, ho, rfl⟩ := Option.map_eq_some_iff.mp e
      obtain ⟨a1, ov, rfl, g, hs, _⟩ := S.dget ho rb ra
      exact .inr (.inr ⟨a1, ov, rfl, g, hs.symm⟩)
  | _ => simp [inM] at e
theorem oc_in (hu : Rm X) : OpR X (compareOp .In) (rB X.K (cmpD .in)) := by
  intro pins s σ H x y v u Q I rx ry h
  obtain ⟨ι, M, a, b, S, ra, rb, h⟩ := h
  obtain ⟨k, e, q⟩ := OkR.bool h S
  unfold Rm at hu
  rcases inM_cases S ra rb e with ⟨c, z, rfl, rfl, rfl⟩ | ⟨d, ds, h1, h2, h3, rfl⟩ | ⟨a1, o, rfl, g, rfl⟩
  · exact op_in_sign pins s σ H _ _ v u Q I rx ry ⟨c, z, rfl, rfl, q⟩
  · obtain ⟨as, r1⟩ := Dp.reads I _ _ _ h1 rx
    rcases h2 with ⟨h2, h4⟩ | ⟨h2, h4⟩
    · obtain ⟨bs, r2⟩ := Dp.reads I _ _ _ h2 ry
      exact SeqAt.in_list_reads r2 r1 (SeqAt.canLay_of_shaped h4) (SeqAt.canLay_of_shaped h3) (room_in_shaped h3 (by omega)) ⟨.bl _, H, I, rfl, q⟩
    · obtain ⟨bs, r2⟩ := Dp.reads I _ _ _ h2 ry
      exact SeqAt.in_tuple_reads r2 r1 (SeqAt.canLay_of_shaped h4) (SeqAt.canLay_of_shaped h3) (room_in_shaped h3 (by omega)) ⟨.bl _, H, I, rfl, q⟩
  · cases (show u = Value.ref a1 from ry)
    exact d_in (by omega) I g rx fun s3 I3 => ⟨.bl o.isSome, H, I3, rfl, q⟩
theorem oc_notin (hu : Rm X) : OpR X (compareOp .NotIn) (rB X.K (cmpD .notin)) := by
  intro pins s σ H x y v u Q I rx ry h
  obtain ⟨ι, M, a, b, S, ra, rb, h⟩ := h
  obtain ⟨k', e', q⟩ := OkR.bool h S
  obtain ⟨k, e, rfl⟩ := Option.map_eq_some_iff.mp e'
  unfold Rm at hu
  rcases inM_cases S ra rb e with ⟨c, z, rfl, rfl, rfl⟩ | ⟨d, ds, h1, h2, h3, rfl⟩ | ⟨a1, o, rfl, g, rfl⟩
  · exact op_notIn_sign pins s σ H _ _ v u Q I rx ry ⟨c, z, rfl, rfl, q⟩
  · obtain ⟨as, r1⟩ := Dp.reads I _ _ _ h1 rx
    rcases h2 with ⟨h2, h4⟩ | ⟨h2, h4⟩
    · obtain ⟨bs, r2⟩ := Dp.reads I _ _ _ h2 ry
      exact SeqAt.notIn_list_reads r2 r1 (SeqAt.canLay_of_shaped h4) (SeqAt.canLay_of_shaped h3) (room_in_shaped h3 (by omega)) ⟨.bl _, H, I, rfl, q⟩
    · obtain ⟨bs, r2⟩ := Dp.reads I _ _ _ h2 ry
      exact SeqAt.notIn_tuple_reads r2 r1 (SeqAt.canLay_of_shaped h4) (SeqAt.canLay_of_shaped h3) (room_in_shaped h3 (by omega)) ⟨.bl _, H, I, rfl, q⟩
  · cases (show u = Value.ref a1 from ry)
    exact d_notIn (by omega) I g rx fun s3 I3 => ⟨.bl (!o.isSome), H, I3, rfl, q⟩
/-- the library's operator -/
def BOp.py : BOp → Operator
  | .add => .Add
  | .sub => .Sub
  | .mul => .Mult
  | .fdiv => .FloorDiv
  | .mod => .Mod
  | .pow => .Pow
def COp.py : COp → CmpOp
  | .eq => .Eq
  | .ne => .NotEq
  | .lt => .Lt
  | .le => .LtE
  | .gt => .Gt
  | .ge => .GtE
  | .is => .Is
  | .isnot => .IsNot
  | .in => .In
  | .notin => .NotIn
theorem ob_all (o : BOp) : OpR X (binaryOp o.py) (rB X.K (binD o)) := by
  cases o
  · exact ob_add
  · exact ob_sub
  · exact ob_mul
  · exact ob_fdiv
  · exact ob_mod
  · exact ob_pow
theorem oc_all (hu : Rm X) (o : COp) : OpR X (compareOp o.py) (rB X.K (cmpD o)) := by
  cases o
  · exact oc_eq hu
  · exact oc_ne hu
  · exact oc_lt hu
  · exact oc_le hu
  · exact oc_gt hu
  · exact oc_ge hu
  · exact oc_is
  · exact oc_isnot
  · exact oc_in hu
  · exact oc_notin hu
theorem o_neg : UnR X (unaryOp .USub) (fun x H Q => ∃ i, x = .int i ∧ Q (.int (-i)) H) := un_neg

/-! ### truth -/
theorem truth_ok {K : PySem.W.Frag} {ι : List Addr} {H : Hp} {M : Store} {d : D} {x : V} {k : Bool} (S : SR K ι H M) (r : RelD K ι H d x) (e : truth M d = some k) : TruV K x H k := by
  cases d with
  | non => rw [relD_non r]; simp only [truth, Option.some.injEq] at e; subst e; rfl
  | bl b => rw [relD_bl r]; simp only [truth, Option.some.injEq] at e; subst e; rfl
  | int b => rw [relD_int r]; simp only [truth, Option.some.injEq] at e; subst e; rfl
  | str b =>
    obtain ⟨rfl, hl, _⟩ := relD_str (t := b) r
    simp only [truth, Option.some.injEq] at e; subst e
    exact ⟨hl, rfl⟩
  | tup xs =>
    simp only [RelD] at r
    obtain ⟨a, vs, rfl, hs, hr⟩ := r
    simp only [truth, Option.some.injEq] at e; subst e
    exact .inr (.inl ⟨vs, hs, by rw [hr.isEmpty]⟩)
  | ref i =>
    simp only [truth] at e
    split at e
    · rename_i xs e1
      cases e
      obtain ⟨a, vs, rfl, _, h1, h2⟩ := S.lst e1 r
      exact .inl ⟨vs, SqL.of h1, by rw [h2.isEmpty]⟩
    · rename_i xs e1
      cases e
      obtain ⟨a, rfl, _, vs, h1, h2⟩ := S.ref e1 r
      exact .inl ⟨vs, h1.sqL, by rw [h2.isEmpty]⟩
    · rename_i kvs e1
      cases e
      obtain ⟨a, rfl, _, kv, h1, h2⟩ := S.ref e1 r
      refine .inr (.inr ⟨kv, h1, ?_⟩)
      have := Paired.length h2
      cases kvs <;> cases kv <;> simp_all
    · cases e

/-! ### items -/
theorem ixN_eq (n : Nat) (i : Int) : ixN n i = L2.ixN n i := by
  unfold ixN L2.ixN
  by_cases h : 0 ≤ i
  · rw [if_pos h, if_neg (by omega : ¬ i < 0)]
    by_cases h2 : i < n
    · rw [if_pos h2]; simp only [h, h2, and_self, if_true]
    · rw [if_neg h2]; simp only [h2, and_false, if_false]
  · rw [if_neg h, if_pos (by omega : i < 0)]
    by_cases h2 : -(n : Int) ≤ i
    · rw [if_pos h2]
      have : 0 ≤ i + n ∧ i + n < n := by omega
      simp only [this, and_self, if_true]
    · rw [if_neg h2]
      have : ¬ (0 ≤ i + n ∧ i + n < n) := by omega
      simp only [this, if_false]
theorem atI_bind {α : Type} (xs : List α) (i : Int) : atI xs i = (ixN xs.length i).bind fun j => xs[j]? := by
  unfold atI
  cases ixN xs.length i <;> rfl
theorem atI_eq {α : Type} (xs : List α) (i : Int) : atI xs i = L2.atI xs i := by
  rw [atI_bind, ixN_eq]; rfl
theorem atI_rel {K : PySem.W.Frag} {ι : List Addr} {H : Hp} {xs : List D} {vs : List V} {i : Int} {d : D} (r : RelDs K ι H xs vs) (e : atI xs i = some d) : ∃ v, L2.atI vs i = some v ∧ RelD K ι H d v := by
  rw [atI_bind] at e
  obtain ⟨j, h1, h2⟩ := Option.bind_eq_some_iff.mp e
  obtain ⟨v, h3, h4⟩ := r.get h2
  refine ⟨v, ?_, h4⟩
  unfold L2.atI
  rw [← r.length, ← ixN_eq, h1]
  exact h3
theorem sign_ok {c : Nat} {s : Str} (h : PyData.strOk s = true) (m : c ∈ s.cps.toList) {K : PySem.W.Frag} {ι : List Addr} {H : Hp} : RelD K ι H (.str ⟨#[c]⟩) (.str ⟨#[c]⟩) := by
  refine .strs (by rw [sizeLine_eq]; show 1 ≤ _; decide) (strOk_list.mpr fun x hx => ?_)
  have : x = c := by simpa using hx
  rw [this]
  exact strOk_list.mp h c m
theorem atI_mem {α : Type} {xs : List α} {i : Int} {d : α} (e : atI xs i = some d) : d ∈ xs := by
  rw [atI_bind] at e
  obtain ⟨j, h1, h2⟩ := Option.bind_eq_some_iff.mp e
  exact List.mem_of_getElem? h2
theorem ix_all (hu : Rm X) : IxR X (rB X.K ixD) := by
  intro value slice pins s σ H x y v u Q I rx ry h hs
  obtain ⟨ι, M, a, b, S, ra, rb, h⟩ := h
  cases a with
  | str z =>
    cases b with
    | int i =>
      obtain ⟨rfl, hl, hk⟩ := relD_str (t := z) ra
      rw [relD_int rb] at ry
      simp only [ixD] at h
      split at h
      · rename_i c e
        exact ix_str value slice pins s σ H _ _ v u Q I rx ry ⟨z, i, c, rfl, rfl, hl, (atI_eq _ _).symm.trans e, OkR.same h S (sign_ok hk (atI_mem e))⟩ hs
      · exact h.elim
    | _ => exact h.elim
  | tup xs =>
    cases b with
    | int i =>
      simp only [RelD] at ra
      obtain ⟨a1, vs, rfl, hq, hr⟩ := ra
      rw [relD_int rb] at ry
      simp only [ixD] at h
      split at h
      · rename_i d e
        obtain ⟨w, h1, h2⟩ := atI_rel hr e
        exact ix_tup value slice pins s σ H _ _ v u Q I rx ry ⟨a1, vs, i, w, rfl, rfl, hq, h1, OkR.same h S h2⟩ hs
      · exact h.elim
    | _ => exact h.elim
  | ref j =>
    have key : ∀ xs, listAt M j = some xs → OkR X.K ι H Q (ixL xs b M) → wpAny (model X.prog X.w) X.A (subscriptTail value slice v u) (EP X pins σ Q) X.xe s := by
      intro xs hl h
      obtain ⟨a1, vs, rfl, hq, hr⟩ := S.list hl ra
      cases b with
      | int i =>
        rw [relD_int rb] at ry
        simp only [ixL] at h
        split at h
        · rename_i d e
          obtain ⟨w, h1, h2⟩ := atI_rel hr e
          exact ix_list value slice pins s σ H _ _ v u Q I rx ry ⟨a1, vs, i, w, rfl, rfl, hq, h1, OkR.same h S h2⟩ hs
        · exact h.elim
      | _ => exact h.elim
    simp only [ixD] at h
    split at h
    · rename_i xs e1
      exact key xs (by unfold listAt; rw [e1]) h
    · rename_i xs e1
      exact key xs (by unfold listAt; rw [e1]) h
    · split at h
      · rename_i d e
        obtain ⟨a1, ov, rfl, g, _, hd⟩ := S.dget e ra rb
        obtain ⟨w, rfl, hw⟩ := hd d rfl
        cases (show v = Value.ref a1 from rx)
        unfold Rm at hu
        exact tail_any (dict_typeIs I g) PySem.F.slot_dict_getitem.lookup (d_getItem (by omega) I g ry fun w' s' I' rw' => ⟨w, H, I', rw', OkR.same h S hw⟩) hs
      · exact h.elim
  | _ => exact h.elim

/-! ### slices -/
theorem sIx_eq (n d : Nat) (o : Option Int) : sIx n d o = HT.sIx n d o := by
  cases o with
  | none => rfl
  | some v =>
    show (if 0 ≤ v then min v.toNat n else (v + n).toNat) = (if v < 0 then _ else _)
    by_cases h : 0 ≤ v
    · rw [if_pos h, if_neg (by omega)]
    · rw [if_neg h, if_pos (by omega)]
theorem cut_rel {K : PySem.W.Frag} {ι : List Addr} {H : Hp} {xs : List D} {vs : List V} (r : RelDs K ι H xs vs) (lo hi : Option Int) : RelDs K ι H (cut xs lo hi) (cutV vs lo hi) := by
  unfold cut cutV
  simp only
  rw [sIx_eq, sIx_eq, r.length]
  exact (r.drop _).take _
theorem cut_whole {α : Type} (xs : List α) (lo hi : Option Int) (h : HT.sIx xs.length 0 lo = 0 ∧ HT.sIx xs.length xs.length hi = xs.length) : cut xs lo hi = xs := by
  unfold cut
  simp only
  rw [sIx_eq, sIx_eq, h.1, h.2]; simp
theorem sl_all : SlR X (fun x lo hi H Q => ∃ ι M a, SR X.K ι H M ∧ RelD X.K ι H a x ∧ OkR X.K ι H Q (slcD a lo hi M)) := by
  intro pins s σ H x v vl vu lo hi sl Q I rx hs pl pu h
  obtain ⟨ι, M, a, S, ra, h⟩ := h
  cases a with
  | str z =>
    obtain ⟨rfl, hl, hk⟩ := relD_str (t := z) ra
    refine sl_str pins s σ H _ v vl vu lo hi sl Q I rx hs pl pu ⟨z, rfl, hl, ?_⟩
    have e : cutS z lo hi = ⟨(cut z.cps.toList lo hi).toArray⟩ := by
      unfold cutS cut
      simp only
      rw [sIx_eq, sIx_eq]
      have : z.cps.toList.length = z.length := by simp [Str.length]
      rw [this]
    rw [e]
    refine OkR.same h S (.strs ?_ (strOk_of fun c hc => strOk_list.mp hk c ?_))
    · show (cut z.cps.toList lo hi).toArray.size ≤ sizeLine
      have h1 : (cut z.cps.toList lo hi).length ≤ z.cps.toList.length := by
        unfold cut; rw [List.length_take, List.length_drop]; omega
      have h2 : z.cps.toList.length = z.length := by simp [Str.length]
      simp only [List.size_toArray]; omega
    · unfold cut at hc
      exact List.mem_of_mem_drop (List.mem_of_mem_take hc)
  | tup xs =>
    simp only [RelD] at ra
    obtain ⟨a1, vs, rfl, hq, hr⟩ := ra
    refine sl_tupA pins s σ H _ v vl vu lo hi sl Q I rx hs pl pu ⟨a1, vs, rfl, hq, fun e => ?_, fun _ p hp => OkR.newT h S hp (cut_rel hr lo hi)⟩
    refine OkR.same h S ?_
    rw [← hr.length] at e
    rw [cut_whole xs lo hi e]
    simp only [RelD]
    exact ⟨a1, vs, rfl, hq, hr⟩
  | ref i =>
    simp only [slcD] at h
    split at h
    · rename_i xs e
      obtain ⟨a1, vs, rfl, hq, hr⟩ := S.list e ra
      exact sl_list pins s σ H _ v vl vu lo hi sl Q I rx hs pl pu ⟨a1, vs, rfl, hq, fun p hp => OkR.new h S hp rfl ⟨_, upd_same, (cut_rel hr lo hi).step (Step.alloc hp)⟩⟩
    · exact h.elim
  | _ => exact h.elim
end
end Sk
end
section
set_option Elab.async false
set_option linter.all false
set_option autoImplicit false
set_option maxRecDepth 100000
/-! SkB4: built-in functions. -/
namespace Sk
open PySem PySem.Spec PyProof.Rows L2
section
variable {X : L2.Cx}
theorem relDs_one {K : PySem.W.Frag} {ι : List Addr} {H : Hp} {d : D} {vs : List V} (r : RelDs K ι H [d] vs) : ∃ v, vs = [v] ∧ RelD K ι H d v := by
  simp only [RelDs] at r
  obtain ⟨v, _, rfl, h, rfl⟩ := r
  exact ⟨v, rfl, h⟩
theorem relDs_two {K : PySem.W.Frag} {ι : List Addr} {H : Hp} {d e : D} {vs : List V} (r : RelDs K ι H [d, e] vs) : ∃ v w, vs = [v, w] ∧ RelD K ι H d v ∧ RelD K ι H e w := by
  simp only [RelDs] at r
  obtain ⟨v, _, rfl, h, w, _, rfl, g, rfl⟩ := r
  exact ⟨v, w, rfl, h, g⟩
theorem relDs_three {K : PySem.W.Frag} {ι : List Addr} {H : Hp} {d e f : D} {vs : List V} (r : RelDs K ι H [d, e, f] vs) : ∃ v w x, vs = [v, w, x] ∧ RelD K ι H d v ∧ RelD K ι H e w ∧ RelD K ι H f x := by
  simp only [RelDs] at r
  obtain ⟨v, _, rfl, h, w, _, rfl, g, x, _, rfl, k, rfl⟩ := r
  exact ⟨v, w, x, rfl, h, g, k⟩
/-- the items of a list or a tuple -/
theorem seqOf_rel {K : PySem.W.Frag} {ι : List Addr} {H : Hp} {M : Store} {d : D} {xs : List D} {v : V} (S : SR K ι H M) (e : seqOf M d = some xs) (r : RelD K ι H d v) : ∃ a vs, v = .ref a ∧ (SqL K H a vs ∨ SqT K H a vs ∧ d = .tup xs) ∧ RelDs K ι H xs vs := by
  cases d with
  | tup ys =>
    simp only [seqOf, Option.some.injEq] at e
    subst e
    simp only [RelD] at r
    obtain ⟨a, vs, rfl, h, g⟩ := r
    exact ⟨a, vs, rfl, .inr ⟨h, rfl⟩, g⟩
  | ref i =>
    simp only [seqOf] at e
    obtain ⟨a, vs, rfl, h, g⟩ := S.list e r
    exact ⟨a, vs, rfl, .inl h, g⟩
  | _ => cases e
/-- a built-in function -/
def CB (X : L2.Cx) (f : Value) (g : List D → Store → Res D) : Prop := CallR X f (rA X.K g)
theorem cb_len : CB X (.builtin "len") (bltD .len) := by
  intro pins s σ H vs us Q I r h
  obtain ⟨ι, M, ds, S, rd, h⟩ := h
  simp only [bltD] at h
  split at h
  · rename_i d
    obtain ⟨v, rfl, rv⟩ := relDs_one rd
    split at h
    · rename_i n e
      have fin : LenV X.K v H n → wpAny (model X.prog X.w) X.A (call (.builtin "len") us) (EP X pins σ Q) X.xe s := fun l =>
        call_len pins s σ H _ us Q I r ⟨v, n, rfl, l, OkR.same h S .ints⟩
      cases d with
      | str z =>
        simp only [lenM, Option.some.injEq] at e
        obtain ⟨rfl, hl, _⟩ := relD_str (t := z) rv
        exact fin ⟨hl, e.symm⟩
      | tup xs =>
        simp only [lenM, Option.some.injEq] at e
        simp only [RelD] at rv
        obtain ⟨a, ws, rfl, hs, hr⟩ := rv
        exact fin (.inr ⟨ws, hs, by rw [← hr.length]; exact e.symm⟩)
      | ref i =>
        simp only [lenM] at e
        split at e
        · rename_i xs e1
          obtain ⟨a, ws, rfl, hs, hr⟩ := S.list (xs := xs) (by unfold listAt; rw [e1]) rv
          exact fin (.inl ⟨ws, hs, by rw [← hr.length]; exact (Option.some.inj e).symm⟩)
        · rename_i xs e1
          obtain ⟨a, ws, rfl, hs, hr⟩ := S.list (xs := xs) (by unfold listAt; rw [e1]) rv
          exact fin (.inl ⟨ws, hs, by rw [← hr.length]; exact (Option.some.inj e).symm⟩)
        · rename_i kvs e1
          obtain ⟨a, rfl, _, kv, h1, h2⟩ := S.ref e1 rv
          obtain ⟨u, rfl, ru⟩ := vals1 r
          cases (show u = Value.ref a from ru)
          refine d_len I (.inl h1) fun t s' I' => ⟨.int (kv.length : Nat), H, I', ⟨t, rfl⟩, ?_⟩
          have hl : kvs.length = kv.length := Paired.length h2
          rw [← hl, Option.some.inj e]
          exact OkR.same h S .ints
        · cases e
      | _ => cases e
    · exact h.elim
  · exact h.elim
theorem cb_tuple : CB X (.type "tuple") (bltD .tuple) := by
  intro pins s σ H vs us Q I r h
  obtain ⟨ι, M, ds, S, rd, h⟩ := h
  simp only [bltD] at h
  split at h
  · rename_i d
    obtain ⟨v, rfl, rv⟩ := relDs_one rd
    split at h
    · rename_i xs e
      obtain ⟨a, ws, rfl, hs, hr⟩ := seqOf_rel S e rv
      refine call_tuple_of pins s σ H _ us Q I r ⟨a, ws, rfl, ?_⟩
      rcases hs with hs | ⟨hs, rfl⟩
      · exact .inl ⟨hs, fun p hp => OkR.newT h S hp hr⟩
      · exact .inr ⟨hs, OkR.same h S rv⟩
    · exact h.elim
  · exact h.elim
theorem cb_list : CB X (.type "list") (bltD .list) := by
  intro pins s σ H vs us Q I r h
  obtain ⟨ι, M, ds, S, rd, h⟩ := h
  simp only [bltD] at h
  split at h
  · rename_i d
    obtain ⟨v, rfl, rv⟩ := relDs_one rd
    split at h
    · rename_i xs e
      obtain ⟨a, ws, rfl, hs, hr⟩ := seqOf_rel S e rv
      exact call_list_of pins s σ H _ us Q I r ⟨a, ws, rfl, hs.imp (fun h => h) (fun h => h.1), fun p hp => OkR.new h S hp rfl ⟨_, upd_same, hr.step (Step.alloc hp)⟩⟩
    · exact h.elim
  · exact h.elim
theorem intsOf_rel {K : PySem.W.Frag} {ι : List Addr} {H : Hp} : ∀ {xs : List D} {ns : List Int} {vs : List V}, intsOf xs = some ns → RelDs K ι H xs vs → vs = ns.map V.int
  | [], _, _, e, r => by simp only [RelDs] at r; cases e; subst r; rfl
  | .int i :: xs, _, vs, e, r => by
    simp only [RelDs] at r
    obtain ⟨v, ws, rfl, h1, h2⟩ := r
    simp only [intsOf] at e
    obtain ⟨ms, e1, rfl⟩ := Option.map_eq_some_iff.mp e
    rw [relD_int h1, intsOf_rel e1 h2]; rfl
  | .non :: _, _, _, e, _ => by cases e
  | .bl _ :: _, _, _, e, _ => by cases e
  | .str _ :: _, _, _, e, _ => by cases e
  | .tup _ :: _, _, _, e, _ => by cases e
  | .ref _ :: _, _, _, e, _ => by cases e
theorem cb_sum (hc : X.calm = true) : CB X (.builtin "sum") (bltD .sum) := by
  intro pins s σ H vs us Q I r h
  obtain ⟨ι, M, ds, S, rd, h⟩ := h
  simp only [bltD] at h
  split at h
  · rename_i i
    obtain ⟨v, rfl, rv⟩ := relDs_one rd
    split at h
    · rename_i xs e
      split at h
      · rename_i ns e2
        obtain ⟨a, ws, rfl, hs, hr⟩ := S.list e rv
        rw [intsOf_rel e2 hr] at hs
        exact cr_sum hc pins s σ H _ us Q I r ⟨a, ns, rfl, hs, OkR.same h S .ints⟩
      · exact h.elim
    · exact h.elim
  · exact h.elim
theorem cb_abs : CB X (.builtin "abs") (bltD .abs) := by
  intro pins s σ H vs us Q I r h
  obtain ⟨ι, M, ds, S, rd, h⟩ := h
  simp only [bltD] at h
  split at h
  · rename_i i
    obtain ⟨v, rfl, rv⟩ := relDs_one rd
    rw [relD_int rv] at r
    exact call_abs pins s σ H _ us Q I r ⟨i, rfl, OkR.same h S .ints⟩
  · exact h.elim
theorem cb_int : CB X (.type "int") (bltD .int) := by
  intro pins s σ H vs us Q I r h
  obtain ⟨ι, M, ds, S, rd, h⟩ := h
  simp only [bltD] at h
  split at h
  · rename_i i
    obtain ⟨v, rfl, rv⟩ := relDs_one rd
    rw [relD_int rv] at r
    exact call_int1 pins s σ H _ us Q I r (.inl ⟨i, rfl, OkR.same h S .ints⟩)
  · rename_i b
    obtain ⟨v, rfl, rv⟩ := relDs_one rd
    rw [relD_bl rv] at r
    exact call_int1 pins s σ H _ us Q I r (.inr ⟨b, rfl, OkR.same h S .ints⟩)
  · exact h.elim

/-! ### least, greatest, sorted -/
mutual
theorem D.toP_inj : ∀ {a b : D}, a.pure = true → b.pure = true → a.toP = b.toP → a = b
  | .non, b, _, q, e => by cases b <;> simp_all [D.toP, D.pure]
  | .bl _, b, _, q, e => by cases b <;> simp_all [D.toP, D.pure]
  | .int _, b, _, q, e => by cases b <;> simp_all [D.toP, D.pure]
  | .str _, b, _, q, e => by cases b <;> simp_all [D.toP, D.pure]
  | .ref _, b, p, _, _ => by simp [D.pure] at p
  | .tup xs, b, p, q, e => by
    cases b with
    | tup ys =>
      simp only [D.toP, PyData.tuple.injEq] at e
      simp only [D.pure] at p q
      rw [D.toPs_inj p q e]
    | ref _ => simp [D.pure] at q
    | _ => simp [D.toP] at e
theorem D.toPs_inj : ∀ {xs ys : List D}, D.pures xs = true → D.pures ys = true → D.toPs xs = D.toPs ys → xs = ys
  | [], ys, _, _, e => by cases ys <;> simp_all [D.toPs]
  | x :: xs, ys, p, q, e => by
    cases ys with
    | nil => simp [D.toPs] at e
    | cons y ys =>
      simp only [D.toPs, List.cons.injEq] at e
      simp only [D.pures, Bool.and_eq_true] at p q
      rw [D.toP_inj p.1 q.1 e.1, D.toPs_inj p.2 q.2 e.2]
end
theorem okOrd_facts {xs : List D} (h : okOrd xs = true) : (∀ a ∈ xs, ∀ b ∈ xs, D.alike a b = true) ∧ D.pures xs = true ∧ D.dles xs 50 = true ∧ ∀ a ∈ xs, a.isNon = false := by
  unfold okOrd allAlike at h
  simp only [Bool.and_eq_true, List.all_eq_true, Bool.not_eq_true'] at h
  exact ⟨fun a ha b hb => h.1.1.1 a ha b hb, h.1.1.2, h.1.2, h.2⟩
theorem alikeAll_of {xs : List D} (h : okOrd xs = true) : PySem.W.AlikeAll (D.toPs xs) := by
  obtain ⟨h1, h2, h3, h4⟩ := okOrd_facts h
  rw [D.pures_mem] at h2
  rw [D.toPs_map]
  constructor
  · intro x hx y hy
    obtain ⟨a, ha, rfl⟩ := List.mem_map.mp hx
    obtain ⟨b, hb, rfl⟩ := List.mem_map.mp hy
    exact D.alike_toP (h1 a ha b hb)
  · intro x hx
    obtain ⟨a, ha, rfl⟩ := List.mem_map.mp hx
    exact D.toP_ne_none (h4 a ha) (h2 a ha)
theorem minD_toP : ∀ (xs : List D) (x : D), (∀ a ∈ x :: xs, ∀ b ∈ x :: xs, D.alike a b = true) → D.pures (x :: xs) = true → PySem.W.minD x.toP (D.toPs xs) = (bestMin x xs).toP ∧ bestMin x xs ∈ x :: xs
  | [], x, _, _ => ⟨by simp only [D.toPs]; rfl, by simp [bestMin]⟩
  | y :: ys, x, h, p => by
    have p2 := D.pures_mem.mp p
    have e : PySem.W.dataLt y.toP x.toP = D.lt y x := D.lt_toP (h y (by simp) x (by simp)) (p2 y (by simp)) (p2 x (by simp))
    have key : ∀ z : D, (z = x ∨ z = y) → (∀ a ∈ z :: ys, a ∈ x :: y :: ys) := by
      rintro z (rfl | rfl) a ha
      · rcases List.mem_cons.mp ha with rfl | ha
        · simp
        · simp [ha]
      · rcases List.mem_cons.mp ha with rfl | ha
        · simp
        · simp [ha]
    have step : ∀ z : D, (z = x ∨ z = y) → PySem.W.minD z.toP (D.toPs ys) = (bestMin z ys).toP ∧ bestMin z ys ∈ x :: y :: ys := fun z hz => by
      have k := key z hz
      obtain ⟨a1, a2⟩ := minD_toP ys z (fun a ha b hb => h a (k a ha) b (k b hb)) (D.pures_mem.mpr fun a ha => p2 a (k a ha))
      exact ⟨a1, k _ a2⟩
    simp only [D.toPs]
    unfold PySem.W.minD bestMin
    rw [List.foldl_cons, List.foldl_cons, e]
    cases D.lt y x with
    | true => simp only [if_true]; exact step y (.inr rfl)
    | false => simp only [Bool.false_eq_true, if_false]; exact step x (.inl rfl)
theorem maxD_toP : ∀ (xs : List D) (x : D), (∀ a ∈ x :: xs, ∀ b ∈ x :: xs, D.alike a b = true) → D.pures (x :: xs) = true → PySem.W.maxD x.toP (D.toPs xs) = (bestMax x xs).toP ∧ bestMax x xs ∈ x :: xs
  | [], x, _, _ => ⟨by simp only [D.toPs]; rfl, by simp [bestMax]⟩
  | y :: ys, x, h, p => by
    have p2 := D.pures_mem.mp p
    have e : PySem.W.dataLt x.toP y.toP = D.lt x y := D.lt_toP (h x (by simp) y (by simp)) (p2 x (by simp)) (p2 y (by simp))
    have key : ∀ z : D, (z = x ∨ z = y) → (∀ a ∈ z :: ys, a ∈ x :: y :: ys) := by
      rintro z (rfl | rfl) a ha
      · rcases List.mem_cons.mp ha with rfl | ha
        · simp
        · simp [ha]
      · rcases List.mem_cons.mp ha with rfl | ha
        · simp
        · simp [ha]
    have step : ∀ z : D, (z = x ∨ z = y) → PySem.W.maxD z.toP (D.toPs ys) = (bestMax z ys).toP ∧ bestMax z ys ∈ x :: y :: ys := fun z hz => by
      have k := key z hz
      obtain ⟨a1, a2⟩ := maxD_toP ys z (fun a ha b hb => h a (k a ha) b (k b hb)) (D.pures_mem.mpr fun a ha => p2 a (k a ha))
      exact ⟨a1, k _ a2⟩
    simp only [D.toPs]
    unfold PySem.W.maxD bestMax
    rw [List.foldl_cons, List.foldl_cons, e]
    cases D.lt x y with
    | true => simp only [if_true]; exact step y (.inr rfl)
    | false => simp only [Bool.false_eq_true, if_false]; exact step x (.inl rfl)
/-- the value that was found is the datum meant -/
theorem found_is {K : PySem.W.Frag} {pins : List (Addr × Obj)} {σ : L2.St} {H : Hp} {s : Shared} {ι : List Addr} {xs : List D} {ws : List V} {its : List Value} {i : Nat} {v : Value} {h' : Heap} {b : D} {bs : List Addr} (I : Inv X pins σ H s) (hK : X.K = K)
    (hr : RelDs K ι H xs ws) (rv : Vals ws its) (hv : its[i]? = some v) (hp : D.pures xs = true) (hb : b ∈ xs) (hal : ∀ a ∈ xs, ∀ b ∈ xs, D.alike a b = true) (rd : Reads h' v b.toP bs) (k : ∀ b o, s.heap.get? b = some o → h'.get? b = some o) :
    ∃ w, RelV w v ∧ RelD K ι H b w := by
  subst hK
  have hl : i < ws.length := by
    have := (List.getElem?_eq_some_iff.mp hv).1
    rw [rv.length]; exact this
  obtain ⟨w, hw⟩ : ∃ w, ws[i]? = some w := ⟨ws[i], by simp [hl]⟩
  obtain ⟨u, hu, ru⟩ := rv.get hw
  rw [hv] at hu; cases hu
  obtain ⟨d, hd, rd'⟩ := hr.getV hw
  have hdm : d ∈ xs := List.mem_of_getElem? hd
  have hpd := D.pures_mem.mp hp
  obtain ⟨as, r1⟩ := Dp.reads I _ _ _ (rd'.dp (hpd d hdm)) ru
  have e := PySem.W.alike_unique _ _ _ _ _ (D.alike_toP (hal d hdm b hb)) (Reads.keeps k r1) rd
  have : d = b := D.toP_inj (hpd d hdm) (hpd b hb) e
  subst this
  exact ⟨w, ru, rd'⟩
theorem cb_min (hc : X.calm = true) (hu : Rm X) : CB X (.builtin "min") (bltD .min) := by
  intro pins s σ H vs us Q I r h
  obtain ⟨ι, M, ds, S, rd, h⟩ := h
  simp only [bltD] at h
  split at h
  · rename_i d
    obtain ⟨v, rfl, rv⟩ := relDs_one rd
    split at h
    · rename_i x xs e
      split at h
      · rename_i ho
        obtain ⟨h1, h2, h3, h4⟩ := okOrd_facts ho
        obtain ⟨a, ws, rfl, hs, hr⟩ := seqOf_rel S e rv
        obtain ⟨u, rfl, ru⟩ := vals1 r
        cases (show u = Value.ref a from ru)
        have hd := D.dles_depth h3
        have hm := minD_toP xs x h1 h2
        unfold Rm at hu
        rcases hs with hs | ⟨hs, _⟩
        · obtain ⟨its, rvs, hl, _⟩ := I.list hs
          obtain ⟨as, hrd⟩ := Dp.readsAll I _ _ _ (hr.dp h2) rvs
          refine PySem.W.min_list_data (I.ok.hd hc) hl.isList (vs := its.toArray) (by simpa [D.toPs] using hrd) (alikeAll_of ho) (by simp only [D.toPs] at hd; omega) fun i w h' tk bs hv hrr hk => ?_
          obtain ⟨w', rw', rd'⟩ := found_is I rfl hr rvs (by simpa using hv) h2 hm.2 h1 (by rw [← hm.1]; exact hrr) hk
          exact ⟨w', H, I.kept hk, rw', OkR.same h S rd'⟩
        · obtain ⟨its, rvs, hl, _⟩ := I.tuple hs
          obtain ⟨as, hrd⟩ := Dp.readsAll I _ _ _ (hr.dp h2) rvs
          refine PySem.W.min_tuple_data (I.ok.hd hc) hl (vs := its.toArray) (by simpa [D.toPs] using hrd) (alikeAll_of ho) (by simp only [D.toPs] at hd; omega) fun i w h' tk bs hv hrr hk => ?_
          obtain ⟨w', rw', rd'⟩ := found_is I rfl hr rvs (by simpa using hv) h2 hm.2 h1 (by rw [← hm.1]; exact hrr) hk
          exact ⟨w', H, I.kept hk, rw', OkR.same h S rd'⟩
      · exact h.elim
    · exact h.elim
  · rename_i i j
    obtain ⟨v, w, rfl, r1, r2⟩ := relDs_two rd
    rw [relD_int r1, relD_int r2] at r
    exact call_min2 hc pins s σ H _ us Q I r ⟨i, j, rfl, OkR.same h S .ints⟩
  · rename_i i j k
    obtain ⟨v, w, x, rfl, r1, r2, r3⟩ := relDs_three rd
    rw [relD_int r1, relD_int r2, relD_int r3] at r
    obtain ⟨u1, us1, rfl, ⟨t1, rfl⟩, r'⟩ : ∃ u us', us = u :: us' ∧ RelV (.int i) u ∧ Vals [.int j, .int k] us' := by cases r with | cons a b => exact ⟨_, _, rfl, a, b⟩
    obtain ⟨u2, u3, rfl, ⟨t2, rfl⟩, ⟨t3, rfl⟩⟩ := vals2 r'
    refine min_three_ints (I.ok.hd hc) fun h' tk hk => ⟨.int (if j < i then (if k < j then k else j) else (if k < i then k else i)), H, I.kept hk, ?_, OkR.same h S .ints⟩
    by_cases a : j < i <;> by_cases b : k < j <;> by_cases c : k < i <;> simp only [a, b, c, if_true, if_false] <;> exact ⟨_, rfl⟩
  · exact h.elim
theorem cb_max (hc : X.calm = true) (hu : Rm X) : CB X (.builtin "max") (bltD .max) := by
  intro pins s σ H vs us Q I r h
  obtain ⟨ι, M, ds, S, rd, h⟩ := h
  simp only [bltD] at h
  split at h
  · rename_i d
    obtain ⟨v, rfl, rv⟩ := relDs_one rd
    split at h
    · rename_i x xs e
      split at h
      · rename_i ho
        obtain ⟨h1, h2, h3, h4⟩ := okOrd_facts ho
        obtain ⟨a, ws, rfl, hs, hr⟩ := seqOf_rel S e rv
        obtain ⟨u, rfl, ru⟩ := vals1 r
        cases (show u = Value.ref a from ru)
        have hd := D.dles_depth h3
        have hm := maxD_toP xs x h1 h2
        unfold Rm at hu
        rcases hs with hs | ⟨hs, _⟩
        · obtain ⟨its, rvs, hl, _⟩ := I.list hs
          obtain ⟨as, hrd⟩ := Dp.readsAll I _ _ _ (hr.dp h2) rvs
          refine PySem.W.max_list_data (I.ok.hd hc) hl.isList (vs := its.toArray) (by simpa [D.toPs] using hrd) (alikeAll_of ho) (by simp only [D.toPs] at hd; omega) fun i w h' tk bs hv hrr hk => ?_
          obtain ⟨w', rw', rd'⟩ := found_is I rfl hr rvs (by simpa using hv) h2 hm.2 h1 (by rw [← hm.1]; exact hrr) hk
          exact ⟨w', H, I.kept hk, rw', OkR.same h S rd'⟩
        · obtain ⟨its, rvs, hl, _⟩ := I.tuple hs
          obtain ⟨as, hrd⟩ := Dp.readsAll I _ _ _ (hr.dp h2) rvs
          refine PySem.W.max_tuple_data (I.ok.hd hc) hl (vs := its.toArray) (by simpa [D.toPs] using hrd) (alikeAll_of ho) (by simp only [D.toPs] at hd; omega) fun i w h' tk bs hv hrr hk => ?_
          obtain ⟨w', rw', rd'⟩ := found_is I rfl hr rvs (by simpa using hv) h2 hm.2 h1 (by rw [← hm.1]; exact hrr) hk
          exact ⟨w', H, I.kept hk, rw', OkR.same h S rd'⟩
      · exact h.elim
    · exact h.elim
  · rename_i i j
    obtain ⟨v, w, rfl, r1, r2⟩ := relDs_two rd
    rw [relD_int r1, relD_int r2] at r
    exact call_max2 hc pins s σ H _ us Q I r ⟨i, j, rfl, OkR.same h S .ints⟩
  · exact h.elim
end
end Sk
end
section
set_option Elab.async false
set_option linter.all false
set_option autoImplicit false
set_option maxRecDepth 100000
/-! SkB5: sorted, methods. -/
namespace Sk
open PySem PySem.Spec PyProof.Rows L2
section
variable {X : L2.Cx}
theorem dataLe_lt (x y : PyData) : PySem.W.dataLe false (fun d : PyData => d) x y = !PySem.W.dataLt y x := rfl
theorem dataLe_enc {β : Type} (f : β → PyData) (x y : β) : PySem.W.dataLe false f x y = !PySem.W.dataLt (f y) (f x) := rfl
theorem okSort_facts {xs : List D} (h : okSort xs = true) : okOrd xs = true ∧ PySem.W.Sortable (xs.map D.toP) := by
  unfold okSort at h
  simp only [Bool.and_eq_true, Bool.or_eq_true, List.all_eq_true] at h
  refine ⟨h.1, ?_⟩
  rcases h.2 with g | g
  · refine .inl fun d hd => ?_
    obtain ⟨a, ha, rfl⟩ := List.mem_map.mp hd
    have := g a ha
    cases a with
    | tup ys =>
      cases ys with
      | nil => simp [D.isTup] at this
      | cons y ys => exact ⟨y.toP, D.toPs ys, by simp [D.toP, D.toPs]⟩
    | _ => simp [D.isTup] at this
  · refine .inr fun d hd => ?_
    obtain ⟨a, ha, rfl⟩ := List.mem_map.mp hd
    have := g a ha
    have hn := (okOrd_facts h.1).2.1
    cases a <;> simp_all [D.noTup, D.toP]
    exact absurd (D.pures_mem.mp hn _ ha) (by simp [D.pure])
mutual
theorem noAs {h : Heap} : ∀ (d : D) {v : Value} {as : List Addr}, Reads h v d.toP as → as = []
  | .non, _, _, q => by cases q; rfl
  | .bl _, _, _, q => by cases q; rfl
  | .int _, _, _, q => by cases q; rfl
  | .str _, _, _, q => by cases q; rfl
  | .ref _, _, _, q => by cases q; rfl
  | .tup ds, _, _, q => by
    simp only [D.toP] at q
    cases q with
    | tuple _ _ _ q => exact noAss ds q
theorem noAss {h : Heap} : ∀ (ds : List D) {vs : List Value} {as : List Addr}, ReadsAll h vs (D.toPs ds) as → as = []
  | [], _, _, q => by simp only [D.toPs] at q; cases q; rfl
  | d :: ds, _, _, q => by
    simp only [D.toPs] at q
    cases q with
    | cons a b => rw [noAs d a, noAss ds b]; rfl
end
/-- data and where they stand, in one list -/
theorem zip_rel {K : PySem.W.Frag} {ι : List Addr} {H : Hp} : ∀ {xs : List D} {ws : List V}, RelDs K ι H xs ws → ∃ bs : List (V × D), bs.map (·.1) = ws ∧ bs.map (·.2) = xs ∧ ∀ b ∈ bs, RelD K ι H b.2 b.1
  | [], ws, r => by simp only [RelDs] at r; subst r; exact ⟨[], rfl, rfl, by simp⟩
  | x :: xs, ws, r => by
    simp only [RelDs] at r
    obtain ⟨v, us, rfl, h1, h2⟩ := r
    obtain ⟨bs, e1, e2, e3⟩ := zip_rel h2
    refine ⟨(v, x) :: bs, by simp [e1], by simp [e2], fun b hb => ?_⟩
    rcases List.mem_cons.mp hb with rfl | hb
    · exact h1
    · exact e3 b hb
theorem unzip_rel {K : PySem.W.Frag} {ι : List Addr} {H : Hp} : ∀ {bs : List (V × D)}, (∀ b ∈ bs, RelD K ι H b.2 b.1) → RelDs K ι H (bs.map (·.2)) (bs.map (·.1))
  | [], _ => by simp [RelDs]
  | b :: bs, h => by
    simp only [List.map_cons, RelDs]
    exact ⟨_, _, rfl, h b (by simp), unzip_rel fun c hc => h c (by simp [hc])⟩
theorem each_vals : ∀ {out : List Value} {bs : List (V × D)}, PySem.W.EachIs (fun (u : Value) (b : V × D) => RelV b.1 u) out bs → Vals (bs.map (·.1)) out
  | _, _, .nil => .nil
  | _, _, .cons h t => .cons h (each_vals t)
theorem vals_each : ∀ {out : List Value} {bs : List (V × D)}, Vals (bs.map (·.1)) out → PySem.W.EachIs (fun (u : Value) (b : V × D) => RelV b.1 u) out bs
  | [], [], _ => .nil
  | u :: us, b :: bs, h => by cases h with | cons a t => exact .cons a (vals_each t)
  | _ :: _, [], h => by cases h
  | [], _ :: _, h => by cases h
theorem vals_reads {pins : List (Addr × Obj)} {σ : L2.St} {H : Hp} {s : Shared} {ι : List Addr} (I : Inv X pins σ H s) : ∀ {out : List Value} {bs : List (V × D)}, Vals (bs.map (·.1)) out → (∀ b ∈ bs, RelD X.K ι H b.2 b.1 ∧ b.2.pure = true) →
    PySem.W.EachIs (fun (u : Value) (b : V × D) => ∃ as, Reads s.heap u b.2.toP as) out bs
  | [], [], _, _ => .nil
  | u :: us, b :: bs, h, g => by
    cases h with
    | cons a t =>
      obtain ⟨g1, g2⟩ := g b (by simp)
      exact .cons (Dp.reads I _ _ _ (g1.dp g2) a) (vals_reads I t fun c hc => g c (by simp [hc]))
  | _ :: _, [], h, _ => by cases h
  | [], _ :: _, h, _ => by cases h
/-- what sorting asks of the data, and what it gives -/
theorem sort_pack {K : PySem.W.Frag} {ι : List Addr} {H : Hp} {xs : List D} {ws : List V} (hr : RelDs K ι H xs ws) (ho : okSort xs = true) :
    ∃ bs : List (V × D), bs.map (·.1) = ws ∧ (∀ b ∈ bs, RelD K ι H b.2 b.1 ∧ b.2.pure = true) ∧ bs.length = xs.length ∧ PySem.W.AllAlike (bs.map fun b => b.2.toP) ∧ PySem.W.Sortable (bs.map fun b => b.2.toP) ∧ (∀ b ∈ bs, b.2.toP.depth ≤ 50) ∧
      RelDs K ι H (sortD xs) ((bs.mergeSort (PySem.W.dataLe false fun b => b.2.toP)).map (·.1)) := by
  obtain ⟨h0, hS⟩ := okSort_facts ho
  obtain ⟨h1, h2, h3, h4⟩ := okOrd_facts h0
  obtain ⟨bs, e1, e2, e3⟩ := zip_rel hr
  have mem : ∀ b ∈ bs, b.2 ∈ xs := fun b hb => by rw [← e2]; exact List.mem_map.mpr ⟨b, hb, rfl⟩
  have hp := D.pures_mem.mp h2
  have em : (bs.map fun b => b.2.toP) = xs.map D.toP := by rw [← e2, List.map_map]; rfl
  refine ⟨bs, e1, fun b hb => ⟨e3 b hb, hp _ (mem b hb)⟩, by rw [← e2]; simp, ?_, by rw [em]; exact hS, fun b hb => ?_, ?_⟩
  · rw [em]
    intro d hd d' hd'
    obtain ⟨a, ha, rfl⟩ := List.mem_map.mp hd
    obtain ⟨a', ha', rfl⟩ := List.mem_map.mp hd'
    exact D.alike_toP (h1 a ha a' ha')
  · have hd : ∀ {l : List D}, D.dles l 50 = true → ∀ a ∈ l, a.dle 50 = true := by
      intro l
      induction l with
      | nil => intro _ a ha; cases ha
      | cons y l ih =>
        intro h a ha
        simp only [D.dles, Bool.and_eq_true] at h
        rcases List.mem_cons.mp ha with rfl | ha
        · exact h.1
        · exact ih h.2 a ha
    exact D.dle_depth (hd h3 _ (mem b hb))
  · have r := unzip_rel (K := K) (ι := ι) (H := H) (bs := bs.mergeSort (PySem.W.dataLe false fun b => b.2.toP)) fun b hb => e3 b (List.mem_mergeSort.mp hb)
    have e : (bs.mergeSort (PySem.W.dataLe false fun b => b.2.toP)).map (·.2) = sortD xs := by
      unfold sortD
      rw [← e2]
      refine List.map_mergeSort fun a ha b hb => ?_
      rw [dataLe_enc]
      show (!PySem.W.dataLt b.2.toP a.2.toP) = !D.lt b.2 a.2
      rw [D.lt_toP (h1 _ (mem b hb) _ (mem a ha)) (hp _ (mem b hb)) (hp _ (mem a ha))]
    rw [e] at r
    exact r
theorem sortD_len (xs : List D) : (sortD xs).length = xs.length := by unfold sortD; exact List.length_mergeSort _
theorem kvs_keys {K : PySem.W.Frag} {ι : List Addr} {H : Hp} : ∀ {kvs : List (Ky × D)} {kv : List (Key × V)}, RelKV K ι H kvs kv → kv.map (·.1) = kvs.map (·.1)
  | [], _, h => by cases h; rfl
  | p :: l, [], h => by cases h
  | p :: l, q :: r, h => by
    obtain ⟨hq, t⟩ : (p.1 = q.1 ∧ RelD K ι H p.2 q.2) ∧ RelKV K ι H l r := by cases h with | cons a b => exact ⟨a, b⟩
    simp only [List.map_cons, hq.1, kvs_keys t]
theorem strFit_ok {s : Str} (h : strFit s = true) : s.length ≤ sizeLine ∧ PyData.strOk s = true := by
  unfold strFit at h
  simp only [Bool.and_eq_true, decide_eq_true_eq] at h
  exact ⟨by rw [← lim_eq]; exact h.1, h.2⟩
theorem keys_rel {K : PySem.W.Frag} {ι : List Addr} {H : Hp} : ∀ {kvs : List (Ky × D)}, keysFit kvs = true → RelDs K ι H (kvs.map fun p => kD p.1) (kvs.map fun p => kV p.1)
  | [], _ => by simp [RelDs]
  | p :: l, h => by
    unfold keysFit at h
    rw [List.all_cons, Bool.and_eq_true] at h
    simp only [List.map_cons, RelDs]
    refine ⟨_, _, rfl, ?_, keys_rel (by unfold keysFit; exact h.2)⟩
    obtain ⟨k, d⟩ := p
    cases k with
    | inl i => exact .ints
    | inr s =>
      obtain ⟨h1, h2⟩ := strFit_ok h.1
      exact .strs h1 h2
theorem cb_sorted (hc : X.calm = true) (hu : Rm X) : CB X (.builtin "sorted") (bltD .sorted) := by
  intro pins s σ H vs us Q I r h
  obtain ⟨ι, M, ds, S, rd, h⟩ := h
  simp only [bltD] at h
  unfold Rm at hu
  split at h
  · rename_i i
    obtain ⟨v, rfl, rv⟩ := relDs_one rd
    split at h
    · rename_i xs e
      split at h
      · rename_i ho
        obtain ⟨a, ws, rfl, _, hs, hr⟩ := S.lst e rv
        obtain ⟨u, rfl, ru⟩ := vals1 r
        cases (show u = Value.ref a from ru)
        obtain ⟨its, rvs, hl, hz⟩ := I.list (SqL.of hs)
        obtain ⟨bs, e1, e2, e3, e4, e5, e6, e7⟩ := sort_pack hr ho
        subst e1
        refine PySem.W.sorted_data (R := fun u b => RelV b.1 u) hl.isList (vals_each rvs) (vals_reads I rvs e2) e4 e5 (by rw [e3, hr.length]; exact hz) (fun b hb => by have := e6 b hb; omega) fun out hol eo => ?_
        obtain ⟨ep, he'⟩ := PyProof.Rows.sortedAll_at s.heap its (List.toArray out)
        have hf := I.hok.fresh (Nat.le_succ s.heap.objs.size)
        refine ⟨.ref (s.heap.objs.size + 1), _, I.laid (t' := s.toks) (fun _ _ => PyProof.Rows.sortedAll_old) (Nat.le_succ _) (o := .lst ((bs.mergeSort (PySem.W.dataLe false fun b => b.2.toP)).map (·.1))) ⟨?_, out, ep, each_vals eo, he'⟩, rfl, OkR.new h S hf rfl ⟨_, upd_same, e7.step (Step.alloc hf)⟩⟩
        rw [List.length_map, List.length_mergeSort, e3, hr.length]; exact hz
      · exact h.elim
    · rename_i kvs e
      split at h
      · rename_i ho
        obtain ⟨ho, hkf⟩ := ho
        obtain ⟨a, rfl, _, kv, hs, hkv⟩ := S.ref e rv
        obtain ⟨u, rfl, ru⟩ := vals1 r
        cases (show u = Value.ref a from ru)
        have hr : RelDs X.K ι H (kvs.map fun p => kD p.1) (kvs.map fun p => kV p.1) := keys_rel hkf
        obtain ⟨z, lo, vs, rel, dd⟩ := dk_rd I.hok (.inl hs)
        obtain ⟨ep, hat⟩ := dd.dictAt
        have hk1 : vs.map (·.1) = kvs.map (·.1) := rel.keys.symm.trans (kvs_keys hkv)
        have hl : vs.length = kvs.length := by
          have := congrArg List.length hk1
          simpa using this
        have h16 : vs.length ≤ sizeLine := by
          have : kv.length = vs.length := Paired.length rel
          rw [← this]; exact z
        refine Calls.call_function_entry PyProof.Rows.kind_sorted PyProof.Rows.plain_sorted PyProof.Rows.entry_sorted (PyProof.Rows.args_sorted1 _) ?_
        unfold Builtin.«sorted»
        refine wpAny_bind (m := checkCount "sorted" 1 1 _) (wpAny_pure ?_)
        refine wpAny_bind (PySem.W.kdu_collect (A := X.A.in1) (PySem.W.kdl_dict (knd := mixKind X.prog X.w) (kvs := vs) (ep := ep) lo) (I.ok.hd hc) hat h16 fun h' tk acc hk hacc => ?_)
        have hv : Vals (kvs.map fun p => kV p.1) acc.toList := by
          have := keys_at (by rw [Array.length_toList]; exact hacc.1) fun j v e => hacc.2 j v (by rw [← Array.getElem?_toList]; exact e)
          have e9 : (vs.map fun p => kV p.1) = kvs.map fun p => kV p.1 := by
            have := congrArg (List.map kV) hk1
            rw [List.map_map, List.map_map] at this
            exact this
          rw [e9] at this
          exact this
        have I1 : Inv X pins σ H { s with heap := h', toks := tk } := I.kept hk
        have hal : acc.toList.length = kvs.length := by rw [Array.length_toList, hacc.1, hl]
        refine wpAny_bind (wpAny_newList ?_ (by rw [hal, ← hl]; exact h16))
        have hoL : (h'.push (seqObj "list" acc.toList.toArray 0)).get? h'.objs.size = some (seqObj "list" acc.toList.toArray 0) := Heap.get?_push_size _ rfl
        obtain ⟨bs, e1, e2, e3, e4, e5, e6, e7⟩ := sort_pack hr ho
        rw [← e1] at hv
        have I2 : Inv X pins σ H { s with heap := h'.push (seqObj "list" acc.toList.toArray 0), toks := tk } := I1.kept (t' := tk) fun b o q => Heap.get?_push_of_some _ q
        have hrd : PySem.W.EachIs (fun (u : Value) (b : V × D) => ∃ as, Reads (h'.push (seqObj "list" acc.toList.toArray 0)) u b.2.toP as ∧ h'.objs.size ∉ as) acc.toList bs := by
          have hrd0 := vals_reads I1 hv e2
          refine hrd0.mono fun u b ⟨as, q⟩ => ⟨as, Reads.keeps (fun _ _ e => Heap.get?_push_of_some _ e) q, fun hm => ?_⟩
          rw [noAs _ q] at hm
          cases hm
        show wpAny _ _ _ _ _ { s with heap := h'.push (seqObj "list" acc.toList.toArray 0), toks := tk }
        refine wpAny_bind (wpAny_holding (PySem.W.list_sort_data (R := fun u b => RelV b.1 u) (s := { s with heap := h'.push (seqObj "list" acc.toList.toArray 0), toks := tk }) hoL (vals_each hv) hrd e4 e5 (by rw [e3]; simp only [List.length_map]; rw [← hl]; exact h16) (fun b hb => by have := e6 b hb; show X.A.units + 1 + 1 + _ < _; omega) fun out hol eo => ?_))
        obtain ⟨e', he'⟩ := PyProof.Rows.sortedHeap_at (vs := acc.toList) (out := List.toArray out) hoL
        have hf := I1.hok.fresh (Nat.le_refl h'.objs.size)
        refine wpAny_pure ⟨_, rfl, .ref h'.objs.size, _, I1.laid (t' := tk) (fun b u e => ?_) (Nat.le_refl _) (o := .lst ((bs.mergeSort (PySem.W.dataLe false fun b => b.2.toP)).map (·.1))) ⟨?_, out, e', each_vals eo, he'⟩, rfl, OkR.new h S hf rfl ⟨_, upd_same, e7.step (Step.alloc hf)⟩⟩
        · have hb : b < h'.objs.size := Heap.lt_size e
          rw [PyProof.Rows.sortedHeap_old (Nat.ne_of_lt hb) (by rw [size_push']; exact Nat.lt_succ_of_lt hb)]
          exact Heap.get?_push_of_some _ e
        · rw [List.length_map, List.length_mergeSort, e3]; simp only [List.length_map]; rw [← hl]; exact h16
      · exact h.elim
    · exact h.elim
  · exact h.elim
end
end Sk
end
section
set_option Elab.async false
set_option linter.all false
set_option autoImplicit false
set_option maxRecDepth 100000
/-! SkC: an expression leaves what is older than it within itself. -/
namespace Sk
open PySem (Str)

structure Kept (M M' : Store) : Prop where
  len : M.length ≤ M'.length
  bel : ∀ (b : Nat), b ≤ M.length → Below b M → Below b M'
theorem Kept.refl {M : Store} : Kept M M := ⟨Nat.le_refl _, fun _ _ h => h⟩
theorem Kept.trans {A B C : Store} (x : Kept A B) (y : Kept B C) : Kept A C := ⟨Nat.le_trans x.len y.len, fun b hb h => y.bel b (Nat.le_trans hb x.len) (x.bel b hb h)⟩
theorem Kept.app {M : Store} {t : Store} : Kept M (M ++ t) := ⟨by simp, fun b hb h i o hi e => by
  rw [List.getElem?_append_left (by omega)] at e
  exact h i o hi e⟩
theorem Kept.take {M M' : Store} {n : Nat} (h : Kept M M') (hn : M.length ≤ n) : Kept M (M'.take n) := ⟨by have := h.len; simp; omega, fun b hb q i o hi e => by
  rw [List.getElem?_take_of_lt (by omega)] at e
  exact h.bel b hb q i o hi e⟩
theorem Kept.takeApp {M M' : Store} {n : Nat} {t : Store} (h : Kept M M') (hn : M.length ≤ n) : Kept M (M'.take n ++ t) := (h.take hn).trans Kept.app
theorem Kept.set {M : Store} {i : Nat} {o o' : O} (e : M[i]? = some o) (h : ∀ b, b ≤ M.length → o.under b → o'.under b) : Kept M (M.set i o') := ⟨by simp, fun b hb q k r hk e' => by
  by_cases z : i = k
  · subst z
    rw [List.getElem?_set_self (List.getElem?_eq_some_iff.mp e).1] at e'
    cases e'
    exact h b hb (q i o hk e)
  · rw [List.getElem?_set_ne z] at e'
    exact q k r hk e'⟩
def Kp {α : Type} (M : Store) : Res α → Prop
  | .ok _ M' => Kept M M'
  | .exc _ M' => Kept M M'
  | .bad => True
theorem Kp.of {α : Type} {M : Store} {a : α} : Kp M (.ok a M) := Kept.refl
theorem Kp.bad {α : Type} {M : Store} : Kp M (.bad : Res α) := trivial
theorem Kp.app {α : Type} {M t : Store} {a : α} : Kp M (.ok a (M ++ t)) := Kept.app
theorem Kp.mono {α : Type} {A B : Store} {r : Res α} (h : Kp B r) (k : Kept A B) : Kp A r := by
  cases r with
  | ok a M => exact k.trans h
  | exc x M => exact k.trans h
  | bad => trivial
theorem Kp.bind {α β : Type} {M : Store} {r : Res α} {f : α → Store → Res β} (h : Kp M r) (hf : ∀ a M1, r = .ok a M1 → Kp M1 (f a M1)) : Kp M (r.bind f) := by
  cases r with
  | ok a M1 => exact (hf a M1 rfl).mono h
  | exc x M1 => exact h
  | bad => trivial
theorem Kp.noExc {α : Type} {M : Store} {r : Res α} (h : Kp M r) : Kp M (noExc r) := by
  cases r <;> first | exact h | trivial
theorem kp_gc {M M1 : Store} {n : Nat} {d : D} (h : Kept M M1) (hn : M.length ≤ n) : Kp M (gc n d M1) := by
  unfold gc
  split
  · exact h.take hn
  · split
    · split
      · exact h.take hn
      · split
        · split
          · exact h.takeApp hn
          · exact h
        · trivial
    · exact h
theorem Kp.gc {M : Store} {n : Nat} {r : Res D} (h : Kp M r) (hn : M.length ≤ n) : Kp M (r.gc n) := by
  cases r with
  | ok a M1 => exact kp_gc h hn
  | exc x M1 => exact Kept.take h hn
  | bad => trivial
theorem kp_optB {M : Store} {o : Option Bool} : Kp M (optB M o) := by cases o <;> first | exact Kp.of | trivial
theorem kp_bin {o : BOp} {a b : D} {M : Store} : Kp M (binD o a b M) := by
  cases o <;> simp only [binD, addD, mulD, alloc]
  all_goals
    repeat' split
  all_goals first | exact Kp.of | exact Kp.app | trivial
theorem kp_cmp {o : COp} {a b : D} {M : Store} : Kp M (cmpD o a b M) := by
  cases o <;> simp only [cmpD]
  all_goals
    repeat' split
  all_goals first | exact kp_optB | exact Kp.of | trivial
theorem kp_ix {a b : D} {M : Store} : Kp M (ixD a b M) := by
  unfold ixD ixL
  repeat' split
  all_goals first | exact Kp.of | trivial
theorem kp_slc {a : D} {lo hi : Option Int} {M : Store} : Kp M (slcD a lo hi M) := by
  unfold slcD alloc
  repeat' split
  all_goals first | exact Kp.of | exact Kp.app | trivial
theorem kp_truth {a : D} {M : Store} : Kp M (truthR a M) := by
  unfold truthR
  split <;> first | exact Kp.of | trivial
theorem kp_blt {f : Blt} {ds : List D} {M : Store} : Kp M (bltD f ds M) := by
  cases f <;> simp only [bltD, alloc]
  all_goals
    repeat' split
  all_goals first | exact Kp.of | exact Kp.app | trivial
theorem kp_mth {m : Mth} {o : D} {ds : List D} {M : Store} : Kp M (mthD m o ds M) := by
  cases m <;> simp only [mthD]
  all_goals
    repeat' split
  all_goals first
    | exact Kp.of
    | trivial
    | skip
  · exact Kept.set (o := .lst _) (by assumption) fun b _ h => D.unders_mem.mpr fun x hx => D.unders_mem.mp (show D.unders b _ from h) x (List.dropLast_subset _ hx)
  · exact Kept.set (o := .lst _) (by assumption) fun b _ h => D.unders_mem.mpr fun x hx => D.unders_mem.mp (show D.unders b _ from h) x (List.mem_of_mem_eraseIdx hx)
theorem kp_walk {n : Nat} {k : Ik} {ds : List D} {M0 M : Store} (h : Kept M0 M) (hn : M0.length ≤ n) : Kp M0 (walkG n k ds M) := by
  unfold walkG
  repeat' split
  all_goals first | exact h.take hn | exact h | trivial
/-- calls keep what is older -/
def CK (c : Cx) : Prop := ∀ f ds M, Kp M (c.call f ds M)
theorem kp_lcW {w : Option (Nat × List D)} {blk : D → Store → Res (Option D)} (hb : ∀ x M, Kp M (blk x M)) : ∀ (xs : List D) (M : Store), Kp M (lcW w blk xs M)
  | [], M => by
    unfold lcW
    split <;> first | exact Kp.of | trivial
  | x :: xs, M => by
    unfold lcW
    split
    · refine Kp.bind (hb x M) fun o M1 _ => Kp.bind (kp_lcW hb xs M1) fun ys M2 _ => ?_
      split <;> exact Kp.of
    · trivial
mutual
theorem kp_ev {c : Cx} (hc : CK c) : ∀ (e : E) (ρ : Env) (M : Store), Kp M (ev c e ρ M)
  | .var i, ρ, M => by unfold ev; split <;> first | exact Kp.of | trivial
  | .cst d, ρ, M => by unfold ev; exact Kp.of
  | .glb x, ρ, M => by unfold ev; split <;> first | exact Kp.of | trivial
  | .bin o a b, ρ, M => by unfold ev; exact Kp.bind (kp_ev hc a ρ M) fun x M1 _ => Kp.bind (kp_ev hc b ρ M1) fun y M2 _ => kp_bin
  | .neg a, ρ, M => by unfold ev; exact Kp.bind (kp_ev hc a ρ M) fun x M1 _ => by split <;> first | exact Kp.of | trivial
  | .cmp o a b, ρ, M => by unfold ev; exact Kp.bind (kp_ev hc a ρ M) fun x M1 _ => Kp.bind (kp_ev hc b ρ M1) fun y M2 _ => kp_cmp
  | .chain o p a b d, ρ, M => by
    unfold ev
    refine Kp.bind (kp_ev hc a ρ M) fun x M1 _ => Kp.bind (kp_ev hc b ρ M1) fun y M2 _ => Kp.bind kp_cmp fun r M3 _ => ?_
    split
    · exact Kp.bind (kp_ev hc d ρ M3) fun z M4 _ => kp_cmp
    · exact Kp.of
    · trivial
  | .and a b, ρ, M => by
    unfold ev
    refine Kp.bind (kp_ev hc a ρ M) fun x M1 _ => Kp.bind kp_truth fun t M2 _ => ?_
    split
    · exact kp_ev hc b ρ M2
    · exact Kp.of
  | .or a b, ρ, M => by
    unfold ev
    refine Kp.bind (kp_ev hc a ρ M) fun x M1 _ => Kp.bind kp_truth fun t M2 _ => ?_
    split
    · exact Kp.of
    · exact kp_ev hc b ρ M2
  | .not a, ρ, M => by unfold ev; exact Kp.bind (kp_ev hc a ρ M) fun x M1 _ => Kp.bind kp_truth fun t M2 _ => Kp.of
  | .ite t a b, ρ, M => by
    unfold ev
    refine Kp.bind (kp_ev hc t ρ M) fun x M1 _ => Kp.bind kp_truth fun t M2 _ => ?_
    split
    · exact kp_ev hc a ρ M2
    · exact kp_ev hc b ρ M2
  | .tup es, ρ, M => by unfold ev; exact Kp.bind (kp_evs hc es ρ M) fun x M1 _ => Kp.of
  | .lst es, ρ, M => by unfold ev; exact Kp.bind (kp_evs hc es ρ M) fun x M1 _ => Kp.app
  | .dct t, ρ, M => by unfold ev; exact Kp.app
  | .ix a b, ρ, M => by unfold ev; exact Kp.bind (kp_ev hc a ρ M) fun x M1 _ => Kp.bind (kp_ev hc b ρ M1) fun y M2 _ => kp_ix
  | .slc a, ρ, M => by unfold ev; exact Kp.bind (kp_ev hc a ρ M) fun x M1 _ => kp_slc
  | .slcL a lo, ρ, M => by
    unfold ev
    refine Kp.bind (kp_ev hc a ρ M) fun x M1 _ => Kp.bind (kp_ev hc lo ρ M1) fun y M2 _ => ?_
    split <;> first | exact kp_slc | trivial
  | .slcU a hi, ρ, M => by
    unfold ev
    refine Kp.bind (kp_ev hc a ρ M) fun x M1 _ => Kp.bind (kp_ev hc hi ρ M1) fun y M2 _ => ?_
    split <;> first | exact kp_slc | trivial
  | .slcLU a lo hi, ρ, M => by
    unfold ev
    refine Kp.bind (kp_ev hc a ρ M) fun x M1 _ => Kp.bind (kp_ev hc lo ρ M1) fun y M2 _ => ?_
    split
    · refine Kp.bind (kp_ev hc hi ρ M2) fun y M2 _ => ?_
      split <;> first | exact kp_slc | trivial
    · trivial
  | .call f es, ρ, M => by unfold ev; exact Kp.bind (kp_evs hc es ρ M) fun x M1 _ => hc f x M1
  | .blt f es, ρ, M => by unfold ev; exact Kp.bind (kp_evs hc es ρ M) fun x M1 _ => kp_blt
  | .mth m o es, ρ, M => by
    unfold ev
    refine Kp.bind (kp_ev hc o ρ M) fun x M1 _ => ?_
    split
    · exact Kp.bind (kp_evs hc es ρ M1) fun xs M2 _ => kp_mth
    · trivial
  | .isi a ts, ρ, M => by
    unfold ev
    refine Kp.bind (kp_ev hc a ρ M) fun x M1 _ => ?_
    split <;> first | exact kp_optB | trivial
  | .fld a f, ρ, M => by unfold ev; trivial
  | .lc elt tg k its ifs own, ρ, M => by
    unfold ev
    have h := kp_evs hc its ρ M
    cases q : evs c its ρ M with
    | ok ds M1 =>
      rw [q] at h
      simp only [Res.bind]
      refine Kp.bind (kp_walk h (Nat.le_refl _)) fun p M2 _ => ?_
      obtain ⟨xs, w⟩ := p
      simp only
      split
      · refine Kp.bind (kp_lcW (fun x M3 => ?_) xs M2) fun ys M3 _ => Kp.app
        cases assignT M3 tg x (wipe ρ own) with
        | none => trivial
        | some ρ1 =>
          refine Kp.noExc (Kp.bind (kp_evt hc ifs ρ1 M3) fun t M4 _ => ?_)
          split
          · exact Kp.bind (Kp.gc (kp_ev hc elt ρ1 M4) (Nat.le_refl _)) fun y M5 _ => Kp.of
          · exact Kp.of
      · trivial
    | exc x M1 => rw [q] at h; exact h
    | bad => trivial
theorem kp_evs {c : Cx} (hc : CK c) : ∀ (es : List E) (ρ : Env) (M : Store), Kp M (evs c es ρ M)
  | [], ρ, M => by unfold evs; exact Kp.of
  | e :: es, ρ, M => by unfold evs; exact Kp.bind (kp_ev hc e ρ M) fun x M1 _ => Kp.bind (kp_evs hc es ρ M1) fun xs M2 _ => Kp.of
theorem kp_evt {c : Cx} (hc : CK c) : ∀ (es : List E) (ρ : Env) (M : Store), Kp M (evt c es ρ M)
  | [], ρ, M => by unfold evt; exact Kp.of
  | e :: es, ρ, M => by
    unfold evt
    have h : Kp M ((ev c e ρ M).bind truthR) := Kp.bind (kp_ev hc e ρ M) fun x M1 _ => kp_truth
    cases q : (ev c e ρ M).bind truthR with
    | ok t M1 =>
      rw [q] at h
      have h1 : Kept M (M1.take M.length) := Kept.take h (Nat.le_refl _)
      simp only [Res.bind]
      split
      · exact (kp_evt hc es ρ _).mono h1
      · exact h1
    | exc x M1 => rw [q] at h; exact h
    | bad => trivial
end
theorem kp_evg {c : Cx} (hc : CK c) (e : E) (ρ : Env) (M : Store) : Kp M (evg c e ρ M) := Kp.gc (kp_ev hc e ρ M) (Nat.le_refl _)
theorem kp_evb {c : Cx} (hc : CK c) (e : E) (ρ : Env) (M : Store) : Kp M (evb c e ρ M) := by
  have h : Kp M ((ev c e ρ M).bind truthR) := Kp.bind (kp_ev hc e ρ M) fun x M1 _ => kp_truth
  unfold evb
  cases q : (ev c e ρ M).bind truthR with
  | ok t M1 => rw [q] at h; exact Kept.take h (Nat.le_refl _)
  | exc x M1 => rw [q] at h; exact Kept.take h (Nat.le_refl _)
  | bad => trivial

/-! ### statements -/
structure KeptB (n : Nat) (M M' : Store) : Prop where
  len : M.length ≤ M'.length
  bel : ∀ (b : Nat), b ≤ n → b ≤ M.length → Below b M → Below b M'
def KpO (n : Nat) (M : Store) : Out → Prop
  | .nx _ M' => KeptB n M M'
  | .rt _ M' => KeptB n M M'
  | .bk _ M' => KeptB n M M'
  | .ct _ M' => KeptB n M M'
  | .exc _ _ M' => KeptB n M M'
  | .bad => True
theorem Kept.b {n : Nat} {M M' : Store} (h : Kept M M') : KeptB n M M' := ⟨h.len, fun b _ hb q => h.bel b hb q⟩
theorem KeptB.trans {n : Nat} {A B C : Store} (x : KeptB n A B) (y : KeptB n B C) : KeptB n A C := ⟨Nat.le_trans x.len y.len, fun b hn hb h => y.bel b hn (Nat.le_trans hb x.len) (x.bel b hn hb h)⟩
theorem KeptB.take {n k : Nat} {M M' : Store} (h : KeptB n M M') (hn : M.length ≤ k) : KeptB n M (M'.take k) := ⟨by have := h.len; simp; omega, fun b hb hb' q i o hi e => by
  rw [List.getElem?_take_of_lt (by omega)] at e
  exact h.bel b hb hb' q i o hi e⟩
theorem KpO.mono {n : Nat} {A B : Store} {r : Out} (h : KpO n B r) (k : KeptB n A B) : KpO n A r := by
  cases r <;> first | exact k.trans h | trivial
theorem kpo_out {n : Nat} {M : Store} {ρ : Env} {r : Res D} {f : D → Store → Out} (h : Kp M r) (hf : ∀ d M1, r = .ok d M1 → KpO n M1 (f d M1)) : KpO n M (r.out ρ f) := by
  cases r with
  | ok a M1 => exact (hf a M1 rfl).mono (Kept.b h)
  | exc x M1 => exact Kept.b h
  | bad => trivial
theorem kpo_outB {n : Nat} {M : Store} {ρ : Env} {r : Res Bool} {f : Bool → Store → Out} (h : Kp M r) (hf : ∀ d M1, r = .ok d M1 → KpO n M1 (f d M1)) : KpO n M (r.outB ρ f) := by
  cases r with
  | ok a M1 => exact (hf a M1 rfl).mono (Kept.b h)
  | exc x M1 => exact Kept.b h
  | bad => trivial
theorem kpo_then {n : Nat} {M : Store} {o : Out} {f : Env → Store → Out} (h : KpO n M o) (hf : ∀ ρ M1, KpO n M1 (f ρ M1)) : KpO n M (o.andThen f) := by
  cases o with
  | nx ρ M1 => exact (hf ρ M1).mono h
  | _ => exact h
theorem kpo_kill {n : Nat} {M : Store} {o : Out} {ks : List Nat} (h : KpO n M o) : KpO n M (o.kill ks) := by cases o <;> exact h
theorem kpo_forL {n : Nat} {w : Option (Nat × List D)} {body : D → Env → Store → Out} (hb : ∀ x ρ M, KpO n M (body x ρ M)) : ∀ (xs : List D) (ρ : Env) (M : Store), KpO n M (forL w body xs ρ M)
  | [], ρ, M => by unfold forL; split <;> first | exact Kept.refl.b | trivial
  | x :: xs, ρ, M => by
    unfold forL
    split
    · have h := hb x ρ M
      cases q : body x ρ M with
      | nx ρ' M' => rw [q] at h; exact (kpo_forL hb xs ρ' M').mono h
      | ct ρ' M' => rw [q] at h; exact (kpo_forL hb xs ρ' M').mono h
      | bk ρ' M' => rw [q] at h; exact h
      | rt ρ' M' => rw [q] at h; exact h
      | exc x ρ' M' => rw [q] at h; exact h
      | bad => trivial
    · trivial
theorem kpo_whileN {n : Nat} {c : Env → Store → Res Bool} {body : Env → Store → Out} (hc : ∀ ρ M, Kp M (c ρ M)) (hb : ∀ ρ M, KpO n M (body ρ M)) : ∀ (k : Nat) (ρ : Env) (M : Store) (o : Out), whileN c body k ρ M = some o → KpO n M o
  | 0, ρ, M, o, h => by simp [whileN] at h
  | k + 1, ρ, M, o, h => by
    unfold whileN at h
    have h1 := hc ρ M
    cases q : c ρ M with
    | ok b M1 =>
      rw [q] at h h1
      replace h1 := Kept.b (n := n) h1
      simp only at h
      split at h
      · have h2 := hb ρ M1
        cases q2 : body ρ M1 with
        | nx ρ' M' => rw [q2] at h h2; exact ((kpo_whileN hc hb k ρ' M' o h).mono h2).mono h1
        | ct ρ' M' => rw [q2] at h h2; exact ((kpo_whileN hc hb k ρ' M' o h).mono h2).mono h1
        | bk ρ' M' => rw [q2] at h h2; cases h; exact h1.trans h2
        | rt ρ' M' => rw [q2] at h h2; cases h; exact h1.trans h2
        | exc x ρ' M' => rw [q2] at h h2; cases h; exact h1.trans h2
        | bad => rw [q2] at h; cases h; trivial
      · cases h; exact h1
    | exc x M1 => rw [q] at h h1; cases h; exact Kept.b h1
    | bad => rw [q] at h; cases h; trivial
theorem kpo_whileD {n : Nat} {c : Env → Store → Res Bool} {body : Env → Store → Out} (hc : ∀ ρ M, Kp M (c ρ M)) (hb : ∀ ρ M, KpO n M (body ρ M)) (ρ : Env) (M : Store) : KpO n M (whileD c body ρ M) := by
  unfold whileD
  split
  · rename_i h
    exact kpo_whileN hc hb _ ρ M _ (Classical.choose_spec (Classical.choose_spec h))
  · trivial
theorem putK_mem {κ : Type} [DecidableEq κ] {k : κ} {v : D} {kvs : List (κ × D)} {p : κ × D} (h : p ∈ putK kvs k v) : p.2 = v ∨ p ∈ kvs := by
  unfold putK at h
  split at h
  · obtain ⟨q, hq, rfl⟩ := List.mem_map.mp h
    split
    · exact .inl rfl
    · exact .inr hq
  · rcases List.mem_append.mp h with h | h
    · exact .inr h
    · cases List.mem_singleton.mp h; exact .inl rfl
theorem KeptB.set {n : Nat} {M : Store} {i : Nat} {o o' : O} (e : M[i]? = some o) (h : ∀ b, b ≤ n → b ≤ M.length → i < b → o.under b → o'.under b) : KeptB n M (M.set i o') := ⟨by simp, fun b hn hb q k r hk e' => by
  by_cases z : i = k
  · subst z
    rw [List.getElem?_set_self (List.getElem?_eq_some_iff.mp e).1] at e'
    cases e'
    exact h b hn hb hk (q i o hk e)
  · rw [List.getElem?_set_ne z] at e'
    exact q k r hk e'⟩
theorem okIn_under {c : Cx} {i : Nat} {d : D} (h : okIn c i d = true) {b : Nat} (hb : b ≤ c.base) (hi : i < b) : d.under b := by
  unfold okIn at h
  simp only [Bool.or_eq_true, decide_eq_true_eq] at h
  rcases h with h | h
  · omega
  · exact D.pure_under h
theorem putD_kept {n m : Nat} {k x : D} {M M' : Store} (h : putD n k x M = some M') (hx : ∀ b, b ≤ m → n < b → x.under b) : KeptB m M M' := by
  unfold putD at h
  split at h
  · rename_i e
    split at h
    · split at h
      · cases h
        refine KeptB.set e fun b hb _ hi h => D.unders_mem.mpr fun y hy => ?_
        rcases List.mem_or_eq_of_mem_set hy with hy | rfl
        · exact D.unders_mem.mp (show D.unders b _ from h) y hy
        · exact hx b hb hi
      · cases h
    · cases h
  · rename_i e
    split at h
    · split at h
      · cases h
        refine KeptB.set e fun b hb _ hi h => ?_
        intro p hp
        rcases putK_mem hp with hy | hy
        · rw [hy]; exact hx b hb hi
        · exact h p hy
      · cases h
    · cases h
  · cases h
mutual
theorem kp_ex {c : Cx} (hc : CK c) : ∀ (s : S) (ρ : Env) (M : Store), KpO c.base M (ex c s ρ M)
  | .set i e, ρ, M => by unfold ex; exact kpo_out (kp_evg hc e ρ M) fun d M1 _ => Kept.refl.b
  | .unp is e, ρ, M => by unfold ex; exact kpo_out (kp_evg hc e ρ M) fun d M1 _ => by split <;> first | exact Kept.refl.b | trivial
  | .par i j a b, ρ, M => by unfold ex; exact kpo_out (kp_evg hc a ρ M) fun d M1 _ => kpo_out (kp_evg hc b ρ M1) fun d M1 _ => Kept.refl.b
  | .put v o i, ρ, M => by
    unfold ex
    refine kpo_out (kp_evg hc v ρ M) fun x M1 _ => ?_
    cases q1 : ev c o ρ M1 with
    | ok a M2 =>
      have k1 := kp_ev hc o ρ M1
      rw [q1] at k1
      simp only [Res.out]
      cases q2 : ev c i ρ M2 with
      | ok k M3 =>
        have k2 := kp_ev hc i ρ M2
        rw [q2] at k2
        have k3 : Kept M1 M3 := k1.trans k2
        simp only [Res.out]
        split
        · split
          · rename_i hin
            split
            · rename_i M4 e
              exact KeptB.take (KeptB.trans k3.b (putD_kept e fun b hb hi => okIn_under hin hb hi)) (Nat.le_refl _)
            · trivial
          · trivial
        · trivial
      | exc x' M3 =>
        have k2 := kp_ev hc i ρ M2
        rw [q2] at k2
        exact (k1.trans k2).b
      | bad => trivial
    | exc x' M2 =>
      have k1 := kp_ev hc o ρ M1
      rw [q1] at k1
      exact k1.b
    | bad => trivial
  | .app o e, ρ, M => by
    unfold ex
    refine kpo_out (kp_ev hc o ρ M) fun a M1 _ => ?_
    split
    · refine kpo_out (kp_evg hc e ρ M1) fun x M2 _ => ?_
      split
      · split
        · rename_i q
          split
          · rename_i g
            refine KeptB.set q fun b hb _ hi h => ?_
            refine D.unders_mem.mpr fun y hy => ?_
            rcases List.mem_append.mp hy with hy | hy
            · exact D.unders_mem.mp (show D.unders b _ from h) y hy
            · cases List.mem_singleton.mp hy
              exact okIn_under g.2 hb hi
          · trivial
        · trivial
      · trivial
    · trivial
  | .ext o e, ρ, M => by
    unfold ex
    cases q1 : ev c o ρ M with
    | ok a M1 =>
      have k1 := kp_ev hc o ρ M
      rw [q1] at k1
      simp only [Res.out]
      split
      · cases q2 : ev c e ρ M1 with
        | ok k M2 =>
          have k2 := kp_ev hc e ρ M1
          rw [q2] at k2
          have k3 : Kept M M2 := k1.trans k2
          simp only
          split
          · split
            · rename_i q _
              split
              · rename_i g
                refine KeptB.take (KeptB.trans k3.b (KeptB.set q fun b hb _ hi h => ?_)) (Nat.le_refl _)
                refine D.unders_mem.mpr fun y hy => ?_
                rcases List.mem_append.mp hy with hy | hy
                · exact D.unders_mem.mp (show D.unders b _ from h) y hy
                · exact D.pure_under (D.pures_mem.mp g.2.1 y hy)
              · trivial
            · trivial
          · trivial
        | exc x' M3 =>
          have k2 := kp_ev hc e ρ M1
          rw [q2] at k2
          exact (k1.trans k2).b
        | bad => trivial
      · trivial
    | exc x' M2 =>
      have k1 := kp_ev hc o ρ M
      rw [q1] at k1
      exact k1.b
    | bad => trivial
  | .rev o, ρ, M => by
    unfold ex
    refine kpo_out (kp_ev hc o ρ M) fun a M1 _ => ?_
    split
    · split
      · rename_i q
        exact KeptB.set q fun b hb _ hi h => D.unders_mem.mpr fun y hy => D.unders_mem.mp (show D.unders b _ from h) y (List.mem_reverse.mp hy)
      · trivial
    · trivial
  | .exp e, ρ, M => by unfold ex; exact kpo_out (kp_evg hc e ρ M) fun d M1 _ => Kept.refl.b
  | .ret e, ρ, M => by unfold ex; exact kpo_out (kp_evg hc e ρ M) fun d M1 _ => Kept.refl.b
  | .retN, ρ, M => by unfold ex; exact Kept.refl.b
  | .iff t a b, ρ, M => by
    unfold ex
    refine kpo_outB (kp_evb hc t ρ M) fun k M1 _ => ?_
    split
    · exact kp_exs hc a ρ M1
    · exact kp_exs hc b ρ M1
  | .for tg k its body kill, ρ, M => by
    unfold ex
    have h := kp_evs hc its ρ M
    cases q : evs c its ρ M with
    | ok ds M1 =>
      rw [q] at h
      have h2 := kp_walk (k := k) (ds := ds) h (Nat.le_refl _)
      simp only [Res.bind]
      cases q2 : walkG M.length k ds M1 with
      | ok p M2 =>
        obtain ⟨xs, w⟩ := p
        rw [q2] at h2
        refine (kpo_forL (fun x ρ1 M2 => ?_) xs _ M2).mono (Kept.b h2)
        split
        · exact kpo_kill (kp_exs hc body _ M2)
        · trivial
      | exc x M2 => rw [q2] at h2; exact (Kept.take h2 (Nat.le_refl _)).b
      | bad => trivial
    | exc x M1 => rw [q] at h; exact (Kept.take h (Nat.le_refl _)).b
    | bad => trivial
  | .while t body kill, ρ, M => by
    unfold ex
    exact kpo_whileD (fun ρ M => kp_evb hc t ρ M) (fun ρ M => kpo_kill (kp_exs hc body ρ M)) _ M
  | .brk, ρ, M => by unfold ex; exact Kept.refl.b
  | .cnt, ρ, M => by unfold ex; exact Kept.refl.b
  | .pass, ρ, M => by unfold ex; exact Kept.refl.b
theorem kp_exs {c : Cx} (hc : CK c) : ∀ (ss : List S) (ρ : Env) (M : Store), KpO c.base M (exs c ss ρ M)
  | [], ρ, M => by unfold exs; exact Kept.refl.b
  | s :: ss, ρ, M => by unfold exs; exact kpo_then (kp_ex hc s ρ M) fun ρ M1 => kp_exs hc ss ρ M1
end
theorem KeptB.kept {M M' : Store} (h : KeptB M.length M M') : Kept M M' := ⟨h.len, fun b hb q => h.bel b hb hb q⟩
theorem kp_leave {M : Store} {o : Out} (h : KpO M.length M o) : Kp M (leave M.length o) := by
  cases o with
  | rt d M1 => exact kp_gc (KeptB.kept h) (Nat.le_refl _)
  | nx ρ M1 => exact (KeptB.kept h).take (Nat.le_refl _)
  | exc x ρ M1 => exact (KeptB.kept h).take (Nat.le_refl _)
  | _ => trivial
theorem kp_run {T : String → Option Def} {G : String → Option D} : ∀ (k : Nat) (f : String) (vs : List D) (M : Store), Kp M (run T G k f vs M)
  | 0, f, vs, M => by unfold run; trivial
  | k + 1, f, vs, M => by
    unfold run
    split
    · split
      · exact kp_leave (kp_exs (c := ⟨run T G k, G, M.length⟩) (fun f ds M => kp_run k f ds M) _ _ M)
      · trivial
    · trivial
end Sk
end
section
set_option Elab.async false
set_option linter.all false
set_option autoImplicit false
set_option maxRecDepth 100000
/-! SkD: what an expression of mine says of the hand layer's states; the rules. -/
namespace Sk
open PySem PySem.Spec PyProof.Rows L2

abbrev WX := Value → Option Addr → L2.St → Hp → Prop
section
variable (K : PySem.W.Frag) (RX : Exc → Value → Option Addr → Hp → Prop)
/-- what is wanted of a result -/
def Wp {α : Type} (Ex : Value → Option Addr → Hp → Prop) (ι : List Addr) (H : Hp) (P : α → Store → List Addr → Hp → Prop) : Res α → Prop
  | .ok a M' => ∀ ι' H', Step ι H ι' H' → SR K ι' H' M' → P a M' ι' H'
  | .exc x M' => ∀ ι' H' cls d, Step ι H ι' H' → SR K ι' H' M' → RX x cls d H' → Ex cls d H'
  | .bad => False
def PD (Q : VK) : D → Store → List Addr → Hp → Prop := fun d _ ι H => ∀ v, RelD K ι H d v → Q v H
def PDs (Q : List V → Hp → Prop) : List D → Store → List Addr → Hp → Prop := fun ds _ ι H => ∀ vs, RelDs K ι H ds vs → Q vs H
def PB (Q : Bool → Hp → Prop) : Bool → Store → List Addr → Hp → Prop := fun b _ _ H => Q b H
variable (W : WX) (c : Cx)
def tE (e : E) : TE := fun σ H Q => ∃ ρ M ι, REnv K ι H ρ σ ∧ SR K ι H M ∧ Wp K RX (fun cls d H' => W cls d σ H') ι H (PD K Q) (ev c e ρ M)
def tT (e : E) : TT := fun σ H Q => ∃ ρ M ι, REnv K ι H ρ σ ∧ SR K ι H M ∧ Wp K RX (fun cls d H' => W cls d σ H') ι H (PB Q) ((ev c e ρ M).bind truthR)
def tEs (es : List E) : TA := fun σ H Q => ∃ ρ M ι, REnv K ι H ρ σ ∧ SR K ι H M ∧ Wp K RX (fun cls d H' => W cls d σ H') ι H (PDs K Q) (evs c es ρ M)
end
section
variable {K : PySem.W.Frag} {RX : Exc → Value → Option Addr → Hp → Prop} {Ex : Value → Option Addr → Hp → Prop} {ι ι' : List Addr} {H H' : Hp} {α β : Type} {r : Res α}
theorem Wp.step {P : α → Store → List Addr → Hp → Prop} (h : Wp K RX Ex ι H P r) (st : Step ι H ι' H') : Wp K RX Ex ι' H' P r := by
  cases r with
  | ok a M => exact fun ι2 H2 s2 sr => h ι2 H2 (st.trans s2) sr
  | exc x M => exact fun ι2 H2 cls d s2 sr rx => h ι2 H2 cls d (st.trans s2) sr rx
  | bad => exact h
theorem Wp.bind {P : β → Store → List Addr → Hp → Prop} {f : α → Store → Res β} (h : Wp K RX Ex ι H P (r.bind f)) : Wp K RX Ex ι H (fun a M1 ι1 H1 => Wp K RX Ex ι1 H1 P (f a M1)) r := by
  cases r with
  | ok a M => exact fun ι2 H2 s2 sr => Wp.step h s2
  | exc x M => exact h
  | bad => exact h
theorem Wp.mono {P P' : α → Store → List Addr → Hp → Prop} (h : Wp K RX Ex ι H P r) (f : ∀ a M' ι' H', r = .ok a M' → Step ι H ι' H' → SR K ι' H' M' → P a M' ι' H' → P' a M' ι' H') : Wp K RX Ex ι H P' r := by
  cases r with
  | ok a M => exact fun ι2 H2 s2 sr => f a M ι2 H2 rfl s2 sr (h ι2 H2 s2 sr)
  | exc x M => exact h
  | bad => exact h
theorem Wp.now {P : α → Store → List Addr → Hp → Prop} {a : α} {M : Store} (h : Wp K RX Ex ι H P (.ok a M)) (sr : SR K ι H M) : P a M ι H := h ι H .refl sr
/-- no exception -/
def NoX : Res α → Prop
  | .exc _ _ => False
  | _ => True
theorem Wp.okR {Q : VK} {r : Res D} (h : Wp K RX Ex ι H (PD K Q) r) (n : NoX r) : OkR K ι H Q r := by
  cases r with
  | ok a M => exact fun ι2 H2 v s2 sr rv => h ι2 H2 s2 sr v rv
  | exc x M => exact n
  | bad => exact h
end
theorem nx_optB {M : Store} {o : Option Bool} : NoX (optB M o) := by cases o <;> trivial
theorem nx_bin {o : BOp} {a b : D} {M : Store} : NoX (binD o a b M) := by
  cases o <;> simp only [binD, addD, mulD, alloc]
  all_goals
    repeat' split
  all_goals trivial
theorem nx_cmp {o : COp} {a b : D} {M : Store} : NoX (cmpD o a b M) := by
  cases o <;> simp only [cmpD]
  all_goals
    repeat' split
  all_goals first | exact nx_optB | trivial
theorem nx_ix {a b : D} {M : Store} : NoX (ixD a b M) := by
  unfold ixD ixL
  repeat' split
  all_goals trivial
theorem nx_slc {a : D} {lo hi : Option Int} {M : Store} : NoX (slcD a lo hi M) := by
  unfold slcD alloc
  repeat' split
  all_goals trivial
theorem nx_blt {f : Blt} {ds : List D} {M : Store} : NoX (bltD f ds M) := by
  cases f <;> simp only [bltD, alloc]
  all_goals
    repeat' split
  all_goals trivial
theorem nx_mth {m : Mth} {o : D} {ds : List D} {M : Store} : NoX (mthD m o ds M) := by
  cases m <;> simp only [mthD]
  all_goals
    repeat' split
  all_goals trivial
theorem truthR_ok {d : D} {M M' : Store} {k : Bool} (h : truthR d M = .ok k M') : M' = M ∧ truth M d = some k := by
  unfold truthR at h
  split at h
  · cases h; exact ⟨rfl, by assumption⟩
  · cases h
theorem cmp_bl {o : COp} {a b d : D} {M M' : Store} (h : cmpD o a b M = .ok d M') : M' = M ∧ ∃ k, d = .bl k := by
  have ob : ∀ {q : Option Bool}, optB M q = .ok d M' → M' = M ∧ ∃ k, d = .bl k := fun {q} e => by
    cases q with
    | none => cases e
    | some k => cases e; exact ⟨rfl, k, rfl⟩
  cases o <;> simp only [cmpD] at h
  all_goals
    repeat' split at h
  all_goals first
    | exact ob h
    | (cases h; exact ⟨rfl, _, rfl⟩)
    | cases h
theorem L2PE.weak {X : L2.Cx} {e : Expr} {t t' : TE} (h : PE X e t) (f : ∀ σ H Q, t' σ H Q → t σ H Q) : PE X e t' := ⟨fun pins s σ H Q I q => h.run pins s σ H Q I (f _ _ _ q)⟩
theorem L2PT.weak {X : L2.Cx} {e : Expr} {t t' : TT} (h : PT X e t) (f : ∀ σ H Q, t' σ H Q → t σ H Q) : PT X e t' := ⟨fun pins s σ H Q I q => h.run pins s σ H Q I (f _ _ _ q)⟩
theorem L2PA.weak {X : L2.Cx} {e : List Expr} {t t' : TA} (h : PA X e t) (f : ∀ σ H Q, t' σ H Q → t σ H Q) : PA X e t' := ⟨fun pos pins s σ H Q I q => h.run pos pins s σ H Q I (f _ _ _ q)⟩
theorem L2PS.weak {X : L2.Cx} {e : Stmt} {t t' : TS} (h : PS X e t) (f : ∀ D σ H, t' D σ H → t D σ H) : PS X e t' := ⟨fun pins s σ H D I q => h.run pins s σ H D I (f _ _ _ q)⟩
theorem L2PSs.weak {X : L2.Cx} {e : List Stmt} {t t' : TS} (h : PSs X e t) (f : ∀ D σ H, t' D σ H → t D σ H) : PSs X e t' := ⟨fun pins s σ H D I q => h.run pins s σ H D I (f _ _ _ q)⟩

section
variable {X : L2.Cx} {RX : Exc → Value → Option Addr → Hp → Prop} {W : WX} {c : Cx} {a b d : Expr} {ea eb ed : E} {pos : Pos}
theorem sd_var {i : Nat} {x : Str} (hN : X.N[i]? = some x) (hv : Vis X.env.scope x) (hd : (x == ("__debug__" : Str)) = false) (hc : (x == ("__classdict__" : Str)) = false) : PE X (.Name x pos) (tE X.K RX W c (.var i)) :=
  L2PE.weak (pe_var hN hv hd hc) fun σ H Q ⟨ρ, M, ι, re, sr, h⟩ => by
    unfold ev at h
    split at h
    · rename_i d e
      obtain ⟨v, e1, rv⟩ := re.2 _ _ e
      exact ⟨v, e1, h.now sr v rv⟩
    · exact h.elim
/-- a written constant -/
def constV : D → Option V
  | .non => some .non
  | .bl b => some (.bl b)
  | .int i => some (.int i)
  | .str s => if s.length ≤ lim ∧ s.cps.all (· < 1114112) = true then some (.str s) else none
  | _ => none
theorem constV_rel {K : PySem.W.Frag} {ι : List Addr} {H : Hp} {d : D} {v : V} (h : constV d = some v) : RelD K ι H d v := by
  cases d with
  | str s =>
    simp only [constV] at h
    split at h
    · rename_i g
      cases h
      exact .strs (by rw [← lim_eq]; exact g.1) g.2
    · cases h
  | _ => simp only [constV, Option.some.injEq, reduceCtorEq] at h <;> (subst h; simp only [RelD])
theorem sd_cst {e : Expr} {d : D} {v : V} (h : PE X e (tC v)) (hv : constV d = some v) : PE X e (tE X.K RX W c (.cst d)) :=
  L2PE.weak h fun σ H Q ⟨ρ, M, ι, re, sr, h⟩ => by
    unfold ev at h
    exact h.now sr v (constV_rel hv)
theorem sd_glb {x : String} {y : Str} {d : D} {v : V} {u : Value} (hg : Gl X y) (hm : X.mg y = some u) (r : RelV v u) (hd : (y == ("__debug__" : Str)) = false) (hx : c.glob x = some d) (hr : ∀ ι H, RelD X.K ι H d v) : PE X (.Name y pos) (tE X.K RX W c (.glb x)) :=
  L2PE.weak (pe_glob hg hm r hd) fun σ H Q ⟨ρ, M, ι, re, sr, h⟩ => by
    unfold ev at h
    rw [hx] at h
    exact h.now sr v (hr ι H)
theorem sd_bin {o : BOp} (ha : PE X a (tE X.K RX W c ea)) (hb : PE X b (tE X.K RX W c eb)) : PE X (.BinOp a o.py b pos) (tE X.K RX W c (.bin o ea eb)) :=
  L2PE.weak (pe_op (ob_all o) ha hb) fun σ H Q ⟨ρ, M, ι, re, sr, h⟩ => by
    unfold ev at h
    exact ⟨ρ, M, ι, re, sr, h.bind.mono fun x M1 ι1 H1 _ st s1 h1 v rv => ⟨ρ, M1, ι1, re.step st, s1, h1.bind.mono fun y M2 ι2 H2 _ st2 s2 h2 u ru => ⟨ι2, M2, x, y, s2, rv.step st2, ru, h2.okR nx_bin⟩⟩⟩
theorem sd_cmp {o : COp} (hu : Rm X) (ha : PE X a (tE X.K RX W c ea)) (hb : PE X b (tE X.K RX W c eb)) (hm : behindInMarks o.py b = false) : PE X (.Compare a [o.py] [b] pos) (tE X.K RX W c (.cmp o ea eb)) :=
  L2PE.weak (pe_cmpR (oc_all hu o) ha hb hm) fun σ H Q ⟨ρ, M, ι, re, sr, h⟩ => by
    unfold ev at h
    exact ⟨ρ, M, ι, re, sr, h.bind.mono fun x M1 ι1 H1 _ st s1 h1 v rv => ⟨ρ, M1, ι1, re.step st, s1, h1.bind.mono fun y M2 ι2 H2 _ st2 s2 h2 u ru => ⟨ι2, M2, x, y, s2, rv.step st2, ru, h2.okR nx_cmp⟩⟩⟩
theorem Res.bind_assoc {α β γ : Type} (r : Res α) (f : α → Store → Res β) (g : β → Store → Res γ) : (r.bind f).bind g = r.bind fun a M => (f a M).bind g := by cases r <;> rfl
theorem cmp_test {o : COp} {x y : D} {M : Store} {K : PySem.W.Frag} {ι : List Addr} {H : Hp} {Ex : Value → Option Addr → Hp → Prop} {Q : Bool → Hp → Prop} (h : Wp K RX Ex ι H (PB Q) ((cmpD o x y M).bind truthR)) : OkR K ι H (fun x H' => ∃ k, x = .bl k ∧ Q k H') (cmpD o x y M) := by
  cases e : cmpD o x y M with
  | ok d M' =>
    obtain ⟨rfl, k, rfl⟩ := cmp_bl e
    rw [e] at h
    exact fun ι' H' v st sr rv => ⟨k, relD_bl rv, h ι' H' st sr⟩
  | exc x' M' =>
    have := nx_cmp (o := o) (a := x) (b := y) (M := M)
    rw [e] at this
    exact this
  | bad => rw [e] at h; exact h
theorem st_cmp {o : COp} (hu : Rm X) (ha : PE X a (tE X.K RX W c ea)) (hb : PE X b (tE X.K RX W c eb)) (hm : behindInMarks o.py b = false) : PT X (.Compare a [o.py] [b] pos) (tT X.K RX W c (.cmp o ea eb)) :=
  L2PT.weak (pt_cmpR (oc_all hu o) ha hb hm) fun σ H Q ⟨ρ, M, ι, re, sr, h⟩ => by
    unfold ev at h
    rw [Res.bind_assoc] at h
    refine ⟨ρ, M, ι, re, sr, h.bind.mono fun x M1 ι1 H1 _ st s1 h1 v rv => ⟨ρ, M1, ι1, re.step st, s1, ?_⟩⟩
    rw [Res.bind_assoc] at h1
    exact h1.bind.mono fun y M2 ι2 H2 _ st2 s2 h2 u ru => ⟨ι2, M2, x, y, s2, rv.step st2, ru, cmp_test h2⟩
theorem sd_chain {o p : COp} (hu : Rm X) (ha : PE X a (tE X.K RX W c ea)) (hb : PE X b (tE X.K RX W c eb)) (hd : PE X d (tE X.K RX W c ed)) (hm : lastMarks [o.py, p.py] [b, d] = false) : PE X (.Compare a [o.py, p.py] [b, d] pos) (tE X.K RX W c (.chain o p ea eb ed)) :=
  L2PE.weak (pe_chain (oc_all hu o) (oc_all hu p) ha hb hd hm) fun σ H Q ⟨ρ, M, ι, re, sr, h⟩ => by
    unfold ev at h
    refine ⟨ρ, M, ι, re, sr, h.bind.mono fun x M1 ι1 H1 _ st s1 h1 v rv => ⟨ρ, M1, ι1, re.step st, s1, h1.bind.mono fun y M2 ι2 H2 _ st2 s2 h2 u ru => ⟨ι2, M2, x, y, s2, rv.step st2, ru, ?_⟩⟩⟩
    refine Wp.okR (Ex := fun cls d H' => W cls d σ H') (h2.bind.mono fun z M3 ι3 H3 e3 st3 s3 h3 w rw' => ?_) nx_cmp
    obtain ⟨rfl, k, rfl⟩ := cmp_bl e3
    refine ⟨k, relD_bl rw', ?_⟩
    cases k with
    | true => exact ⟨ρ, M3, ι3, (re.step st).step (st2.trans st3), s3, h3.bind.mono fun z M4 ι4 H4 _ st4 s4 h4 w' rz => ⟨ι4, M4, y, z, s4, ru.step (st3.trans st4), rz, h4.okR nx_cmp⟩⟩
    | false => exact h3.now s3 _ .bls
theorem st_chain {o p : COp} (hu : Rm X) (ha : PE X a (tE X.K RX W c ea)) (hb : PE X b (tE X.K RX W c eb)) (hd : PE X d (tE X.K RX W c ed)) (hm : lastMarks [o.py, p.py] [b, d] = false) : PT X (.Compare a [o.py, p.py] [b, d] pos) (tT X.K RX W c (.chain o p ea eb ed)) :=
  L2PT.weak (pt_chain (oc_all hu o) (oc_all hu p) ha hb hd hm) fun σ H Q ⟨ρ, M, ι, re, sr, h⟩ => by
    unfold ev at h
    simp only [Res.bind_assoc] at h
    refine ⟨ρ, M, ι, re, sr, h.bind.mono fun x M1 ι1 H1 _ st s1 h1 v rv => ⟨ρ, M1, ι1, re.step st, s1, h1.bind.mono fun y M2 ι2 H2 _ st2 s2 h2 u ru => ⟨ι2, M2, x, y, s2, rv.step st2, ru, ?_⟩⟩⟩
    refine Wp.okR (Ex := fun cls d H' => W cls d σ H') (h2.bind.mono fun z M3 ι3 H3 e3 st3 s3 h3 w rw' => ?_) nx_cmp
    obtain ⟨rfl, k, rfl⟩ := cmp_bl e3
    refine ⟨k, relD_bl rw', ?_⟩
    cases k with
    | true =>
      simp only [Res.bind_assoc] at h3
      exact ⟨ρ, M3, ι3, (re.step st).step (st2.trans st3), s3, h3.bind.mono fun z M4 ι4 H4 _ st4 s4 h4 w' rz => ⟨ι4, M4, y, z, s4, ru.step (st3.trans st4), rz, cmp_test h4⟩⟩
    | false => exact ⟨false, rfl, h3.now s3⟩
theorem sd_neg (ha : PE X a (tE X.K RX W c ea)) : PE X (.UnaryOp .USub a pos) (tE X.K RX W c (.neg ea)) :=
  L2PE.weak (pe_un un_neg ha) fun σ H Q ⟨ρ, M, ι, re, sr, h⟩ => by
    unfold ev at h
    refine ⟨ρ, M, ι, re, sr, h.bind.mono fun x M1 ι1 H1 _ st s1 h1 v rv => ?_⟩
    split at h1
    · exact ⟨_, relD_int rv, h1.now s1 _ .ints⟩
    · exact h1.elim
/-- a value's truth as a test -/
theorem st_val {e : Expr} {ee : E} (h : PE X e (tE X.K RX W c ee)) (he : ∀ whole, isTrue e X.env whole = (do let v ← whole; standAt e.pos; holding [v] (truthy v))) : PT X e (tT X.K RX W c ee) :=
  L2PT.weak (pt_truth h he) fun σ H Q ⟨ρ, M, ι, re, sr, h⟩ => ⟨ρ, M, ι, re, sr, h.bind.mono fun x M1 ι1 H1 _ st s1 h1 v rv => by
    cases e1 : truthR x M1 with
    | ok k M2 =>
      obtain ⟨rfl, e2⟩ := truthR_ok e1
      rw [e1] at h1
      exact ⟨k, truth_ok s1 rv e2, h1.now s1⟩
    | exc x' M2 =>
      unfold truthR at e1
      split at e1 <;> cases e1
    | bad => rw [e1] at h1; exact h1.elim⟩
theorem truth_wp {K : PySem.W.Frag} {ι : List Addr} {H : Hp} {Ex : Value → Option Addr → Hp → Prop} {β : Type} {x : D} {M1 : Store} {f : Bool → Store → Res β} {P : β → Store → List Addr → Hp → Prop} (s1 : SR K ι H M1) {v : V} (rv : RelD K ι H x v)
    (h : Wp K RX Ex ι H P ((truthR x M1).bind f)) : ∃ k, truthR x M1 = .ok k M1 ∧ TruV K v H k ∧ Wp K RX Ex ι H P (f k M1) := by
  cases e1 : truthR x M1 with
  | ok k M2 =>
    obtain ⟨rfl, e2⟩ := truthR_ok e1
    rw [e1] at h
    exact ⟨k, rfl, truth_ok s1 rv e2, h⟩
  | exc x' M2 =>
    unfold truthR at e1
    split at e1 <;> cases e1
  | bad => rw [e1] at h; exact h.elim
variable {rest : List Expr}
theorem sd_and (ha : PE X a (tE X.K RX W c ea)) (hb : PE X (.BoolOp .And (b :: rest) pos) (tE X.K RX W c eb)) : PE X (.BoolOp .And (a :: b :: rest) pos) (tE X.K RX W c (.and ea eb)) :=
  L2PE.weak (pe_andT ha hb) fun σ H Q ⟨ρ, M, ι, re, sr, h⟩ => by
    unfold ev at h
    refine ⟨ρ, M, ι, re, sr, h.bind.mono fun x M1 ι1 H1 _ st s1 h1 v rv => ?_⟩
    obtain ⟨k, _, tv, h2⟩ := truth_wp s1 rv h1
    refine ⟨k, tv, ?_⟩
    cases k with
    | true => exact ⟨ρ, M1, ι1, re.step st, s1, h2⟩
    | false => exact h2.now s1 _ rv
theorem sd_or (ha : PE X a (tE X.K RX W c ea)) (hb : PE X (.BoolOp .Or (b :: rest) pos) (tE X.K RX W c eb)) : PE X (.BoolOp .Or (a :: b :: rest) pos) (tE X.K RX W c (.or ea eb)) :=
  L2PE.weak (pe_orT ha hb) fun σ H Q ⟨ρ, M, ι, re, sr, h⟩ => by
    unfold ev at h
    refine ⟨ρ, M, ι, re, sr, h.bind.mono fun x M1 ι1 H1 _ st s1 h1 v rv => ?_⟩
    obtain ⟨k, _, tv, h2⟩ := truth_wp s1 rv h1
    refine ⟨k, tv, ?_⟩
    cases k with
    | true => exact h2.now s1 _ rv
    | false => exact ⟨ρ, M1, ι1, re.step st, s1, h2⟩
theorem sd_not (ha : PE X a (tE X.K RX W c ea)) : PE X (.UnaryOp .Not a pos) (tE X.K RX W c (.not ea)) :=
  L2PE.weak (pe_notT ha) fun σ H Q ⟨ρ, M, ι, re, sr, h⟩ => by
    unfold ev at h
    refine ⟨ρ, M, ι, re, sr, h.bind.mono fun x M1 ι1 H1 _ st s1 h1 v rv => ?_⟩
    obtain ⟨k, _, tv, h2⟩ := truth_wp s1 rv h1
    exact ⟨k, tv, h2.now s1 _ .bls⟩
theorem st_and (ha : PT X a (tT X.K RX W c ea)) (hb : PW X (.BoolOp .And (b :: rest) pos) (tT X.K RX W c eb)) : PT X (.BoolOp .And (a :: b :: rest) pos) (tT X.K RX W c (.and ea eb)) :=
  L2PT.weak (pw_and ha hb).pt fun σ H Q ⟨ρ, M, ι, re, sr, h⟩ => by
    unfold ev at h
    simp only [Res.bind_assoc] at h
    refine ⟨ρ, M, ι, re, sr, ?_⟩
    refine Wp.mono (P := fun k M1 ι1 H1 => Wp X.K RX (fun cls d H' => W cls d σ H') ι1 H1 (PB Q) (if k = true then (ev c eb ρ M1).bind truthR else .ok false M1)) ?_ fun k M1 ι1 H1 e st s1 h1 => ?_
    · cases e : ev c ea ρ M with
      | ok x M1 =>
        rw [e] at h
        show Wp _ _ _ _ _ _ (truthR x M1)
        cases e1 : truthR x M1 with
        | ok k M2 =>
          obtain ⟨rfl, e2⟩ := truthR_ok e1
          intro ι2 H2 st s2
          have h2 := Wp.step h st
          simp only [Res.bind, e1] at h2
          cases k with
          | true => exact h2
          | false =>
            simp only [Bool.false_eq_true, if_false, Res.bind, e1] at h2 ⊢
            exact h2
        | exc x' M2 =>
          unfold truthR at e1
          split at e1 <;> cases e1
        | bad => simp only [Res.bind, e1] at h; exact h
      | exc x M1 => rw [e] at h; exact h
      | bad => rw [e] at h; exact h
    · cases k with
      | true => exact ⟨ρ, M1, ι1, re.step st, s1, h1⟩
      | false => exact h1.now s1
theorem st_or (ha : PT X a (tT X.K RX W c ea)) (hb : PW X (.BoolOp .Or (b :: rest) pos) (tT X.K RX W c eb)) : PT X (.BoolOp .Or (a :: b :: rest) pos) (tT X.K RX W c (.or ea eb)) :=
  L2PT.weak (pw_or ha hb).pt fun σ H Q ⟨ρ, M, ι, re, sr, h⟩ => by
    unfold ev at h
    simp only [Res.bind_assoc] at h
    refine ⟨ρ, M, ι, re, sr, ?_⟩
    refine Wp.mono (P := fun k M1 ι1 H1 => Wp X.K RX (fun cls d H' => W cls d σ H') ι1 H1 (PB Q) (if k = true then .ok true M1 else (ev c eb ρ M1).bind truthR)) ?_ fun k M1 ι1 H1 e st s1 h1 => ?_
    · cases e : ev c ea ρ M with
      | ok x M1 =>
        rw [e] at h
        show Wp _ _ _ _ _ _ (truthR x M1)
        cases e1 : truthR x M1 with
        | ok k M2 =>
          obtain ⟨rfl, e2⟩ := truthR_ok e1
          intro ι2 H2 st s2
          have h2 := Wp.step h st
          simp only [Res.bind, e1] at h2
          cases k with
          | false => exact h2
          | true =>
            simp only [if_true, Res.bind, e1] at h2 ⊢
            exact h2
        | exc x' M2 =>
          unfold truthR at e1
          split at e1 <;> cases e1
        | bad => simp only [Res.bind, e1] at h; exact h
      | exc x M1 => rw [e] at h; exact h
      | bad => rw [e] at h; exact h
    · cases k with
      | false => exact ⟨ρ, M1, ι1, re.step st, s1, h1⟩
      | true => exact h1.now s1
theorem st_not (ha : PT X a (tT X.K RX W c ea)) : PT X (.UnaryOp .Not a pos) (tT X.K RX W c (.not ea)) :=
  L2PT.weak (pt_not ha) fun σ H Q ⟨ρ, M, ι, re, sr, h⟩ => by
    unfold ev at h
    simp only [Res.bind_assoc] at h
    refine ⟨ρ, M, ι, re, sr, ?_⟩
    cases e : ev c ea ρ M with
    | ok x M1 =>
      rw [e] at h
      show Wp _ _ _ _ _ _ (truthR x M1)
      cases e1 : truthR x M1 with
      | ok k M2 => simp only [Res.bind, e1] at h; exact h
      | exc x' M2 => simp only [Res.bind, e1] at h; exact h
      | bad => simp only [Res.bind, e1] at h; exact h
    | exc x M1 => rw [e] at h; exact h
    | bad => rw [e] at h; exact h
theorem bool_pw {op : PySem.BoolOp} {t : TT} (h : PT X (.BoolOp op rest pos) t) : PW X (.BoolOp op rest pos) t := ⟨fun _ pins s σ H Q I q => h.run pins s σ H Q I q⟩
theorem sd_ite {t : Expr} {et : E} (ht : PT X t (tT X.K RX W c et)) (ha : PE X a (tE X.K RX W c ea)) (hb : PE X b (tE X.K RX W c eb)) : PE X (.IfExp t a b pos) (tE X.K RX W c (.ite et ea eb)) :=
  L2PE.weak (pe_ifExp ht ha hb) fun σ H Q ⟨ρ, M, ι, re, sr, h⟩ => by
    unfold ev at h
    rw [← Res.bind_assoc] at h
    refine ⟨ρ, M, ι, re, sr, h.bind.mono fun k M1 ι1 H1 e st s1 h1 => ?_⟩
    cases k with
    | true => exact ⟨ρ, M1, ι1, re.step st, s1, h1⟩
    | false => exact ⟨ρ, M1, ι1, re.step st, s1, h1⟩

/-! ### lists of expressions, displays -/
variable {es : List Expr} {ees : List E}
theorem sa_nil : PA X [] (tEs X.K RX W c []) := L2PA.weak pa_nil fun σ H Q ⟨ρ, M, ι, re, sr, h⟩ => by
  unfold evs at h
  exact h.now sr _ RelDs.nil
theorem sa_cons (ha : PE X a (tE X.K RX W c ea)) (hr : PA X es (tEs X.K RX W c ees)) (hs : starEach (a :: es) X.env = (false, eval a X.env) :: starEach es X.env) : PA X (a :: es) (tEs X.K RX W c (ea :: ees)) :=
  L2PA.weak (pa_cons ha hr hs) fun σ H Q ⟨ρ, M, ι, re, sr, h⟩ => by
    unfold evs at h
    refine ⟨ρ, M, ι, re, sr, h.bind.mono fun x M1 ι1 H1 _ st s1 h1 v rv => ⟨ρ, M1, ι1, re.step st, s1, h1.bind.mono fun ys M2 ι2 H2 _ st2 s2 h2 us ru => ?_⟩⟩
    refine h2.now s2 _ ?_
    simp only [RelDs]
    exact ⟨_, _, rfl, rv.step st2, ru⟩
theorem evs_len {ρ : Env} : ∀ {es : List E} {M M' : Store} {ds : List D}, evs c es ρ M = .ok ds M' → ds.length = es.length
  | [], M, M', ds, h => by unfold evs at h; cases h; rfl
  | e :: es, M, M', ds, h => by
    unfold evs at h
    cases e1 : ev c e ρ M with
    | ok x M1 =>
      rw [e1] at h
      simp only [Res.bind] at h
      cases e2 : evs c es ρ M1 with
      | ok xs M2 =>
        rw [e2] at h
        cases h
        simp [evs_len e2]
      | exc x M2 => rw [e2] at h; cases h
      | bad => rw [e2] at h; cases h
    | exc x M2 => rw [e1] at h; cases h
    | bad => rw [e1] at h; cases h
theorem sd_tup {k : Nat} (h : PA X es (tEs X.K RX W c ees)) (hl : ees.length ≤ 100000) : PE X (.Tuple es k pos) (tE X.K RX W c (.tup ees)) :=
  L2PE.weak (pe_tup h) fun σ H Q ⟨ρ, M, ι, re, sr, h⟩ => by
    unfold ev at h
    refine ⟨ρ, M, ι, re, sr, h.bind.mono fun xs M1 ι1 H1 e st s1 h1 vs rv => ⟨by rw [← rv.length, evs_len e, sizeLine_eq]; omega, fun p hp => ?_⟩⟩
    refine h1 ι1 _ (Step.fresh hp) (s1.fresh hp) _ ?_
    simp only [RelD]
    exact ⟨p, vs, rfl, .inl (.inl upd_same), rv.step (Step.fresh hp)⟩
theorem sd_lst (h : PA X es (tEs X.K RX W c ees)) (hl : ees.length ≤ 100000) : PE X (.List es pos) (tE X.K RX W c (.lst ees)) :=
  L2PE.weak (pe_lst h) fun σ H Q ⟨ρ, M, ι, re, sr, h⟩ => by
    unfold ev at h
    refine ⟨ρ, M, ι, re, sr, h.bind.mono fun xs M1 ι1 H1 e st s1 h1 vs rv => ⟨by rw [← rv.length, evs_len e, sizeLine_eq]; omega, fun p hp => ?_⟩⟩
    exact OkR.new (h1.okR trivial) s1 hp rfl ⟨_, upd_same, rv.step (Step.alloc hp)⟩
theorem sd_dct : PE X (.Dict [] [] pos) (tE X.K RX W c (.dct false)) :=
  L2PE.weak pe_dnewK fun σ H Q ⟨ρ, M, ι, re, sr, h⟩ => by
    unfold ev at h
    intro p hp
    exact OkR.new (h.okR trivial) sr hp rfl ⟨_, upd_same, .nil⟩
theorem sd_ix (hu : Rm X) (ha : PE X a (tE X.K RX W c ea)) (hb : PE X b (tE X.K RX W c eb)) (hs : PlainIx b) : PE X (.Subscript a b pos) (tE X.K RX W c (.ix ea eb)) :=
  L2PE.weak (pe_ix (ix_all hu) ha hb hs) fun σ H Q ⟨ρ, M, ι, re, sr, h⟩ => by
    unfold ev at h
    exact ⟨ρ, M, ι, re, sr, h.bind.mono fun x M1 ι1 H1 _ st s1 h1 v rv => ⟨ρ, M1, ι1, re.step st, s1, h1.bind.mono fun y M2 ι2 H2 _ st2 s2 h2 u ru => ⟨ι2, M2, x, y, s2, rv.step st2, ru, h2.okR nx_ix⟩⟩⟩
variable {p2 : Pos}
theorem sd_slc (ha : PE X a (tE X.K RX W c ea)) : PE X (.Subscript a (.Slice none none none p2) pos) (tE X.K RX W c (.slc ea)) :=
  L2PE.weak (pe_slice sl_all ha po_none po_none) fun σ H Q ⟨ρ, M, ι, re, sr, h⟩ => by
    unfold ev at h
    exact ⟨ρ, M, ι, re, sr, h.bind.mono fun x M1 ι1 H1 _ st s1 h1 v rv => ⟨ι1, M1, x, s1, rv, h1.okR nx_slc⟩⟩
theorem sd_slcL (ha : PE X a (tE X.K RX W c ea)) (hb : PE X b (tE X.K RX W c eb)) : PE X (.Subscript a (.Slice (some b) none none p2) pos) (tE X.K RX W c (.slcL ea eb)) :=
  L2PE.weak (pe_slice sl_all ha (po_some hb) po_none) fun σ H Q ⟨ρ, M, ι, re, sr, h⟩ => by
    unfold ev at h
    refine ⟨ρ, M, ι, re, sr, h.bind.mono fun x M1 ι1 H1 _ st s1 h1 v rv => ⟨ρ, M1, ι1, re.step st, s1, h1.bind.mono fun y M2 ι2 H2 _ st2 s2 h2 u ru => ?_⟩⟩
    split at h2
    · exact ⟨_, relD_int ru, ι2, M2, x, s2, rv.step st2, h2.okR nx_slc⟩
    · exact h2.elim
theorem sd_slcU (ha : PE X a (tE X.K RX W c ea)) (hb : PE X b (tE X.K RX W c eb)) : PE X (.Subscript a (.Slice none (some b) none p2) pos) (tE X.K RX W c (.slcU ea eb)) :=
  L2PE.weak (pe_slice sl_all ha po_none (po_some hb)) fun σ H Q ⟨ρ, M, ι, re, sr, h⟩ => by
    unfold ev at h
    refine ⟨ρ, M, ι, re, sr, h.bind.mono fun x M1 ι1 H1 _ st s1 h1 v rv => ⟨ρ, M1, ι1, re.step st, s1, h1.bind.mono fun y M2 ι2 H2 _ st2 s2 h2 u ru => ?_⟩⟩
    split at h2
    · exact ⟨_, relD_int ru, ι2, M2, x, s2, rv.step st2, h2.okR nx_slc⟩
    · exact h2.elim
theorem sd_slcLU (ha : PE X a (tE X.K RX W c ea)) (hb : PE X b (tE X.K RX W c eb)) (hd : PE X d (tE X.K RX W c ed)) : PE X (.Subscript a (.Slice (some b) (some d) none p2) pos) (tE X.K RX W c (.slcLU ea eb ed)) :=
  L2PE.weak (pe_slice sl_all ha (po_some hb) (po_some hd)) fun σ H Q ⟨ρ, M, ι, re, sr, h⟩ => by
    unfold ev at h
    refine ⟨ρ, M, ι, re, sr, h.bind.mono fun x M1 ι1 H1 _ st s1 h1 v rv => ⟨ρ, M1, ι1, re.step st, s1, h1.bind.mono fun y M2 ι2 H2 _ st2 s2 h2 u ru => ?_⟩⟩
    split at h2
    · refine ⟨_, relD_int ru, ρ, M2, ι2, (re.step st).step st2, s2, h2.bind.mono fun z M3 ι3 H3 _ st3 s3 h3 w rw' => ?_⟩
      split at h3
      · exact ⟨_, relD_int rw', ι3, M3, x, s3, (rv.step st2).step st3, h3.okR nx_slc⟩
      · exact h3.elim
    · exact h2.elim

/-! ### calls -/
variable {x : Str} {p : Pos}
theorem sd_bltB {f : Blt} {id : String} (hc : CB X (.builtin id) (bltD f)) (hg : Gl X x) (hm : X.mg x = none) (hv : bootBuiltins x = some (.builtin id)) (ha : PA X (a :: es) (tEs X.K RX W c ees)) (hn : x ≠ "__name__") (hdb : (x == ("__debug__" : Str)) = false)
    (he : starEach (a :: es) X.env = (false, eval a X.env) :: starEach es X.env) (hpl : (backTo pos (starEach es X.env)).any (·.1) = false) : PE X (.Call (.Name x p) (a :: es) [] pos) (tE X.K RX W c (.blt f ees)) :=
  L2PE.weak (pe_callB hc hg hm hv ha hn hdb he hpl) fun σ H Q ⟨ρ, M, ι, re, sr, h⟩ => by
    unfold ev at h
    exact ⟨ρ, M, ι, re, sr, h.bind.mono fun xs M1 ι1 H1 _ st s1 h1 v rv => ⟨ι1, M1, xs, s1, rv, h1.okR nx_blt⟩⟩
theorem sd_bltT {f : Blt} {id : String} (hc : CB X (.type id) (bltD f)) (hg : Gl X x) (hm : X.mg x = none) (hv : bootBuiltins x = some (.type id)) (ha : PA X (a :: es) (tEs X.K RX W c ees)) (hn : x ≠ "__name__") (hdb : (x == ("__debug__" : Str)) = false)
    (he : starEach (a :: es) X.env = (false, eval a X.env) :: starEach es X.env) (hpl : (backTo pos (starEach es X.env)).any (·.1) = false) : PE X (.Call (.Name x p) (a :: es) [] pos) (tE X.K RX W c (.blt f ees)) :=
  L2PE.weak (pe_callTy hc hg hm hv ha hn hdb he hpl) fun σ H Q ⟨ρ, M, ι, re, sr, h⟩ => by
    unfold ev at h
    exact ⟨ρ, M, ι, re, sr, h.bind.mono fun xs M1 ι1 H1 _ st s1 h1 v rv => ⟨ι1, M1, xs, s1, rv, h1.okR nx_blt⟩⟩
/-- the promise of a def of the table -/
def spC (K : PySem.W.Frag) (RX : Exc → Value → Option Addr → Hp → Prop) (g : List D → Store → Res D) (n : Nat) : Sp := fun vs H Q Ex =>
  vs.length = n ∧ ∃ ι M ds, SR K ι H M ∧ RelDs K ι H ds vs ∧ Wp K RX Ex ι H (PD K Q) (g ds M)
theorem sd_call {f : String} {k n : Nat} {q : Addr} {fd : FuncData} {ps : List Str} (tk : L2N.Takes X W) (F : FnOk X.prog X.w X.K X.mg X.base (L2N.CX X.prog X.w) k q fd ps (spC X.K RX (c.call f) n)) (hr : Room k X.A) (hg : Gl X x) (hm : X.mg x = some (.ref q)) (hk : PySem.W.keepIn X.K (.ref q) = true)
    (hb : Binds X.K fd ps []) (ha : PA X (a :: es) (tEs X.K RX W c ees)) (hn : ees.length = n) (hdb : (x == ("__debug__" : Str)) = false) (he : starEach (a :: es) X.env = (false, eval a X.env) :: starEach es X.env) (hpl : (backTo pos (starEach es X.env)).any (·.1) = false) :
    PE X (.Call (.Name x p) (a :: es) [] pos) (tE X.K RX W c (.call f ees)) :=
  L2PE.weak (pe_callS F hr hg hm hk hb (L2N.passAt tk) ha hdb he hpl) fun σ H Q ⟨ρ, M, ι, re, sr, h⟩ => by
    unfold ev at h
    exact ⟨ρ, M, ι, re, sr, h.bind.mono fun xs M1 ι1 H1 e st s1 h1 v rv => ⟨by rw [← rv.length, evs_len e, hn], ι1, M1, xs, s1, rv, h1⟩⟩
theorem sd_call0 {f : String} {k : Nat} {q : Addr} {fd : FuncData} {ps : List Str} (tk : L2N.Takes X W) (F : FnOk X.prog X.w X.K X.mg X.base (L2N.CX X.prog X.w) k q fd ps (spC X.K RX (c.call f) 0)) (hr : Room k X.A) (hg : Gl X x) (hm : X.mg x = some (.ref q)) (hk : PySem.W.keepIn X.K (.ref q) = true)
    (hb : Binds X.K fd ps []) (hdb : (x == ("__debug__" : Str)) = false) : PE X (.Call (.Name x p) [] [] pos) (tE X.K RX W c (.call f [])) := by
  refine ⟨fun pins s σ H Q I h => ?_⟩
  obtain ⟨ρ, M, ι, re, sr, h⟩ := h
  refine wpAny_Call_Name_kw (ld_glob I hg hm ?_ hdb)
  unfold ev evs at h
  exact PySem.W.callWith_K0 I.kIn hk (run_fnS (E := L2.WE W) (us := []) (vs := []) F hr hb (L2N.passAt tk σ) I .nil ⟨rfl, ι, M, [], sr, RelDs.nil, h⟩)
end
end Sk
end
section
set_option Elab.async false
set_option linter.all false
set_option autoImplicit false
set_option maxRecDepth 100000
/-! SkD2: methods, isinstance, what is walked, list comprehensions. -/
namespace Sk
open PySem PySem.Spec PyProof.Rows L2

/-- not a starred expression -/
def nst : Expr → Bool
  | .Starred _ _ => false
  | _ => true
theorem star1 {e : Expr} {es : List Expr} {env : PySem.Env} (h : nst e = true) : starEach (e :: es) env = (false, eval e env) :: starEach es env := by
  cases e <;> first | rfl | cases h
theorem back_plain {pos : Pos} {env : PySem.Env} : ∀ {es : List Expr}, es.all nst = true → (backTo pos (starEach es env)).any (·.1) = false
  | [], _ => rfl
  | e :: es, h => by
    rw [List.all_cons, Bool.and_eq_true] at h
    rw [star1 h.1]
    show (false || (backTo pos (starEach es env)).any (·.1)) = false
    rw [back_plain h.2]; rfl
theorem back_all {pos : Pos} {env : PySem.Env} : ∀ {es : List Expr}, es.all nst = true → (backTo pos (starEach es env)).all (fun x => !x.1) = true
  | [], _ => rfl
  | e :: es, h => by
    rw [List.all_cons, Bool.and_eq_true] at h
    rw [star1 h.1]
    show (true && (backTo pos (starEach es env)).all (fun x => !x.1)) = true
    rw [back_all h.2]; rfl
/-- what a method's receiver may be -/
def plainO : Expr → Bool
  | .Call _ [] _ _ => false
  | _ => true
theorem base_plain {o : Expr} {n : Str} {env : PySem.Env} {t : Sem Value} (h : plainO o = true) : attributeBase o n env t = t := by
  cases o with
  | Call f as ks p =>
    cases as with
    | nil => cases h
    | cons a as => cases f <;> rfl
  | _ => rfl

section
variable {X : L2.Cx}
theorem mt_get (hu : Rm X) : MtR X "dict.get" (rMt X.K (mthD .get)) := by
  intro pins s σ H x xs v us Q I rx rv h
  obtain ⟨ι, M, a, ds, S, ra, rd, h⟩ := h
  simp only [mthD] at h
  unfold Rm at hu
  split at h
  · rename_i i k x0
    obtain ⟨y, z, rfl, ry, rz⟩ := relDs_two rd
    obtain ⟨u1, u2, rfl, r1, r2⟩ := rv.two
    split at h
    · rename_i d e
      obtain ⟨p, ov, rfl, g, g1, g2⟩ := S.dget e ra ry
      cases (show v = Value.ref p from rx)
      obtain ⟨w, rfl, rw'⟩ := g2 d rfl
      exact d_get2 (by omega) I g r1 r2 fun w' s' I' r' => ⟨_, H, I', r', h.same S rw'⟩
    · rename_i e
      obtain ⟨p, ov, rfl, g, g1, g2⟩ := S.dget e ra ry
      cases (show v = Value.ref p from rx)
      cases ov with
      | some o => cases g1
      | none => exact d_get2 (by omega) I g r1 r2 fun w' s' I' r' => ⟨_, H, I', r', h.same S rz⟩
    · exact h.elim
  · exact h.elim
/-- the list of the store at i is written -/
theorem SR.wr {K : PySem.W.Frag} {ι : List Addr} {H : Hp} {M : Store} {i : Nat} {xs ys : List D} {p : Addr} {vs : List V} (S : SR K ι H M) (e : M[i]? = some (.lst xs)) (hi : ι[i]? = some p) (r : RelDs K ι H ys vs) :
    Step ι H ι (upd H p (.lst vs)) ∧ SR K ι (upd H p (.lst vs)) (M.set i (.lst ys)) := by
  have st : Step ι H ι (upd H p (.lst vs)) := Step.write S e rfl hi
  exact ⟨st, SR.write S e rfl hi ⟨_, upd_same, r.step st⟩ rfl⟩
theorem mt_popS : MtR X "list.pop" (rMt X.K (mthD .pop)) := by
  intro pins s σ H x xs v us Q I rx rv h
  obtain ⟨ι, M, a, ds, S, ra, rd, h⟩ := h
  simp only [mthD] at h
  split at h
  · rename_i i
    simp only [RelDs] at rd
    subst rd
    split at h
    · rename_i zs e
      obtain ⟨p, rfl, hp, vs, hH, hr⟩ := S.ref e ra
      split at h
      · rename_i d e2
        obtain ⟨w, hw, rw'⟩ := hr.get e2
        obtain ⟨st, s2⟩ := S.wr e hp hr.dropLast
        exact mt_pop pins s σ H _ _ v us Q I rx rv ⟨p, vs, w, rfl, rfl, hH, by rw [← hr.length]; exact hw, h ι _ w st s2 (rw'.step st)⟩
      · exact h.elim
    · exact h.elim
  · rename_i i j
    obtain ⟨y, rfl, ry⟩ := relDs_one rd
    cases relD_int ry
    split at h
    · rename_i zs e
      obtain ⟨p, rfl, hp, vs, hH, hr⟩ := S.ref e ra
      split at h
      · rename_i k e1
        split at h
        · rename_i d e2
          obtain ⟨w, hw, rw'⟩ := hr.get e2
          obtain ⟨st, s2⟩ := S.wr e hp (hr.eraseIdx k)
          rw [ixN_eq, hr.length] at e1
          obtain ⟨q1, q2, q3, q4⟩ := ixN_seq e1
          have hz := (I.lstM hH).1
          have hn := line63
          exact mt_popAt pins s σ H _ _ v us Q I rx rv ⟨p, vs, j, k, w, rfl, rfl, hH, by omega, by omega, q1, hw, h ι _ w st s2 (rw'.step st)⟩
        · exact h.elim
      · exact h.elim
    · exact h.elim
  · exact h.elim
def Mth.ty : Mth → String
  | .get => "dict"
  | .pop => "list"
  | .index => "list"
  | .count => "list"
  | _ => "str"
theorem tyM_lst {K : PySem.W.Frag} {ι : List Addr} {H : Hp} {M : Store} {o : D} {v : V} (S : SR K ι H M) (r : RelD K ι H o v) (h : isLst M o = true) : tyV K "list" v H := by
  unfold isLst at h
  split at h
  · split at h
    · rename_i e
      obtain ⟨p, rfl, _, vs, hH, _⟩ := S.ref e r
      exact .inl ⟨rfl, vs, .inl (.inl hH)⟩
    · cases h
  · cases h
theorem tyM_ok {K : PySem.W.Frag} {ι : List Addr} {H : Hp} {M : Store} {m : Mth} {o : D} {v : V} (S : SR K ι H M) (r : RelD K ι H o v) (h : tyM m M o = true) : tyV K m.ty v H := by
  cases m with
  | get =>
    simp only [tyM] at h
    split at h
    · split at h
      · rename_i e
        obtain ⟨p, rfl, _, vs, hH, _⟩ := S.ref e r
        exact .inr (.inr (.inl ⟨rfl, .inl ⟨vs, hH⟩⟩))
      · cases h
    · cases h
  | pop => exact tyM_lst S r h
  | _ => cases h
/-- the methods that the library's rules serve -/
inductive MOk (X : L2.Cx) : Mth → Str → Prop where
  | mk {m : Mth} {name : Str} {id : String} (pa : PlainAttrs m.ty) (slot : Slot m.ty name id) (hty : typeOf (.builtin id) = pure (.type "method_descriptor")) (hm : MtR X id (rMt X.K (mthD m))) : MOk X m name
theorem mok_get (hu : Rm X) : MOk X .get "get" := .mk PySem.F.plainAttrs_dict PySem.F.slot_dict_get PySem.F.type_dict_get (mt_get hu)
theorem mok_pop : MOk X .pop "pop" := .mk PySem.F.plainAttrs_list PySem.F.slot_list_pop PySem.F.type_list_pop mt_popS
variable {RX : Exc → Value → Option Addr → Hp → Prop} {W : WX} {c : Cx} {a b d o : Expr} {ea eb ed eo : E} {pos apos cpos : Pos} {es : List Expr} {ees : List E} {name : Str}
theorem sd_mth {m : Mth} (k : MOk X m name) (ho : PE X o (tE X.K RX W c eo)) (ha : PA X (a :: es) (tEs X.K RX W c ees)) (hn : (a :: es).all nst = true) (hl : (a :: es).length < 10) (hp : plainO o = true) (hline : (apos.endLine == cpos.line) = true) :
    PE X (.Call (.Attribute o name apos) (a :: es) [] cpos) (tE X.K RX W c (.mth m eo ees)) := by
  obtain ⟨pa, slot, hty, hm⟩ := k
  have hn' := hn
  rw [List.all_cons, Bool.and_eq_true] at hn'
  refine L2PE.weak (pe_bm pa slot hty hm ho ha (base_plain hp) ?_ hline (star1 hn'.1) (back_plain hn'.2)) fun σ H Q ⟨ρ, M, ι, re, sr, h⟩ => ?_
  · rw [back_all hn]
    simp only [backToKw, keywordEach, List.map_nil, List.all_nil, Bool.true_and, List.length_nil, List.isEmpty_nil, if_true, decide_eq_true_eq]
    omega
  · unfold ev at h
    refine ⟨ρ, M, ι, re, sr, h.bind.mono fun x M1 ι1 H1 _ st s1 h1 v rv => ?_⟩
    split at h1
    · rename_i ht
      exact ⟨tyM_ok s1 rv ht, ρ, M1, ι1, re.step st, s1, h1.bind.mono fun ys M2 ι2 H2 _ st2 s2 h2 us ru => ⟨ι2, M2, x, ys, s2, rv.step st2, ru, h2.okR nx_mth⟩⟩
    · exact h1.elim
theorem sd_mth0 {m : Mth} (k : MOk X m name) (ho : PE X o (tE X.K RX W c eo)) (hp : plainO o = true) (hline : (apos.endLine == cpos.line) = true) :
    PE X (.Call (.Attribute o name apos) [] [] cpos) (tE X.K RX W c (.mth m eo [])) := by
  obtain ⟨pa, slot, hty, hm⟩ := k
  refine L2PE.weak (pe_bm0 pa slot hty hm ho (base_plain hp) hline) fun σ H Q ⟨ρ, M, ι, re, sr, h⟩ => ?_
  unfold ev at h
  refine ⟨ρ, M, ι, re, sr, h.bind.mono fun x M1 ι1 H1 _ st s1 h1 v rv => ?_⟩
  split at h1
  · rename_i ht
    unfold evs at h1
    exact ⟨tyM_ok s1 rv ht, ι1, M1, x, [], s1, rv, RelDs.nil, Wp.okR h1 nx_mth⟩
  · exact h1.elim

/-! ### isinstance -/
theorem isi_ty {K : PySem.W.Frag} {ι : List Addr} {H : Hp} {M : Store} {x : D} {v : V} {T : String} {k : Bool} (S : SR K ι H M) (r : RelD K ι H x v) (h : isiD M x T = some k)
    (hT : T ∈ ["int", "bool", "str", "tuple", "list"]) : ∃ t, TyX K H v t ∧ PySem.W.kitOne K t (.type T) = some k := by
  have hT' : T = "int" ∨ T = "bool" ∨ T = "str" ∨ T = "tuple" ∨ T = "list" := by simpa using hT
  cases x with
  | non =>
    rw [relD_non r]
    simp only [isiD, Option.some.injEq] at h
    subst h
    refine ⟨_, .base .non, kit_ty ?_⟩
    rcases hT' with rfl | rfl | rfl | rfl | rfl <;> decide +kernel
  | bl b =>
    rw [relD_bl r]
    simp only [isiD, Option.some.injEq] at h
    subst h
    refine ⟨_, .base (.bl b), kit_ty ?_⟩
    rcases hT' with rfl | rfl | rfl | rfl | rfl <;> decide +kernel
  | int b =>
    rw [relD_int r]
    simp only [isiD, Option.some.injEq] at h
    subst h
    refine ⟨_, .base (.int b), kit_ty ?_⟩
    rcases hT' with rfl | rfl | rfl | rfl | rfl <;> decide +kernel
  | str b =>
    rw [(relD_str (t := b) r).1]
    simp only [isiD, Option.some.injEq] at h
    subst h
    refine ⟨_, .base (.str b), kit_ty ?_⟩
    rcases hT' with rfl | rfl | rfl | rfl | rfl <;> decide +kernel
  | tup xs =>
    simp only [RelD] at r
    obtain ⟨p, vs, rfl, hs, _⟩ := r
    simp only [isiD, Option.some.injEq] at h
    subst h
    have ty : TyX K H (.ref p) (.type "tuple") := by
      rcases hs with (e | ⟨o, e⟩) | ⟨o, its, n, e, ec, _⟩
      · exact .base (.tup e)
      · exact .fTuple e
      · exact .kTuple e ec
    refine ⟨_, ty, kit_ty ?_⟩
    rcases hT' with rfl | rfl | rfl | rfl | rfl <;> decide +kernel
  | ref i =>
    simp only [isiD] at h
    have main : ∀ p, v = .ref p → TyX K H (.ref p) (.type "list") → k = (T == "list") → ∃ t, TyX K H v t ∧ PySem.W.kitOne K t (.type T) = some k := fun p hv ty e => by
      subst hv e
      refine ⟨_, ty, kit_ty ?_⟩
      rcases hT' with rfl | rfl | rfl | rfl | rfl <;> decide +kernel
    split at h
    · rename_i e
      obtain ⟨p, rfl, _, vs, hH, _⟩ := S.ref e r
      exact main p rfl (.base (.lst hH)) (Option.some.inj h).symm
    · rename_i e
      obtain ⟨p, rfl, _, vs, hH, _⟩ := S.ref e r
      refine main p rfl ?_ (Option.some.inj h).symm
      rcases hH with ⟨o, e⟩ | ⟨o, its, n, e, ec, _⟩
      · exact .base (.frz e)
      · exact .kList e ec
    · cases h
theorem sd_ty {x : Str} {T : String} {p : Pos} (hg : Gl X x) (hm : X.mg x = none) (hv : bootBuiltins x = some (.type T)) (hn : x ≠ "__name__") (hdb : (x == ("__debug__" : Str)) = false) : PE X (.Name x p) (tC (.ty T)) := pe_bltn hg hm hv rfl hn hdb
theorem sd_isi {x y : Str} {T : String} {p q : Pos} (hg : Gl X x) (hm : X.mg x = none) (hx : x = "isinstance") (hT : T ∈ ["int", "bool", "str", "tuple", "list"]) (ty : PE X (.Name y q) (tC (.ty T))) (ha : PE X a (tE X.K RX W c ea)) (na : nst a = true) :
    PE X (.Call (.Name x p) [a, .Name y q] [] pos) (tE X.K RX W c (.isi ea [T])) := by
  subst hx
  refine L2PE.weak (pe_callB call_isi hg hm (by decide +kernel) (pa_cons ha (pa_cons ty pa_nil (star1 rfl)) (star1 na)) (by decide) (by decide) (star1 na) (back_plain rfl)) fun σ H Q ⟨ρ, M, ι, re, sr, h⟩ => ?_
  unfold ev at h
  refine ⟨ρ, M, ι, re, sr, h.bind.mono fun x M1 ι1 H1 _ st s1 h1 v rv => ?_⟩
  show rIsi X.K [v, .ty T] H1 Q
  simp only at h1
  cases e : isiD M1 x T with
  | none => rw [e] at h1; exact h1.elim
  | some k =>
    rw [e] at h1
    obtain ⟨t, ty, kk⟩ := isi_ty s1 rv e hT
    exact ⟨v, .ty T, t, .type T, k, rfl, .ty T, ty, kk, h1.now s1 _ .bls⟩
end
end Sk
end
section
set_option Elab.async false
set_option linter.all false
set_option autoImplicit false
set_option maxRecDepth 100000
/-! SkD3: targets, what is walked, list comprehensions. -/
namespace Sk
open PySem PySem.Spec PyProof.Rows L2

/-! ### slots -/
theorem wipeS_get : ∀ (vs : List Nat) (σ : L2.St) (j : Nat), (L2.wipe σ vs)[j]? = if j ∈ vs then (if j < σ.length then some none else none) else σ[j]?
  | [], σ, j => by simp [L2.wipe]
  | v :: vs, σ, j => by
    unfold L2.wipe
    have ih := wipeS_get vs σ j
    have hl := L2.wipe_length σ vs
    by_cases e : v = j
    · subst e
      rw [if_pos List.mem_cons_self]
      by_cases h : v < σ.length
      · rw [List.getElem?_set_self (by rw [hl]; exact h), if_pos h]
      · rw [if_neg h, List.getElem?_eq_none (by simp [hl]; omega)]
    · rw [List.getElem?_set_ne e, ih]
      simp [show ¬ j = v from fun z => e z.symm]
theorem wipeS_set {σ : L2.St} {i : Nat} {v : Option V} {vs : List Nat} (h : i ∈ vs) : L2.wipe (σ.set i v) vs = L2.wipe σ vs := by
  refine List.ext_getElem? fun j => ?_
  rw [wipeS_get, wipeS_get, List.length_set]
  by_cases e : j ∈ vs
  · rw [if_pos e, if_pos e]
  · rw [if_neg e, if_neg e, List.getElem?_set_ne (by rintro rfl; exact e h)]
theorem wipeR_some {ρ : Env} {i : Nat} {d : D} : ∀ {vs : List Nat}, (wipe ρ vs)[i]? = some (some d) → ρ[i]? = some (some d) ∧ i ∉ vs
  | [], h => ⟨h, by simp⟩
  | v :: vs, h => by
    unfold wipe at h
    by_cases hi : v = i
    · subst hi
      by_cases hv : v < (wipe ρ vs).length
      · rw [List.getElem?_set_self hv] at h; cases h
      · rw [List.getElem?_eq_none (by simpa using hv)] at h; cases h
    · rw [List.getElem?_set_ne hi] at h
      obtain ⟨h1, h2⟩ := wipeR_some h
      exact ⟨h1, by simp only [List.mem_cons, not_or]; exact ⟨fun e => hi e.symm, h2⟩⟩
theorem wipeR_len (ρ : Env) : ∀ vs : List Nat, (wipe ρ vs).length = ρ.length
  | [] => rfl
  | v :: vs => by unfold wipe; rw [List.length_set, wipeR_len ρ vs]
section
variable {K : PySem.W.Frag} {ι : List Addr} {H : Hp}
theorem REnv.wipe {ρ : Env} {σ : L2.St} (h : REnv K ι H ρ σ) (ks : List Nat) : REnv K ι H (wipe ρ ks) σ := ⟨by rw [wipeR_len]; exact h.1, fun i d e => h.2 i d (wipeR_some e).1⟩
theorem REnv.wipes {ρ : Env} {σ : L2.St} (h : REnv K ι H ρ σ) (ks : List Nat) : REnv K ι H (Sk.wipe ρ ks) (L2.wipe σ ks) := ⟨by rw [wipeR_len, L2.wipe_length]; exact h.1, fun i d e => by
  obtain ⟨e1, e2⟩ := wipeR_some e
  obtain ⟨v, e3, r⟩ := h.2 i d e1
  exact ⟨v, by rw [wipeS_get, if_neg e2]; exact e3, r⟩⟩
theorem REnv.set {ρ : Env} {σ : L2.St} {i : Nat} {d : D} {v : V} (h : REnv K ι H ρ σ) (r : RelD K ι H d v) : REnv K ι H (ρ.set i (some d)) (σ.set i (some v)) := ⟨by simp [h.1], fun j d' e => by
  by_cases z : i = j
  · subst z
    by_cases hi : i < ρ.length
    · rw [List.getElem?_set_self hi] at e
      cases e
      exact ⟨v, by rw [List.getElem?_set_self (by rw [← h.1]; exact hi)], r⟩
    · rw [List.getElem?_eq_none (by simp; omega)] at e; cases e
  · rw [List.getElem?_set_ne z] at e
    rw [List.getElem?_set_ne z]
    exact h.2 j d' e⟩
end

/-! ### targets -/
def Tg.slots : Tg → List Nat
  | .one i => [i]
  | .many is => is
section
variable (K : PySem.W.Frag)
def tG (tg : Tg) : TG := fun v σ H Q => ∃ ρ ι d ρ', REnv K ι H ρ σ ∧ RelD K ι H d v ∧ (∃ M, assignT M tg d ρ = some ρ') ∧ ∀ σ', REnv K ι H ρ' σ' → (∀ vs : List Nat, (∀ i ∈ tg.slots, i ∈ vs) → L2.wipe σ' vs = L2.wipe σ vs) → Q σ' H
def tGs (is : List Nat) : TGs := fun vs σ H Q => ∃ ρ ι ds ρ', REnv K ι H ρ σ ∧ RelDs K ι H ds vs ∧ setMany ρ is ds = some ρ' ∧ ∀ σ', REnv K ι H ρ' σ' → (∀ vs : List Nat, (∀ i ∈ is, i ∈ vs) → L2.wipe σ' vs = L2.wipe σ vs) → Q σ' H
end
theorem setMany_len : ∀ {is : List Nat} {ds : List D} {ρ ρ' : Env}, setMany ρ is ds = some ρ' → ds.length = is.length
  | [], [], _, _, _ => rfl
  | [], _ :: _, _, _, e => nomatch e
  | _ :: _, [], _, _, e => nomatch e
  | i :: is, d :: ds, ρ, ρ', e => by
    simp only [setMany] at e
    simp [setMany_len e]
/-- a name that may be stored -/
structure NameAt (X : L2.Cx) (i : Nat) (x : Str) : Prop where
  ix : X.N[i]? = some x
  loc : Loc X.env.scope x
  fn : X.fn x = true ∨ X.env.scope.names.lookup x = some .local
theorem L2PG.weak {X : L2.Cx} {e : Expr} {t t' : TG} (h : PG X e t) (f : ∀ v σ H Q, t' v σ H Q → t v σ H Q) : PG X e t' := ⟨fun pins s σ H v u Q I r q => h.run pins s σ H v u Q I r (f _ _ _ _ q)⟩
theorem L2PGs.weak {X : L2.Cx} {e : List Expr} {t t' : TGs} (h : PGs X e t) (f : ∀ v σ H Q, t' v σ H Q → t v σ H Q) : PGs X e t' := ⟨fun pins s σ H v u Q I r q => h.run pins s σ H v u Q I r (f _ _ _ _ q)⟩
section
variable {X : L2.Cx}
theorem sg_one {i : Nat} {x : Str} {p : Pos} (hN : X.N.Nodup) (n : NameAt X i x) : PG X (.Name x p) (tG X.K (.one i)) :=
  L2PG.weak (pg_name hN n.ix n.loc n.fn) fun v σ H Q ⟨ρ, ι, d, ρ', re, rd, ⟨M, e⟩, h⟩ => by
    simp only [assignT, Option.some.injEq] at e
    subst e
    exact h _ (re.set rd) fun vs hv => wipeS_set (hv i (by simp [Tg.slots]))
theorem sgs_nil : PGs X [] (tGs X.K []) := L2PGs.weak pgs_nil fun vs σ H Q ⟨ρ, ι, ds, ρ', re, rd, e, h⟩ => by
  cases ds with
  | nil =>
    simp only [RelDs] at rd
    simp only [setMany, Option.some.injEq] at e
    subst e
    exact ⟨rd, h σ re fun _ _ => rfl⟩
  | cons a b => cases e
theorem sgs_cons {i : Nat} {is : List Nat} {x : Str} {p : Pos} {es : List Expr} (hN : X.N.Nodup) (n : NameAt X i x) (hr : PGs X es (tGs X.K is)) : PGs X (.Name x p :: es) (tGs X.K (i :: is)) :=
  L2PGs.weak (pgs_cons (pg_name hN n.ix n.loc n.fn) hr rfl) fun vs σ H Q ⟨ρ, ι, ds, ρ', re, rd, e, h⟩ => by
    cases ds with
    | nil => cases e
    | cons d ds =>
      simp only [RelDs] at rd
      obtain ⟨v, r, rfl, rv, rr⟩ := rd
      simp only [setMany] at e
      refine ⟨v, r, rfl, _, ι, ds, ρ', re.set rv, rr, e, fun σ' re' hw => h σ' re' fun vs hv => ?_⟩
      rw [hw vs fun j hj => hv j (List.mem_cons_of_mem _ hj)]
      exact wipeS_set (hv i List.mem_cons_self)
theorem sg_many {is : List Nat} {es : List Expr} {k : Nat} {p : Pos} (hc : X.calm = true) (h : PGs X es (tGs X.K is)) (hn : (assignEach es X.env).length = is.length) (hst : (assignEach es X.env).findIdx? (·.1) = none) : PG X (.Tuple es k p) (tG X.K (.many is)) :=
  L2PG.weak (pg_tup hc h hn hst) fun v σ H Q ⟨ρ, ι, d, ρ', re, rd, ⟨M, e⟩, h⟩ => by
    simp only [assignT] at e
    split at e
    · rename_i xs
      simp only [RelD] at rd
      obtain ⟨a, vs, rfl, hs, rr⟩ := rd
      refine ⟨a, vs, rfl, hs, ?_, ρ, ι, xs, ρ', re, rr, e, h⟩
      rw [← rr.length]
      exact setMany_len e
    · cases e
end

/-! ### what is walked -/
section
variable (K : PySem.W.Frag) (RX : Exc → Value → Option Addr → Hp → Prop)
/-- a walk over xs, while w stands -/
def Goes (R : L2.It → Hp → Prop) : List D × Option Nat → Store → List Addr → Hp → Prop := fun p M' ι' H' =>
  ∀ (J : L2.It) (G : Hp → Prop) (Y : Nat → Hp → V → Hp → Prop), Walk J p.1.length G Y →
    (∀ i H2 x H3 ι2 M2, i < p.1.length → G H2 → Step ι' H' ι2 H2 → SR K ι2 H2 M2 → stands (p.2.map fun i => (i, p.1)) M2 → Y i H2 x H3 → Step ι2 H2 ι2 H3 ∧ SR K ι2 H3 M2 ∧ ∀ d, p.1[i]? = some d → RelD K ι2 H3 d x) →
    (∀ ι2 H2 M2, Step ι' H' ι2 H2 → SR K ι2 H2 M2 → stands (p.2.map fun i => (i, p.1)) M2 → G H2) → R J H'
variable (W : WX) (c : Cx)
def tI (k : Ik) (its : List E) : TI := fun σ H R => ∃ ρ M ι, REnv K ι H ρ σ ∧ SR K ι H M ∧ Wp K RX (fun cls d H' => W cls d σ H') ι H (Goes K R) ((evs c its ρ M).bind (walkG M.length k))
end
section
variable {K : PySem.W.Frag} {RX : Exc → Value → Option Addr → Hp → Prop} {ι ι1 : List Addr} {H H1 : Hp} {M M1 : Store} {Ex : Value → Option Addr → Hp → Prop}
theorem Step.same {n : Nat} (st : Step ι H ι1 H1) (hn : ι.length = n) : ι1.take n = ι ∧ Step ι H ι H1 := by
  obtain ⟨t, rfl, ht⟩ := st.ext
  subst hn
  exact ⟨by simp, ⟨⟨[], by simp, by simp⟩, st.imm, st.out, st.dom⟩⟩
/-- the end of what is walked: the state as it is said to be -/
theorem walk_end {n : Nat} {k : Ik} {ds : List D} {xs : List D} {w : Option Nat} {P : List D × Option Nat → Store → List Addr → Hp → Prop} (st : Step ι H ι1 H1) (hn : ι.length = n) (h0 : 0 < n) (s1 : SR K ι1 H1 M1) (bel : Below n M1)
    (e : walkD k ds M1 = some (xs, w)) (h : Wp K RX Ex ι H P (walkG n k ds M1)) : ∃ ι2 M2 w2, Step ι H ι2 H1 ∧ SR K ι2 H1 M2 ∧ P (xs, w2) M2 ι2 H1 ∧ (∀ vs, RelDs K ι1 H1 xs vs → RelDs K ι2 H1 xs vs) ∧
      ((ι2 = ι1 ∧ w2 = w) ∨ (ι2 = ι ∧ ((w2 = none ∧ ∀ i, w = some i → n ≤ i) ∨ (w2 = w ∧ ∀ i, w = some i → i < n)))) := by
  obtain ⟨q1, q2⟩ := st.same hn
  have sc := s1.cut bel h0
  rw [q1] at sc
  have cut : ∀ vs, D.pures xs = true → RelDs K ι1 H1 xs vs → RelDs K ι H1 xs vs := fun vs hp r => r.anyI hp
  unfold walkG at h
  rw [e] at h
  cases w with
  | none =>
    simp only at h
    split at h
    · rename_i hp
      exact ⟨ι, _, none, q2, sc, h ι H1 q2 sc, fun vs => cut vs hp, .inr ⟨rfl, .inl ⟨rfl, fun i z => nomatch z⟩⟩⟩
    · exact ⟨ι1, _, none, st, s1, h ι1 H1 st s1, fun vs r => r, .inl ⟨rfl, rfl⟩⟩
  | some i =>
    simp only at h
    split at h
    · rename_i hi
      split at h
      · rename_i hp
        exact ⟨ι, _, none, q2, sc, h ι H1 q2 sc, fun vs => cut vs hp, .inr ⟨rfl, .inl ⟨rfl, fun j z => by cases z; exact hi⟩⟩⟩
      · exact ⟨ι1, _, some i, st, s1, h ι1 H1 st s1, fun vs r => r, .inl ⟨rfl, rfl⟩⟩
    · rename_i hi
      refine ⟨ι, _, some i, q2, sc, h ι H1 q2 sc, fun vs r => ?_, .inr ⟨rfl, .inr ⟨rfl, fun j z => by cases z; omega⟩⟩⟩
      -- the items of an object below n
      have hk : ∃ o : O, M1[i]? = some o ∧ (o = .lst xs ∨ o = .ro xs) := by
        unfold walkD at e
        cases k <;> simp only at e
        · split at e
          · cases e
          · cases e
          · split at e
            · rename_i q
              cases e
              exact ⟨_, q, .inl rfl⟩
            · cases e
            · cases e
          · cases e
        · split at e
          · split at e <;> cases e
          · split at e <;> cases e
          · cases e
        all_goals cases e
      obtain ⟨o, ho, hox⟩ := hk
      have hb := bel i o (by omega) ho
      have : D.unders n xs := by rcases hox with rfl | rfl <;> exact hb
      rw [← q1]
      exact r.cut this
theorem Wp.bind0 {α β : Type} {r : Res α} {P : β → Store → List Addr → Hp → Prop} {f : α → Store → Res β} (h : Wp K RX Ex ι H P (r.bind f)) : Wp K RX Ex ι H (fun a M1 _ _ => Wp K RX Ex ι H P (f a M1)) r := by
  cases r with
  | ok a M => exact fun ι2 H2 s2 sr => h
  | exc x M => exact h
  | bad => exact h
end
theorem L2PIE.mono {X : L2.Cx} {pins : List (Addr × Obj)} {σ : L2.St} {tg : Expr} {R R' : L2.It → Hp → Prop} {v : Value} {s : Shared} (h : PIE X pins σ tg R v s) (f : ∀ J H', Inv X pins σ H' s → R J H' → R' J H') : PIE X pins σ tg R' v s := by
  obtain ⟨it, fp, tn, J, H', e, I, T, t0, hf, r⟩ := h
  exact ⟨it, fp, tn, J, H', e, I, T, t0, hf, f J H' I r⟩
theorem pi_mono {X : L2.Cx} {pins : List (Addr × Obj)} {σ : L2.St} {tg a : Expr} {R R' : L2.It → Hp → Prop} {s : Shared} (h : wpAny (model X.prog X.w) X.A (eval a X.env) (fun v s1 => wpAny (model X.prog X.w) X.A (pyIter v) (PIE X pins σ tg R) X.xe s1) X.xe s)
    (f : ∀ J H' s2, Inv X pins σ H' s2 → R J H' → R' J H') : wpAny (model X.prog X.w) X.A (eval a X.env) (fun v s1 => wpAny (model X.prog X.w) X.A (pyIter v) (PIE X pins σ tg R') X.xe s1) X.xe s :=
  thn h fun v s1 h1 => thn h1 fun u s2 h2 => L2PIE.mono h2 fun J H' I r => f J H' s2 I r
theorem chars_rel {K : PySem.W.Frag} {ι : List Addr} {H : Hp} {z : Str} {i : Nat} {d : D} (hk : PyData.strOk z = true) (h : (chars z)[i]? = some d) : ∃ c, z.cps[i]? = some c ∧ RelD K ι H d (.str ⟨#[c]⟩) := by
  unfold chars at h
  rw [List.getElem?_map] at h
  cases e : z.cps.toList[i]? with
  | none => rw [e] at h; cases h
  | some c =>
    rw [e] at h
    cases h
    refine ⟨c, by rw [← Array.getElem?_toList]; exact e, .strs (by show (1 : Nat) ≤ _; rw [sizeLine_eq]; omega) ?_⟩
    rw [strOk_list]
    intro b hb
    have : b = c := by simpa using hb
    subst this
    exact strOk_list.mp hk b (List.mem_of_getElem? e)
section
variable {X : L2.Cx} {RX : Exc → Value → Option Addr → Hp → Prop} {W : WX} {c : Cx} {tg a b : Expr} {ea eb : E}
theorem si_val (kc : CK c) (ha : PE X a (tE X.K RX W c ea)) : PI X tg a (tI X.K RX W c .val [ea]) := by
  refine ⟨fun pins s σ H R I ⟨ρ, M, ι, re, sr, h⟩ => ?_⟩
  simp only [evs, Res.bind_assoc, Res.bind] at h
  have kp := kp_ev kc ea ρ M
  cases q : ev c ea ρ M with
  | bad => rw [q] at h; exact h.elim
  | exc x M1 =>
    rw [q] at h
    exact (pi_tup ha).run pins s σ H R I ⟨ρ, M, ι, re, sr, by rw [q]; exact h⟩
  | ok d M1 =>
    rw [q] at h kp
    simp only [Res.bind] at h
    have bel : Below M.length M1 := kp.bel _ (Nat.le_refl _) sr.belowAll
    have hn : ι.length = M.length := sr.len
    cases ew : walkD .val [d] M1 with
    | none =>
      unfold walkG at h
      rw [ew] at h
      exact h.elim
    | some p =>
      obtain ⟨xs, w⟩ := p
      have ew0 := ew
      cases d with
      | tup ys =>
        simp only [walkD] at ew
        cases ew
        refine pi_mono ((pi_tup ha).run pins s σ H (fun J H1 => ∃ ι1 p vs, J = Itt X.K p ∧ Step ι H ι1 H1 ∧ SR X.K ι1 H1 M1 ∧ SqT X.K H1 p vs ∧ RelDs X.K ι1 H1 xs vs) I ⟨ρ, M, ι, re, sr, ?_⟩) fun J H1 s2 I2 z => ?_
        · rw [q]
          intro ι1 H1 st s1 v rv
          simp only [RelD] at rv
          obtain ⟨p, vs, rfl, hs, rr⟩ := rv
          exact ⟨p, rfl, ⟨vs, hs⟩, ι1, p, vs, rfl, st, s1, hs, rr⟩
        · obtain ⟨ι1, p, vs, rfl, st, s1, hs, rr⟩ := z
          obtain ⟨ι2, M2, w2, st2, s2', g, hr, hw⟩ := walk_end st hn sr.pos s1 bel ew0 h
          have rr2 := hr vs rr
          refine g (Itt X.K p) (fun H => SqT X.K H p vs) (YAt vs) (by rw [rr.length]; exact walk_tup) (fun i H2 x H3 ι3 M3 hi hg st3 s3 _ y => ?_) fun ι3 H2 M3 st3 _ _ => st3.sqT hs
          obtain ⟨rfl, hx⟩ := y
          exact ⟨.refl, s3, fun d e => by
            obtain ⟨v, e2, rv⟩ := (rr2.step st3).get e
            rw [hx] at e2; cases e2; exact rv⟩
      | str z =>
        simp only [walkD] at ew
        cases ew
        refine pi_mono ((pi_str ha).run pins s σ H (fun J H1 => J = Its z ∧ PyData.strOk z = true ∧ ∃ ι1, Step ι H ι1 H1 ∧ SR X.K ι1 H1 M1) I ⟨ρ, M, ι, re, sr, ?_⟩) fun J H1 s2 I2 g => ?_
        · rw [q]
          intro ι1 H1 st s1 v rv
          obtain ⟨rfl, _, hk⟩ := relD_str (t := z) rv
          exact ⟨z, rfl, rfl, hk, ι1, st, s1⟩
        · obtain ⟨rfl, hk, ι1, st, s1⟩ := g
          obtain ⟨ι2, M2, w2, st2, s2', g, hr, hw⟩ := walk_end st hn sr.pos s1 bel ew0 h
          refine g (Its z) (fun _ => True) _ (by simp only [chars, List.length_map, Array.length_toList]; exact walk_str) (fun i H2 x H3 ι3 M3 hi hg st3 s3 _ y => ?_) fun ι3 H2 M3 st3 _ _ => trivial
          obtain ⟨rfl, c', hc, rfl⟩ := y
          exact ⟨.refl, s3, fun d e => by
            obtain ⟨c2, e2, rv⟩ := chars_rel hk e
            rw [hc] at e2; cases e2; exact rv⟩
      | ref i =>
        simp only [walkD] at ew
        have key : ∀ (o : O), M1[i]? = some o → (o = .lst xs ∧ w = some i ∨ o = .ro xs ∧ w = none) → wpAny (model X.prog X.w) X.A (eval a X.env) (fun v s1 => wpAny (model X.prog X.w) X.A (pyIter v) (PIE X pins σ tg R) X.xe s1) X.xe s := fun o ho hox => by
          refine pi_mono ((pi_list ha).run pins s σ H (fun J H1 => ∃ ι1 p vs, J = Itl X.K p ∧ Step ι H ι1 H1 ∧ SR X.K ι1 H1 M1 ∧ ι1[i]? = some p ∧ RelDs X.K ι1 H1 xs vs ∧ SqL X.K H1 p vs ∧ (w = some i ∧ H1 p = some (.lst vs) ∨ w = none ∧ RoL X.K H1 p vs)) I ⟨ρ, M, ι, re, sr, ?_⟩) fun J H1 s2 I2 z => ?_
          · rw [q]
            intro ι1 H1 st s1 v rv
            obtain ⟨p, rfl, hp, or⟩ := s1.ref ho rv
            rcases hox with ⟨rfl, hw⟩ | ⟨rfl, hw⟩
            · obtain ⟨vs, hH, rr⟩ := or
              exact ⟨p, rfl, ⟨vs, .inl (.inl hH)⟩, ι1, p, vs, rfl, st, s1, hp, rr, .inl (.inl hH), .inl ⟨hw, hH⟩⟩
            · obtain ⟨vs, hH, rr⟩ := or
              exact ⟨p, rfl, ⟨vs, hH.sqL⟩, ι1, p, vs, rfl, st, s1, hp, rr, hH.sqL, .inr ⟨hw, hH⟩⟩
          · obtain ⟨ι1, p, vs, rfl, st, s1, hp, rr, hq, hwk⟩ := z
            obtain ⟨ι2, M2, w2, st2, s2', g, hr, hw⟩ := walk_end st hn sr.pos s1 bel ew0 h
            have rr2 := hr vs rr
            -- the list as it stands then
            have now : ∀ ι3 H2 M3, Step ι2 H1 ι3 H2 → SR X.K ι3 H2 M3 → stands (w2.map fun i => (i, xs)) M3 → ∃ vs', SqL X.K H2 p vs' ∧ RelDs X.K ι3 H2 xs vs' := fun ι3 H2 M3 st3 s3 hst => by
              rcases hwk with ⟨e, hH⟩ | ⟨e, hH⟩
              · have atI : w2 = some i → ι2[i]? = some p → ∃ vs', SqL X.K H2 p vs' ∧ RelDs X.K ι3 H2 xs vs' := fun e2 hi2 => by
                  subst e2
                  have hst : M3[i]? = some (.lst xs) := hst
                  obtain ⟨p', hp', vs', h1, h2⟩ := s3.at hst
                  rw [st3.get hi2] at hp'
                  cases hp'
                  exact ⟨vs', .inl (.inl h1), h2⟩
                rcases hw with ⟨e1, e2⟩ | ⟨e1, ⟨e2, e3⟩ | ⟨e2, e3⟩⟩
                · exact atI (by rw [e2, e]) (by rw [e1]; exact hp)
                · -- forgotten
                  have hni : p ∉ ι.drop 1 := fun hm => by
                    obtain ⟨j, hj⟩ := List.getElem?_of_mem hm
                    rw [List.getElem?_drop] at hj
                    have hjl : 1 + j < M.length := by rw [← hn]; exact (List.getElem?_eq_some_iff.mp hj).1
                    obtain ⟨p'', hp'', hor⟩ := sr.at (List.getElem?_eq_getElem hjl)
                    rw [hj] at hp''; cases hp''
                    obtain ⟨t, ht1, ht2⟩ := st.ext
                    have hHn : H p = none := by
                      refine ht2 p ?_
                      rw [ht1, List.getElem?_append_right (by have := e3 i e; omega)] at hp
                      exact List.mem_of_getElem? hp
                    obtain ⟨u, z, _⟩ := hor.here ((sr.kind _ _ (List.getElem?_eq_getElem hjl)).mpr (by omega))
                    rw [hHn] at z; cases z
                  rw [e1] at st3 rr2
                  exact ⟨vs, .inl (.inl (st3.out p _ hH hni)), rr2.step st3⟩
                · refine atI (by rw [e2, e]) ?_
                  rw [e1]
                  have := (st.same hn).1
                  rw [← this, List.getElem?_take_of_lt (e3 i e)]
                  exact hp
              · exact ⟨vs, (st3.roL hH).sqL, rr2.step st3⟩
            refine g (Itl X.K p) (fun H => ∃ vs', SqL X.K H p vs' ∧ vs'.length = xs.length) (Itl X.K p).yld ⟨fun j H2 hj ⟨vs', h1, h2⟩ => (by have hj' : j < xs.length := hj; exact ⟨vs', vs'[j]'(by omega), h1, by simp [h2, hj']⟩), fun H2 ⟨vs', h1, h2⟩ => ⟨vs', h1, (by show vs'.length ≤ xs.length; omega)⟩, fun j H2 x H3 _ _ y => y⟩ (fun j H2 x H3 ι3 M3 hj hg st3 s3 hst y => ?_) fun ι3 H2 M3 st3 s3 hst => ?_
            · obtain ⟨rfl, hx⟩ := y
              obtain ⟨vs', h1, h2⟩ := now ι3 H3 M3 st3 s3 hst
              refine ⟨.refl, s3, fun d e => ?_⟩
              obtain ⟨v, e2, rv⟩ := h2.get e
              rw [hx vs' h1] at e2; cases e2; exact rv
            · obtain ⟨vs', h1, h2⟩ := now ι3 H2 M3 st3 s3 hst
              exact ⟨vs', h1, h2.length.symm⟩
        split at ew
        · rename_i e
          cases ew
          exact key _ e (.inl ⟨rfl, rfl⟩)
        · rename_i e
          cases ew
          exact key _ e (.inr ⟨rfl, rfl⟩)
        · cases ew
      | _ => cases ew
theorem rngD_len (lo : Int) (n : Nat) : (rngD lo n).length = n := by simp [rngD]
theorem rngD_get {lo : Int} {n i : Nat} {d : D} (h : (rngD lo n)[i]? = some d) : d = .int (lo + i) := by
  unfold rngD at h
  rw [List.getElem?_map] at h
  cases e : (List.range n)[i]? with
  | none => rw [e] at h; cases h
  | some j =>
    rw [e] at h
    have := List.getElem?_range (show i < n by have := (List.getElem?_eq_some_iff.mp e).1; simpa using this)
    rw [this] at e; cases e; cases h; rfl
theorem pures_rng (lo : Int) (n : Nat) : D.pures (rngD lo n) = true := D.pures_mem.mpr fun x hx => by
  obtain ⟨i, hi⟩ := List.getElem?_of_mem hx
  rw [rngD_get hi]; rfl
theorem rng_goes {K : PySem.W.Frag} {ι ι1 : List Addr} {H H1 : Hp} {M M1 : Store} {Ex : Value → Option Addr → Hp → Prop} {R : L2.It → Hp → Prop} {lo : Int} {n : Nat} {ds : List D} (st : Step ι H ι1 H1) (hn : ι.length = M.length) (h0 : 0 < M.length) (s1 : SR K ι1 H1 M1) (bel : Below M.length M1)
    (e : walkD .rng ds M1 = some (rngD lo n, none)) (h : Wp K RX Ex ι H (Goes K R) (walkG M.length .rng ds M1)) : R (Itr lo n) H1 := by
  obtain ⟨ι2, M2, w2, st2, s2', g, hr, hw⟩ := walk_end st hn h0 s1 bel e h
  refine g (Itr lo n) (fun _ => True) _ (by simp only [rngD_len]; exact walk_range) (fun i H2 x H3 ι3 M3 hi hg st3 s3 _ y => ?_) fun ι3 H2 M3 st3 _ _ => trivial
  obtain ⟨rfl, rfl⟩ := y
  exact ⟨.refl, s3, fun d e => by rw [rngD_get e]; exact .ints⟩
theorem si_rng1 {p pos : Pos} {x : Str} (kc : CK c) (hx : x = "range") (hg : Gl X x) (hm : X.mg x = none) (ha : PA X [a] (tEs X.K RX W c [ea])) (na : nst a = true) : PI X tg (.Call (.Name x p) [a] [] pos) (tI X.K RX W c .rng [ea]) := by
  subst hx
  refine ⟨fun pins s σ H R I ⟨ρ, M, ι, re, sr, h⟩ => ?_⟩
  refine (pi_range1 hg hm ha (star1 na)).run pins s σ H R I ⟨ρ, M, ι, re, sr, h.bind0.mono fun ds M1 ι1 H1 e st s1 h1 vs rv => ?_⟩
  have kp := kp_evs kc [ea] ρ M
  rw [e] at kp
  have bel : Below M.length M1 := kp.bel _ (Nat.le_refl _) sr.belowAll
  have hl := evs_len e
  cases ds with
  | nil => cases hl
  | cons d ds =>
    cases ds with
    | cons _ _ => cases hl
    | nil =>
      obtain ⟨v, rfl, r1⟩ := relDs_one rv
      cases d with
      | int j =>
        cases relD_int r1
        by_cases hj : okR j = true
        · have hj' := hj
          unfold okR at hj'
          rw [decide_eq_true_eq] at hj'
          exact ⟨j, rfl, hj'.1, hj'.2, rng_goes st sr.len sr.pos s1 bel (by simp only [walkD, hj, if_true]) h1⟩
        · unfold walkG at h1
          simp only [walkD, hj] at h1
          exact h1.elim
      | _ => unfold walkG at h1; simp only [walkD] at h1; exact h1.elim
theorem si_rng2 {p pos : Pos} {x : Str} (kc : CK c) (hx : x = "range") (hg : Gl X x) (hm : X.mg x = none) (ha : PA X [a, b] (tEs X.K RX W c [ea, eb])) (na : nst a = true) (nb : nst b = true) : PI X tg (.Call (.Name x p) [a, b] [] pos) (tI X.K RX W c .rng [ea, eb]) := by
  subst hx
  refine ⟨fun pins s σ H R I ⟨ρ, M, ι, re, sr, h⟩ => ?_⟩
  refine (pi_range2 hg hm ha (by rw [star1 na, star1 nb]; rfl) (star1 nb)).run pins s σ H R I ⟨ρ, M, ι, re, sr, h.bind0.mono fun ds M1 ι1 H1 e st s1 h1 vs rv => ?_⟩
  have kp := kp_evs kc [ea, eb] ρ M
  rw [e] at kp
  have bel : Below M.length M1 := kp.bel _ (Nat.le_refl _) sr.belowAll
  have hl := evs_len e
  cases ds with
  | nil => cases hl
  | cons d ds =>
    cases ds with
    | nil => cases hl
    | cons d2 ds =>
      cases ds with
      | cons _ _ => cases hl
      | nil =>
        obtain ⟨v, w, rfl, r1, r2⟩ := relDs_two rv
        cases d with
        | int j =>
          cases d2 with
          | int k =>
            cases relD_int r1
            cases relD_int r2
            by_cases hj : okR j = true ∧ okR k = true
            · have hj' := hj
              unfold okR at hj'
              rw [decide_eq_true_eq, decide_eq_true_eq] at hj'
              exact ⟨j, k, rfl, ⟨hj'.1.1, hj'.1.2, hj'.2.1, hj'.2.2⟩, rng_goes st sr.len sr.pos s1 bel (by simp only [walkD]; rw [if_pos hj]) h1⟩
            · unfold walkG at h1
              simp only [walkD] at h1
              rw [if_neg hj] at h1
              exact h1.elim
          | _ => unfold walkG at h1; simp only [walkD] at h1; exact h1.elim
        | _ => unfold walkG at h1; simp only [walkD] at h1; exact h1.elim
end
end Sk
end
section
set_option Elab.async false
set_option linter.all false
set_option autoImplicit false
set_option maxRecDepth 100000
/-! SkD4: forgetting; list comprehensions. -/
namespace Sk
open PySem PySem.Spec PyProof.Rows L2

section
variable {K : PySem.W.Frag} {RX : Exc → Value → Option Addr → Hp → Prop} {ι ι1 : List Addr} {H H1 : Hp} {M M1 : Store} {Ex : Value → Option Addr → Hp → Prop}
theorem gc_pack {n : Nat} {d : D} {v : V} (st : Step ι H ι1 H1) (hn : ι.length = n) (h0 : 0 < n) (s1 : SR K ι1 H1 M1) (bel : Below n M1) (rv : RelD K ι1 H1 d v) :
    gc n d M1 = .bad ∨ ∃ ι2 d2 M2, gc n d M1 = .ok d2 M2 ∧ Step ι H ι2 H1 ∧ SR K ι2 H1 M2 ∧ RelD K ι2 H1 d2 v := by
  obtain ⟨q1, q2⟩ := st.same hn
  have sc := s1.cut bel h0
  rw [q1] at sc
  unfold gc
  split
  · rename_i hp
    exact .inr ⟨ι, d, _, rfl, q2, sc, rv.anyI hp⟩
  · split
    · rename_i j
      split
      · rename_i hj
        refine .inr ⟨ι, _, _, rfl, q2, sc, ?_⟩
        rw [← q1]
        exact rv.cut (by simp only [D.under]; exact hj)
      · rename_i hj
        split
        · rename_i o e
          split
          · rename_i hp
            simp only [RelD] at rv
            obtain ⟨a, rfl, ha⟩ := rv
            have s2 := s1.cutOne bel h0 (by omega) e ha hp
            rw [q1] at s2
            obtain ⟨t, ht1, ht2⟩ := st.ext
            have hat : a ∈ t := by
              rw [ht1, List.getElem?_append_right (by omega)] at ha
              exact List.mem_of_getElem? ha
            refine .inr ⟨ι ++ [a], _, _, rfl, ⟨⟨[a], rfl, fun p hp => by cases List.mem_singleton.mp hp; exact ht2 a hat⟩, st.imm, st.out, st.dom⟩, s2, ?_⟩
            simp only [RelD]
            exact ⟨a, rfl, by rw [List.getElem?_append_right (by omega), hn]; simp⟩
          · exact .inr ⟨ι1, _, _, rfl, st, s1, rv⟩
        · exact .inl rfl
    · exact .inr ⟨ι1, _, _, rfl, st, s1, rv⟩
theorem exc_cut {x : Exc} (sr : SR K ι H M) (k : Kept M M1) (h : ∀ ι' H' cls d, Step ι H ι' H' → SR K ι' H' (M1.take M.length) → RX x cls d H' → Ex cls d H') :
    ∀ ι' H' cls d, Step ι H ι' H' → SR K ι' H' M1 → RX x cls d H' → Ex cls d H' := fun ι' H' cls d st s1 rx => by
  obtain ⟨q1, q2⟩ := st.same sr.len
  have sc := s1.cut (k.bel _ (Nat.le_refl _) sr.belowAll) sr.pos
  rw [q1] at sc
  exact h ι H' cls d q2 sc rx
theorem Wp.gc {r : Res D} {P : D → Store → List Addr → Hp → Prop} (h : Wp K RX Ex ι H P (r.gc M.length)) (sr : SR K ι H M) (kp : Kp M r) :
    Wp K RX Ex ι H (fun d M1 ι1 H1 => ∀ v, RelD K ι1 H1 d v → ∃ ι2 d2 M2, Step ι H ι2 H1 ∧ SR K ι2 H1 M2 ∧ RelD K ι2 H1 d2 v ∧ P d2 M2 ι2 H1) r := by
  cases r with
  | bad => exact h
  | exc x M1 => exact exc_cut sr kp h
  | ok d M1 =>
    intro ι1 H1 st s1 v rv
    have h : Wp K RX Ex ι H P (Sk.gc M.length d M1) := h
    rcases gc_pack st sr.len sr.pos s1 (kp.bel _ (Nat.le_refl _) sr.belowAll) rv with e | ⟨ι2, d2, M2, e, st2, s2, r2⟩
    · rw [e] at h; exact h.elim
    · rw [e] at h
      exact ⟨ι2, d2, M2, st2, s2, r2, h ι2 H1 st2 s2⟩
/-- behind a test -/
theorem cut_here (sr : SR K ι H M) (st : Step ι H ι1 H1) (s1 : SR K ι1 H1 M1) (k : Kept M M1) : Step ι H ι H1 ∧ SR K ι H1 (M1.take M.length) := by
  obtain ⟨q1, q2⟩ := st.same sr.len
  have sc := s1.cut (k.bel _ (Nat.le_refl _) sr.belowAll) sr.pos
  rw [q1] at sc
  exact ⟨q2, sc⟩
theorem Wp.evb {c : Cx} {e : E} {ρ : Env} {P : Bool → Store → List Addr → Hp → Prop} (kc : CK c) (h : Wp K RX Ex ι H P (evb c e ρ M)) (sr : SR K ι H M) :
    Wp K RX Ex ι H (fun b M1 ι1 H1 => Step ι H ι H1 ∧ SR K ι H1 (M1.take M.length) ∧ P b (M1.take M.length) ι H1) ((ev c e ρ M).bind truthR) := by
  have kp : Kp M ((ev c e ρ M).bind truthR) := Kp.bind (kp_ev kc e ρ M) fun x M1 _ => kp_truth
  unfold Sk.evb at h
  cases q : (ev c e ρ M).bind truthR with
  | bad => rw [q] at h; exact h
  | exc x M1 => rw [q] at h kp; exact exc_cut sr kp h
  | ok b M1 =>
    rw [q] at h kp
    intro ι1 H1 st s1
    obtain ⟨a1, a2⟩ := cut_here sr st s1 kp
    exact ⟨a1, a2, h ι H1 a1 a2⟩
/-! ### the list under way -/
theorem sqT_lst {D : Addr} {us ws : List V} (hD : H D = some (.lst us)) {x : Addr} {vs : List V} (h : SqT K H x vs) : SqT K (upd H D (.lst ws)) x vs := by
  rcases h with (h | ⟨o, h⟩) | h
  · exact .inl (.inl (by rw [upd_ne (by rintro rfl; rw [hD] at h; cases h)]; exact h))
  · exact .inl (.inr ⟨o, by rw [upd_ne (by rintro rfl; rw [hD] at h; cases h)]; exact h⟩)
  · exact .inr h
theorem roL_lst {D : Addr} {us ws : List V} (hD : H D = some (.lst us)) {x : Addr} {vs : List V} (h : RoL K H x vs) : RoL K (upd H D (.lst ws)) x vs := by
  rcases h with ⟨o, h⟩ | h
  · exact .inl ⟨o, by rw [upd_ne (by rintro rfl; rw [hD] at h; cases h)]; exact h⟩
  · exact .inr h
theorem SR.drop1 {i : Nat} {o : O} {a : Addr} (s : SR K ι H M) (e : M[i]? = some o) (ha : ι[i]? = some a) (hm : o.mut = true) : a ∈ ι.drop 1 := by
  have h0 := (s.kind i o e).mp hm
  refine List.mem_of_getElem? (i := i - 1) ?_
  rw [List.getElem?_drop, show 1 + (i - 1) = i by omega]
  exact ha
theorem SR.aside {D : Addr} {us ws : List V} (s : SR K ι H M) (hD : H D = some (.lst us)) (hn : D ∉ ι.drop 1) : SR K ι (upd H D (.lst ws)) M :=
  ⟨s.len, fun i o a e ha => (s.obj i o a e ha).mono (fun _ _ z => z) (fun _ _ => sqT_lst hD) (fun _ _ => roL_lst hD) fun hm u hu => by
    rw [upd_ne (by rintro rfl; exact hn (s.drop1 e ha hm))]; exact hu, s.inj, s.pos, s.kind⟩
theorem RelDs.aside {D : Addr} {us ws : List V} {xs : List Sk.D} {vs : List V} (r : RelDs K ι H xs vs) (hD : H D = some (.lst us)) : RelDs K ι (upd H D (.lst ws)) xs vs := r.mono (fun _ _ z => z) fun _ _ => sqT_lst hD
theorem Step.aside {D : Addr} {u : HO} (st : Step ι H ι1 H1) (hD : H D = none) : Step ι H ι1 (upd H1 D u) := by
  refine ⟨st.ext, fun a o h i => ?_, fun a o h i => ?_, fun a h => ?_⟩
  · rw [upd_ne (by rintro rfl; rw [hD] at h; cases h)]; exact st.imm a o h i
  · rw [upd_ne (by rintro rfl; rw [hD] at h; cases h)]; exact st.out a o h i
  · by_cases e : a = D
    · subst e; rw [upd_same]; exact fun z => nomatch z
    · rw [upd_ne e]; exact st.dom a h
/-- a list that was aside comes into the store -/
theorem SR.push {D : Addr} {o : O} (s : SR K ι H M) (hn : D ∉ ι.drop 1) (hm : o.mut = true) (new : OR K (ι ++ [D]) H o D) : SR K (ι ++ [D]) H (M ++ [o]) := by
  have hl := s.len
  have key : ∀ (i : Nat) (a : Addr) (q : O), (ι ++ [D])[i]? = some a → (M ++ [o])[i]? = some q → (i < M.length ∧ ι[i]? = some a ∧ M[i]? = some q) ∨ (i = M.length ∧ a = D ∧ q = o) := fun i a q e1 e2 => by
    by_cases h : i < M.length
    · rw [List.getElem?_append_left (by omega)] at e1
      rw [List.getElem?_append_left h] at e2
      exact .inl ⟨h, e1, e2⟩
    · have hi : i = M.length := by
        have := (List.getElem?_eq_some_iff.mp e2).1
        simp at this; omega
      subst hi
      rw [List.getElem?_append_right (by omega), hl] at e1
      rw [List.getElem?_append_right (Nat.le_refl _)] at e2
      simp at e1 e2
      exact .inr ⟨rfl, e1.symm, e2.symm⟩
  refine ⟨by simp [hl], fun i q a e1 e2 => ?_, fun i j a q q' h1 h2 h3 h4 m1 m2 => ?_, by simp, fun i q e => ?_⟩
  · rcases key i a q e2 e1 with ⟨h, a1, a2⟩ | ⟨_, rfl, rfl⟩
    · exact (s.obj i q a a2 a1).mono (fun k x e => by rw [List.getElem?_append_left (List.getElem?_eq_some_iff.mp e).1]; exact e) (fun _ _ z => z) (fun _ _ z => z) fun _ u z => z
    · exact new
  · rcases key i a q h1 h3 with ⟨b0, b1, b2⟩ | ⟨b0, b1, b2⟩ <;> rcases key j a q' h2 h4 with ⟨c0, c1, c2⟩ | ⟨c0, c1, c2⟩
    · exact s.inj i j a q q' b1 c1 b2 c2 m1 m2
    · subst c1; exact absurd (s.drop1 b2 b1 m1) hn
    · subst b1; exact absurd (s.drop1 c2 c1 m2) hn
    · omega
  · have hlt := (List.getElem?_eq_some_iff.mp e).1
    by_cases h : i < M.length
    · rw [List.getElem?_append_left h] at e
      exact s.kind i q e
    · have hi : i = M.length := by simp at hlt; omega
      subst hi
      rw [List.getElem?_append_right (Nat.le_refl _)] at e
      simp at e
      subst e
      have := s.pos
      exact ⟨fun _ => by omega, fun _ => hm⟩
end
theorem wipeS_idem (σ : L2.St) (vs : List Nat) : L2.wipe (L2.wipe σ vs) vs = L2.wipe σ vs := by
  refine List.ext_getElem? fun j => ?_
  rw [wipeS_get, wipeS_get, L2.wipe_length]
  by_cases e : j ∈ vs
  · rw [if_pos e, if_pos e]
  · rw [if_neg e, if_neg e]
theorem nx_lcW {w : Option (Nat × List D)} {blk : D → Store → Res (Option D)} (hb : ∀ x M, NoX (blk x M)) : ∀ (xs : List D) (M : Store), NoX (lcW w blk xs M)
  | [], M => by unfold lcW; split <;> trivial
  | x :: xs, M => by
    unfold lcW
    split
    · have h := hb x M
      cases e : blk x M with
      | ok o M1 =>
        simp only [Res.bind]
        have h2 := nx_lcW (w := w) hb xs M1
        cases e2 : lcW w blk xs M1 with
        | ok ys M2 => simp only; split <;> trivial
        | exc x M2 => rw [e2] at h2; exact h2
        | bad => trivial
      | exc x M1 => rw [e] at h; exact h
      | bad => trivial
    · trivial
theorem nx_noExc {α : Type} {r : Res α} : NoX (noExc r) := by cases r <;> trivial
section
variable {K : PySem.W.Frag} {RX : Exc → Value → Option Addr → Hp → Prop} {ι ι1 : List Addr} {H H1 : Hp} {M M1 : Store} {Ex Ex' : Value → Option Addr → Hp → Prop}
theorem Wp.unX {α : Type} {r : Res α} {P : α → Store → List Addr → Hp → Prop} (h : Wp K RX Ex ι H P (noExc r)) : Wp K RX Ex' ι H P r := by
  cases r with
  | ok a M => exact h
  | exc x M => exact h.elim
  | bad => exact h
end
/-- no exception is wanted -/
def W0 : WX := fun _ _ _ _ => False
section
variable {X : L2.Cx} {RX : Exc → Value → Option Addr → Hp → Prop} {W : WX} {c : Cx}
/-- a comprehension's tests -/
def tTs (K : PySem.W.Frag) (RX : Exc → Value → Option Addr → Hp → Prop) (c : Cx) : List E → TT
  | [] => tYes
  | e :: _ => tT K RX W0 c e
/-- THE COMPREHENSION: its reading, by the rule's -/
theorem lc_read {K : PySem.W.Frag} (kc : CK c) {elt : E} {tg : Tg} {k : Ik} {its ifs : List E} {own : List Nat} (hi : ifs.length ≤ 1) (ht : ∀ i ∈ tg.slots, i ∈ own) {σ : L2.St} {H : Hp} {Q : VK} (h : tE K RX W c (.lc elt tg k its ifs own) σ H Q) :
    tLc (tI K RX W c k its) (tG K tg) (tTs K RX c ifs) (tE K RX W0 c elt) own σ H Q := by
  obtain ⟨ρ, M, ι, re, sr, h⟩ := h
  unfold ev at h
  rw [← Res.bind_assoc] at h
  refine ⟨ρ, M, ι, re, sr, h.bind.mono fun p M1 ι1 H1 e1 st s1 h1 => ?_⟩
  obtain ⟨xs, w⟩ := p
  intro J G Y wk hy hG A hA
  have re1 := (re.step st).wipes own
  simp only at h1
  generalize hblk : (fun (x : D) (M3 : Store) => match assignT M3 tg x (wipe ρ own) with
        | none => (Res.bad : Res (Option D))
        | some ρ1 => noExc ((evt c ifs ρ1 M3).bind fun t M4 => if t = true then ((ev c elt ρ1 M4).gc M4.length).bind fun y M5 => .ok (some y) M5 else .ok none M4)) = blk at h1
  split at h1
  rotate_left
  · exact h1.elim
  rename_i hlim
  generalize hwm : (w.map fun i => (i, xs)) = w' at h1
  generalize hPf : (fun (acc : List D) (ys : List D) (M3 : Store) (_ : List Addr) (_ : Hp) => Wp K RX (fun cls d H' => W cls d σ H') ι1 H1 (PD K Q) (alloc M3 (.lst (acc ++ ys)))) = Pf
  have stD : ∀ {ι2 : List Addr} {H2 : Hp} {u : HO}, Step ι1 H1 ι2 H2 → Step ι1 H1 ι2 (upd H2 A u) := fun s => s.aside hA
  have hA0 : A ∉ ι1.drop 1 := fun hm => by
    obtain ⟨j, hj⟩ := List.getElem?_of_mem hm
    rw [List.getElem?_drop] at hj
    have hjl : 1 + j < M1.length := by rw [← s1.len]; exact (List.getElem?_eq_some_iff.mp hj).1
    obtain ⟨u, z, _⟩ := (s1.obj _ _ _ (List.getElem?_eq_getElem hjl) hj).here ((s1.kind _ _ (List.getElem?_eq_getElem hjl)).mpr (by omega))
    rw [hA] at z; cases z
  -- the word of the loop
  generalize hInv : (fun (i : Nat) (H2 : Hp) => ∃ M2 ι2 acc accV, Step ι1 H1 ι2 H2 ∧ SR K ι2 H2 M2 ∧ H2 A = some (.lst accV) ∧ RelDs K ι2 H2 acc accV ∧ A ∉ ι2.drop 1 ∧ acc.length ≤ i ∧
      Wp K RX (fun cls d H' => W cls d σ H') ι1 H1 (Pf acc) (lcW w' blk (xs.drop i) M2)) = Pv
  refine lc_it wk Pv ?_ ?_ ?_ ?_
  · -- at the start
    subst hInv hPf
    refine ⟨M1, ι1, [], [], Step.fresh hA, s1.fresh hA, upd_same, RelDs.nil, hA0, Nat.le_refl _, ?_⟩
    simp only [List.drop_zero, List.nil_append]
    exact h1.bind0
  · -- it stands
    subst hInv
    rintro i H2 hi ⟨M2, ι2, acc, accV, st2, s2, hAv, ra, hn, hl, h2⟩
    refine hG ι2 H2 M2 st2 s2 ?_
    show stands (w.map fun i => (i, xs)) M2
    rw [hwm]
    cases e : xs.drop i with
    | nil =>
      rw [e] at h2
      unfold lcW at h2
      split at h2
      · assumption
      · exact h2.elim
    | cons x r =>
      rw [e] at h2
      unfold lcW at h2
      split at h2
      · assumption
      · exact h2.elim
  · -- a turn
    intro i x H2 H3 hi hPv hyx
    have hPv' := hPv
    rw [← hInv] at hPv'
    obtain ⟨M2, ι2, acc, accV, st2, s2, hAv, ra, hn, hl, h2⟩ := hPv'
    have hix : i < xs.length := hi
    rw [List.drop_eq_getElem_cons hix] at h2
    unfold lcW at h2
    split at h2
    rotate_left
    · exact h2.elim
    rename_i hst
    have hst' : stands (w.map fun i => (i, xs)) M2 := by rw [hwm]; exact hst
    obtain ⟨st3, s3, rx⟩ := hy i H2 x H3 ι2 M2 hi (hG ι2 H2 M2 st2 s2 hst') st2 s2 hst' hyx
    have rx := rx _ (List.getElem?_eq_getElem hix)
    generalize xs[i] = dx at h2 rx
    have h3 := h2.bind0
    have re3 : REnv K ι2 H3 (wipe ρ own) (L2.wipe σ own) := re1.step (st2.trans st3)
    have st23 := st2.trans st3
    have hA3 : H3 A = some (.lst accV) := st3.out A _ hAv hn
    have ra3 := ra.step st3
    have eb : blk dx M2 = match assignT M2 tg dx (wipe ρ own) with
      | none => (Res.bad : Res (Option D))
      | some ρ1 => noExc ((evt c ifs ρ1 M2).bind fun t M4 => if t = true then ((ev c elt ρ1 M4).gc M4.length).bind fun y M5 => .ok (some y) M5 else .ok none M4) := by rw [← hblk]
    rw [eb] at h3
    cases ea : assignT M2 tg dx (wipe ρ own) with
    | none => rw [ea] at h3; exact h3.elim
    | some ρ1 =>
      rw [ea] at h3
      simp only at h3
      refine ⟨wipe ρ own, ι2, dx, ρ1, re3, rx, ⟨M2, ea⟩, fun σ2 re4 hw => ⟨(hw own ht).trans (wipeS_idem _ _), ?_⟩⟩
      -- behind the tests
      have main : ∀ (t : Bool) (M4 : Store) (H4 : Hp), Step ι2 H3 ι2 H4 → SR K ι2 H4 M4 → Wp K RX (fun cls d H' => W0 cls d σ2 H') ι1 H1
          (fun o M5 _ _ => Wp K RX (fun cls d H' => W cls d σ H') ι1 H1 (Pf acc) ((lcW w' blk (xs.drop (i + 1)) M5).bind fun ys M2 => match o with
            | some y => .ok (y :: ys) M2
            | none => .ok ys M2)) (if t = true then ((ev c elt ρ1 M4).gc M4.length).bind fun y M5 => .ok (some y) M5 else .ok none M4) →
          if t = true then tE K RX W0 c elt σ2 H4 fun y H5 => ∃ acc', H5 A = some (.lst acc') ∧ acc'.length < sizeLine ∧ Pv (i + 1) (upd H5 A (.lst (acc' ++ [y]))) else Pv (i + 1) H4 := by
        intro t M4 H4 st4 s4 h4
        have hA4 : H4 A = some (.lst accV) := st4.out A _ hA3 hn
        have ra4 := ra3.step st4
        have st14 := st23.trans st4
        cases t with
        | false =>
          simp only [Bool.false_eq_true, if_false] at h4 ⊢
          rw [← hInv]
          refine ⟨M4, ι2, acc, accV, st14, s4, hA4, ra4, hn, by omega, ?_⟩
          have h5 := h4 ι2 H4 st14 s4
          have e : (lcW w' blk (xs.drop (i + 1)) M4).bind (fun ys M2 => (Res.ok ys M2 : Res (List D))) = lcW w' blk (xs.drop (i + 1)) M4 := by
            cases lcW w' blk (xs.drop (i + 1)) M4 <;> rfl
          rw [← e]
          exact h5
        | true =>
          simp only [if_true] at h4 ⊢
          have h4' : Wp K RX (fun cls d H' => W0 cls d σ2 H') ι2 H4 _ ((ev c elt ρ1 M4).gc M4.length) := (h4.step st14).bind0
          refine ⟨ρ1, M4, ι2, re4.step st4, s4, (h4'.gc s4 (kp_ev kc elt ρ1 M4)).mono fun d M5 ι5 H5 e5 st5 s5 h5 v rv => ?_⟩
          obtain ⟨ι6, d6, M6, st6, s6, r6, h6⟩ := h5 v rv
          have h6 := h6 ι6 H5 st6 s6
          simp only at h6
          have hA5 : H5 A = some (.lst accV) := st6.out A _ hA4 hn
          have hn6 : A ∉ ι6.drop 1 := fun hm => by
            obtain ⟨t, rfl, ht⟩ := st6.ext
            rw [List.drop_append] at hm
            rcases List.mem_append.mp hm with z | z
            · exact hn z
            · have := ht A (List.mem_of_mem_drop z); rw [hA4] at this; cases this
          have ra6 := ra4.step st6
          have st16 := st14.trans st6
          refine ⟨accV, hA5, by rw [← ra.length, ← lim_eq]; omega, ?_⟩
          rw [← hInv]
          refine ⟨M6, ι6, acc ++ [d6], accV ++ [v], stD st16, s6.aside hA5 hn6, upd_same, (ra6.append (RelDs.one r6)).aside hA5, hn6, by simp; omega, ?_⟩
          refine h6.bind0.mono fun ys M7 ι7 H7 _ st7 s7 h7 => ?_
          have h8 := h7 ι7 H7 st7 s7
          rw [← hPf] at h8 ⊢
          simp only [List.append_assoc, List.singleton_append] at h8 ⊢
          exact h8
      cases ifs with
      | nil =>
        simp only [evt, Res.bind] at h3
        exact main true M2 H3 .refl s3 h3.unX
      | cons f fs =>
        have : fs = [] := by
          cases fs with
          | nil => rfl
          | cons a b => simp at hi
        subst this
        have hev : evt c [f] ρ1 M2 = ((ev c f ρ1 M2).bind truthR).bind fun t M1 => .ok t (M1.take M2.length) := by
          simp only [evt]
          cases (ev c f ρ1 M2).bind truthR with
          | ok t M1 => cases t <;> rfl
          | exc x M1 => rfl
          | bad => rfl
        rw [hev, Res.bind_assoc] at h3
        have h4 := (h3.unX (Ex' := fun cls d H' => W0 cls d σ2 H')).bind0.step st23
        refine ⟨ρ1, M2, ι2, re4, s3, h4.mono fun t M4 ι4 H4 e4 st4 s4 h5 => ?_⟩
        have kp : Kp M2 ((ev c f ρ1 M2).bind truthR) := Kp.bind (kp_ev kc f ρ1 M2) fun x M1 _ => kp_truth
        rw [e4] at kp
        obtain ⟨c1, c2⟩ := cut_here s3 st4 s4 kp
        exact main t _ H4 c1 c2 h5
  · -- the end
    subst hInv
    rintro H2 ⟨M2, ι2, acc, accV, st2, s2, hAv, ra, hn, hl, h2⟩
    have e : xs.drop xs.length = [] := List.drop_length
    have h2 : Wp K RX (fun cls d H' => W cls d σ H') ι1 H1 (Pf acc) (lcW w' blk (xs.drop xs.length) M2) := h2
    rw [e] at h2
    unfold lcW at h2
    split at h2
    · have h3 := h2 ι2 H2 st2 s2
      rw [← hPf] at h3
      simp only [List.append_nil] at h3
      obtain ⟨t, ht1, ht2⟩ := st2.ext
      have sp := s2.push (D := A) hn (o := .lst acc) rfl ⟨accV, hAv, ra.mono (fun k x e => by rw [List.getElem?_append_left (List.getElem?_eq_some_iff.mp e).1]; exact e) fun _ _ z => z⟩
      refine h3 (ι2 ++ [A]) H2 ⟨⟨t ++ [A], by rw [ht1]; simp, fun p hp => ?_⟩, st2.imm, st2.out, st2.dom⟩ sp (.ref A) ?_
      · rcases List.mem_append.mp hp with z | z
        · exact ht2 p z
        · cases List.mem_singleton.mp z; exact hA
      · simp only [RelD]
        exact ⟨A, rfl, by rw [List.getElem?_append_right (by rw [s2.len]; omega), s2.len]; simp⟩
    · exact h2.elim
end
end Sk
end
section
set_option Elab.async false
set_option linter.all false
set_option autoImplicit false
set_option maxRecDepth 100000
/-! SkD5: statements. -/
namespace Sk
open PySem PySem.Spec PyProof.Rows L2

section
variable (K : PySem.W.Frag) (RX : Exc → Value → Option Addr → Hp → Prop) (W : WX)
/-- what is wanted behind a statement -/
def WpO (ι : List Addr) (H : Hp) (D : Ends) : Out → Prop
  | .nx ρ M => ∀ ι' H' σ', Step ι H ι' H' → SR K ι' H' M → REnv K ι' H' ρ σ' → D.nx σ' H'
  | .rt d M => ∀ ι' H' v, Step ι H ι' H' → SR K ι' H' M → RelD K ι' H' d v → D.rt v H'
  | .bk ρ M => ∀ ι' H' σ', Step ι H ι' H' → SR K ι' H' M → REnv K ι' H' ρ σ' → D.bk σ' H'
  | .ct ρ M => ∀ ι' H' σ', Step ι H ι' H' → SR K ι' H' M → REnv K ι' H' ρ σ' → D.ct σ' H'
  | .exc x ρ M => ∀ ι' H' σ' cls d, Step ι H ι' H' → SR K ι' H' M → REnv K ι' H' ρ σ' → RX x cls d H' → W cls d σ' H'
  | .bad => False
variable (c : Cx)
def tS (s : S) : TS := fun D σ H => ∃ ρ M ι, REnv K ι H ρ σ ∧ SR K ι H M ∧ WpO K RX W ι H D (ex c s ρ M)
def tSs (ss : List S) : TS := fun D σ H => ∃ ρ M ι, REnv K ι H ρ σ ∧ SR K ι H M ∧ WpO K RX W ι H D (exs c ss ρ M)
end
section
variable {K : PySem.W.Frag} {RX : Exc → Value → Option Addr → Hp → Prop} {W : WX} {ι ι' : List Addr} {H H' : Hp} {ρ : Env} {σ : L2.St} {M : Store} {D D' : Ends}
theorem WpO.step {o : Out} (h : WpO K RX W ι H D o) (st : Step ι H ι' H') : WpO K RX W ι' H' D o := by
  cases o with
  | nx ρ M => exact fun ι2 H2 σ' s2 => h ι2 H2 σ' (st.trans s2)
  | rt d M => exact fun ι2 H2 v s2 => h ι2 H2 v (st.trans s2)
  | bk ρ M => exact fun ι2 H2 σ' s2 => h ι2 H2 σ' (st.trans s2)
  | ct ρ M => exact fun ι2 H2 σ' s2 => h ι2 H2 σ' (st.trans s2)
  | exc x ρ M => exact fun ι2 H2 σ' cls d s2 => h ι2 H2 σ' cls d (st.trans s2)
  | bad => exact h
theorem WpO.out {r : Res Sk.D} {f : Sk.D → Store → Out} (h : WpO K RX W ι H D (r.out ρ f)) (re : REnv K ι H ρ σ) : Wp K RX (fun cls d H' => W cls d σ H') ι H (fun d M1 _ _ => WpO K RX W ι H D (f d M1)) r := by
  cases r with
  | ok d M1 => exact fun _ _ _ _ => h
  | exc x M1 => exact fun ι2 H2 cls d st s2 rx => h ι2 H2 σ cls d st s2 (re.step st) rx
  | bad => exact h
theorem WpO.outB {r : Res Bool} {f : Bool → Store → Out} (h : WpO K RX W ι H D (r.outB ρ f)) (re : REnv K ι H ρ σ) : Wp K RX (fun cls d H' => W cls d σ H') ι H (fun d M1 _ _ => WpO K RX W ι H D (f d M1)) r := by
  cases r with
  | ok d M1 => exact fun _ _ _ _ => h
  | exc x M1 => exact fun ι2 H2 cls d st s2 rx => h ι2 H2 σ cls d st s2 (re.step st) rx
  | bad => exact h
end
/-- no comprehension -/
def nlc : Expr → Bool
  | .ListComp _ _ _ _ => false
  | .SetComp _ _ _ _ => false
  | .DictComp _ _ _ _ _ => false
  | _ => true
/-- no slice -/
def nsl : Expr → Bool
  | .Slice _ _ _ _ => false
  | _ => true
theorem sole_nlc {e t : Expr} {l : Nat} {env : PySem.Env} (h : nlc e = true) : swapsWithSole [t] e l env = pure false := by
  unfold swapsWithSole
  cases e <;> first | rfl | cases h
theorem putD_below {n b : Nat} {k x : D} {M M' : Store} (h : putD n k x M = some M') (hb : Below b M) (hx : x.under b) : Below b M' := by
  have set : ∀ {o o' : O}, M[n]? = some o → (o.under b → o'.under b) → Below b (M.set n o') := fun {o o'} e f i q hi e' => by
    by_cases z : n = i
    · subst z
      rw [List.getElem?_set_self (List.getElem?_eq_some_iff.mp e).1] at e'
      cases e'
      exact f (hb n o hi e)
    · rw [List.getElem?_set_ne z] at e'
      exact hb i q hi e'
  unfold putD at h
  split at h
  · rename_i e
    split at h
    · split at h
      · cases h
        refine set e fun h => D.unders_mem.mpr fun y hy => ?_
        rcases List.mem_or_eq_of_mem_set hy with hy | rfl
        · exact D.unders_mem.mp (show D.unders b _ from h) y hy
        · exact hx
      · cases h
    · cases h
  · rename_i e
    split at h
    · split at h
      · cases h
        refine set e fun h => ?_
        intro p hp
        rcases putK_mem hp with hy | hy
        · rw [hy]; exact hx
        · exact h p hy
      · cases h
    · cases h
  · cases h
theorem sw_nlc {e : Expr} {t : Option Expr} {l : Nat} {env : PySem.Env} (h : nlc e = true) : swapsWith e t l env = pure false := by
  cases e <;> first | rfl | cases h
/-- no display -/
def ntl : Expr → Bool
  | .Tuple _ _ _ => false
  | .List _ _ => false
  | _ => true
section
variable {X : L2.Cx} {RX : Exc → Value → Option Addr → Hp → Prop} {W : WX} {c : Cx} {e a o : Expr} {ee ea eo : E} {pos p apos cpos : Pos}
theorem sset_read {te : PE X e (tE X.K RX W c ee)} {i : Nat} (kc : CK c) (D : Ends) (σ : L2.St) (H : Hp) (h : tS X.K RX W c (.set i ee) D σ H) : tAsg (tE X.K RX W c ee) (gName i) D σ H := by
  obtain ⟨ρ, M, ι, re, sr, h⟩ := h
  unfold ex evg at h
  refine ⟨ρ, M, ι, re, sr, ((h.out re).gc sr (kp_ev kc ee ρ M)).mono fun d M1 ι1 H1 _ st s1 h2 v rv => ?_⟩
  obtain ⟨ι2, d2, M2, st2, s2, r2, h3⟩ := h2 v rv
  exact h3 ι2 H1 _ st2 s2 ((re.step st2).set r2)
theorem ss_set {i : Nat} {x : Str} (kc : CK c) (hN : X.N.Nodup) (n : NameAt X i x) (he : PE X e (tE X.K RX W c ee)) (hl : nlc e = true) : PS X (.Assign [.Name x p] e pos) (tS X.K RX W c (.set i ee)) :=
  L2PS.weak (ps_set hN n.ix n.loc he (sw_nlc hl) n.fn) (sset_read (te := he) kc)
theorem ss_unp {is : List Nat} {k : Nat} {ts : List Expr} (kc : CK c) (he : PE X e (tE X.K RX W c ee)) (hg : PG X (.Tuple ts k p) (tG X.K (.many is))) (hl : nlc e = true) (ht : ntl e = true) : PS X (.Assign [.Tuple ts k p] e pos) (tS X.K RX W c (.unp is ee)) :=
  L2PS.weak (ps_asg he hg (sole_nlc hl) (by cases e <;> first | rfl | cases ht) rfl) fun D σ H ⟨ρ, M, ι, re, sr, h⟩ => by
    unfold ex evg at h
    refine ⟨ρ, M, ι, re, sr, ((h.out re).gc sr (kp_ev kc ee ρ M)).mono fun d M1 ι1 H1 _ st s1 h2 v rv => ?_⟩
    obtain ⟨ι2, d2, M2, st2, s2, r2, h3⟩ := h2 v rv
    split at h3
    · rename_i ρ1 e1
      exact ⟨ρ, ι2, d2, ρ1, re.step st2, r2, ⟨M2, e1⟩, fun σ' re' _ => h3 ι2 H1 σ' st2 s2 re'⟩
    · exact h3.elim
/-- o[k] = x, by data -/
def rPut (K : PySem.W.Frag) : TSet := fun o i v H Q => ∃ ι M n k x M', SR K ι H M ∧ RelD K ι H (.ref n) o ∧ RelD K ι H k i ∧ RelD K ι H x v ∧ putD n k x M = some M' ∧ ∀ H', Step ι H ι H' → SR K ι H' M' → Q H'
theorem putK_rel {K : PySem.W.Frag} {ι : List Addr} {H : Hp} {κ : Type} [DecidableEq κ] {kvs : List (κ × D)} {kv : List (κ × V)} {k : κ} {x : D} {v : V} (h : RelKV K ι H kvs kv) (r : RelD K ι H x v) : RelKV K ι H (putK kvs k x) (L2.putK kv k v) := by
  have hm : RelKV K ι H (kvs.map fun p => if p.1 = k then (k, x) else p) (kv.map fun q => if q.1 = k then (q.1, v) else q) := by
    induction h with
    | nil => exact .nil
    | @cons a b l s q t ih =>
      refine .cons ?_ ih
      dsimp only
      by_cases e : a.1 = k
      · rw [if_pos e, if_pos (q.1 ▸ e)]
        exact ⟨(q.1 ▸ e : b.1 = k).symm, r⟩
      · rw [if_neg e, if_neg (q.1 ▸ e)]
        exact q
  obtain ⟨g1, g2⟩ := getK_val k h
  unfold putK L2.putK
  rw [valV_any]
  cases e : getK kvs k with
  | some d =>
    obtain ⟨w, hw, _⟩ := g1 d e
    rw [hw]
    exact hm
  | none =>
    rw [g2 e]
    simp only [Option.isSome_none, Bool.false_eq_true, if_false]
    clear hm g1 g2 e
    induction h with
    | nil => exact .cons ⟨rfl, r⟩ .nil
    | cons q t ih => exact .cons q ih
theorem set_all (hu : Rm X) : PSet X (rPut X.K) := by
  intro pins s σ H o i v ov iv u Q I ro ri rv h
  obtain ⟨ι, M, n, k, x, M', S, r1, r2, r3, e, h⟩ := h
  unfold Rm at hu
  unfold putD at e
  split at e
  · rename_i xs e1
    split at e
    · rename_i q
      split at e
      · rename_i j e2
        cases e
        obtain ⟨pp, rfl, hp, vs, hH, hr⟩ := S.ref e1 r1
        cases relD_int r2
        obtain ⟨st, s2⟩ := S.wr e1 hp (hr.set j r3)
        exact set_list pins s σ H _ _ v ov iv u Q I ro ri rv ⟨pp, vs, q, j, rfl, rfl, hH, by rw [← hr.length, ← ixN_eq]; exact e2, h _ st s2⟩
      · cases e
    · cases e
  · rename_i kvs e1
    split at e
    · rename_i q e2
      split at e
      · rename_i hlim
        cases e
        obtain ⟨pp, rfl, hp, kv, hH, hr⟩ := S.ref e1 r1
        have hk := kD_kV e2 r2
        subst hk
        cases (show ov = Value.ref pp from ro)
        have st : Step ι H ι (upd H pp (.dK (L2.putK kv q v))) := Step.write S e1 rfl hp
        have s2 : SR X.K ι (upd H pp (.dK (L2.putK kv q v))) (M.set n (.dk (putK kvs q x))) := SR.write S e1 rfl hp ⟨_, upd_same, (putK_rel hr r3).step st⟩ rfl
        have hl : kv.length = kvs.length := by
          have := kvs_keys hr
          have := congrArg List.length this
          simpa using this
        exact d_setItem (by omega) I (DPut.k hH (by rw [hl, ← lim_eq]; exact hlim)) ri rv fun s' I' => ⟨_, I', h _ st s2⟩
      · cases e
    · cases e
  · cases e
theorem ss_put {b : Expr} {eb : E} {p2 : Pos} (kc : CK c) (hu : Rm X) (he : PE X e (tE X.K RX W c ee)) (ho : PE X o (tE X.K RX W c eo)) (hi : PE X b (tE X.K RX W c eb)) (hb : nsl b = true) (hl : nlc e = true) : PS X (.Assign [.Subscript o b p2] e pos) (tS X.K RX W c (.put ee eo eb)) :=
  L2PS.weak (ps_asg he (pg_sub ho hi (set_all hu) (by intro v; cases b <;> first | rfl | cases hb)) (sole_nlc hl) (by cases e <;> rfl) rfl) fun D σ H ⟨ρ, M, ι, re, sr, h⟩ => by
    unfold ex evg at h
    refine ⟨ρ, M, ι, re, sr, ((h.out re).gc sr (kp_ev kc ee ρ M)).mono fun d M1 ι1 H1 _ st s1 h2 v rv => ?_⟩
    obtain ⟨ι2, d2, M2, st2, s2, r2, h3⟩ := h2 v rv
    have re2 := re.step st2
    refine ⟨ρ, M2, ι2, re2, s2, ((h3.step st2).out re2).mono fun a M3 ι3 H3 e3 st3 s3 h4 w rw' => ?_⟩
    have re3 := re2.step st3
    refine ⟨ρ, M3, ι3, re3, s3, ((h4.out re2).step st3).mono fun k M4 ι4 H4 e4 st4 s4 h5 z rz => ?_⟩
    split at h5
    · rename_i n
      split at h5
      · split at h5
        · rename_i M5 e5
          refine ⟨ι4, M4, n, k, d2, M5, s4, rw'.step st4, rz, r2.step (st3.trans st4), e5, fun H5 st5 s5 => ?_⟩
          have k1 := kp_ev kc eo ρ M2
          rw [e3] at k1
          have k2 := kp_ev kc eb ρ M3
          rw [e4] at k2
          have stA := (st3.trans st4).trans st5
          obtain ⟨q1, q2⟩ := stA.same s2.len
          have b4 : Below M2.length M4 := (k1.trans k2).bel _ (Nat.le_refl _) s2.belowAll
          have b5 : Below M2.length M5 := putD_below e5 b4 (by rw [← s2.len]; exact r2.under)
          have s6 := s5.cut b5 s2.pos
          rw [q1] at s6
          exact h5 ι2 H5 σ q2 s6 (re2.step q2)
        · exact h5.elim
      · exact h5.elim
    · exact h5.elim
theorem mt_appS : MtR X "list.append" rAppend := mt_append
theorem ss_app {es : List Expr} (kc : CK c) (ho : PE X o (tE X.K RX W c eo)) (he : PE X e (tE X.K RX W c ee)) (hp : plainO o = true) (hn : nst e = true) (hline : (apos.endLine == cpos.line) = true) :
    PS X (.Expr (.Call (.Attribute o "append" apos) [e] [] cpos) pos) (tS X.K RX W c (.app eo ee)) :=
  L2PS.weak (ps_expr (pe_bm PySem.F.plainAttrs_list PySem.F.slot_list_append PySem.F.type_list_append mt_appS ho (pa_cons he pa_nil (star1 hn)) (base_plain hp) (by
      rw [back_all (es := [e]) (by simp [hn])]; rfl) hline (star1 hn) (back_plain rfl))) fun D σ H ⟨ρ, M, ι, re, sr, h⟩ => by
    unfold ex evg at h
    refine ⟨ρ, M, ι, re, sr, (h.out re).mono fun a M1 ι1 H1 e1 st1 s1 h1 v rv => ?_⟩
    have re1 := re.step st1
    split at h1
    rotate_left
    · exact h1.elim
    rename_i hty
    refine ⟨tyM_lst s1 rv hty.1, ρ, M1, ι1, re1, s1, (((h1.step st1).out re1).gc s1 (kp_ev kc ee ρ M1)).mono fun d M2 ι2 H2 e2 st2 s2 h2 u ru => ?_⟩
    obtain ⟨ι3, d3, M3, st3, s3, r3, h3⟩ := h2 u ru
    split at h3
    · rename_i n
      split at h3
      · rename_i xs e4
        split at h3
        · rename_i hl
          obtain ⟨p, rfl, hp3, vs, hH, hr⟩ := s3.ref e4 (rv.step st3)
          obtain ⟨st5, s5⟩ := s3.wr e4 hp3 (hr.append (RelDs.one r3))
          refine ⟨p, vs, u, rfl, rfl, hH, by rw [← hr.length, ← lim_eq]; exact hl.1, ?_⟩
          exact h3 ι3 _ σ (st3.trans st5) s5 (re1.step (st3.trans st5))
        · exact h3.elim
      · exact h3.elim
    · exact h3.elim
theorem ss_ext (kc : CK c) (ho : PE X o (tE X.K RX W c eo)) (he : PE X e (tE X.K RX W c ee)) (hp : plainO o = true) (hn : nst e = true) (hline : (apos.endLine == cpos.line) = true) :
    PS X (.Expr (.Call (.Attribute o "extend" apos) [e] [] cpos) pos) (tS X.K RX W c (.ext eo ee)) :=
  L2PS.weak (ps_expr (pe_bm PySem.F.plainAttrs_list PySem.F.slot_list_extend PySem.F.type_list_extend (show MtR X "list.extend" rExtend from mt_extend) ho (pa_cons he pa_nil (star1 hn)) (base_plain hp) (by
      rw [back_all (es := [e]) (by simp [hn])]; rfl) hline (star1 hn) (back_plain rfl))) fun D σ H ⟨ρ, M, ι, re, sr, h⟩ => by
    unfold ex at h
    refine ⟨ρ, M, ι, re, sr, (h.out re).mono fun a M1 ι1 H1 e1 st1 s1 h1 v rv => ?_⟩
    have re1 := re.step st1
    split at h1
    rotate_left
    · exact h1.elim
    rename_i hty
    refine ⟨tyM_lst s1 rv hty, ρ, M1, ι1, re1, s1, ((h1.out re).step st1).mono fun d M2 ι2 H2 e2 st2 s2 h3 u ru => ?_⟩
    have k1 := kp_ev kc eo ρ M
    rw [e1] at k1
    have k2 := kp_ev kc ee ρ M1
    rw [e2] at k2
    split at h3
    · rename_i n m
      split at h3
      · rename_i xs ys e4 e5
        split at h3
        · rename_i hl
          obtain ⟨p, rfl, hp3, vs, hH, hr⟩ := s2.ref e4 (rv.step st2)
          obtain ⟨q, rfl, hq3, ws, hB, hs⟩ := s2.ref e5 ru
          obtain ⟨st5, s5⟩ := s2.wr e4 hp3 (hr.append hs)
          refine ⟨p, q, vs, ws, rfl, rfl, hH, hB, by rw [← hr.length, ← hs.length, ← lim_eq]; exact hl.1, ?_⟩
          have stA := (st1.trans st2).trans st5
          obtain ⟨q1, q2⟩ := stA.same sr.len
          have b2 : Below M.length M2 := (k1.trans k2).bel _ (Nat.le_refl _) sr.belowAll
          have b5 : Below M.length (M2.set n (.lst (xs ++ ys))) := fun i o hi e' => by
            by_cases z : n = i
            · subst z
              rw [List.getElem?_set_self (List.getElem?_eq_some_iff.mp e4).1] at e'
              cases e'
              refine Sk.D.unders_mem.mpr fun y hy => ?_
              rcases List.mem_append.mp hy with hy | hy
              · exact Sk.D.unders_mem.mp (show Sk.D.unders _ _ from b2 n _ hi e4) y hy
              · exact Sk.D.pure_under (Sk.D.pures_mem.mp hl.2.1 y hy)
            · rw [List.getElem?_set_ne z] at e'
              exact b2 i o hi e'
          have s6 := s5.cut b5 sr.pos
          rw [q1] at s6
          exact h3 ι _ σ q2 s6 (re.step q2)
        · exact h3.elim
      · exact h3.elim
    · exact h3.elim
theorem ss_rev (kc : CK c) (ho : PE X o (tE X.K RX W c eo)) (hp : plainO o = true) (hline : (apos.endLine == cpos.line) = true) :
    PS X (.Expr (.Call (.Attribute o "reverse" apos) [] [] cpos) pos) (tS X.K RX W c (.rev eo)) :=
  L2PS.weak (ps_expr (pe_bm0 PySem.F.plainAttrs_list PySem.F.slot_list_reverse PySem.F.type_list_reverse (show MtR X "list.reverse" rReverse from mt_reverse) ho (base_plain hp) hline)) fun D σ H ⟨ρ, M, ι, re, sr, h⟩ => by
    unfold ex at h
    refine ⟨ρ, M, ι, re, sr, (h.out re).mono fun a M1 ι1 H1 e1 st1 s1 h1 v rv => ?_⟩
    split at h1
    · rename_i n
      split at h1
      · rename_i xs e4
        obtain ⟨p, rfl, hp3, vs, hH, hr⟩ := s1.ref e4 rv
        obtain ⟨st5, s5⟩ := s1.wr e4 hp3 hr.reverse
        exact ⟨.inl ⟨rfl, vs, .inl (.inl hH)⟩, p, vs, rfl, rfl, hH, h1 ι1 _ σ (st1.trans st5) s5 (re.step (st1.trans st5))⟩
      · exact h1.elim
    · exact h1.elim
theorem ss_exp (kc : CK c) (he : PE X e (tE X.K RX W c ee)) (hl : nlc e = true) : PS X (.Expr e pos) (tS X.K RX W c (.exp ee)) :=
  L2PS.weak (ps_expr he (sw_nlc hl)) fun D σ H ⟨ρ, M, ι, re, sr, h⟩ => by
    unfold ex evg at h
    refine ⟨ρ, M, ι, re, sr, ((h.out re).gc sr (kp_ev kc ee ρ M)).mono fun d M1 ι1 H1 _ st s1 h2 v rv => ?_⟩
    obtain ⟨ι2, d2, M2, st2, s2, r2, h3⟩ := h2 v rv
    exact h3 ι2 H1 σ st2 s2 (re.step st2)
theorem ss_ret (kc : CK c) (he : PE X e (tE X.K RX W c ee)) : PS X (.Return (some e) pos) (tS X.K RX W c (.ret ee)) :=
  L2PS.weak (ps_ret he) fun D σ H ⟨ρ, M, ι, re, sr, h⟩ => by
    unfold ex evg at h
    refine ⟨ρ, M, ι, re, sr, ((h.out re).gc sr (kp_ev kc ee ρ M)).mono fun d M1 ι1 H1 _ st s1 h2 v rv => ?_⟩
    obtain ⟨ι2, d2, M2, st2, s2, r2, h3⟩ := h2 v rv
    exact h3 ι2 H1 v st2 s2 r2
theorem ss_retN : PS X (.Return none pos) (tS X.K RX W c .retN) :=
  L2PS.weak ps_retN fun D σ H ⟨ρ, M, ι, re, sr, h⟩ => by
    unfold ex at h
    exact h ι H .non .refl sr .nons
theorem ss_pass : PS X (.Pass pos) (tS X.K RX W c .pass) :=
  L2PS.weak ps_pass fun D σ H ⟨ρ, M, ι, re, sr, h⟩ => by
    unfold ex at h
    exact h ι H σ .refl sr re
theorem ss_brk : PS X (.Break pos) (tS X.K RX W c .brk) :=
  L2PS.weak ps_break fun D σ H ⟨ρ, M, ι, re, sr, h⟩ => by
    unfold ex at h
    exact h ι H σ .refl sr re
theorem ss_cnt : PS X (.Continue pos) (tS X.K RX W c .cnt) :=
  L2PS.weak ps_continue fun D σ H ⟨ρ, M, ι, re, sr, h⟩ => by
    unfold ex at h
    exact h ι H σ .refl sr re
theorem sss_nil : PSs X [] (tSs X.K RX W c []) :=
  L2PSs.weak pss_nil fun D σ H ⟨ρ, M, ι, re, sr, h⟩ => by
    unfold exs at h
    exact h ι H σ .refl sr re
theorem sss_cons {st : Stmt} {sts : List Stmt} {s : S} {ss : List S} (h1 : PS X st (tS X.K RX W c s)) (h2 : PSs X sts (tSs X.K RX W c ss)) : PSs X (st :: sts) (tSs X.K RX W c (s :: ss)) :=
  L2PSs.weak (pss_cons h1 h2) fun D σ H ⟨ρ, M, ι, re, sr, h⟩ => by
    unfold exs at h
    refine ⟨ρ, M, ι, re, sr, ?_⟩
    cases e : ex c s ρ M with
    | nx ρ1 M1 =>
      rw [e] at h
      exact fun ι' H' σ' st s1 re1 => ⟨ρ1, M1, ι', re1, s1, WpO.step h st⟩
    | rt d M1 => rw [e] at h; exact h
    | bk ρ1 M1 => rw [e] at h; exact h
    | ct ρ1 M1 => rw [e] at h; exact h
    | exc x ρ1 M1 => rw [e] at h; exact h
    | bad => rw [e] at h; exact h
theorem ss_iff {t : Expr} {et : E} {xs ys : List Stmt} {ss us : List S} (kc : CK c) (ht : PT X t (tT X.K RX W c et)) (ha : PSs X xs (tSs X.K RX W c ss)) (hb : PSs X ys (tSs X.K RX W c us)) : PS X (.If t xs ys pos) (tS X.K RX W c (.iff et ss us)) :=
  L2PS.weak (ps_if ht ha hb) fun D σ H ⟨ρ, M, ι, re, sr, h⟩ => by
    unfold ex at h
    refine ⟨ρ, M, ι, re, sr, ((h.outB re).evb kc sr).mono fun b M1 ι1 H1 _ st s1 h1 => ?_⟩
    obtain ⟨c1, c2, h2⟩ := h1
    have h3 := h2.step c1
    cases b with
    | true => exact ⟨ρ, _, ι, re.step c1, c2, h3⟩
    | false => exact ⟨ρ, _, ι, re.step c1, c2, h3⟩
/-- a body's end, the dead names forgotten -/
theorem WpO.kill {K : PySem.W.Frag} {ι : List Addr} {H : Hp} {D D' : Ends} {ks : List Nat} {o : Out} (h : WpO K RX W ι H D o)
    (n : ∀ ρ M ι' H' σ', o = .nx ρ M → Step ι H ι' H' → SR K ι' H' M → REnv K ι' H' ρ σ' → D.nx σ' H' → D'.nx σ' H') (b : ∀ σ' H', D.bk σ' H' → D'.bk σ' H')
    (cc : ∀ ρ M ι' H' σ', o = .ct ρ M → Step ι H ι' H' → SR K ι' H' M → REnv K ι' H' ρ σ' → D.ct σ' H' → D'.ct σ' H') (r : ∀ v H', D.rt v H' → D'.rt v H') : WpO K RX W ι H D' o := by
  cases o with
  | nx ρ M => exact fun ι' H' σ' st s1 re => n ρ M ι' H' σ' rfl st s1 re (h ι' H' σ' st s1 re)
  | rt d M => exact fun ι' H' v st s1 rv => r v H' (h ι' H' v st s1 rv)
  | bk ρ M => exact fun ι' H' σ' st s1 re => b σ' H' (h ι' H' σ' st s1 re)
  | ct ρ M => exact fun ι' H' σ' st s1 re => cc ρ M ι' H' σ' rfl st s1 re (h ι' H' σ' st s1 re)
  | exc x ρ M => exact h
  | bad => exact h
/-- THE FOR -/
theorem ss_for {t it : Expr} {body : List Stmt} {tg : Tg} {k : Ik} {its : List E} {ss : List S} {kill : List Nat} (kc : CK c) (hp : PassesOwn (model X.prog X.w) X.A X.env X.xe) (hc : X.calm = true) (hi : PI X t it (tI X.K RX W c k its)) (hg : PG X t (tG X.K tg)) (hb : PSs X body (tSs X.K RX W c ss))
    (hs : ∀ x, foldedSetIterable it X.env x = pure x) : PS X (.For t it body [] pos) (tS X.K RX W c (.for tg k its ss kill)) :=
  L2PS.weak (ps_for hp hc hi hg hb hs) fun D σ H ⟨ρ, M, ι, re, sr, h⟩ => by
    unfold ex at h
    refine ⟨ρ, M, ι, re, sr, ?_⟩
    cases ew : (evs c its ρ M).bind (walkG M.length k) with
    | bad => rw [ew] at h; exact h
    | exc x M1 =>
      rw [ew] at h
      have kp : Kp M ((evs c its ρ M).bind (walkG M.length k)) := by
        have h1 := kp_evs kc its ρ M
        cases q : evs c its ρ M with
        | ok ds M1 => rw [q] at h1; exact kp_walk h1 (Nat.le_refl _)
        | exc x M1 => rw [q] at h1; exact h1
        | bad => trivial
      rw [ew] at kp
      exact exc_cut sr kp fun ι' H' cls d st s1 rx => h ι' H' σ cls d st s1 (re.step st) rx
    | ok pp M1 =>
      obtain ⟨xs, w⟩ := pp
      rw [ew] at h
      simp only at h
      intro ι1 H1 st s1 J G Y wk hy hG
      generalize hbody : (fun (x : Sk.D) (ρ1 : Env) (M2 : Store) => match assignT M2 tg x ρ1 with
        | some ρ2 => (exs c ss ρ2 M2).kill kill
        | none => Out.bad) = bd at h
      refine for_it wk (fun i σ2 H2 => ∃ ρ2 M2 ι2, Step ι1 H1 ι2 H2 ∧ REnv X.K ι2 H2 ρ2 σ2 ∧ SR X.K ι2 H2 M2 ∧ WpO X.K RX W ι2 H2 D (forL (w.map fun i => (i, xs)) bd (xs.drop i) ρ2 M2)) ?_ ?_ ?_ ?_
      · exact ⟨_, M1, ι1, .refl, (re.step st).wipe kill, s1, by rw [List.drop_zero]; exact h.step st⟩
      · rintro i σ2 H2 hi' ⟨ρ2, M2, ι2, st2, re2, s2, h2⟩
        refine hG ι2 H2 M2 st2 s2 ?_
        show stands (w.map fun i => (i, xs)) M2
        cases e : xs.drop i with
        | nil =>
          rw [e] at h2
          unfold forL at h2
          split at h2
          · assumption
          · exact h2.elim
        | cons x r =>
          rw [e] at h2
          unfold forL at h2
          split at h2
          · assumption
          · exact h2.elim
      · rintro i x σ2 H2 H3 hix ⟨ρ2, M2, ι2, st2, re2, s2, h2⟩ hyx
        have hix : i < xs.length := hix
        rw [List.drop_eq_getElem_cons hix] at h2
        unfold forL at h2
        split at h2
        rotate_left
        · exact h2.elim
        rename_i hst
        obtain ⟨st3, s3, rx⟩ := hy i H2 x H3 ι2 M2 hix (hG ι2 H2 M2 st2 s2 hst) st2 s2 hst hyx
        have rx := rx _ (List.getElem?_eq_getElem hix)
        generalize xs[i] = dx at h2 rx
        have h3 := h2.step st3
        have eb : bd dx ρ2 M2 = match assignT M2 tg dx ρ2 with
          | some ρ2 => (exs c ss ρ2 M2).kill kill
          | none => Out.bad := by rw [← hbody]
        rw [eb] at h3
        cases ea : assignT M2 tg dx ρ2 with
        | none => rw [ea] at h3; exact h3.elim
        | some ρ3 =>
          rw [ea] at h3
          simp only at h3
          refine ⟨ρ2, ι2, dx, ρ3, re2.step st3, rx, ⟨M2, ea⟩, fun σ4 re4 _ => ⟨ρ3, M2, ι2, re4, s3, ?_⟩⟩
          have st23 := st2.trans st3
          cases eo : exs c ss ρ3 M2 with
          | bad => rw [eo] at h3; exact h3
          | nx ρ5 M5 => rw [eo] at h3; exact fun ι5 H5 σ5 st5 s5 re5 => ⟨_, M5, ι5, st23.trans st5, re5.wipe kill, s5, h3.step st5⟩
          | ct ρ5 M5 => rw [eo] at h3; exact fun ι5 H5 σ5 st5 s5 re5 => ⟨_, M5, ι5, st23.trans st5, re5.wipe kill, s5, h3.step st5⟩
          | bk ρ5 M5 => rw [eo] at h3; exact fun ι5 H5 σ5 st5 s5 re5 => h3 ι5 H5 σ5 st5 s5 (re5.wipe kill)
          | rt d M5 => rw [eo] at h3; exact h3
          | exc x ρ5 M5 => rw [eo] at h3; exact h3
      · rintro σ2 H2 ⟨ρ2, M2, ι2, st2, re2, s2, h2⟩
        have e : xs.drop xs.length = [] := List.drop_length
        have h2 : WpO X.K RX W ι2 H2 D (forL (w.map fun i => (i, xs)) bd (xs.drop xs.length) ρ2 M2) := h2
        rw [e] at h2
        unfold forL at h2
        split at h2
        · exact h2 ι2 H2 σ2 .refl s2 re2
        · exact h2.elim
/-- THE WHILE -/
theorem ss_while {t : Expr} {et : E} {body : List Stmt} {ss : List S} {kill : List Nat} (kc : CK c) (hp : PassesOwn (model X.prog X.w) X.A X.env X.xe) (ht : PT X t (tT X.K RX W c et)) (hb : PSs X body (tSs X.K RX W c ss)) : PS X (.While t body [] pos) (tS X.K RX W c (.while et ss kill)) :=
  L2PS.weak (ps_while hp ht hb) fun D σ H ⟨ρ, M, ι, re, sr, h⟩ => by
    unfold ex at h
    generalize hbody : (fun (ρ1 : Env) (M1 : Store) => (exs c ss ρ1 M1).kill kill) = bd at h
    unfold whileD at h
    split at h
    rotate_left
    · exact h.elim
    rename_i hex
    have hq := Classical.choose_spec (Classical.choose_spec hex)
    generalize Classical.choose (Classical.choose_spec hex) = o at h hq
    generalize Classical.choose hex = n at hq
    refine ⟨fun m σ2 H2 => ∃ ρ2 M2 ι2 o, REnv X.K ι2 H2 ρ2 σ2 ∧ SR X.K ι2 H2 M2 ∧ whileN (evb c et) bd m ρ2 M2 = some o ∧ WpO X.K RX W ι2 H2 D o, ⟨n, _, M, ι, o, re.wipe kill, sr, hq, h⟩, ?_⟩
    rintro m σ2 H2 ⟨ρ2, M2, ι2, o, re2, s2, hw, h2⟩
    cases m with
    | zero => cases hw
    | succ m =>
      unfold whileN at hw
      refine ⟨ρ2, M2, ι2, re2, s2, ?_⟩
      cases et' : evb c et ρ2 M2 with
      | bad =>
        rw [et'] at hw
        cases hw
        exact h2.elim
      | exc x M3 =>
        rw [et'] at hw
        cases hw
        have kp := Kp.bind (kp_ev kc et ρ2 M2) fun x M1 (_ : _ = _) => kp_truth (a := x) (M := M1)
        have e1 := et'
        unfold evb at e1
        cases q : (ev c et ρ2 M2).bind truthR with
        | ok b M4 => rw [q] at e1; cases e1
        | bad => rw [q] at e1; cases e1
        | exc y M4 =>
          rw [q] at e1 kp
          cases e1
          exact exc_cut s2 kp fun ι' H' cls d st s1 rx => h2 ι' H' σ2 cls d st s1 (re2.step st) rx
      | ok b M3 =>
        have h3 : Wp X.K RX (fun cls d H' => W cls d σ2 H') ι2 H2 (fun b' M' _ _ => b' = b ∧ M' = M3) (evb c et ρ2 M2) := by
          rw [et']
          exact fun _ _ _ _ => ⟨rfl, rfl⟩
        rw [et'] at hw
        simp only at hw
        refine (h3.evb kc s2).mono fun b' M4 ι4 H4 _ st4 s4 ⟨c1, c2, hb', hM⟩ => ?_
        subst hb'
        rw [hM] at c2
        cases b' with
        | false =>
          simp only [Bool.false_eq_true, if_false] at hw ⊢
          cases hw
          exact h2 ι2 H4 σ2 c1 c2 (re2.step c1)
        | true =>
          simp only [if_true] at hw ⊢
          have h4 := h2.step c1
          refine ⟨fun σ' H' => ∃ ρ2 M2 ι2 o, REnv X.K ι2 H' ρ2 σ' ∧ SR X.K ι2 H' M2 ∧ whileN (evb c et) bd m ρ2 M2 = some o ∧ WpO X.K RX W ι2 H' D o, fun σ' H' z => ⟨m, Nat.lt_succ_self m, z⟩, ρ2, M3, ι2, re2.step c1, c2, ?_⟩
          have eb : bd ρ2 M3 = (exs c ss ρ2 M3).kill kill := by rw [← hbody]
          rw [eb] at hw
          cases eo : exs c ss ρ2 M3 with
          | bad => rw [eo] at hw; cases hw; exact h4
          | nx ρ5 M5 => rw [eo] at hw; exact fun ι5 H5 σ5 st5 s5 re5 => ⟨_, M5, ι5, o, re5.wipe kill, s5, hw, h4.step st5⟩
          | ct ρ5 M5 => rw [eo] at hw; exact fun ι5 H5 σ5 st5 s5 re5 => ⟨_, M5, ι5, o, re5.wipe kill, s5, hw, h4.step st5⟩
          | bk ρ5 M5 => rw [eo] at hw; cases hw; exact fun ι5 H5 σ5 st5 s5 re5 => h4 ι5 H5 σ5 st5 s5 (re5.wipe kill)
          | rt d M5 => rw [eo] at hw; cases hw; exact h4
          | exc x ρ5 M5 => rw [eo] at hw; cases hw; exact h4
end
end Sk
end
section
set_option Elab.async false
set_option linter.all false
set_option autoImplicit false
set_option maxRecDepth 100000
/-! SkE: the checker of expressions: a written expression is one of mine. -/
namespace Sk
open PySem PySem.Spec PyProof.Rows L2

/-- what is known of a def's names -/
structure Info where
  N : List Str
  sc : Scope
  asg : List Str
structure Fit (X : L2.Cx) (I : Info) : Prop where
  hN : X.N = I.N
  nd : X.N.Nodup
  sc : X.env.scope = I.sc
  asg : ∀ x ∈ I.asg, Loc X.env.scope x ∧ (X.fn x = true ∨ X.env.scope.names.lookup x = some .local)
/-- the names of built-ins that the checker lets -/
def bltNames : List Str := ["len", "tuple", "list", "sorted", "min", "max", "sum", "abs", "int", "isinstance", "range", "str", "bool"]
/-- what holds at every point of a def's body -/
structure Gs (X : L2.Cx) (RX : Exc → Value → Option Addr → Hp → Prop) (c : Cx) (ar : String → Option Nat) (gl : String → Bool) (j : Nat) : Prop where
  calm : X.calm = true
  room : Room j X.A
  ck : CK c
  fn : ∀ f n, ar f = some n → ∃ (k : Nat) (q : Addr) (fd : FuncData) (ps : List Str), FnOk X.prog X.w X.K X.mg X.base (L2N.CX X.prog X.w) k q fd ps (spC X.K RX (c.call f) n) ∧ k ≤ j ∧ X.mg (Str.ofString f) = some (.ref q) ∧ PySem.W.keepIn X.K (.ref q) = true ∧ Binds X.K fd ps []
  blt : ∀ x ∈ bltNames, X.mg x = none
  gl : ∀ f, gl f = true → ∃ d v u, c.glob f = some d ∧ X.mg (Str.ofString f) = some u ∧ RelV v u ∧ ∀ ι H, RelD X.K ι H d v
theorem Gs.rm {X : L2.Cx} {RX : Exc → Value → Option Addr → Hp → Prop} {c : Cx} {ar : String → Option Nat} {gl : String → Bool} {j : Nat} (g : Gs X RX c ar gl j) : Rm X := by
  have := g.room.un
  unfold Rm
  omega

def visB (sc : Scope) (x : Str) : Bool := match sc.names.lookup x with
  | some .local => true
  | some .cell => true
  | some .free => true
  | _ => false
def glB (sc : Scope) (x : Str) : Bool := (match sc.names.lookup x with
  | some .globalImplicit => true
  | _ => false) && !(x == ("__debug__" : Str)) && !(x == ("__name__" : Str))
def varB (I : Info) (i : Nat) (x : Str) : Bool := decide (I.N[i]? = some x) && visB I.sc x && !(x == ("__debug__" : Str)) && !(x == ("__classdict__" : Str))
def asgB (I : Info) (i : Nat) (x : Str) : Bool := decide (I.N[i]? = some x) && decide (x ∈ I.asg)
theorem varB_ok {X : L2.Cx} {I : Info} (ft : Fit X I) {i : Nat} {x : Str} (h : varB I i x = true) : X.N[i]? = some x ∧ Vis X.env.scope x ∧ (x == ("__debug__" : Str)) = false ∧ (x == ("__classdict__" : Str)) = false := by
  unfold varB visB at h
  simp only [Bool.and_eq_true, decide_eq_true_eq, Bool.not_eq_true'] at h
  obtain ⟨⟨⟨h1, h2⟩, h3⟩, h4⟩ := h
  refine ⟨by rw [ft.hN]; exact h1, ?_, h3, h4⟩
  rw [ft.sc]
  split at h2
  · exact .inl (by assumption)
  · exact .inr (.inl (by assumption))
  · exact .inr (.inr (by assumption))
  · cases h2
theorem glB_ok {X : L2.Cx} {I : Info} (ft : Fit X I) {x : Str} (h : glB I.sc x = true) : Gl X x ∧ (x == ("__debug__" : Str)) = false ∧ x ≠ "__name__" := by
  unfold glB at h
  simp only [Bool.and_eq_true, Bool.not_eq_true'] at h
  obtain ⟨⟨h1, h2⟩, h3⟩ := h
  refine ⟨?_, h2, by simpa using h3⟩
  show X.env.scope.names.lookup x = _
  rw [ft.sc]
  split at h1
  · assumption
  · cases h1
theorem asgB_ok {X : L2.Cx} {I : Info} (ft : Fit X I) {i : Nat} {x : Str} (h : asgB I i x = true) : NameAt X i x := by
  unfold asgB at h
  simp only [Bool.and_eq_true, decide_eq_true_eq] at h
  obtain ⟨a, b⟩ := ft.asg x h.2
  exact ⟨by rw [ft.hN]; exact h.1, a, b⟩

/-! ### operators -/
def bopB : BOp → Operator → Bool
  | .add, .Add => true
  | .sub, .Sub => true
  | .mul, .Mult => true
  | .fdiv, .FloorDiv => true
  | .mod, .Mod => true
  | .pow, .Pow => true
  | _, _ => false
theorem bopB_ok {o : BOp} {p : Operator} (h : bopB o p = true) : p = o.py := by cases o <;> cases p <;> first | rfl | cases h
def copB : COp → CmpOp → Bool
  | .eq, .Eq => true
  | .ne, .NotEq => true
  | .lt, .Lt => true
  | .le, .LtE => true
  | .gt, .Gt => true
  | .ge, .GtE => true
  | .is, .Is => true
  | .isnot, .IsNot => true
  | .in, .In => true
  | .notin, .NotIn => true
  | _, _ => false
theorem copB_ok {o : COp} {p : CmpOp} (h : copB o p = true) : p = o.py := by cases o <;> cases p <;> first | rfl | cases h
/-- no set display -/
def nset : Expr → Bool
  | .Set _ _ _ => false
  | _ => true
theorem nset_in {op : CmpOp} {e : Expr} (h : nset e = true) : behindInMarks op e = false := by cases e <;> first | rfl | cases h
theorem nset_last {o p : CmpOp} {b d : Expr} (h : nset d = true) : lastMarks [o, p] [b, d] = false := nset_in (op := p) h
theorem nsl_ix {b : Expr} (h : nsl b = true) : PlainIx b := by
  intro o i
  cases b <;> first | rfl | cases h
def constB : D → Const → Bool
  | .non, .none => true
  | .bl b, .bool c => b == c
  | .int i, .int j => i == j
  | .str s, .str t => decide (s = t)
  | _, _ => false
theorem constB_ok {X : L2.Cx} {d : D} {k : Const} {n : Nat} {p : Pos} {v : V} (h : constB d k = true) (hv : constV d = some v) : PE X (.Constant k n p) (tC v) := by
  cases d <;> cases k <;> simp only [constB, Bool.false_eq_true] at h
  · cases hv; exact pe_non
  · cases hv
    have := eq_of_beq h
    subst this
    exact pe_bl
  · cases hv
    have := eq_of_beq h
    subst this
    exact pe_int
  · simp only [decide_eq_true_eq] at h
    subst h
    simp only [constV] at hv
    split at hv
    · cases hv; exact pe_str
    · cases hv
def Blt.nm : Blt → Option String
  | .len => some "len"
  | .tuple => some "tuple"
  | .list => some "list"
  | .sorted => some "sorted"
  | .min => some "min"
  | .max => some "max"
  | .sum => some "sum"
  | .abs => some "abs"
  | .int => some "int"
  | _ => none
def Mth.nm : Mth → Option String
  | .get => some "get"
  | .pop => some "pop"
  | _ => none
section
variable {X : L2.Cx} {RX : Exc → Value → Option Addr → Hp → Prop} {W : WX} {c : Cx} {a : Expr} {es : List Expr} {ees : List E} {p pos : Pos}
theorem sd_blt {f : Blt} {z : String} {x : Str} (hz : f.nm = some z) (hx : x = Str.ofString z) (hc : X.calm = true) (hu : Rm X) (hg : Gl X x) (hm : X.mg x = none) (ha : PA X (a :: es) (tEs X.K RX W c ees)) (hn : x ≠ "__name__") (hdb : (x == ("__debug__" : Str)) = false)
    (hs : (a :: es).all nst = true) : PE X (.Call (.Name x p) (a :: es) [] pos) (tE X.K RX W c (.blt f ees)) := by
  rw [List.all_cons, Bool.and_eq_true] at hs
  have s1 := star1 (es := es) (env := X.env) hs.1
  have s2 := back_plain (pos := pos) (env := X.env) hs.2
  subst hx
  cases f <;> simp only [Blt.nm, Option.some.injEq, reduceCtorEq] at hz <;> subst hz
  · exact sd_bltB cb_len hg hm boot_len ha hn hdb s1 s2
  · exact sd_bltT cb_tuple hg hm PyProof.Rows.boot_tuple ha hn hdb s1 s2
  · exact sd_bltT cb_list hg hm PyProof.Rows.boot_list ha hn hdb s1 s2
  · exact sd_bltB (cb_sorted hc hu) hg hm PyProof.Rows.boot_sorted ha hn hdb s1 s2
  · exact sd_bltB (cb_min hc hu) hg hm PyProof.Rows.boot_min ha hn hdb s1 s2
  · exact sd_bltB (cb_max hc hu) hg hm PyProof.Rows.boot_max ha hn hdb s1 s2
  · exact sd_bltB (cb_sum hc) hg hm PyProof.Rows.boot_sum ha hn hdb s1 s2
  · exact sd_bltB cb_abs hg hm PyProof.Rows.boot_abs ha hn hdb s1 s2
  · exact sd_bltT cb_int hg hm PyProof.Rows.boot_int ha hn hdb s1 s2
theorem mok_of {m : Mth} {z : String} (hu : Rm X) (hz : m.nm = some z) : MOk X m (Str.ofString z) := by
  cases m <;> simp only [Mth.nm, Option.some.injEq, reduceCtorEq] at hz <;> subst hz
  · exact mok_get hu
  · exact mok_pop
theorem st_ite {t b : Expr} {et ea eb : E} (ht : PT X t (tT X.K RX W c et)) (ha : PT X a (tT X.K RX W c ea)) (hb : PT X b (tT X.K RX W c eb)) : PT X (.IfExp t a b pos) (tT X.K RX W c (.ite et ea eb)) := by
  refine ⟨fun pins s σ H Q I ⟨ρ, M, ι, re, sr, h⟩ => ?_⟩
  unfold ev at h
  rw [← Res.bind_assoc, Res.bind_assoc] at h
  refine PyProof.Rows.isTrue_IfExp (thn (ht.run pins s σ H (fun k H1 => if k = true then tT X.K RX W c ea σ H1 Q else tT X.K RX W c eb σ H1 Q) I ⟨ρ, M, ι, re, sr, h.bind.mono fun k M1 ι1 H1 e st s1 h1 => ?_⟩) fun k s1 ⟨H1, I1, q⟩ => ?_)
  · cases k with
    | true => exact ⟨ρ, M1, ι1, re.step st, s1, h1⟩
    | false => exact ⟨ρ, M1, ι1, re.step st, s1, h1⟩
  · cases k with
    | true => exact ha.run pins s1 σ H1 Q I1 q
    | false => exact hb.run pins s1 σ H1 Q I1 q
end
/-- targets -/
def tgsB (I : Info) : List Nat → List Expr → Bool
  | [], [] => true
  | i :: is, .Name x _ :: es => asgB I i x && tgsB I is es
  | _, _ => false
def tgB (I : Info) : Tg → Expr → Bool
  | .one i, .Name x _ => asgB I i x
  | .many is, .Tuple es _ _ => tgsB I is es
  | _, _ => false
theorem tgsB_ok {X : L2.Cx} {I : Info} (ft : Fit X I) : ∀ {is : List Nat} {es : List Expr}, tgsB I is es = true → PGs X es (tGs X.K is) ∧ (assignEach es X.env).length = is.length ∧ (assignEach es X.env).findIdx? (·.1) = none
  | [], [], _ => ⟨sgs_nil, rfl, rfl⟩
  | i :: is, [], h => by cases h
  | [], e :: es, h => by cases e <;> cases h
  | i :: is, e :: es, h => by
    cases e with
    | Name x p =>
      simp only [tgsB, Bool.and_eq_true] at h
      obtain ⟨g1, g2, g3⟩ := tgsB_ok ft h.2
      refine ⟨sgs_cons ft.nd (asgB_ok ft h.1) g1, ?_, ?_⟩
      · show (assignEach es X.env).length + 1 = _
        rw [g2]; rfl
      · have e : assignEach (.Name x p :: es) X.env = (false, assign (.Name x p) X.env) :: assignEach es X.env := rfl
        rw [e, List.findIdx?_cons]
        simp [g3]
    | _ => cases h
theorem tgB_ok {X : L2.Cx} {I : Info} (ft : Fit X I) (hc : X.calm = true) {tg : Tg} {e : Expr} (h : tgB I tg e = true) : PG X e (tG X.K tg) := by
  cases tg with
  | one i =>
    cases e with
    | Name x p => exact sg_one ft.nd (asgB_ok ft h)
    | _ => cases h
  | many is =>
    cases e with
    | Tuple es k p =>
      obtain ⟨g1, g2, g3⟩ := tgsB_ok ft (show tgsB I is es = true from h)
      exact sg_many hc g1 g2 g3
    | _ => cases h
/-- the own names of a comprehension, with their slots -/
def ownB (N : List Str) : List Nat → Option (List (Str × Nat))
  | [] => some []
  | i :: is => match N[i]?, ownB N is with
    | some x, some r => some ((x, i) :: r)
    | _, _ => none
theorem ownB_snd {N : List Str} : ∀ {is : List Nat} {r : List (Str × Nat)}, ownB N is = some r → r.map (·.2) = is
  | [], r, h => by cases h; rfl
  | i :: is, r, h => by
    simp only [ownB] at h
    split at h
    · rename_i x r' _ e
      cases h
      simp [ownB_snd e]
    · cases h
def Info.blk (I : Info) (scope : Scope) (own : List (Str × Nat)) : Info := ⟨I.N, relS scope I.sc, own.map (·.1)⟩
def ownOk (scope : Scope) (own : List (Str × Nat)) : Bool := own.all fun p => match scope.names.lookup p.1 with
  | some .local => true
  | some .cell => true
  | _ => false
theorem Fit.blk {X : L2.Cx} {I : Info} (ft : Fit X I) {scope : Scope} {own : List (Str × Nat)} (h : ownOk scope own = true) (s : Shared) (H : Hp) (C : Addr) (cl : List (Str × Addr)) (fp : List Addr) :
    Fit (X.blk s H scope (compEnvC scope cl C X.env) fp) (I.blk scope own) := by
  have hsc : (X.blk s H scope (compEnvC scope cl C X.env) fp).env.scope = relS scope I.sc := by rw [← ft.sc]; rfl
  refine ⟨ft.hN, ft.nd, hsc, fun x hx => ?_⟩
  obtain ⟨p, hp, rfl⟩ := List.mem_map.mp hx
  have := List.all_eq_true.mp h p hp
  rw [hsc]
  split at this
  · rename_i e
    have e2 := lookup_relS_keep (sc := I.sc) (k := .local) (by decide) e
    exact ⟨.inl e2, .inr e2⟩
  · rename_i e
    have e2 := lookup_relS_keep (sc := I.sc) (k := .cell) (by decide) e
    exact ⟨.inr e2, .inl (by show (scope.names.lookup p.1 == some NameKind.cell) = true; rw [e]; rfl)⟩
  · cases this
theorem Gs.blk {X : L2.Cx} {RX : Exc → Value → Option Addr → Hp → Prop} {c : Cx} {ar : String → Option Nat} {gl : String → Bool} {j : Nat} (g : Gs X RX c ar gl j) {scope : Scope} (s : Shared) (H : Hp) (env : PySem.Env) (fp : List Addr) :
    Gs (X.blk s H scope env fp) RX c ar gl j := ⟨g.calm, g.room, g.ck, g.fn, g.blt, g.gl⟩
theorem takes_blk {X : L2.Cx} {scope : Scope} (s : Shared) (H : Hp) (env : PySem.Env) (fp : List Addr) : L2N.Takes (X.blk s H scope env fp) W0 := fun u s' x => by
  obtain ⟨a, B, sI, pins, σ, H, cls, d, e, I, nb, up, sky, na, os, ag, w⟩ := x
  exact w.elim
def isiB : List String → Bool
  | [t] => decide (t ∈ ["int", "bool", "str", "tuple", "list"])
  | _ => false
section
variable (ar : String → Option Nat) (gl : String → Bool)
mutual
def chkE (I : Info) : E → Expr → Bool
  | .var i, a => (match a with
    | .Name x _ => varB I i x
    | _ => false)
  | .cst d, a => (match a with
    | .Constant k _ _ => constB d k && (constV d).isSome
    | _ => false)
  | .glb f, a => (match a with
    | .Name x _ => decide (x = Str.ofString f) && glB I.sc x && gl f
    | _ => false)
  | .bin o x y, a => (match a with
    | .BinOp l p r _ => bopB o p && chkE I x l && chkE I y r
    | _ => false)
  | .neg x, a => (match a with
    | .UnaryOp p l _ => decide (p = .USub) && chkE I x l
    | _ => false)
  | .cmp o x y, a => (match a with
    | .Compare l [p] [r] _ => copB o p && nset r && chkE I x l && chkE I y r
    | _ => false)
  | .chain o p x y z, a => (match a with
    | .Compare l [o', p'] [r, s] _ => copB o o' && copB p p' && nset s && chkE I x l && chkE I y r && chkE I z s
    | _ => false)
  | .and x y, a => (match a with
    | .BoolOp .And [l, r] _ => chkE I x l && chkE I y r
    | .BoolOp .And (l :: r :: r2 :: rs) p => chkE I x l && chkE I y (.BoolOp .And (r :: r2 :: rs) p)
    | _ => false)
  | .or x y, a => (match a with
    | .BoolOp .Or [l, r] _ => chkE I x l && chkE I y r
    | .BoolOp .Or (l :: r :: r2 :: rs) p => chkE I x l && chkE I y (.BoolOp .Or (r :: r2 :: rs) p)
    | _ => false)
  | .not x, a => (match a with
    | .UnaryOp p l _ => decide (p = .Not) && chkE I x l
    | _ => false)
  | .ite t x y, a => (match a with
    | .IfExp u l r _ => chkE I t u && chkE I x l && chkE I y r
    | _ => false)
  | .tup es, a => (match a with
    | .Tuple l _ _ => chkEs I es l && l.all nst && decide (es.length ≤ 100000)
    | _ => false)
  | .lst es, a => (match a with
    | .List l _ => chkEs I es l && l.all nst && decide (es.length ≤ 100000)
    | _ => false)
  | .dct t, a => (match a with
    | .Dict [] [] _ => !t
    | _ => false)
  | .ix x y, a => (match a with
    | .Subscript l r _ => nsl r && chkE I x l && chkE I y r
    | _ => false)
  | .slc x, a => (match a with
    | .Subscript l (.Slice none none none _) _ => chkE I x l
    | _ => false)
  | .slcL x y, a => (match a with
    | .Subscript l (.Slice (some r) none none _) _ => chkE I x l && chkE I y r
    | _ => false)
  | .slcU x y, a => (match a with
    | .Subscript l (.Slice none (some r) none _) _ => chkE I x l && chkE I y r
    | _ => false)
  | .slcLU x y z, a => (match a with
    | .Subscript l (.Slice (some r) (some s) none _) _ => chkE I x l && chkE I y r && chkE I z s
    | _ => false)
  | .call f es, a => (match a with
    | .Call (.Name x _) l [] _ => decide (x = Str.ofString f) && glB I.sc x && decide (ar f = some es.length) && l.all nst && chkEs I es l
    | _ => false)
  | .blt f es, a => (match a with
    | .Call (.Name x _) l [] _ => (match f.nm with
      | some z => decide (x = Str.ofString z)
      | none => false) && glB I.sc x && !l.isEmpty && l.all nst && chkEs I es l
    | _ => false)
  | .mth m o es, a => (match a with
    | .Call (.Attribute l n ap) r [] cp => (match m.nm with
      | some z => decide (n = Str.ofString z)
      | none => false) && plainO l && (ap.endLine == cp.line) && r.all nst && decide (r.length < 10) && chkE I o l && chkEs I es r
    | _ => false)
  | .isi x ts, a => (match a with
    | .Call (.Name n _) [l, .Name y _] [] _ => (match ts with
      | [t] => decide (n = ("isinstance" : Str)) && glB I.sc n && decide (t ∈ ["int", "bool", "str", "tuple", "list"]) && decide (y = Str.ofString t) && glB I.sc y && nst l && chkE I x l
      | _ => false)
    | _ => false)
  | .fld _ _, _ => false
  | .lc elt tg k its ifs own, a => (match a with
    | .ListComp x [⟨t, it, fs, 0⟩] scope _ => (match ownB I.N own with
      | some ow => blkC I.N I.sc scope ow && ownOk scope ow && tgB (I.blk scope ow) tg t && decide (∀ i ∈ tg.slots, i ∈ own) && decide (ifs.length ≤ 1) && chkE (I.blk scope ow) elt x && chkEs (I.blk scope ow) ifs fs && nset it &&
        (match k, its with
        | .val, [_] => chkEs I its [it]
        | .rng, _ => (match it with
          | .Call (.Name n _) l [] _ => decide (n = ("range" : Str)) && glB I.sc n && l.all nst && (decide (its.length = 1) || decide (its.length = 2)) && chkEs I its l
          | _ => false)
        | _, _ => false)
      | none => false)
    | _ => false)
def chkEs (I : Info) : List E → List Expr → Bool
  | [], l => l.isEmpty
  | e :: es, l => (match l with
    | a :: as => chkE I e a && chkEs I es as
    | [] => false)
end
end
theorem glb_blt {X : L2.Cx} {RX : Exc → Value → Option Addr → Hp → Prop} {c : Cx} {ar : String → Option Nat} {gl : String → Bool} {j : Nat} (g : Gs X RX c ar gl j) {z : String} {f : Blt} (h : f.nm = some z) : X.mg (Str.ofString z) = none := by
  refine g.blt _ ?_
  cases f <;> simp only [Blt.nm, Option.some.injEq, reduceCtorEq] at h <;> subst h <;> decide
end Sk
end
section
set_option Elab.async false
set_option linter.all false
set_option autoImplicit false
set_option maxRecDepth 100000
set_option maxHeartbeats 4000000
/-! SkE2: what the checker lets runs as the evaluator says. -/
namespace Sk
open PySem PySem.Spec PyProof.Rows L2
section
variable {RX : Exc → Value → Option Addr → Hp → Prop} {c : Cx} {ar : String → Option Nat} {gl : String → Bool} {j : Nat}
/-- a value's reading gives the test's -/
theorem both {X : L2.Cx} {W : WX} {a : Expr} {e : E} (h : PE X a (tE X.K RX W c e)) (he : ∀ whole, isTrue a X.env whole = (do let v ← whole; standAt a.pos; holding [v] (truthy v))) :
    PE X a (tE X.K RX W c e) ∧ PT X a (tT X.K RX W c e) := ⟨h, st_val h he⟩
theorem lc_pe {X : L2.Cx} {W : WX} {I : Info} {elt : E} {tg : Tg} {k : Ik} {its ifs : List E} {own : List Nat} {ow : List (Str × Nat)} {x t it : Expr} {fs : List Expr} {scope : Scope} {p : Pos} (g : Gs X RX c ar gl j) (ft : Fit X I)
    (hb : blkC I.N I.sc scope ow = true) (ho : ownB I.N own = some ow) (hs : ∀ i ∈ tg.slots, i ∈ own) (hl : ifs.length ≤ 1) (hn : nset it = true)
    (hi : PI X t it (tI X.K RX W c k its))
    (hg : ∀ (s : Shared) (H : Hp) (C : Addr) (cl : List (Str × Addr)) (fp : List Addr), PG (X.blk s H scope (compEnvC scope cl C X.env) fp) t (tG X.K tg))
    (ht : ∀ (s : Shared) (H : Hp) (C : Addr) (cl : List (Str × Addr)) (fp : List Addr), PTs (X.blk s H scope (compEnvC scope cl C X.env) fp) fs (tTs X.K RX c ifs))
    (he : ∀ (s : Shared) (H : Hp) (C : Addr) (cl : List (Str × Addr)) (fp : List Addr), PE (X.blk s H scope (compEnvC scope cl C X.env) fp) x (tE X.K RX W0 c elt)) :
    PE X (.ListComp x [⟨t, it, fs, 0⟩] scope p) (tE X.K RX W c (.lc elt tg k its ifs own)) := by
  have hfold : ∀ z, foldedSetIterable it X.env z = pure z := fun z => by cases it <;> first | rfl | cases hn
  refine L2PE.weak (pe_lc g.calm ft.nd hi (blkOk_by (by rw [ft.hN, ft.sc]; exact hb)) hg ht he hfold) fun σ H Q h => ?_
  rw [ownB_snd ho]
  exact lc_read g.ck hl hs h
theorem decide_and {p : Prop} [Decidable p] {b : Bool} (h : (decide p && b) = true) : p ∧ b = true := by
  rw [Bool.and_eq_true, decide_eq_true_eq] at h
  exact h
theorem chkEs_len {I : Info} : ∀ (es : List E) (l : List Expr), chkEs ar gl I es l = true → es.length = l.length
  | [], l, h => by
    cases l with
    | nil => rfl
    | cons a l => simp [chkEs] at h
  | e :: es, l, h => by
    cases l with
    | nil => simp [chkEs] at h
    | cons a l =>
      simp only [chkEs, Bool.and_eq_true] at h
      simp [chkEs_len es l h.2]
theorem rng_pi {X : L2.Cx} {W : WX} {its : List E} {l : List Expr} {n : Str} {q pos : Pos} {t : Expr} (kc : CK c) (hx : n = "range") (hg : Gl X n) (hm : X.mg n = none) (ha : PA X l (tEs X.K RX W c its)) (hs : l.all nst = true) (hl : its.length = 1 ∨ its.length = 2) (he : its.length = l.length) :
    PI X t (.Call (.Name n q) l [] pos) (tI X.K RX W c .rng its) := by
  rcases hl with h1 | h1
  · match its, l, h1, he, ha, hs with
    | [e], [a], _, _, ha, hs => exact si_rng1 kc hx hg hm ha (by simpa using hs)
  · match its, l, h1, he, ha, hs with
    | [e, e2], [a, b], _, _, ha, hs =>
      simp only [List.all_cons, List.all_nil, Bool.and_true, Bool.and_eq_true] at hs
      exact si_rng2 kc hx hg hm ha hs.1 hs.2
mutual
theorem chkE_ok : ∀ (e : E) (X : L2.Cx) (I : Info) (W : WX) (a : Expr), Gs X RX c ar gl j → L2N.Takes X W → Fit X I → chkE ar gl I e a = true → PE X a (tE X.K RX W c e) ∧ PT X a (tT X.K RX W c e)
  | .var i, X, I, W, a, g, tk, ft, h => by
    unfold chkE at h
    split at h
    · obtain ⟨h1, h2, h3, h4⟩ := varB_ok ft h
      exact both (sd_var h1 h2 h3 h4) fun _ => rfl
    · cases h
  | .cst d, X, I, W, a, g, tk, ft, h => by
    unfold chkE at h
    split at h
    · rw [Bool.and_eq_true] at h
      obtain ⟨v, hv⟩ := Option.isSome_iff_exists.mp h.2
      exact both (sd_cst (constB_ok h.1 hv) hv) fun _ => rfl
    · cases h
  | .glb f, X, I, W, a, g, tk, ft, h => by
    unfold chkE at h
    split at h
    · simp only [Bool.and_eq_true, decide_eq_true_eq] at h
      obtain ⟨⟨rfl, h2⟩, h3⟩ := h
      obtain ⟨q1, q2, q3⟩ := glB_ok ft h2
      obtain ⟨d, v, u, k1, k2, k3, k4⟩ := g.gl f h3
      exact both (sd_glb q1 k2 k3 q2 k1 k4) fun _ => rfl
    · cases h
  | .bin o x y, X, I, W, a, g, tk, ft, h => by
    unfold chkE at h
    split at h
    · simp only [Bool.and_eq_true] at h
      obtain ⟨⟨h1, h2⟩, h3⟩ := h
      cases bopB_ok h1
      exact both (sd_bin (chkE_ok x X I W _ g tk ft h2).1 (chkE_ok y X I W _ g tk ft h3).1) fun _ => rfl
    · cases h
  | .neg x, X, I, W, a, g, tk, ft, h => by
    unfold chkE at h
    split at h
    · simp only [Bool.and_eq_true, decide_eq_true_eq] at h
      obtain ⟨rfl, h2⟩ := h
      exact both (sd_neg (chkE_ok x X I W _ g tk ft h2).1) fun _ => rfl
    · cases h
  | .cmp o x y, X, I, W, a, g, tk, ft, h => by
    unfold chkE at h
    split at h
    · simp only [Bool.and_eq_true] at h
      obtain ⟨⟨⟨h1, h2⟩, h3⟩, h4⟩ := h
      cases copB_ok h1
      have a1 := (chkE_ok x X I W _ g tk ft h3).1
      have a2 := (chkE_ok y X I W _ g tk ft h4).1
      exact ⟨sd_cmp g.rm a1 a2 (nset_in h2), st_cmp g.rm a1 a2 (nset_in h2)⟩
    · cases h
  | .chain o p x y z, X, I, W, a, g, tk, ft, h => by
    unfold chkE at h
    split at h
    · simp only [Bool.and_eq_true] at h
      obtain ⟨⟨⟨⟨⟨h1, h2⟩, h3⟩, h4⟩, h5⟩, h6⟩ := h
      cases copB_ok h1
      cases copB_ok h2
      have a1 := (chkE_ok x X I W _ g tk ft h4).1
      have a2 := (chkE_ok y X I W _ g tk ft h5).1
      have a3 := (chkE_ok z X I W _ g tk ft h6).1
      exact ⟨sd_chain g.rm a1 a2 a3 (nset_last h3), st_chain g.rm a1 a2 a3 (nset_last h3)⟩
    · cases h
  | .and x y, X, I, W, a, g, tk, ft, h => by
    unfold chkE at h
    split at h
    · simp only [Bool.and_eq_true] at h
      obtain ⟨a1, a2⟩ := chkE_ok x X I W _ g tk ft h.1
      obtain ⟨b1, b2⟩ := chkE_ok y X I W _ g tk ft h.2
      exact ⟨sd_and a1 (pe_one b1), st_and a2 (pw_and1 b2)⟩
    · simp only [Bool.and_eq_true] at h
      obtain ⟨a1, a2⟩ := chkE_ok x X I W _ g tk ft h.1
      obtain ⟨b1, b2⟩ := chkE_ok y X I W _ g tk ft h.2
      exact ⟨sd_and a1 b1, st_and a2 (bool_pw b2)⟩
    · cases h
  | .or x y, X, I, W, a, g, tk, ft, h => by
    unfold chkE at h
    split at h
    · simp only [Bool.and_eq_true] at h
      obtain ⟨a1, a2⟩ := chkE_ok x X I W _ g tk ft h.1
      obtain ⟨b1, b2⟩ := chkE_ok y X I W _ g tk ft h.2
      exact ⟨sd_or a1 (pe_one b1), st_or a2 (pw_or1 b2)⟩
    · simp only [Bool.and_eq_true] at h
      obtain ⟨a1, a2⟩ := chkE_ok x X I W _ g tk ft h.1
      obtain ⟨b1, b2⟩ := chkE_ok y X I W _ g tk ft h.2
      exact ⟨sd_or a1 b1, st_or a2 (bool_pw b2)⟩
    · cases h
  | .not x, X, I, W, a, g, tk, ft, h => by
    unfold chkE at h
    split at h
    · simp only [Bool.and_eq_true, decide_eq_true_eq] at h
      obtain ⟨rfl, h2⟩ := h
      obtain ⟨a1, a2⟩ := chkE_ok x X I W _ g tk ft h2
      exact ⟨sd_not a1, st_not a2⟩
    · cases h
  | .ite t x y, X, I, W, a, g, tk, ft, h => by
    unfold chkE at h
    split at h
    · simp only [Bool.and_eq_true] at h
      obtain ⟨⟨h1, h2⟩, h3⟩ := h
      obtain ⟨t1, t2⟩ := chkE_ok t X I W _ g tk ft h1
      obtain ⟨a1, a2⟩ := chkE_ok x X I W _ g tk ft h2
      obtain ⟨b1, b2⟩ := chkE_ok y X I W _ g tk ft h3
      exact ⟨sd_ite t2 a1 b1, st_ite t2 a2 b2⟩
    · cases h
  | .tup es, X, I, W, a, g, tk, ft, h => by
    unfold chkE at h
    split at h
    · simp only [Bool.and_eq_true, decide_eq_true_eq] at h
      obtain ⟨⟨h1, h2⟩, h3⟩ := h
      exact both (sd_tup (chkEs_ok es X I W _ g tk ft h1 h2) h3) fun _ => rfl
    · cases h
  | .lst es, X, I, W, a, g, tk, ft, h => by
    unfold chkE at h
    split at h
    · simp only [Bool.and_eq_true, decide_eq_true_eq] at h
      obtain ⟨⟨h1, h2⟩, h3⟩ := h
      exact both (sd_lst (chkEs_ok es X I W _ g tk ft h1 h2) h3) fun _ => rfl
    · cases h
  | .dct t, X, I, W, a, g, tk, ft, h => by
    unfold chkE at h
    split at h
    · cases t with
      | true => cases h
      | false => exact both sd_dct fun _ => rfl
    · cases h
  | .ix x y, X, I, W, a, g, tk, ft, h => by
    unfold chkE at h
    split at h
    · simp only [Bool.and_eq_true] at h
      obtain ⟨⟨h1, h2⟩, h3⟩ := h
      exact both (sd_ix g.rm (chkE_ok x X I W _ g tk ft h2).1 (chkE_ok y X I W _ g tk ft h3).1 (nsl_ix h1)) fun _ => rfl
    · cases h
  | .slc x, X, I, W, a, g, tk, ft, h => by
    unfold chkE at h
    split at h
    · exact both (sd_slc (chkE_ok x X I W _ g tk ft h).1) fun _ => rfl
    · cases h
  | .slcL x y, X, I, W, a, g, tk, ft, h => by
    unfold chkE at h
    split at h
    · simp only [Bool.and_eq_true] at h
      exact both (sd_slcL (chkE_ok x X I W _ g tk ft h.1).1 (chkE_ok y X I W _ g tk ft h.2).1) fun _ => rfl
    · cases h
  | .slcU x y, X, I, W, a, g, tk, ft, h => by
    unfold chkE at h
    split at h
    · simp only [Bool.and_eq_true] at h
      exact both (sd_slcU (chkE_ok x X I W _ g tk ft h.1).1 (chkE_ok y X I W _ g tk ft h.2).1) fun _ => rfl
    · cases h
  | .slcLU x y z, X, I, W, a, g, tk, ft, h => by
    unfold chkE at h
    split at h
    · simp only [Bool.and_eq_true] at h
      exact both (sd_slcLU (chkE_ok x X I W _ g tk ft h.1.1).1 (chkE_ok y X I W _ g tk ft h.1.2).1 (chkE_ok z X I W _ g tk ft h.2).1) fun _ => rfl
    · cases h
  | .call f es, X, I, W, a, g, tk, ft, h => by
    unfold chkE at h
    split at h
    · rename_i x p l pos
      simp only [Bool.and_eq_true, decide_eq_true_eq] at h
      obtain ⟨⟨⟨⟨rfl, h2⟩, h3⟩, h4⟩, h5⟩ := h
      obtain ⟨q1, q2, q3⟩ := glB_ok ft h2
      obtain ⟨k, q, fd, ps, F, hk, hm, hkp, hb⟩ := g.fn f _ h3
      have ha := chkEs_ok es X I W _ g tk ft h5 h4
      cases l with
      | nil =>
        cases es with
        | nil => exact both (sd_call0 tk F (g.room.mono hk) q1 hm hkp hb q2) fun _ => rfl
        | cons e es => simp [chkEs] at h5
      | cons a l =>
        rw [List.all_cons, Bool.and_eq_true] at h4
        exact both (sd_call tk F (g.room.mono hk) q1 hm hkp hb ha rfl q2 (star1 h4.1) (back_plain h4.2)) fun _ => rfl
    · cases h
  | .blt f es, X, I, W, a, g, tk, ft, h => by
    unfold chkE at h
    split at h
    · rename_i x p l pos
      simp only [Bool.and_eq_true] at h
      obtain ⟨⟨⟨⟨h1, h2⟩, h3⟩, h4⟩, h5⟩ := h
      obtain ⟨q1, q2, q3⟩ := glB_ok ft h2
      split at h1
      · rename_i z hz
        rw [decide_eq_true_eq] at h1
        have ha := chkEs_ok es X I W _ g tk ft h5 h4
        cases l with
        | nil => cases h3
        | cons a l => exact both (sd_blt hz h1 g.calm g.rm q1 (by rw [h1]; exact glb_blt g hz) ha q3 q2 h4) fun _ => rfl
      · cases h1
    · cases h
  | .mth m o es, X, I, W, a, g, tk, ft, h => by
    unfold chkE at h
    split at h
    · rename_i l n ap r cp
      simp only [Bool.and_eq_true, decide_eq_true_eq] at h
      obtain ⟨⟨⟨⟨⟨⟨h1, h2⟩, h3⟩, h4⟩, h5⟩, h6⟩, h7⟩ := h
      split at h1
      · rename_i z hz
        rw [decide_eq_true_eq] at h1
        subst h1
        have mo := mok_of (X := X) g.rm hz
        have ho := (chkE_ok o X I W _ g tk ft h6).1
        have ha := chkEs_ok es X I W _ g tk ft h7 h4
        cases r with
        | nil =>
          cases es with
          | nil => exact both (sd_mth0 mo ho h2 h3) fun _ => rfl
          | cons e es => simp [chkEs] at h7
        | cons a r => exact both (sd_mth mo ho ha h4 h5 h2 h3) fun _ => rfl
      · cases h1
    · cases h
  | .isi x ts, X, I, W, a, g, tk, ft, h => by
    unfold chkE at h
    split at h
    · split at h
      · rename_i t
        simp only [Bool.and_eq_true, decide_eq_true_eq] at h
        obtain ⟨⟨⟨⟨⟨⟨h1, h2⟩, h3⟩, h4⟩, h5⟩, h6⟩, h7⟩ := h
        obtain ⟨q1, q2, q3⟩ := glB_ok ft h2
        obtain ⟨r1, r2, r3⟩ := glB_ok ft h5
        have hT : t = "int" ∨ t = "bool" ∨ t = "str" ∨ t = "tuple" ∨ t = "list" := by simpa using h3
        have ty : ∀ p0 : Pos, PE X (.Name _ p0) (tC (.ty t)) := fun p0 => sd_ty (T := t) r1 (by rw [h4]; refine g.blt _ ?_; rcases hT with rfl | rfl | rfl | rfl | rfl <;> decide) (by rw [h4]; rcases hT with rfl | rfl | rfl | rfl | rfl <;> decide +kernel) r3 r2
        exact both (sd_isi q1 (by rw [h1]; exact g.blt _ (by decide)) h1 h3 (ty _) (chkE_ok x X I W _ g tk ft h7).1 h6) fun _ => rfl
      · cases h
    · cases h
  | .fld x f, X, I, W, a, g, tk, ft, h => by
    unfold chkE at h
    cases h
  | .lc elt tg k its ifs own, X, I, W, a, g, tk, ft, h => by
    unfold chkE at h
    split at h
    · rename_i x t it fs scope p
      split at h
      · rename_i ow ho
        simp only [Bool.and_eq_true, decide_eq_true_eq] at h
        obtain ⟨⟨⟨⟨⟨⟨⟨⟨h1, h2⟩, h3⟩, h4⟩, h5⟩, h6⟩, h7⟩, h8⟩, h9⟩ := h
        refine both (lc_pe g ft h1 ho h4 h5 h8 ?_ (fun s H C cl fp => tgB_ok (ft.blk h2 s H C cl fp) g.calm h3) (fun s H C cl fp => ?_) fun s H C cl fp => (chkE_ok elt _ _ W0 _ (g.blk s H _ fp) (takes_blk s H _ fp) (ft.blk h2 s H C cl fp) h6).1) fun _ => rfl
        · split at h9
          · rename_i e
            simp only [chkEs, Bool.and_eq_true] at h9
            exact si_val g.ck (chkE_ok e X I W it g tk ft h9.1).1
          · split at h9
            · rename_i n q l pos
              simp only [Bool.and_eq_true, Bool.or_eq_true, decide_eq_true_eq] at h9
              obtain ⟨⟨⟨⟨a1, a2⟩, a3⟩, a4⟩, a5⟩ := h9
              obtain ⟨q1, q2, q3⟩ := glB_ok ft a2
              have ha := chkEs_ok its X I W _ g tk ft a5 a3
              have hm : X.mg n = none := by rw [a1]; exact g.blt _ (by decide)
              exact rng_pi g.ck a1 q1 hm ha a3 a4 (chkEs_len its l a5)
            · cases h9
          · cases h9
        · cases ifs with
          | nil =>
            cases fs with
            | nil => exact pts_nil
            | cons f fs => simp [chkEs] at h7
          | cons e ifs =>
            cases fs with
            | nil => simp [chkEs] at h7
            | cons f fs =>
              have hfs : fs = [] := by
                have := chkEs_len _ _ h7
                simp only [List.length_cons] at this h5
                cases fs with
                | nil => rfl
                | cons _ _ => simp only [List.length_cons] at this; omega
              subst hfs
              simp only [chkEs, Bool.and_eq_true] at h7
              exact pts_one (chkE_ok e _ _ W0 _ (g.blk s H _ fp) (takes_blk s H _ fp) (ft.blk h2 s H C cl fp) h7.1).2
      · cases h
    · cases h
theorem chkEs_ok : ∀ (es : List E) (X : L2.Cx) (I : Info) (W : WX) (l : List Expr), Gs X RX c ar gl j → L2N.Takes X W → Fit X I → chkEs ar gl I es l = true → l.all nst = true → PA X l (tEs X.K RX W c es)
  | [], X, I, W, l, g, tk, ft, h, hn => by
    cases l with
    | nil => exact sa_nil
    | cons a l => simp [chkEs] at h
  | e :: es, X, I, W, l, g, tk, ft, h, hn => by
    cases l with
    | nil => simp [chkEs] at h
    | cons a l =>
      simp only [chkEs, Bool.and_eq_true] at h
      rw [List.all_cons, Bool.and_eq_true] at hn
      exact sa_cons (chkE_ok e X I W a g tk ft h.1).1 (chkEs_ok es X I W l g tk ft h.2 hn.2) (star1 hn.1)
end
end
end Sk
end
section
set_option Elab.async false
set_option linter.all false
set_option autoImplicit false
set_option maxRecDepth 100000
set_option maxHeartbeats 4000000
/-! SkF: the checker of statements. -/
namespace Sk
open PySem PySem.Spec PyProof.Rows L2
section
variable (ar : String → Option Nat) (gl : String → Bool) (I : Info)
/-- what is walked -/
def chkI (k : Ik) (its : List E) (it : Expr) : Bool := nset it && (match k, its with
  | .val, [_] => chkEs ar gl I its [it]
  | .rng, _ => (match it with
    | .Call (.Name n _) l [] _ => decide (n = ("range" : Str)) && glB I.sc n && l.all nst && (decide (its.length = 1) || decide (its.length = 2)) && chkEs ar gl I its l
    | _ => false)
  | _, _ => false)
mutual
def chkS : S → Stmt → Bool
  | .set i e, st => (match st with
    | .Assign [.Name x _] v _ => asgB I i x && chkE ar gl I e v
    | _ => false)
  | .unp is e, st => (match st with
    | .Assign [.Tuple ts _ _] v _ => tgsB I is ts && nlc v && ntl v && chkE ar gl I e v
    | _ => false)
  | .par _ _ _ _, _ => false
  | .put v o i, st => (match st with
    | .Assign [.Subscript a b _] e _ => nsl b && nlc e && chkE ar gl I v e && chkE ar gl I o a && chkE ar gl I i b
    | _ => false)
  | .app o e, st => (match st with
    | .Expr (.Call (.Attribute a n ap) [b] [] cp) _ => decide (n = ("append" : Str)) && plainO a && nst b && (ap.endLine == cp.line) && chkE ar gl I o a && chkE ar gl I e b
    | _ => false)
  | .ext o e, st => (match st with
    | .Expr (.Call (.Attribute a n ap) [b] [] cp) _ => decide (n = ("extend" : Str)) && plainO a && nst b && (ap.endLine == cp.line) && chkE ar gl I o a && chkE ar gl I e b
    | _ => false)
  | .rev o, st => (match st with
    | .Expr (.Call (.Attribute a n ap) [] [] cp) _ => decide (n = ("reverse" : Str)) && plainO a && (ap.endLine == cp.line) && chkE ar gl I o a
    | _ => false)
  | .exp e, st => (match st with
    | .Expr v _ => nlc v && chkE ar gl I e v
    | _ => false)
  | .ret e, st => (match st with
    | .Return (some v) _ => chkE ar gl I e v
    | _ => false)
  | .retN, st => (match st with
    | .Return none _ => true
    | _ => false)
  | .iff t a b, st => (match st with
    | .If u xs ys _ => chkE ar gl I t u && chkSs a xs && chkSs b ys
    | _ => false)
  | .for tg k its body _, st => (match st with
    | .For t it xs [] _ => tgB I tg t && chkI ar gl I k its it && chkSs body xs
    | _ => false)
  | .while t body _, st => (match st with
    | .While u xs [] _ => chkE ar gl I t u && chkSs body xs
    | _ => false)
  | .brk, st => (match st with
    | .Break _ => true
    | _ => false)
  | .cnt, st => (match st with
    | .Continue _ => true
    | _ => false)
  | .pass, st => (match st with
    | .Pass _ => true
    | _ => false)
def chkSs : List S → List Stmt → Bool
  | [], l => l.isEmpty
  | s :: ss, l => (match l with
    | a :: as => chkS s a && chkSs ss as
    | [] => false)
end
end
section
variable {RX : Exc → Value → Option Addr → Hp → Prop} {c : Cx} {ar : String → Option Nat} {gl : String → Bool} {j : Nat}
theorem nset_fold {it : Expr} {env : PySem.Env} (h : nset it = true) : ∀ z, foldedSetIterable it env z = pure z := fun z => by cases it <;> first | rfl | cases h
theorem chkI_ok {X : L2.Cx} {I : Info} {W : WX} {k : Ik} {its : List E} {it t : Expr} (g : Gs X RX c ar gl j) (tk : L2N.Takes X W) (ft : Fit X I) (h : chkI ar gl I k its it = true) : PI X t it (tI X.K RX W c k its) := by
  unfold chkI at h
  rw [Bool.and_eq_true] at h
  obtain ⟨_, h9⟩ := h
  split at h9
  · rename_i e
    simp only [chkEs, Bool.and_eq_true] at h9
    exact si_val g.ck (chkE_ok e X I W it g tk ft h9.1).1
  · split at h9
    · rename_i n q l pos
      simp only [Bool.and_eq_true, Bool.or_eq_true, decide_eq_true_eq] at h9
      obtain ⟨⟨⟨⟨a1, a2⟩, a3⟩, a4⟩, a5⟩ := h9
      obtain ⟨q1, q2, q3⟩ := glB_ok ft a2
      have ha := chkEs_ok its X I W _ g tk ft a5 a3
      exact rng_pi g.ck a1 q1 (by rw [a1]; exact g.blt _ (by decide)) ha a3 a4 (chkEs_len its _ a5)
    · cases h9
  · cases h9
/-- name = [..] -/
theorem lc_set {X : L2.Cx} {I : Info} {W : WX} {i : Nat} {y : Str} {e : E} {x : Expr} {gs : List Comprehension} {scope : Scope} {p py pos : Pos} (g : Gs X RX c ar gl j) (tk : L2N.Takes X W) (ft : Fit X I) (hk : X.env.scope.kind = .function) (hy : asgB I i y = true)
    (h : chkE ar gl I e (.ListComp x gs scope p) = true) : PS X (.Assign [.Name y py] (.ListComp x gs scope p) pos) (tS X.K RX W c (.set i e)) := by
  have n := asgB_ok ft hy
  have he := (chkE_ok e X I W _ g tk ft h).1
  have hb : X.env.blockKind = .function := by unfold Env.blockKind; rw [hk]; rfl
  have hsw : swapsWith (.ListComp x gs scope p) (some (.Name y py)) pos.line X.env = pure (X.env.blockKind == .function && X.env.kindOf y == some .local && py.line == p.line && !(scope.names.any fun (n, k) => n == y && (k == .local || k == .cell))) := rfl
  cases hq : (X.env.blockKind == .function && X.env.kindOf y == some .local && py.line == p.line && !(scope.names.any fun (n, k) => n == y && (k == .local || k == .cell))) with
  | false =>
    rw [hq] at hsw
    exact L2PS.weak (ps_set ft.nd n.ix n.loc he hsw n.fn) (sset_read (te := he) g.ck)
  | true =>
    rw [hq] at hsw
    simp only [Bool.and_eq_true] at hq
    have hyl : X.env.scope.names.lookup y = some .local := by
      have := hq.1.1.2
      exact eq_of_beq this
    cases e <;> try (simp [chkE] at h; done)
    rename_i elt tg k its ifs own
    unfold chkE at h
    split at h
    rotate_left
    · cases h
    rename_i x' t it fs scope' p' heq
    cases heq
    split at h
    rotate_left
    · cases h
    rename_i ow ho
    simp only [Bool.and_eq_true, decide_eq_true_eq] at h
    obtain ⟨⟨⟨⟨⟨⟨⟨⟨h1, h2⟩, h3⟩, h4⟩, h5⟩, h6⟩, h7⟩, h8⟩, h9⟩ := h
    have hi : PI X t it (tI X.K RX W c k its) := chkI_ok g tk ft (by unfold chkI; rw [Bool.and_eq_true]; exact ⟨h8, h9⟩)
    refine L2PS.weak (ps_setLc (wi := tI X.K RX W c k its) (g := tG X.K tg) (tt := tTs X.K RX c ifs) (te := tE X.K RX W0 c elt) g.calm ft.nd n.ix hyl hsw hi (blkOk_by (by rw [ft.hN, ft.sc]; exact h1)) (fun s H C cl fp => tgB_ok (ft.blk h2 s H C cl fp) g.calm h3) (fun s H C cl fp => ?_)
      (fun s H C cl fp => (chkE_ok elt _ _ W0 _ (g.blk s H _ fp) (takes_blk s H _ fp) (ft.blk h2 s H C cl fp) h6).1) (nset_fold h8)) fun D σ H q => ?_
    · cases ifs with
      | nil =>
        cases fs with
        | nil => exact pts_nil
        | cons f fs => simp [chkEs] at h7
      | cons e ifs =>
        cases fs with
        | nil => simp [chkEs] at h7
        | cons f fs =>
          have hfs : fs = [] := by
            have := chkEs_len _ _ h7
            simp only [List.length_cons] at this h5
            cases fs with
            | nil => rfl
            | cons _ _ => simp only [List.length_cons] at this; omega
          subst hfs
          simp only [chkEs, Bool.and_eq_true] at h7
          exact pts_one (chkE_ok e _ _ W0 _ (g.blk s H _ fp) (takes_blk s H _ fp) (ft.blk h2 s H C cl fp) h7.1).2
    · have q2 := sset_read (te := he) g.ck D σ H q
      show tLc _ _ _ _ (ow.map (·.2)) σ H _
      rw [ownB_snd ho]
      exact lc_read g.ck h5 h4 q2
mutual
theorem chkS_ok : ∀ (s : S) (X : L2.Cx) (I : Info) (W : WX) (st : Stmt), Gs X RX c ar gl j → L2N.Takes X W → Fit X I → X.env.scope.kind = .function → PassesOwn (model X.prog X.w) X.A X.env X.xe → chkS ar gl I s st = true → PS X st (tS X.K RX W c s)
  | .set i e, X, I, W, st, g, tk, ft, hk, hp, h => by
    unfold chkS at h
    split at h
    · rename_i x p v pos
      rw [Bool.and_eq_true] at h
      by_cases hn : nlc v = true
      · exact ss_set g.ck ft.nd (asgB_ok ft h.1) (chkE_ok e X I W v g tk ft h.2).1 hn
      · cases v with
        | ListComp x gs scope p => exact lc_set g tk ft hk h.1 h.2
        | SetComp x gs scope p => cases e <;> simp [chkE] at h
        | DictComp x y gs scope p => cases e <;> simp [chkE] at h
        | _ => exact absurd rfl hn
    · cases h
  | .unp is e, X, I, W, st, g, tk, ft, hk, hp, h => by
    unfold chkS at h
    split at h
    · simp only [Bool.and_eq_true] at h
      obtain ⟨⟨⟨h1, h2⟩, h3⟩, h4⟩ := h
      exact ss_unp g.ck (chkE_ok e X I W _ g tk ft h4).1 (tgB_ok ft g.calm (tg := .many is) h1) h2 h3
    · cases h
  | .par i j a b, X, I, W, st, g, tk, ft, hk, hp, h => by
    unfold chkS at h
    cases h
  | .put v o i, X, I, W, st, g, tk, ft, hk, hp, h => by
    unfold chkS at h
    split at h
    · simp only [Bool.and_eq_true] at h
      obtain ⟨⟨⟨⟨h1, h2⟩, h3⟩, h4⟩, h5⟩ := h
      exact ss_put g.ck g.rm (chkE_ok v X I W _ g tk ft h3).1 (chkE_ok o X I W _ g tk ft h4).1 (chkE_ok i X I W _ g tk ft h5).1 h1 h2
    · cases h
  | .app o e, X, I, W, st, g, tk, ft, hk, hp, h => by
    unfold chkS at h
    split at h
    · simp only [Bool.and_eq_true, decide_eq_true_eq] at h
      obtain ⟨⟨⟨⟨⟨rfl, h2⟩, h3⟩, h4⟩, h5⟩, h6⟩ := h
      exact ss_app (es := []) g.ck (chkE_ok o X I W _ g tk ft h5).1 (chkE_ok e X I W _ g tk ft h6).1 h2 h3 h4
    · cases h
  | .ext o e, X, I, W, st, g, tk, ft, hk, hp, h => by
    unfold chkS at h
    split at h
    · simp only [Bool.and_eq_true, decide_eq_true_eq] at h
      obtain ⟨⟨⟨⟨⟨rfl, h2⟩, h3⟩, h4⟩, h5⟩, h6⟩ := h
      exact ss_ext g.ck (chkE_ok o X I W _ g tk ft h5).1 (chkE_ok e X I W _ g tk ft h6).1 h2 h3 h4
    · cases h
  | .rev o, X, I, W, st, g, tk, ft, hk, hp, h => by
    unfold chkS at h
    split at h
    · simp only [Bool.and_eq_true, decide_eq_true_eq] at h
      obtain ⟨⟨⟨rfl, h2⟩, h3⟩, h4⟩ := h
      exact ss_rev g.ck (chkE_ok o X I W _ g tk ft h4).1 h2 h3
    · cases h
  | .exp e, X, I, W, st, g, tk, ft, hk, hp, h => by
    unfold chkS at h
    split at h
    · rw [Bool.and_eq_true] at h
      exact ss_exp g.ck (chkE_ok e X I W _ g tk ft h.2).1 h.1
    · cases h
  | .ret e, X, I, W, st, g, tk, ft, hk, hp, h => by
    unfold chkS at h
    split at h
    · exact ss_ret g.ck (chkE_ok e X I W _ g tk ft h).1
    · cases h
  | .retN, X, I, W, st, g, tk, ft, hk, hp, h => by
    unfold chkS at h
    split at h
    · exact ss_retN
    · cases h
  | .iff t a b, X, I, W, st, g, tk, ft, hk, hp, h => by
    unfold chkS at h
    split at h
    · simp only [Bool.and_eq_true] at h
      exact ss_iff g.ck (chkE_ok t X I W _ g tk ft h.1.1).2 (chkSs_ok a X I W _ g tk ft hk hp h.1.2) (chkSs_ok b X I W _ g tk ft hk hp h.2)
    · cases h
  | .for tg k its body kill, X, I, W, st, g, tk, ft, hk, hp, h => by
    unfold chkS at h
    split at h
    · simp only [Bool.and_eq_true] at h
      have h2 := h.1.2
      unfold chkI at h2
      rw [Bool.and_eq_true] at h2
      exact ss_for g.ck hp g.calm (chkI_ok g tk ft h.1.2) (tgB_ok ft g.calm h.1.1) (chkSs_ok body X I W _ g tk ft hk hp h.2) (nset_fold h2.1)
    · cases h
  | .while t body kill, X, I, W, st, g, tk, ft, hk, hp, h => by
    unfold chkS at h
    split at h
    · rw [Bool.and_eq_true] at h
      exact ss_while g.ck hp (chkE_ok t X I W _ g tk ft h.1).2 (chkSs_ok body X I W _ g tk ft hk hp h.2)
    · cases h
  | .brk, X, I, W, st, g, tk, ft, hk, hp, h => by
    unfold chkS at h
    split at h
    · exact ss_brk
    · cases h
  | .cnt, X, I, W, st, g, tk, ft, hk, hp, h => by
    unfold chkS at h
    split at h
    · exact ss_cnt
    · cases h
  | .pass, X, I, W, st, g, tk, ft, hk, hp, h => by
    unfold chkS at h
    split at h
    · exact ss_pass
    · cases h
theorem chkSs_ok : ∀ (ss : List S) (X : L2.Cx) (I : Info) (W : WX) (l : List Stmt), Gs X RX c ar gl j → L2N.Takes X W → Fit X I → X.env.scope.kind = .function → PassesOwn (model X.prog X.w) X.A X.env X.xe → chkSs ar gl I ss l = true → PSs X l (tSs X.K RX W c ss)
  | [], X, I, W, l, g, tk, ft, hk, hp, h => by
    cases l with
    | nil => exact sss_nil
    | cons a l => simp [chkSs] at h
  | s :: ss, X, I, W, l, g, tk, ft, hk, hp, h => by
    cases l with
    | nil => simp [chkSs] at h
    | cons a l =>
      simp only [chkSs, Bool.and_eq_true] at h
      exact sss_cons (chkS_ok s X I W a g tk ft hk hp h.1) (chkSs_ok ss X I W l g tk ft hk hp h.2)
end
end
end Sk
end
section
set_option Elab.async false
set_option linter.all false
set_option autoImplicit false
set_option maxRecDepth 100000
set_option maxHeartbeats 4000000
/-! SkG: defs keep their promises; the end. -/
namespace Sk
open PySem PySem.Spec PyProof.Rows L2

theorem zip_look : ∀ {ps : List Str} {us : List Value}, ps.Nodup → us.length = ps.length → (ps.filter fun n => ((ps.zip us).lookup n).isNone) = [] ∧ (ps.filterMap fun n => ((ps.zip us).lookup n).map (n, ·)) = ps.zip us
  | [], us, _, _ => by simp
  | p :: ps, [], _, h => by simp at h
  | p :: ps, u :: us, nd, h => by
    obtain ⟨n1, n2⟩ := List.nodup_cons.mp nd
    obtain ⟨g1, g2⟩ := zip_look n2 (show us.length = ps.length by simpa using h)
    have e : ∀ n ∈ ps, (((p, u) :: ps.zip us).lookup n) = (ps.zip us).lookup n := fun n hn => by
      rw [List.lookup_cons]
      have : (n == p) = false := by
        rw [beq_eq_false_iff_ne]
        rintro rfl
        exact n1 hn
      rw [this]
    refine ⟨?_, ?_⟩
    · rw [List.zip_cons_cons, List.filter_cons, List.lookup_cons, beq_self_eq_true]
      simp only [Option.isNone_some, Bool.false_eq_true, if_false]
      rw [← g1]
      exact List.filter_congr fun n hn => by rw [e n hn]
    · rw [List.zip_cons_cons, List.filterMap_cons, List.lookup_cons, beq_self_eq_true]
      simp only [Option.map_some]
      have key : ∀ l : List Str, (∀ n ∈ l, n ∈ ps) → (l.filterMap fun n => (((p, u) :: ps.zip us).lookup n).map (n, ·)) = l.filterMap fun n => ((ps.zip us).lookup n).map (n, ·) := fun l => by
        induction l with
        | nil => intro _; rfl
        | cons a l ih =>
          intro hl
          rw [List.filterMap_cons, List.filterMap_cons, e a (hl a List.mem_cons_self), ih fun n hn => hl n (List.mem_cons_of_mem _ hn)]
      rw [key ps fun n hn => hn, g2]
theorem bind_plain {fd : FuncData} {ps : List Str} {us : List Value} (h1 : fd.params.posonlyargs = []) (h2 : fd.params.vararg = none) (h3 : fd.params.kwonlyargs = []) (h4 : fd.params.kwarg = none) (h5 : fd.defaults = .none) (hp : fd.params.args.map (·.arg) = ps) (nd : ps.Nodup) (hl : us.length = ps.length) :
    bindArgs fd ⟨us, []⟩ = pure (ps.zip us) := by
  obtain ⟨g1, g2⟩ := zip_look nd hl
  unfold bindArgs
  simp only [h1, h2, h3, h4, h5, hp, hl, List.map_nil, List.nil_append, List.append_nil, List.forIn_nil, pure_bind, seqItems?, Option.getD_none, List.length_nil, Nat.sub_zero, List.drop_nil, List.take_length, List.drop_length, List.zip_nil_right, gt_iff_lt, Nat.lt_irrefl, decide_false, Bool.false_and, Bool.false_eq_true, if_false, g1, g2, List.isEmpty_nil, Bool.not_true]
  have e : notAStandIn Value.none = pure () := rfl
  rw [e]
  simp only [pure_bind, Option.getD_none, List.toList_toArray, List.drop_nil, List.length_nil, Nat.sub_zero, List.take_length, g1, List.isEmpty_nil, Bool.not_true, Bool.false_eq_true, if_false, List.zip_nil_right, List.forIn_nil, g2]
/-- the end of a call -/
theorem leave_wp {K : PySem.W.Frag} {RX : Exc → Value → Option Addr → Hp → Prop} {Ex : Value → Option Addr → Hp → Prop} {ι : List Addr} {H : Hp} {M : Store} {Q : VK} {o : Out} (sr : SR K ι H M) (kp : KpO M.length M o) (h : Wp K RX Ex ι H (PD K Q) (leave M.length o)) :
    WpO K RX (fun cls d _ H => Ex cls d H) ι H { nx := fun _ H' => Q .non H', rt := Q } o := by
  cases o with
  | nx ρ M' =>
    intro ι' H' σ' st s1 re
    obtain ⟨c1, c2⟩ := cut_here sr st s1 (KeptB.kept kp)
    exact h ι H' c1 c2 .non .nons
  | rt d M' =>
    intro ι' H' v st s1 rv
    have h : Wp K RX Ex ι H (PD K Q) (gc M.length d M') := h
    rcases gc_pack st sr.len sr.pos s1 ((KeptB.kept kp).bel _ (Nat.le_refl _) sr.belowAll) rv with e | ⟨ι2, d2, M2, e, st2, s2, r2⟩
    · rw [e] at h; exact h.elim
    · rw [e] at h
      exact h ι2 H' st2 s2 v r2
  | exc x ρ M' =>
    intro ι' H' σ' cls d st s1 re rx
    exact exc_cut sr (KeptB.kept kp) h ι' H' cls d st s1 rx
  | bk ρ M' => exact h.elim
  | ct ρ M' => exact h.elim
  | bad => exact h.elim
theorem init_env {K : PySem.W.Frag} {ι : List Addr} {H : Hp} {d : Def} {ds : List D} {vs : List V} {N : List Str} (r : RelDs K ι H ds vs) (hN : N.length = d.names.length) : REnv K ι H (init d ds) (L2.start N vs) := by
  unfold init L2.start
  refine ⟨by simp [r.length, hN], fun i x e => ?_⟩
  by_cases hi : i < ds.length
  · rw [List.getElem?_append_left (by simpa using hi), List.getElem?_map] at e
    rw [List.getElem?_append_left (by rw [List.length_map, ← r.length]; exact hi), List.getElem?_map]
    cases q : ds[i]? with
    | none => rw [q] at e; cases e
    | some y =>
      rw [q] at e
      cases e
      obtain ⟨v, hv, rv⟩ := r.get q
      exact ⟨v, by rw [hv]; rfl, rv⟩
  · rw [List.getElem?_append_right (by simpa using hi), List.getElem?_replicate] at e
    split at e <;> cases e

/-! ### a program -/
structure Pg where
  tab : List (String × Def)
  cs : List (String × D)
def Pg.T (p : Pg) : String → Option Def := fun f => p.tab.lookup f
def Pg.G (p : Pg) : String → Option D := fun f => p.cs.lookup f
def Pg.ar (p : Pg) : String → Option Nat := fun f => (p.T f).map (·.params)
def Pg.gl (p : Pg) : String → Bool := fun f => (p.G f).isSome
def csFa (x : String × D) : He.Fa := match x.2 with
  | .int i => .int (Str.ofString x.1) i
  | .str s => .str (Str.ofString x.1) s
  | _ => .free (Str.ofString x.1)
def csOk : D → Bool
  | .int _ => true
  | .str s => (constV (.str s)).isSome
  | _ => false
def Pg.fa (p : Pg) : List He.Fa := p.tab.map (fun x => .glo (Str.ofString x.1)) ++ (p.cs.map csFa ++ bltNames.map .free)
def asgOf (N : List Str) (sc : Scope) : List Str := N.filter fun x => match sc.names.lookup x with
  | some .local => true
  | some .cell => true
  | _ => false
def plainA (a : Arguments) : Bool := a.posonlyargs.isEmpty && a.vararg.isNone && a.kwonlyargs.isEmpty && a.kwarg.isNone
def parN (a : Arguments) : List Str := a.args.map (·.arg)
def chkD (ar : String → Option Nat) (gl : String → Bool) (x : String × Def) (q : He.DefD) : Bool :=
  let N := x.2.names.map Str.ofString
  decide (q.at_ = (Str.ofString x.1, none)) && q.dfl.isEmpty && q.kwd.isEmpty && plainA q.params && decide ((parN q.params).length = x.2.params) && C8.scC N (parN q.params) q.scope && chkSs ar gl ⟨N, q.scope, asgOf N q.scope⟩ x.2.body q.body
def all2 {α β : Type} (f : α → β → Bool) : List α → List β → Bool
  | [], [] => true
  | a :: as, b :: bs => f a b && all2 f as bs
  | _, _ => false
def Pg.chk (p : Pg) (fn : List He.DefD) : Bool := all2 (chkD p.ar p.gl) p.tab fn && p.cs.all fun x => csOk x.2
theorem all2_mem {α β : Type} {f : α → β → Bool} : ∀ {as : List α} {bs : List β}, all2 f as bs = true → ∀ a ∈ as, ∃ b ∈ bs, f a b = true
  | [], [], _, a, h => by cases h
  | a :: as, b :: bs, h, x, hx => by
    simp only [all2, Bool.and_eq_true] at h
    rcases List.mem_cons.mp hx with rfl | hx
    · exact ⟨b, List.mem_cons_self, h.1⟩
    · obtain ⟨y, hy, e⟩ := all2_mem h.2 x hx
      exact ⟨y, List.mem_cons_of_mem _ hy, e⟩
  | [], _ :: _, h, _, _ => by cases h
  | _ :: _, [], h, _, _ => by cases h
theorem lookup_mem {α : Type} : ∀ {l : List (String × α)} {f : String} {d : α}, l.lookup f = some d → (f, d) ∈ l
  | [], f, d, h => by cases h
  | (k, v) :: l, f, d, h => by
    rw [List.lookup_cons] at h
    split at h
    · rename_i e
      cases h
      have := eq_of_beq e
      subst this
      exact List.mem_cons_self
    · exact List.mem_cons_of_mem _ (lookup_mem h)
section
variable {P : Program} {w : World} {K : PySem.W.Frag} {mg : Str → Option Value} {h base : Heap} {p : Pg} {fn : List He.DefD} {RX : Exc → Value → Option Addr → Hp → Prop}
theorem glo_at (X : K.In h) (G : h.Ns mainGlobals mg) (cf : ∀ f ∈ p.fa, f.ok K = true) {f : String} {d : Def} (e : p.T f = some d) : mg (Str.ofString f) = some (.ref (He.ga K (Str.ofString f))) := by
  refine He.glo_ok X G (cf _ ?_)
  unfold Pg.fa
  exact List.mem_append_left _ (List.mem_map.mpr ⟨(f, d), lookup_mem e, rfl⟩)
theorem blt_none (X : K.In h) (G : h.Ns mainGlobals mg) (cf : ∀ f ∈ p.fa, f.ok K = true) : ∀ x ∈ bltNames, mg x = none := fun x hx => by
  refine He.free_ok X G (cf _ ?_)
  unfold Pg.fa
  exact List.mem_append_right _ (List.mem_append_right _ (List.mem_map.mpr ⟨x, hx, rfl⟩))
theorem cs_at (X : K.In h) (G : h.Ns mainGlobals mg) (cf : ∀ f ∈ p.fa, f.ok K = true) (hc : p.chk fn = true) {f : String} (e : p.gl f = true) : ∃ d v u, p.G f = some d ∧ mg (Str.ofString f) = some u ∧ RelV v u ∧ ∀ ι H, RelD K ι H d v := by
  obtain ⟨d, hd⟩ := Option.isSome_iff_exists.mp e
  have hm := lookup_mem hd
  unfold Pg.chk at hc
  rw [Bool.and_eq_true] at hc
  have ok := List.all_eq_true.mp hc.2 _ hm
  have fact := cf (csFa (f, d)) (by unfold Pg.fa; exact List.mem_append_right _ (List.mem_append_left _ (List.mem_map.mpr ⟨_, hm, rfl⟩)))
  cases d with
  | int i =>
    obtain ⟨t, ht⟩ := He.int_ok X G fact
    exact ⟨_, .int i, _, hd, ht, ⟨t, rfl⟩, fun _ _ => .ints⟩
  | str s =>
    obtain ⟨t, ht⟩ := He.str_ok X G fact
    have ok : (constV (.str s)).isSome = true := ok
    obtain ⟨v, hv⟩ := Option.isSome_iff_exists.mp ok
    have e2 : v = .str s := by
      simp only [constV] at hv
      split at hv
      · cases hv; rfl
      · cases hv
    subst e2
    exact ⟨_, .str s, _, hd, ht, ⟨t, rfl⟩, fun _ _ => constV_rel hv⟩
  | _ => cases ok
/-- what the checker says of one def -/
structure OneDef (P : Program) (w : World) (K : PySem.W.Frag) (mg : Str → Option Value) (base : Heap) (p : Pg) (f : String) (d : Def) (q : He.DefD) (fd : FuncData) : Prop where
  F : FunD K q.name q.qual q.params q.body q.scope [] [] (He.ga K (Str.ofString f)) fd
  sc : FnScope (d.names.map Str.ofString) (parN q.params) q.scope
  len : (parN q.params).length = d.params
  bind : ∀ (s : Shared) (us : List Value), us.length = (parN q.params).length → BindsTo s fd ⟨us, []⟩ ((parN q.params).zip us)
  binds : Binds K fd (parN q.params) []
  chk : chkSs p.ar p.gl ⟨d.names.map Str.ofString, q.scope, asgOf (d.names.map Str.ofString) q.scope⟩ d.body q.body = true
theorem one_def (c : He.SaysD p.fa fn K) (hc : p.chk fn = true) {f : String} {d : Def} (e : p.T f = some d) : ∃ q fd, OneDef P w K mg base p f d q fd := by
  unfold Pg.chk at hc
  rw [Bool.and_eq_true] at hc
  obtain ⟨q, hq, e1⟩ := all2_mem hc.1 _ (lookup_mem e)
  unfold chkD at e1
  simp only [Bool.and_eq_true, decide_eq_true_eq] at e1
  obtain ⟨⟨⟨⟨⟨⟨a1, a2⟩, a3⟩, a4⟩, a5⟩, a6⟩, a7⟩ := e1
  obtain ⟨i, hi, ei⟩ := List.mem_iff_getElem.mp hq
  obtain ⟨fd, F⟩ := c.def_ i (d := q) (by rw [List.getElem?_eq_getElem hi, ei])
  rw [a1] at F
  have hdv : q.dvs K = [] := by unfold He.DefD.dvs; rw [List.isEmpty_iff.mp a2]; rfl
  have hkw : q.kws K = [] := by unfold He.DefD.kws; rw [List.isEmpty_iff.mp a3]; rfl
  rw [hdv, hkw] at F
  have S := C8.fnScope_by a6
  have nd : (parN q.params).Nodup := by rw [← S.pre]; exact S.nd.sublist (List.take_sublist _ _)
  unfold plainA at a4
  simp only [Bool.and_eq_true, List.isEmpty_iff, Option.isNone_iff_eq_none] at a4
  obtain ⟨⟨⟨b1, b2⟩, b3⟩, b4⟩ := a4
  have hb : ∀ (kV doc pm : Value) (an : Option Addr) (cdv ct : Value) (us : List Value), us.length = (parN q.params).length → bindArgs (PySem.W.fnOf q.name q.qual q.params q.body q.scope .none kV doc pm an cdv ct) ⟨us, []⟩ = pure ((parN q.params).zip us) :=
    fun kV doc pm an cdv ct us hl => bind_plain b1 b2 b3 b4 rfl rfl nd hl
  exact ⟨q, fd, F, S, a5, fun s us hl => FunD.bindsA F hb s us hl, FunD.bindsN F hb, a7⟩
theorem asgOf_ok {N : List Str} {sc : Scope} {x : Str} (h : x ∈ asgOf N sc) : Loc sc x := by
  unfold asgOf at h
  have := (List.mem_filter.mp h).2
  split at this
  · exact .inl (by assumption)
  · exact .inr (by assumption)
  · cases this
/-- a def of the program: its promise at one level more -/
theorem one_step {f : String} {d : Def} {q : He.DefD} {fd : FuncData} {k : Nat} (O : OneDef P w K mg base p f d q fd) (e : p.T f = some d) (hb : ∀ x ∈ bltNames, mg x = none) (hg : ∀ f, p.gl f = true → ∃ d v u, p.G f = some d ∧ mg (Str.ofString f) = some u ∧ RelV v u ∧ ∀ ι H, RelD K ι H d v)
    (ih : ∀ f n, p.ar f = some n → ∃ (k' : Nat) (q : Addr) (fd : FuncData) (ps : List Str), FnOk P w K mg base (L2N.CX P w) k' q fd ps (spC K RX (run p.T p.G k f) n) ∧ k' ≤ k ∧ mg (Str.ofString f) = some (.ref q) ∧ PySem.W.keepIn K (.ref q) = true ∧ Binds K fd ps []) :
    FnOk P w K mg base (L2N.CX P w) (k + 1) (He.ga K (Str.ofString f)) fd (parN q.params) (spC K RX (run p.T p.G (k + 1) f) d.params) := by
  refine O.F.ok O.sc (fun vs H Q E hs => by rw [hs.1, O.len]) fun cdv A outer s H vs Q E hr hs => ?_
  obtain ⟨hl, ι, M, ds, sr, rd, hw⟩ := hs
  have hx : (cxOf (L2N.CX P w) P w K mg base (d.names.map Str.ofString) q.qual q.scope (He.ga K (Str.ofString f)) cdv A outer s H E).xe = fun e s' => wpAny (model P w) (A.deeper (envOfC q.qual q.scope s.heap.objs.size (He.ga K (Str.ofString f)) cdv)) (leaving (envOfC q.qual q.scope s.heap.objs.size (He.ga K (Str.ofString f)) cdv) e) (fun _ s'' => L2N.CX P w outer H s E e s'') (fun e' s'' => L2N.CX P w outer H s E e' s'') s' := rfl
  generalize hX : cxOf (L2N.CX P w) P w K mg base (d.names.map Str.ofString) q.qual q.scope (He.ga K (Str.ofString f)) cdv A outer s H E = X at hx
  have ck : CK ⟨run p.T p.G k, p.G, M.length⟩ := fun f ds M => kp_run k f ds M
  have g : Gs X RX ⟨run p.T p.G k, p.G, M.length⟩ p.ar p.gl k := by
    subst hX
    exact ⟨rfl, hr, ck, ih, hb, hg⟩
  have tk : L2N.Takes X (fun cls d _ H => E cls d H) := by
    subst hX
    exact L2N.takes_of (E₁ := fun e' s'' => L2N.CX P w outer H s E e' s'') rfl rfl rfl rfl
  have ft : Fit X ⟨d.names.map Str.ofString, q.scope, asgOf (d.names.map Str.ofString) q.scope⟩ := by
    subst hX
    exact ⟨rfl, O.sc.nd, rfl, fun x hx => ⟨asgOf_ok hx, .inl rfl⟩⟩
  have hp : PassesOwn (model X.prog X.w) X.A X.env X.xe := by
    subst hX
    exact L2.passes_of (K := fun e s'' => L2N.CX P w outer H s E e s'') (E₁ := fun e' s'' => L2N.CX P w outer H s E e' s'') rfl
  have hK : X.K = K := by subst hX; rfl
  have hkind : X.env.scope.kind = .function := by subst hX; exact O.sc.kind
  refine ⟨tSs X.K RX (fun cls d _ H => E cls d H) ⟨run p.T p.G k, p.G, M.length⟩ d.body, chkSs_ok d.body X _ _ q.body g tk ft hkind hp O.chk, ?_⟩
  rw [hK]
  refine ⟨init d ds, M, ι, init_env rd (by simp), sr, ?_⟩
  have hds : ds.length = d.params := by rw [rd.length, hl]
  have hrun : run p.T p.G (k + 1) f ds M = leave M.length (exs ⟨run p.T p.G k, p.G, M.length⟩ d.body (init d ds) M) := by
    conv => lhs; unfold run
    rw [e]
    simp only [hds, if_true]
  rw [hrun] at hw
  exact leave_wp sr (kp_exs (c := ⟨run p.T p.G k, p.G, M.length⟩) ck d.body _ M) hw
/-- THE PROGRAM: every def does what the evaluator says -/
theorem fns_ok (X : K.In h) (G : h.Ns mainGlobals mg) (c : He.SaysD p.fa fn K) (hc : p.chk fn = true) : ∀ (k : Nat) (f : String) (d : Def) (q : He.DefD) (fd : FuncData), p.T f = some d → OneDef P w K mg base p f d q fd →
    FnOk P w K mg base (L2N.CX P w) k (He.ga K (Str.ofString f)) fd (parN q.params) (spC K RX (run p.T p.G k f) d.params) := by
  have cf : ∀ f ∈ p.fa, f.ok K = true := fun f hf => by
    obtain ⟨i, hi, e⟩ := List.mem_iff_getElem.mp hf
    exact c.fact i (f := f) (by rw [List.getElem?_eq_getElem hi, e])
  intro k
  induction k with
  | zero =>
    intro f d q fd e O
    refine ⟨fun vs H Q E hs => by rw [hs.1, O.len], fun A outer s H args us vs Q E hr e0 hb r hs => ?_⟩
    obtain ⟨_, ι, M, ds, _, _, hw⟩ := hs
    unfold run at hw
    exact hw.elim
  | succ k ih =>
    intro f d q fd e O
    refine one_step O e (blt_none X G cf) (fun f hf => cs_at X G cf hc hf) fun f' n hn => ?_
    obtain ⟨d', hd', rfl⟩ := Option.map_eq_some_iff.mp (show (p.T f').map (·.params) = some n from hn)
    obtain ⟨q', fd', O'⟩ := one_def (P := P) (w := w) (mg := mg) (base := base) c hc hd'
    exact ⟨k, _, fd', _, ih f' d' q' fd' hd' O', Nat.le_refl _, glo_at X G cf hd', O'.F.kp, O'.binds⟩
/-- no exception is let out -/
theorem fnok_noex {k : Nat} {f : Addr} {fd : FuncData} {ps : List Str} {sp : Sp} (F : FnOk P w K mg base (L2N.CX P w) k f fd ps sp) : FnOk P w K mg base C8.CX0 k f fd ps (fun vs H Q _ => sp vs H Q fun _ _ _ => False) := by
  refine ⟨fun vs H Q E hs => F.len vs H Q _ hs, fun A outer s H args us vs Q E hr e0 hb r hs => codeAny_mono (F.run A outer s H args us vs Q _ hr e0 hb r hs) fun r s' q => ?_⟩
  cases r with
  | ok fl => cases fl <;> exact q
  | error e =>
    obtain ⟨_, _, _, _, _, _, _, _, _, _, _, _, z⟩ := q
    exact z.elim
/-- the law's promise at its call -/
theorem law_end {k : Nat} {fa : Addr} {d : Def} (X : K.In h) (G : h.Ns mainGlobals mg) (c : He.SaysD p.fa fn K) (hc : p.chk fn = true) (hfa : mg ("law" : Str) = some (.ref fa)) (hT : p.T "law" = some d) (hd : d.params = 1) (hn : d.names.take 1 = ["script"])
    (hlaw : ∀ ns : List Int, ns.length ≤ 63 → ∃ M', run p.T p.G k "law" [.ref 0] [.ro (ns.map D.int)] = .ok (.bl true) M') :
    ∃ (fd : FuncData) (sp : Sp), (∀ (s : Shared) (u : Value), BindsTo s fd ⟨[u], []⟩ [(("script" : Str), u)]) ∧
      (∀ (H : Hp) (a : Addr) (ns : List Int), ns.length ≤ 63 → Only H → SqL K H a (ns.map V.int) → sp [.ref a] H (fun v _ => v = .bl true) fun _ _ _ => False) ∧
      ∀ base : Heap, K.In base → base.Ns mainGlobals mg → FnOk P w K mg base C8.CX0 k fa fd [("script" : Str)] sp := by
  have cf : ∀ f ∈ p.fa, f.ok K = true := fun f hf => by
    obtain ⟨i, hi, e⟩ := List.mem_iff_getElem.mp hf
    exact c.fact i (f := f) (by rw [List.getElem?_eq_getElem hi, e])
  obtain ⟨q, fd, O⟩ := one_def (P := P) (w := w) (mg := mg) (base := h) c hc hT
  have e := hfa.symm.trans (glo_at X G cf hT)
  cases e
  have hps : parN q.params = [("script" : Str)] := by
    rw [← O.sc.pre, O.len, hd, ← List.map_take, hn]
    rfl
  refine ⟨fd, fun vs H Q _ => spC K (fun _ _ _ _ => False) (run p.T p.G k "law") 1 vs H Q fun _ _ _ => False, fun s u => ?_, fun H a ns hl hO hS => ?_, fun base KB GB => ?_⟩
  · have := O.bind s [u] (by rw [hps]; rfl)
    rw [hps] at this
    exact this
  · obtain ⟨M', hM⟩ := hlaw ns hl
    have ro : RoL K H a (ns.map V.int) := by
      rcases hS with (h1 | h1) | h1
      · rcases hO a with z | ⟨o, xs, z⟩
        · rw [h1] at z; cases z
        · rw [h1] at z; cases z
      · exact .inl h1
      · exact .inr h1
    refine ⟨rfl, [a], [.ro (ns.map D.int)], [.ref 0], ⟨rfl, fun i o x e1 e2 => ?_, fun i j x o o' e1 e2 e3 e4 m1 m2 => ?_, by simp, fun i o e1 => ?_⟩, ?_, ?_⟩
    · cases i with
      | zero =>
        simp at e1 e2
        subst e1 e2
        exact ⟨_, ro, relDs_ints ns⟩
      | succ i => simp at e1
    · cases i with
      | zero => simp at e3; subst e3; cases m1
      | succ i => simp at e3
    · cases i with
      | zero => simp at e1; subst e1; exact ⟨fun z => (by cases z), fun z => absurd rfl z⟩
      | succ i => simp at e1
    · simp only [RelDs, RelD]
      exact ⟨_, _, rfl, ⟨a, rfl, rfl⟩, rfl⟩
    · rw [hM]
      intro ι' H' st s1 v rv
      exact relD_bl rv
  · have F := fns_ok (P := P) (w := w) (RX := fun _ _ _ _ => False) KB GB c hc k "law" d q fd hT (by
      obtain ⟨a1, a2, a3, a4, a5, a6⟩ := O
      exact ⟨a1, a2, a3, a4, a5, a6⟩ : OneDef P w K mg base p "law" d q fd)
    rw [hps, hd] at F
    exact fnok_noex F
end
end Sk
end
section
set_option Elab.async false
set_option linter.all false
set_option autoImplicit false
set_option maxRecDepth 100000
/-! SkP: plain tools: the evaluator's equations as simp rules; loops. -/
namespace Sk
open PySem (Str)
/-- an equation that is no step of dsimp -/
theorem nrfl {α : Type} {a b : α} (h : a = b) : a = b := h
@[simp] theorem bind_ok {α β : Type} {a : α} {M : Store} {f : α → Store → Res β} : (Res.ok a M).bind f = f a M := nrfl rfl
@[simp] theorem bind_bad {α β : Type} {f : α → Store → Res β} : (Res.bad : Res α).bind f = .bad := nrfl rfl
@[simp] theorem bind_exc {α β : Type} {x : Exc} {M : Store} {f : α → Store → Res β} : (Res.exc x M : Res α).bind f = .exc x M := nrfl rfl
/-- by a truth value -/
def onBl {α : Type} (r : D) (x y : Res α) : Res α := match r with
  | .bl b => if b = true then x else y
  | _ => .bad
@[simp] theorem onBl_bl {α : Type} {b : Bool} {x y : Res α} : onBl (.bl b) x y = if b = true then x else y := nrfl rfl
@[simp] theorem if_and {p : Prop} [Decidable p] {q : Bool} {M : Store} : (if p then (Res.ok (.bl q) M : Res D) else .ok (.bl false) M) = .ok (.bl (decide p && q)) M := by
  by_cases h : p <;> simp [h]
@[simp] theorem if_or {p : Prop} [Decidable p] {q : Bool} {M : Store} : (if p then (Res.ok (.bl true) M : Res D) else .ok (.bl q) M) = .ok (.bl (decide p || q)) M := by
  by_cases h : p <;> simp [h]
@[simp] theorem if_bind {α β : Type} {p : Prop} [Decidable p] {x y : Res α} {f : α → Store → Res β} : (if p then x else y).bind f = if p then x.bind f else y.bind f := by
  by_cases h : p <;> simp [h]
/-- behind a test -/
def Res.tk {α : Type} (n : Nat) : Res α → Res α
  | .ok b M => .ok b (M.take n)
  | .exc x M => .exc x (M.take n)
  | .bad => .bad
@[simp] theorem tk_ok {α : Type} {n : Nat} {a : α} {M : Store} : (Res.ok a M).tk n = .ok a (M.take n) := nrfl rfl
section
variable {c : Cx} {ρ : Env} {M : Store} {d : D} {i : Nat} {a b e : E} {es : List E} {x : String}
@[simp] theorem e_var (h : ρ[i]? = some (some d)) : ev c (.var i) ρ M = .ok d M := by rw [ev, h]
@[simp] theorem e_cst : ev c (.cst d) ρ M = .ok d M := by rw [ev]
@[simp] theorem e_glb (h : c.glob x = some d) : ev c (.glb x) ρ M = .ok d M := by rw [ev, h]
@[simp] theorem e_bin {o : BOp} : ev c (.bin o a b) ρ M = (ev c a ρ M).bind fun x M1 => (ev c b ρ M1).bind fun y M2 => binD o x y M2 := by rw [ev]
@[simp] theorem e_cmp {o : COp} : ev c (.cmp o a b) ρ M = (ev c a ρ M).bind fun x M1 => (ev c b ρ M1).bind fun y M2 => cmpD o x y M2 := by rw [ev]
@[simp] theorem e_chain {o p : COp} : ev c (.chain o p a b e) ρ M = (ev c a ρ M).bind fun x M1 => (ev c b ρ M1).bind fun y M2 => (cmpD o x y M2).bind fun r M3 => onBl r ((ev c e ρ M3).bind fun z M4 => cmpD p y z M4) (.ok (.bl false) M3) := by
  rw [ev]
  congr 1; funext x M1; congr 1; funext y M2; congr 1; funext r M3
  cases r with
  | bl b => cases b <;> rfl
  | _ => rfl
@[simp] theorem e_and : ev c (.and a b) ρ M = (ev c a ρ M).bind fun x M1 => (truthR x M1).bind fun t M2 => if t = true then ev c b ρ M2 else .ok x M2 := by rw [ev]
@[simp] theorem e_or : ev c (.or a b) ρ M = (ev c a ρ M).bind fun x M1 => (truthR x M1).bind fun t M2 => if t = true then .ok x M2 else ev c b ρ M2 := by rw [ev]
@[simp] theorem e_not : ev c (.not a) ρ M = (ev c a ρ M).bind fun x M1 => (truthR x M1).bind fun t M2 => .ok (.bl (!t)) M2 := by rw [ev]
@[simp] theorem e_ite : ev c (.ite e a b) ρ M = (ev c e ρ M).bind fun x M1 => (truthR x M1).bind fun t M2 => if t = true then ev c a ρ M2 else ev c b ρ M2 := by rw [ev]
@[simp] theorem e_tup : ev c (.tup es) ρ M = (evs c es ρ M).bind fun xs M1 => .ok (.tup xs) M1 := by rw [ev]
@[simp] theorem e_lst : ev c (.lst es) ρ M = (evs c es ρ M).bind fun xs M1 => alloc M1 (.lst xs) := by rw [ev]
@[simp] theorem e_dct : ev c (.dct false) ρ M = alloc M (.dk []) := by rw [ev] <;> rfl
@[simp] theorem e_ix : ev c (.ix a b) ρ M = (ev c a ρ M).bind fun x M1 => (ev c b ρ M1).bind fun y M2 => ixD x y M2 := by rw [ev]
@[simp] theorem e_slc : ev c (.slc a) ρ M = (ev c a ρ M).bind fun x M1 => slcD x none none M1 := by rw [ev]
@[simp] theorem e_slcL : ev c (.slcL a b) ρ M = (ev c a ρ M).bind fun x M1 => (ev c b ρ M1).bind fun l M2 => match l with
    | .int i => slcD x (some i) none M2
    | _ => .bad := by rw [ev] <;> rfl
@[simp] theorem e_slcU : ev c (.slcU a b) ρ M = (ev c a ρ M).bind fun x M1 => (ev c b ρ M1).bind fun h M2 => match h with
    | .int i => slcD x none (some i) M2
    | _ => .bad := by rw [ev] <;> rfl
@[simp] theorem e_slcLU : ev c (.slcLU a b e) ρ M = (ev c a ρ M).bind fun x M1 => (ev c b ρ M1).bind fun l M2 => (match l with
    | .int i => (ev c e ρ M2).bind fun h M3 => match h with
      | .int j => slcD x (some i) (some j) M3
      | _ => .bad
    | _ => .bad) := by rw [ev] <;> rfl
@[simp] theorem e_call {f : String} : ev c (.call f es) ρ M = (evs c es ρ M).bind fun xs M1 => c.call f xs M1 := by rw [ev]
@[simp] theorem e_blt {f : Blt} : ev c (.blt f es) ρ M = (evs c es ρ M).bind fun xs M1 => bltD f xs M1 := by rw [ev]
@[simp] theorem e_mth {m : Mth} : ev c (.mth m a es) ρ M = (ev c a ρ M).bind fun x M1 => if tyM m M1 x = true then (evs c es ρ M1).bind fun xs M2 => mthD m x xs M2 else .bad := by rw [ev]
@[simp] theorem e_isi {t : String} : ev c (.isi a [t]) ρ M = (ev c a ρ M).bind fun x M1 => optB M1 (isiD M1 x t) := by rw [ev]
@[simp] theorem e_lc {tg : Tg} {k : Ik} {its ifs : List E} {own : List Nat} : ev c (.lc e tg k its ifs own) ρ M = (evs c its ρ M).bind fun ds M1 => (walkG M.length k ds M1).bind fun (xs, w) M2 => if xs.length ≤ lim then
      (lcW (w.map fun i => (i, xs)) (fun x M3 => match assignT M3 tg x (wipe ρ own) with
        | none => .bad
        | some ρ1 => noExc ((evt c ifs ρ1 M3).bind fun t M4 => if t = true then ((ev c e ρ1 M4).gc M4.length).bind fun y M5 => .ok (some y) M5 else .ok none M4)) xs M2).bind fun ys M3 => alloc M3 (.lst ys) else .bad := by rw [ev] <;> rfl
@[simp] theorem es_nil : evs c [] ρ M = .ok [] M := by rw [evs]
@[simp] theorem es_cons : evs c (e :: es) ρ M = (ev c e ρ M).bind fun x M1 => (evs c es ρ M1).bind fun xs M2 => .ok (x :: xs) M2 := by rw [evs]
@[simp] theorem et_nil : evt c [] ρ M = .ok true M := by rw [evt]
@[simp] theorem et_cons : evt c (e :: es) ρ M = ((ev c e ρ M).bind truthR).bind fun t M1 => if t = true then evt c es ρ (M1.take M.length) else .ok false (M1.take M.length) := by rw [evt]
end

section
variable {c : Cx} {ρ : Env} {M : Store} {d : D} {i : Nat} {a b e : E} {es : List E} {s : S} {ss us : List S}
@[simp] theorem gb_def : evb c e ρ M = ((ev c e ρ M).bind truthR).tk M.length := by
  unfold evb Res.tk
  cases (ev c e ρ M).bind truthR <;> rfl
@[simp] theorem gg_def : evg c e ρ M = (ev c e ρ M).gc M.length := nrfl rfl
@[simp] theorem x_set : ex c (.set i e) ρ M = (evg c e ρ M).out ρ fun d M1 => .nx (ρ.set i (some d)) M1 := by rw [ex]
@[simp] theorem x_unp {is : List Nat} : ex c (.unp is e) ρ M = (evg c e ρ M).out ρ fun d M1 => match assignT M1 (.many is) d ρ with
    | some ρ1 => .nx ρ1 M1
    | none => .bad := by rw [ex] <;> rfl
@[simp] theorem x_put : ex c (.put a b e) ρ M = (evg c a ρ M).out ρ fun x M1 => (ev c b ρ M1).out ρ fun o M2 => (ev c e ρ M2).out ρ fun k M3 => (match o with
    | .ref n => if okIn c n x = true then (match putD n k x M3 with
      | some M4 => .nx ρ (M4.take M1.length)
      | none => .bad) else .bad
    | _ => .bad) := by rw [ex] <;> rfl
@[simp] theorem x_app : ex c (.app b e) ρ M = (ev c b ρ M).out ρ fun a M1 => if isLst M1 a = true ∧ M1.length = M.length then (evg c e ρ M1).out ρ fun x M2 => (match a with
    | .ref n => (match M2[n]? with
      | some (.lst xs) => if xs.length < lim ∧ okIn c n x = true then .nx ρ (M2.set n (.lst (xs ++ [x]))) else .bad
      | _ => .bad)
    | _ => .bad) else .bad := by rw [ex] <;> rfl
@[simp] theorem x_ext : ex c (.ext b e) ρ M = (ev c b ρ M).out ρ fun a M1 => if isLst M1 a = true then (ev c e ρ M1).out ρ fun b M2 => (match a, b with
    | .ref n, .ref m => (match M2[n]?, M2[m]? with
      | some (.lst xs), some (.lst ys) => if xs.length + ys.length ≤ lim ∧ D.pures ys = true ∧ n < M.length then .nx ρ ((M2.set n (.lst (xs ++ ys))).take M.length) else .bad
      | _, _ => .bad)
    | _, _ => .bad) else .bad := by rw [ex] <;> rfl
@[simp] theorem x_ret : ex c (.ret e) ρ M = (evg c e ρ M).out ρ fun d M1 => .rt d M1 := by rw [ex]
@[simp] theorem x_retN : ex c .retN ρ M = .rt .non M := by rw [ex]
@[simp] theorem x_exp : ex c (.exp e) ρ M = (evg c e ρ M).out ρ fun _ M1 => .nx ρ M1 := by rw [ex]
@[simp] theorem x_iff : ex c (.iff e ss us) ρ M = (evb c e ρ M).outB ρ fun k M1 => if k = true then exs c ss ρ M1 else exs c us ρ M1 := by rw [ex]
@[simp] theorem x_brk : ex c .brk ρ M = .bk ρ M := by rw [ex]
@[simp] theorem x_cnt : ex c .cnt ρ M = .ct ρ M := by rw [ex]
@[simp] theorem x_pass : ex c .pass ρ M = .nx ρ M := by rw [ex]
theorem x_for {tg : Tg} {k : Ik} {its : List E} {kill : List Nat} : ex c (.for tg k its ss kill) ρ M = (match (evs c its ρ M).bind (walkG M.length k) with
    | .ok (xs, w) M1 => forL (w.map fun i => (i, xs)) (fun x ρ1 M2 => match assignT M2 tg x ρ1 with
      | some ρ2 => (exs c ss ρ2 M2).kill kill
      | none => .bad) xs (wipe ρ kill) M1
    | .exc x M1 => .exc x ρ (M1.take M.length)
    | .bad => .bad) := by rw [ex] <;> rfl
theorem x_for' {tg : Tg} {k : Ik} {its : List E} {kill : List Nat} {xs : List D} {w : Option Nat} {M1 : Store} (h : (evs c its ρ M).bind (walkG M.length k) = .ok (xs, w) M1) : ex c (.for tg k its ss kill) ρ M = forL (w.map fun i => (i, xs)) (fun x ρ1 M2 => match assignT M2 tg x ρ1 with
      | some ρ2 => (exs c ss ρ2 M2).kill kill
      | none => .bad) xs (wipe ρ kill) M1 := by
  rw [x_for, h]
@[simp] theorem xs_nil : exs c [] ρ M = .nx ρ M := by rw [exs]
@[simp] theorem xs_cons : exs c (s :: ss) ρ M = (ex c s ρ M).andThen fun ρ1 M1 => exs c ss ρ1 M1 := by rw [exs]
@[simp] theorem an_nx {f : Env → Store → Out} : (Out.nx ρ M).andThen f = f ρ M := nrfl rfl
@[simp] theorem an_rt {f : Env → Store → Out} : (Out.rt d M).andThen f = .rt d M := nrfl rfl
@[simp] theorem an_bk {f : Env → Store → Out} : (Out.bk ρ M).andThen f = .bk ρ M := nrfl rfl
@[simp] theorem an_ct {f : Env → Store → Out} : (Out.ct ρ M).andThen f = .ct ρ M := nrfl rfl
@[simp] theorem ou_ok {f : D → Store → Out} : (Res.ok d M).out ρ f = f d M := nrfl rfl
@[simp] theorem ob_ok {f : Bool → Store → Out} {k : Bool} : (Res.ok k M).outB ρ f = f k M := nrfl rfl
theorem if_out {p : Prop} [Decidable p] {x y : Res D} {f : D → Store → Out} : (if p then x else y).out ρ f = if p then x.out ρ f else y.out ρ f := by
  by_cases h : p <;> simp [h]
theorem if_then {p : Prop} [Decidable p] {x y : Out} {f : Env → Store → Out} : (if p then x else y).andThen f = if p then x.andThen f else y.andThen f := by
  by_cases h : p <;> simp [h]
@[simp] theorem ki_nx {ks : List Nat} : (Out.nx ρ M).kill ks = .nx (wipe ρ ks) M := nrfl rfl
@[simp] theorem ki_rt {ks : List Nat} : (Out.rt d M).kill ks = .rt d M := nrfl rfl
@[simp] theorem ki_bk {ks : List Nat} : (Out.bk ρ M).kill ks = .bk (wipe ρ ks) M := nrfl rfl
@[simp] theorem ki_ct {ks : List Nat} : (Out.ct ρ M).kill ks = .ct (wipe ρ ks) M := nrfl rfl
@[simp] theorem wi_nil : wipe ρ [] = ρ := nrfl rfl
@[simp] theorem wi_cons {v : Nat} {vs : List Nat} : wipe ρ (v :: vs) = (wipe ρ vs).set v none := nrfl rfl
@[simp] theorem sm_nil : setMany ρ [] [] = some ρ := nrfl rfl
@[simp] theorem sm_cons {is : List Nat} {ds : List D} : setMany ρ (i :: is) (d :: ds) = setMany (ρ.set i (some d)) is ds := nrfl rfl
@[simp] theorem as_one : assignT M (.one i) d ρ = some (ρ.set i (some d)) := nrfl rfl
@[simp] theorem as_many {is : List Nat} {xs : List D} : assignT M (.many is) (.tup xs) ρ = setMany ρ is xs := nrfl rfl
@[simp] theorem gc_bad {n : Nat} : Res.gc n .bad = .bad := nrfl rfl
/-- forgetting behind an expression that made nothing -/
@[simp] theorem gc_bl {n : Nat} {b : Bool} : Res.gc n (.ok (.bl b) M) = .ok (.bl b) (M.take n) := by simp [Res.gc, gc, D.pure]
@[simp] theorem gc_int {n : Nat} {j : Int} : Res.gc n (.ok (.int j) M) = .ok (.int j) (M.take n) := by simp [Res.gc, gc, D.pure]
@[simp] theorem gc_str {n : Nat} {j : Str} : Res.gc n (.ok (.str j) M) = .ok (.str j) (M.take n) := by simp [Res.gc, gc, D.pure]
@[simp] theorem gc_non {n : Nat} : Res.gc n (.ok .non M) = .ok .non (M.take n) := by simp [Res.gc, gc, D.pure]
@[simp] theorem lc_bl {n : Nat} {b : Bool} : gc n (.bl b) M = .ok (.bl b) (M.take n) := by simp [gc, D.pure]
@[simp] theorem lc_int {n : Nat} {j : Int} : gc n (.int j) M = .ok (.int j) (M.take n) := by simp [gc, D.pure]
@[simp] theorem lc_str {n : Nat} {j : Str} : gc n (.str j) M = .ok (.str j) (M.take n) := by simp [gc, D.pure]
@[simp] theorem lc_non {n : Nat} : gc n .non M = .ok .non (M.take n) := by simp [gc, D.pure]
@[simp] theorem lc_pure {n : Nat} (h : d.pure = true) : gc n d M = .ok d (M.take n) := by simp [gc, h]
theorem lc_cut {t : Store} (h : d.pure = true) : gc M.length d (M ++ t) = .ok d M := by simp [gc, h]
theorem lc_new {o : O} (h : o.pure = true) : gc M.length (.ref M.length) (M ++ [o]) = .ok (.ref M.length) (M ++ [o]) := by
  simp [gc, D.pure, h]
@[simp] theorem gc_same {n : Nat} (h : d.pure = true) : Res.gc n (.ok d M) = .ok d (M.take n) := by
  simp [Res.gc, gc, h]
theorem gc_pure {t : Store} (h : d.pure = true) : Res.gc M.length (.ok d (M ++ t)) = .ok d M := by
  simp [Res.gc, gc, h]
theorem gc_ref {j : Nat} (h : j < M.length) : Res.gc M.length (.ok (.ref j) M) = .ok (.ref j) M := by
  simp [Res.gc, gc, D.pure, h]
theorem gc_new {o : O} (h : o.pure = true) : Res.gc M.length (.ok (.ref M.length) (M ++ [o])) = .ok (.ref M.length) (M ++ [o]) := by
  simp [Res.gc, gc, D.pure, h]
end
@[simp] theorem le_rt {n : Nat} {d : D} {M : Store} : leave n (.rt d M) = gc n d M := nrfl rfl
@[simp] theorem le_nx {n : Nat} {ρ : Env} {M : Store} : leave n (.nx ρ M) = .ok .non (M.take n) := nrfl rfl
theorem run_s {T : String → Option Def} {G : String → Option D} {k : Nat} {f : String} {vs : List D} {M : Store} {d : Def} (h : T f = some d) (hl : vs.length = d.params) :
    run T G (k + 1) f vs M = leave M.length (exs ⟨run T G k, G, M.length⟩ d.body (init d vs) M) := by
  conv => lhs; unfold run
  rw [h]
  simp only [hl, if_true]

/-! ### loops -/
section
variable {St : Type} {env : St → Env} {sto : St → Store} {w : Option (Nat × List D)} {body : D → Env → Store → Out}
/-- a for whose body always comes to its end -/
theorem forL_go (step : St → D → St) (Ok : St → Prop) : ∀ (xs : List D) (s : St), Ok s → (∀ s, Ok s → stands w (sto s)) → (∀ s x, x ∈ xs → Ok s → body x (env s) (sto s) = .nx (env (step s x)) (sto (step s x)) ∧ Ok (step s x)) →
    forL w body xs (env s) (sto s) = .nx (env (xs.foldl step s)) (sto (xs.foldl step s)) ∧ Ok (xs.foldl step s)
  | [], s, h, hs, hb => by
    unfold forL
    rw [if_pos (hs s h)]
    exact ⟨rfl, h⟩
  | x :: xs, s, h, hs, hb => by
    obtain ⟨e, h2⟩ := hb s x List.mem_cons_self h
    unfold forL
    rw [if_pos (hs s h), e]
    exact forL_go step Ok xs (step s x) h2 hs fun s y hy => hb s y (List.mem_cons_of_mem _ hy)
end
theorem fl_cons {w : Option (Nat × List D)} {body : D → Env → Store → Out} {x : D} {xs : List D} {ρ ρ' : Env} {M M' : Store} (hs : stands w M) (h : body x ρ M = .nx ρ' M') : forL w body (x :: xs) ρ M = forL w body xs ρ' M' := by
  conv => lhs; unfold forL
  rw [if_pos hs, h]
theorem fl_ret {w : Option (Nat × List D)} {body : D → Env → Store → Out} {x d : D} {xs : List D} {ρ : Env} {M M' : Store} (hs : stands w M) (h : body x ρ M = .rt d M') : forL w body (x :: xs) ρ M = .rt d M' := by
  conv => lhs; unfold forL
  rw [if_pos hs, h]
theorem fl_nil {w : Option (Nat × List D)} {body : D → Env → Store → Out} {ρ : Env} {M : Store} (hs : stands w M) : forL w body [] ρ M = .nx ρ M := by
  unfold forL
  rw [if_pos hs]
/-- a for by an invariant -/
theorem forL_inv {w : Option (Nat × List D)} {body : D → Env → Store → Out} (P : Nat → Env → Store → Prop) {xs : List D} (hs : ∀ i ρ M, P i ρ M → stands w M) (hb : ∀ i x ρ M, xs[i]? = some x → P i ρ M → ∃ ρ' M', body x ρ M = .nx ρ' M' ∧ P (i + 1) ρ' M') :
    ∀ (i : Nat) (l : List D) (ρ : Env) (M : Store), xs.drop i = l → P i ρ M → ∃ ρ' M', forL w body l ρ M = .nx ρ' M' ∧ P (i + l.length) ρ' M'
  | i, [], ρ, M, _, h => by
    unfold forL
    rw [if_pos (hs i ρ M h)]
    exact ⟨ρ, M, rfl, h⟩
  | i, x :: l, ρ, M, e, h => by
    have hx : xs[i]? = some x := by
      have := congrArg List.head? e
      rw [List.head?_drop] at this
      exact this
    have hl : xs.drop (i + 1) = l := by
      have := congrArg List.tail e
      rw [List.tail_drop] at this
      exact this
    obtain ⟨ρ1, M1, e1, h1⟩ := hb i x ρ M hx h
    unfold forL
    rw [if_pos (hs i ρ M h), e1]
    obtain ⟨ρ2, M2, e2, h2⟩ := forL_inv P hs hb (i + 1) l ρ1 M1 hl h1
    refine ⟨ρ2, M2, e2, ?_⟩
    rw [List.length_cons, show i + (l.length + 1) = i + 1 + l.length by omega]
    exact h2
/-- .. from the start -/
theorem forL_all {w : Option (Nat × List D)} {body : D → Env → Store → Out} (P : Nat → Env → Store → Prop) {xs : List D} {ρ : Env} {M : Store} (h0 : P 0 ρ M) (hs : ∀ i ρ M, P i ρ M → stands w M) (hb : ∀ i x ρ M, xs[i]? = some x → P i ρ M → ∃ ρ' M', body x ρ M = .nx ρ' M' ∧ P (i + 1) ρ' M') :
    ∃ ρ' M', forL w body xs ρ M = .nx ρ' M' ∧ P xs.length ρ' M' := by
  have := forL_inv P hs hb 0 xs ρ M (by simp) h0
  simpa using this
theorem rngL (lo : Int) (n : Nat) : (rngD lo n).length = n := by simp [rngD]
theorem rngG {lo : Int} {n i : Nat} {d : D} (h : (rngD lo n)[i]? = some d) : i < n ∧ d = .int (lo + i) := by
  unfold rngD at h
  rw [List.getElem?_map] at h
  cases e : (List.range n)[i]? with
  | none => rw [e] at h; cases h
  | some j =>
    rw [e] at h
    have hi : i < n := by have := (List.getElem?_eq_some_iff.mp e).1; simpa using this
    rw [List.getElem?_range hi] at e
    cases e
    cases h
    exact ⟨hi, rfl⟩
def endF (o : Option D) (ρ : Env) (M : Store) : Out := match o with
  | some d => .rt d M
  | none => .nx ρ M
@[simp] theorem endF_some {d : D} {ρ : Env} {M : Store} : endF (some d) ρ M = .rt d M := nrfl rfl
@[simp] theorem endF_none {ρ : Env} {M : Store} : endF none ρ M = .nx ρ M := nrfl rfl
/-- a for that leaves all as it is, or returns at the first item that f tells -/
theorem forL_find {ρ : Env} {M : Store} {w : Option (Nat × List D)} {body : D → Env → Store → Out} (f : D → Option D) (hs : stands w M) : ∀ (xs : List D), (∀ x ∈ xs, body x ρ M = endF (f x) ρ M) → forL w body xs ρ M = endF (xs.findSome? f) ρ M
  | [], _ => by
    unfold forL
    rw [if_pos hs]; rfl
  | x :: xs, h => by
    have e := h x List.mem_cons_self
    unfold forL
    rw [if_pos hs, e, List.findSome?_cons]
    cases f x with
    | some d => rfl
    | none => exact forL_find f hs xs fun y hy => h y (List.mem_cons_of_mem _ hy)
/-- a comprehension whose block makes nothing that stays -/
theorem lcW_go {M : Store} {w : Option (Nat × List D)} {blk : D → Store → Res (Option D)} (g : D → Option D) (hs : stands w M) : ∀ (xs : List D), (∀ x ∈ xs, blk x M = .ok (g x) M) → lcW w blk xs M = .ok (xs.filterMap g) M
  | [], _ => by unfold lcW; rw [if_pos hs]; rfl
  | x :: xs, h => by
    unfold lcW
    rw [if_pos hs, h x List.mem_cons_self]
    simp only [Res.bind]
    rw [lcW_go g hs xs fun y hy => h y (List.mem_cons_of_mem _ hy)]
    simp only [Res.bind]
    rw [List.filterMap_cons]
    cases g x <;> rfl
/-- a comprehension, its tests and its items told one by one -/
theorem e_lc_go {c : Cx} {ρ : Env} {M M2 : Store} {e : E} {tg : Tg} {k : Ik} {its ifs : List E} {own : List Nat} {xs : List D} {w : Option Nat} (g : D → Option D) (hi : (evs c its ρ M).bind (walkG M.length k) = .ok (xs, w) M2) (hl : xs.length ≤ lim) (hs : stands (w.map fun i => (i, xs)) M2)
    (hb : ∀ x ∈ xs, ∃ ρ1, assignT M2 tg x (wipe ρ own) = some ρ1 ∧ ∃ t, evt c ifs ρ1 M2 = .ok t M2 ∧ (if t = true then ∃ y, (ev c e ρ1 M2).gc M2.length = .ok y M2 ∧ g x = some y else g x = none)) :
    ev c (.lc e tg k its ifs own) ρ M = .ok (.ref M2.length) (M2 ++ [.lst (xs.filterMap g)]) := by
  have e1 : (evs c its ρ M).bind (fun ds M1 => (walkG M.length k ds M1).bind fun (xs, w) M2 => if xs.length ≤ lim then
      (lcW (w.map fun i => (i, xs)) (fun x M3 => match assignT M3 tg x (wipe ρ own) with
        | none => .bad
        | some ρ1 => noExc ((evt c ifs ρ1 M3).bind fun t M4 => if t = true then ((ev c e ρ1 M4).gc M4.length).bind fun y M5 => .ok (some y) M5 else .ok none M4)) xs M2).bind fun ys M3 => alloc M3 (.lst ys) else .bad) = _ := rfl
  have hlc := lcW_go (blk := fun x M3 => match assignT M3 tg x (wipe ρ own) with
        | none => .bad
        | some ρ1 => noExc ((evt c ifs ρ1 M3).bind fun t M4 => if t = true then ((ev c e ρ1 M4).gc M4.length).bind fun y M5 => .ok (some y) M5 else .ok none M4)) g hs xs fun x hx => by
    obtain ⟨ρ1, h1, t, h2, h3⟩ := hb x hx
    simp only [h1, h2, bind_ok]
    cases t with
    | true =>
      obtain ⟨y, h4, h5⟩ := h3
      simp only [if_true, h4, bind_ok, h5]
      rfl
    | false =>
      have h3 : g x = none := h3
      simp only [Bool.false_eq_true, if_false, h3]
      rfl
  rw [e_lc]
  cases ei : evs c its ρ M with
  | ok ds M1 =>
    rw [ei] at hi
    simp only [bind_ok] at hi ⊢
    rw [hi]
    simp only [bind_ok]
    rw [if_pos hl, hlc]
    rfl
  | exc x M1 => rw [ei] at hi; cases hi
  | bad => rw [ei] at hi; cases hi
/-- .. without tests -/
theorem e_lc_map {c : Cx} {ρ : Env} {M M2 : Store} {e : E} {tg : Tg} {k : Ik} {its : List E} {own : List Nat} {xs : List D} {w : Option Nat} (f : D → D) (hi : (evs c its ρ M).bind (walkG M.length k) = .ok (xs, w) M2) (hl : xs.length ≤ lim) (hs : stands (w.map fun i => (i, xs)) M2)
    (hb : ∀ x ∈ xs, ∃ ρ1, assignT M2 tg x (wipe ρ own) = some ρ1 ∧ (ev c e ρ1 M2).gc M2.length = .ok (f x) M2) :
    ev c (.lc e tg k its [] own) ρ M = .ok (.ref M2.length) (M2 ++ [.lst (xs.map f)]) := by
  rw [e_lc_go (fun x => some (f x)) hi hl hs fun x hx => ?_]
  · rw [List.filterMap_eq_map']
  · obtain ⟨ρ1, h1, h2⟩ := hb x hx
    exact ⟨ρ1, h1, true, et_nil, f x, h2, rfl⟩
@[simp] theorem stands_none {M : Store} : stands none M := trivial
end Sk
end
section
set_option Elab.async false
set_option linter.all false
set_option autoImplicit false
set_option maxRecDepth 100000
/-! SkP2: plain tools: data on their forms. -/
namespace Sk
open PySem (Str)
@[simp] theorem take_snoc {α : Type} {l : List α} {x : α} : List.take (l.length + 1) (l ++ [x]) = l ++ [x] := List.take_of_length_le (by simp)
section
variable {M : Store} {i j : Int} {s t : Str} {b b' : Bool} {xs ys : List D} {d : D}
@[simp] theorem tr_bl : truthR (.bl b) M = .ok b M := nrfl rfl
@[simp] theorem tr_int : truthR (.int i) M = .ok (i != 0) M := nrfl rfl
@[simp] theorem b_add : binD .add (.int i) (.int j) M = .ok (.int (i + j)) M := nrfl rfl
@[simp] theorem b_sub : binD .sub (.int i) (.int j) M = .ok (.int (i - j)) M := nrfl rfl
theorem b_mul (h : okMul i j = true) : binD .mul (.int i) (.int j) M = .ok (.int (i * j)) M := by simp [binD, mulD, h]
theorem b_fdiv (h : okDiv j = true) : binD .fdiv (.int i) (.int j) M = .ok (.int (i / j)) M := by simp [binD, h]
theorem b_mod (h : 0 < j) : binD .mod (.int i) (.int j) M = .ok (.int (i % j)) M := by simp [binD, h]
theorem b_pow (h : okPow i j = true) : binD .pow (.int i) (.int j) M = .ok (.int (i ^ j.toNat)) M := by simp [binD, h]
theorem b_cat (h : xs.length + ys.length ≤ lim) : binD .add (.tup xs) (.tup ys) M = .ok (.tup (xs ++ ys)) M := by simp [binD, addD, h]
theorem b_str (h : s.length + t.length ≤ lim) : binD .add (.str s) (.str t) M = .ok (.str (s ++ t)) M := by simp [binD, addD, h]
theorem b_lst {p q : Nat} (hp : M[p]? = some (.lst xs)) (hq : M[q]? = some (.lst ys)) (h : xs.length + ys.length ≤ lim) : binD .add (.ref p) (.ref q) M = .ok (.ref M.length) (M ++ [.lst (xs ++ ys)]) := by simp [binD, addD, hp, hq, h, alloc]
@[simp] theorem q_ii : eqM M (.int i) (.int j) = some (i == j) := by simp [eqM, D.pure, D.dle, D.eqv]
@[simp] theorem q_ss : eqM M (.str s) (.str t) = some (s == t) := by simp [eqM, D.pure, D.dle, D.eqv]
@[simp] theorem q_bb : eqM M (.bl b) (.bl b') = some (b == b') := by simp [eqM, D.pure, D.dle, D.eqv]
@[simp] theorem c_eq_ii : cmpD .eq (.int i) (.int j) M = .ok (.bl (i == j)) M := by simp [cmpD, optB]
@[simp] theorem c_ne_ii : cmpD .ne (.int i) (.int j) M = .ok (.bl (!(i == j))) M := by simp [cmpD, optB]
@[simp] theorem c_eq_ss : cmpD .eq (.str s) (.str t) M = .ok (.bl (s == t)) M := by simp [cmpD, optB]
@[simp] theorem c_ne_ss : cmpD .ne (.str s) (.str t) M = .ok (.bl (!(s == t))) M := by simp [cmpD, optB]
@[simp] theorem c_eq_bb : cmpD .eq (.bl b) (.bl b') M = .ok (.bl (b == b')) M := by simp [cmpD, optB]
@[simp] theorem c_lt : cmpD .lt (.int i) (.int j) M = .ok (.bl (decide (i < j))) M := by simp [cmpD, okLt, D.alike, D.isNon, D.pure, D.dle, D.lt]
@[simp] theorem c_gt : cmpD .gt (.int i) (.int j) M = .ok (.bl (decide (j < i))) M := by simp [cmpD, okLt, D.alike, D.isNon, D.pure, D.dle, D.lt]
@[simp] theorem c_le : cmpD .le (.int i) (.int j) M = .ok (.bl (decide (i ≤ j))) M := by
  simp only [cmpD, okLt, D.alike, D.isNon, D.pure, D.dle, D.lt]
  simp
  by_cases h : j < i <;> simp [h] <;> omega
@[simp] theorem c_ge : cmpD .ge (.int i) (.int j) M = .ok (.bl (decide (j ≤ i))) M := by
  simp only [cmpD, okLt, D.alike, D.isNon, D.pure, D.dle, D.lt]
  simp
  by_cases h : i < j <;> simp [h] <;> omega
@[simp] theorem c_is : cmpD .is d .non M = .ok (.bl d.isNon) M := nrfl rfl
@[simp] theorem c_isnot : cmpD .isnot d .non M = .ok (.bl (!d.isNon)) M := nrfl rfl
@[simp] theorem n_int : D.isNon (.int i) = false := nrfl rfl
@[simp] theorem n_str : D.isNon (.str s) = false := nrfl rfl
@[simp] theorem n_bl : D.isNon (.bl b) = false := nrfl rfl
@[simp] theorem n_tup : D.isNon (.tup xs) = false := nrfl rfl
@[simp] theorem n_ref {n : Nat} : D.isNon (.ref n) = false := nrfl rfl
@[simp] theorem n_non : D.isNon .non = true := nrfl rfl
@[simp] theorem p_int : D.pure (.int i) = true := by simp [D.pure]
@[simp] theorem p_str : D.pure (.str s) = true := by simp [D.pure]
@[simp] theorem p_bl : D.pure (.bl b) = true := by simp [D.pure]
@[simp] theorem p_non : D.pure .non = true := by simp [D.pure]
@[simp] theorem p_tup : D.pure (.tup xs) = D.pures xs := by simp [D.pure]
@[simp] theorem p_ref {n : Nat} : D.pure (.ref n) = false := by simp [D.pure]
@[simp] theorem ps_nil : D.pures [] = true := by simp [D.pures]
@[simp] theorem ps_cons : D.pures (d :: xs) = (d.pure && D.pures xs) := by simp [D.pures]
@[simp] theorem le_int : D.dle (.int i) 50 = true := by simp [D.dle]
theorem ps_app : D.pures (xs ++ ys) = (D.pures xs && D.pures ys) := by
  induction xs with
  | nil => simp
  | cons x xs ih => simp [ih, Bool.and_assoc]
theorem ps_all : D.pures xs = xs.all D.pure := by
  induction xs with
  | nil => simp
  | cons x xs ih => simp [ih]
theorem ps_mem (h : ∀ x ∈ xs, x.pure = true) : D.pures xs = true := by rw [ps_all, List.all_eq_true]; exact h
/-- the item at a place that is there -/
theorem ixN_nat {n k : Nat} (h : k < n) : ixN n (k : Int) = some k := by
  have h1 : ¬ (k : Int) < 0 := by omega
  simp [ixN, h1, h]
theorem atI_nat {α : Type} {l : List α} {k : Nat} (h : k < l.length) : atI l (k : Int) = l[k]? := by
  unfold atI
  rw [ixN_nat h]
theorem atI_of {α : Type} {l : List α} {i : Int} (h0 : 0 ≤ i) (h : i < l.length) : atI l i = l[i.toNat]? := by
  have e : i = (i.toNat : Int) := by omega
  conv => lhs; rw [e]
  exact atI_nat (by omega)
theorem ix_tup (h0 : 0 ≤ i) (h : i < xs.length) : ixD (.tup xs) (.int i) M = .ok (xs[i.toNat]'(by omega)) M := by
  simp only [ixD]
  rw [atI_of h0 h, List.getElem?_eq_getElem (by omega)]
theorem ix_lst {p : Nat} (hp : M[p]? = some (.lst xs)) (h0 : 0 ≤ i) (h : i < xs.length) : ixD (.ref p) (.int i) M = .ok (xs[i.toNat]'(by omega)) M := by
  simp only [ixD, hp, ixL]
  rw [atI_of h0 h, List.getElem?_eq_getElem (by omega)]
theorem ix_ro {p : Nat} (hp : M[p]? = some (.ro xs)) (h0 : 0 ≤ i) (h : i < xs.length) : ixD (.ref p) (.int i) M = .ok (xs[i.toNat]'(by omega)) M := by
  simp only [ixD, hp, ixL]
  rw [atI_of h0 h, List.getElem?_eq_getElem (by omega)]
@[simp] theorem f_len_s : bltD .len [.str s] M = .ok (.int s.length) M := nrfl rfl
@[simp] theorem f_len_t : bltD .len [.tup xs] M = .ok (.int xs.length) M := nrfl rfl
theorem f_len_l {p : Nat} (hp : M[p]? = some (.lst xs)) : bltD .len [.ref p] M = .ok (.int xs.length) M := by simp [bltD, lenM, hp]
theorem f_len_r {p : Nat} (hp : M[p]? = some (.ro xs)) : bltD .len [.ref p] M = .ok (.int xs.length) M := by simp [bltD, lenM, hp]
@[simp] theorem f_abs : bltD .abs [.int i] M = .ok (.int (if i < 0 then -i else i)) M := nrfl rfl
@[simp] theorem f_int : bltD .int [.int i] M = .ok (.int i) M := nrfl rfl
theorem f_tup {p : Nat} (hp : M[p]? = some (.lst xs)) : bltD .tuple [.ref p] M = .ok (.tup xs) M := by simp [bltD, seqOf, listAt, hp]
@[simp] theorem f_list_t : bltD .list [.tup xs] M = .ok (.ref M.length) (M ++ [.lst xs]) := by simp [bltD, seqOf, alloc]
/-! what is walked -/
theorem w_tup : walkG M.length .val [.tup xs] M = .ok (xs, none) M := by simp [walkG, walkD]
theorem w_str : walkG M.length .val [.str s] M = .ok (chars s, none) M := by simp [walkG, walkD]
theorem w_lst {p : Nat} (hp : M[p]? = some (.lst xs)) : walkG M.length .val [.ref p] M = .ok (xs, some p) M := by
  have := (List.getElem?_eq_some_iff.mp hp).1
  simp [walkG, walkD, hp]
  omega
theorem w_ro {p : Nat} (hp : M[p]? = some (.ro xs)) : walkG M.length .val [.ref p] M = .ok (xs, none) M := by simp [walkG, walkD, hp]
/-- a list just made -/
theorem w_new {p : Nat} {t : Store} (hp : (M ++ t)[p]? = some (.lst xs)) (h : M.length ≤ p) (hx : D.pures xs = true) : walkG M.length .val [.ref p] (M ++ t) = .ok (xs, none) M := by
  simp [walkG, walkD, hp, h, hx]
theorem w_rng1 (h : okR j = true) : walkG M.length .rng [.int j] M = .ok (rngD 0 j.toNat, none) M := by simp [walkG, walkD, h]
theorem w_rng2 (hi : okR i = true) (h : okR j = true) : walkG M.length .rng [.int i, .int j] M = .ok (rngD i (j - i).toNat, none) M := by simp [walkG, walkD, h, hi]
theorem okR_of (h1 : -4611686018427387904 ≤ i) (h2 : i < 4611686018427387904) : okR i = true := by
  unfold okR
  simp
  omega
theorem okR_len {α : Type} {l : List α} (h : l.length ≤ lim) : okR (l.length : Int) = true := okR_of (by omega) (by unfold lim at h; omega)
end
end Sk
end
section
set_option Elab.async false
set_option linter.all false
set_option maxRecDepth 100000
namespace K82
open Sk
def d_is_whole : Def := ⟨1, ["value"], 
  [.ret (.and (.isi (.var 0) ["int"]) (.not (.isi (.var 0) ["bool"])))]⟩
def d_whole_in : Def := ⟨3, ["value", "low", "high"], 
  [.ret (.and (.call "is_whole" [(.var 0)]) (.chain .le .le (.var 1) (.var 0) (.var 2)))]⟩
def d_is_name : Def := ⟨1, ["value", "char"], 
  [.iff (.or (.not (.isi (.var 0) ["str"])) (.not (.chain .le .le (.cst (.int 1)) (.blt .len [(.var 0)]) (.cst (.int 8)))))
   [.ret (.cst (.bl false))]
   [],
  .for (.one 1) .val [(.var 0)]
   [.iff (.cmp .notin (.var 1) (.glb "LETTERS"))
     [.ret (.cst (.bl false))]
     []] [1],
  .ret (.cst (.bl true))]⟩
def d_is_row : Def := ⟨2, ["value", "size"], 
  [.ret (.and (.isi (.var 0) ["tuple"]) (.cmp .eq (.blt .len [(.var 0)]) (.var 1)))]⟩
def d_booking_fault : Def := ⟨1, ["value", "word", "payer", "taker", "amount"], 
  [.iff (.not (.call "is_row" [(.var 0), (.cst (.int 4))]))
   [.ret (.cst (.str ⟨#[115, 104, 97, 112, 101]⟩))]
   [],
  .unp [1, 2, 3, 4] (.var 0),
  .iff (.or (.not (.call "is_name" [(.var 1)])) (.or (.not (.call "is_name" [(.var 2)])) (.not (.call "is_name" [(.var 3)]))))
   [.ret (.cst (.str ⟨#[110, 97, 109, 101]⟩))]
   [],
  .iff (.cmp .eq (.var 2) (.var 3))
   [.ret (.cst (.str ⟨#[115, 101, 108, 102]⟩))]
   [],
  .iff (.not (.call "whole_in" [(.var 4), (.cst (.int 1)), (.glb "MOST_AMOUNT")]))
   [.ret (.cst (.str ⟨#[97, 109, 111, 117, 110, 116]⟩))]
   [],
  .ret (.cst .non)]⟩
def d_journal_fault : Def := ⟨1, ["value", "i", "word"], 
  [.iff (.not (.isi (.var 0) ["tuple"]))
   [.ret (.tup [(.cst (.int 0)), (.cst (.str ⟨#[115, 104, 97, 112, 101]⟩))])]
   [],
  .for (.one 1) .rng [(.blt .len [(.var 0)])]
   [.set 2 (.call "booking_fault" [(.ix (.var 0) (.var 1))]),
    .iff (.cmp .isnot (.var 2) (.cst .non))
     [.ret (.tup [(.bin .add (.var 1) (.cst (.int 1))), (.var 2)])]
     []] [1, 2],
  .iff (.cmp .gt (.blt .len [(.var 0)]) (.glb "MOST_BOOKINGS"))
   [.ret (.tup [(.bin .add (.glb "MOST_BOOKINGS") (.cst (.int 1))), (.cst (.str ⟨#[109, 97, 110, 121]⟩))])]
   [],
  .ret (.cst .non)]⟩
def d_balance_table : Def := ⟨1, ["journal", "table", "booking", "payer", "taker"], 
  [.set 1 (.dct false),
  .for (.one 2) .val [(.var 0)]
   [.set 3 (.ix (.var 2) (.cst (.int 1))),
    .set 4 (.ix (.var 2) (.cst (.int 2))),
    .put (.bin .sub (.mth .get (.var 1) [(.var 3), (.cst (.int 0))]) (.ix (.var 2) (.cst (.int 3)))) (.var 1) (.var 3),
    .put (.bin .add (.mth .get (.var 1) [(.var 4), (.cst (.int 0))]) (.ix (.var 2) (.cst (.int 3)))) (.var 1) (.var 4)] [2, 3, 4],
  .ret (.var 1)]⟩
def d_balances : Def := ⟨1, ["journal", "table", "account"], 
  [.set 1 (.call "balance_table" [(.var 0)]),
  .ret (.blt .tuple [(.lc (.tup [(.var 2), (.ix (.var 1) (.var 2))]) (.one 2) .val [(.blt .sorted [(.var 1)])] [] [2])])]⟩
def d_balance_of : Def := ⟨2, ["journal", "account"], 
  [.ret (.mth .get (.call "balance_table" [(.var 0)]) [(.var 1), (.cst (.int 0))])]⟩
def d_owed : Def := ⟨1, ["journal", "account", "balance"], 
  [.ret (.blt .tuple [(.lc (.tup [(.var 1), (.bin .sub (.cst (.int 0)) (.var 2))]) (.many [1, 2]) .val [(.call "balances" [(.var 0)])] [(.cmp .lt (.var 2) (.cst (.int 0)))] [1, 2])])]⟩
def d_owing : Def := ⟨1, ["journal", "account", "balance"], 
  [.ret (.blt .tuple [(.lc (.tup [(.var 1), (.var 2)]) (.many [1, 2]) .val [(.call "balances" [(.var 0)])] [(.cmp .gt (.var 2) (.cst (.int 0)))] [1, 2])])]⟩
def d_statement : Def := ⟨2, ["journal", "account", "found", "balance", "i", "word", "payer", "taker", "amount"], 
  [.set 2 (.lst []),
  .set 3 (.cst (.int 0)),
  .for (.one 4) .rng [(.blt .len [(.var 0)])]
   [.unp [5, 6, 7, 8] (.ix (.var 0) (.var 4)),
    .iff (.cmp .eq (.var 1) (.var 7))
     [.set 3 (.bin .add (.var 3) (.var 8)),
      .app (.var 2) (.tup [(.bin .add (.var 4) (.cst (.int 1))), (.var 5), (.var 6), (.var 8), (.var 3)])]
     [.iff (.cmp .eq (.var 1) (.var 6))
       [.set 3 (.bin .sub (.var 3) (.var 8)),
        .app (.var 2) (.tup [(.bin .add (.var 4) (.cst (.int 1))), (.var 5), (.var 7), (.bin .sub (.cst (.int 0)) (.var 8)), (.var 3)])]
       []]] [4, 5, 6, 7, 8],
  .ret (.blt .tuple [(.var 2)])]⟩
def d_turnover : Def := ⟨2, ["journal", "word", "booking"], 
  [.ret (.blt .sum [(.lc (.ix (.var 2) (.cst (.int 3))) (.one 2) .val [(.var 0)] [(.cmp .eq (.ix (.var 2) (.cst (.int 0))) (.var 1))] [2])])]⟩
def d_law_mix : Def := ⟨3, ["cell", "k", "j", "small", "one", "two"], 
  [.set 3 (.bin .mod (.blt .int [(.var 0)]) (.cst (.int 1000003))),
  .set 4 (.bin .mod (.bin .mul (.bin .add (.var 3) (.cst (.int 1))) (.bin .add (.bin .add (.cst (.int 48271)) (.bin .mul (.bin .mul (.cst (.int 2)) (.var 2)) (.var 2))) (.bin .mul (.cst (.int 6)) (.var 1)))) (.cst (.int 2147483647))),
  .set 5 (.bin .mod (.bin .add (.bin .mul (.var 4) (.cst (.int 69621))) (.bin .mul (.bin .fdiv (.var 4) (.cst (.int 8191))) (.bin .add (.var 2) (.cst (.int 3))))) (.cst (.int 2147483629))),
  .ret (.bin .mod (.bin .fdiv (.var 5) (.cst (.int 7))) (.cst (.int 1000)))]⟩
def d_law_pool : Def := ⟨1, ["script", "pool", "k", "cell", "rest", "j"], 
  [.set 1 (.lst []),
  .for (.one 2) .rng [(.cst (.int 6))]
   [.set 3 (.cst (.int 0)),
    .iff (.cmp .lt (.var 2) (.blt .len [(.var 0)]))
     [.set 3 (.blt .abs [(.ix (.var 0) (.var 2))])]
     [],
    .set 4 (.cst (.int 0)),
    .iff (.cmp .ge (.var 3) (.bin .pow (.cst (.int 10)) (.cst (.int 18))))
     [.set 4 (.var 3)]
     [],
    .for (.one 5) .rng [(.cst (.int 40))]
     [.iff (.cmp .gt (.var 4) (.cst (.int 0)))
       [.app (.var 1) (.bin .mod (.blt .int [(.var 4)]) (.cst (.int 1000))),
        .set 4 (.bin .fdiv (.var 4) (.cst (.int 1000)))]
       [.app (.var 1) (.call "_law_mix" [(.var 3), (.var 2), (.var 5)])]] [5]] [2, 3, 4, 5],
  .ret (.var 1)]⟩
def d_law_whole : Def := ⟨1, ["value"], 
  [.ret (.and (.isi (.var 0) ["int"]) (.not (.isi (.var 0) ["bool"])))]⟩
def d_law_same : Def := ⟨2, ["told", "due", "k"], 
  [.iff (.isi (.var 1) ["tuple"])
   [.iff (.or (.not (.isi (.var 0) ["tuple"])) (.cmp .ne (.blt .len [(.var 0)]) (.blt .len [(.var 1)])))
     [.ret (.cst (.bl false))]
     [],
    .for (.one 2) .rng [(.blt .len [(.var 1)])]
     [.iff (.not (.call "_law_same" [(.ix (.var 0) (.var 2)), (.ix (.var 1) (.var 2))]))
       [.ret (.cst (.bl false))]
       []] [2],
    .ret (.cst (.bl true))]
   [],
  .iff (.cmp .is (.var 1) (.cst .non))
   [.ret (.cmp .is (.var 0) (.cst .non))]
   [],
  .iff (.isi (.var 1) ["bool"])
   [.ret (.and (.isi (.var 0) ["bool"]) (.cmp .eq (.var 0) (.var 1)))]
   [],
  .iff (.isi (.var 1) ["int"])
   [.ret (.and (.call "_law_whole" [(.var 0)]) (.cmp .eq (.var 0) (.var 1)))]
   [],
  .ret (.and (.isi (.var 0) ["str"]) (.and (.isi (.var 1) ["str"]) (.cmp .eq (.var 0) (.var 1))))]⟩
def d_law_name : Def := ⟨1, ["n", "letters"], 
  [.iff (.cmp .eq (.bin .mod (.var 0) (.cst (.int 2))) (.cst (.int 0)))
   [.ret (.ix (.tup [(.cst (.str ⟨#[97]⟩)), (.cst (.str ⟨#[98, 111]⟩)), (.cst (.str ⟨#[97, 100, 97]⟩)), (.cst (.str ⟨#[99, 111, 118, 101]⟩)), (.cst (.str ⟨#[103, 117, 108, 108]⟩)), (.cst (.str ⟨#[116, 117, 103]⟩)), (.cst (.str ⟨#[122, 122]⟩))]) (.bin .mod (.bin .fdiv (.var 0) (.cst (.int 2))) (.cst (.int 7))))]
   [],
  .set 1 (.cst (.str ⟨#[97, 98, 99, 120, 121, 122]⟩)),
  .ret (.bin .add (.ix (.var 1) (.bin .mod (.bin .fdiv (.var 0) (.cst (.int 2))) (.cst (.int 6)))) (.bin .mul (.ix (.var 1) (.bin .mod (.bin .fdiv (.var 0) (.cst (.int 12))) (.cst (.int 6)))) (.bin .mod (.bin .fdiv (.var 0) (.cst (.int 72))) (.cst (.int 3)))))]⟩
def d_law_booking : Def := ⟨1, ["n", "word", "payer", "taker", "amount"], 
  [.set 1 (.ix (.tup [(.cst (.str ⟨#[99, 97, 108, 108]⟩)), (.cst (.str ⟨#[111, 105, 108]⟩)), (.cst (.str ⟨#[98, 97, 99, 107]⟩)), (.cst (.str ⟨#[115, 101, 116, 116, 108, 101]⟩)), (.cst (.str ⟨#[120]⟩))]) (.bin .mod (.var 0) (.cst (.int 5)))),
  .set 2 (.call "_law_name" [(.bin .mod (.bin .fdiv (.var 0) (.cst (.int 5))) (.cst (.int 1000)))]),
  .set 3 (.call "_law_name" [(.bin .mod (.bin .fdiv (.var 0) (.cst (.int 5000))) (.cst (.int 1000)))]),
  .iff (.cmp .eq (.var 2) (.var 3))
   [.set 3 (.bin .add (.var 3) (.cst (.str ⟨#[113]⟩)))]
   [],
  .set 4 (.bin .add (.cst (.int 1)) (.bin .mod (.bin .fdiv (.var 0) (.cst (.int 5000000))) (.cst (.int 99999)))),
  .iff (.cmp .eq (.bin .mod (.bin .fdiv (.var 0) (.cst (.int 7))) (.cst (.int 9))) (.cst (.int 0)))
   [.set 4 (.cst (.int 99999))]
   [],
  .ret (.tup [(.var 1), (.var 2), (.var 3), (.var 4)])]⟩
def d_law_journal : Def := ⟨2, ["pool", "script", "cells", "cell", "k", "n"], 
  [.set 2 (.lc (.bin .mod (.blt .abs [(.blt .int [(.var 3)])]) (.bin .pow (.cst (.int 10)) (.cst (.int 12)))) (.one 3) .val [(.slcLU (.var 1) (.cst (.int 6)) (.cst (.int 66)))] [] [3]),
  .iff (.cmp .eq (.blt .len [(.var 2)]) (.cst (.int 0)))
   [.for (.one 4) .rng [(.bin .mod (.ix (.var 0) (.cst (.int 200))) (.cst (.int 13)))]
     [.app (.var 2) (.bin .add (.bin .add (.bin .add (.bin .mul (.ix (.var 0) (.bin .add (.cst (.int 100)) (.bin .mul (.cst (.int 4)) (.var 4)))) (.bin .pow (.cst (.int 10)) (.cst (.int 9)))) (.bin .mul (.ix (.var 0) (.bin .add (.cst (.int 101)) (.bin .mul (.cst (.int 4)) (.var 4)))) (.bin .pow (.cst (.int 10)) (.cst (.int 6))))) (.bin .mul (.ix (.var 0) (.bin .add (.cst (.int 102)) (.bin .mul (.cst (.int 4)) (.var 4)))) (.cst (.int 1000)))) (.ix (.var 0) (.bin .add (.cst (.int 103)) (.bin .mul (.cst (.int 4)) (.var 4)))))] [4]]
   [],
  .ret (.blt .tuple [(.lc (.call "_law_booking" [(.var 5)]) (.one 5) .val [(.var 2)] [] [5])])]⟩
def d_law_balance : Def := ⟨2, ["journal", "name", "row"], 
  [.ret (.bin .sub (.blt .sum [(.lc (.ix (.var 2) (.cst (.int 3))) (.one 2) .val [(.var 0)] [(.cmp .eq (.ix (.var 2) (.cst (.int 2))) (.var 1))] [2])]) (.blt .sum [(.lc (.ix (.var 2) (.cst (.int 3))) (.one 2) .val [(.var 0)] [(.cmp .eq (.ix (.var 2) (.cst (.int 1))) (.var 1))] [2])]))]⟩
def d_law_accounts : Def := ⟨1, ["journal", "found", "row", "name"], 
  [.set 1 (.lst []),
  .for (.one 2) .val [(.var 0)]
   [.for (.one 3) .val [(.slcLU (.var 2) (.cst (.int 1)) (.cst (.int 3)))]
     [.iff (.cmp .notin (.var 3) (.var 1))
       [.app (.var 1) (.var 3)]
       []] [3]] [2, 3],
  .ret (.blt .sorted [(.var 1)])]⟩
def d_law_statement : Def := ⟨2, ["journal", "name", "found", "total", "k", "row"], 
  [.set 2 (.lst []),
  .set 3 (.cst (.int 0)),
  .for (.one 4) .rng [(.blt .len [(.var 0)])]
   [.set 5 (.ix (.var 0) (.var 4)),
    .iff (.cmp .eq (.ix (.var 5) (.cst (.int 1))) (.var 1))
     [.set 3 (.bin .sub (.var 3) (.ix (.var 5) (.cst (.int 3)))),
      .app (.var 2) (.tup [(.bin .add (.var 4) (.cst (.int 1))), (.ix (.var 5) (.cst (.int 0))), (.ix (.var 5) (.cst (.int 2))), (.bin .sub (.cst (.int 0)) (.ix (.var 5) (.cst (.int 3)))), (.var 3)])]
     [],
    .iff (.cmp .eq (.ix (.var 5) (.cst (.int 2))) (.var 1))
     [.set 3 (.bin .add (.var 3) (.ix (.var 5) (.cst (.int 3)))),
      .app (.var 2) (.tup [(.bin .add (.var 4) (.cst (.int 1))), (.ix (.var 5) (.cst (.int 0))), (.ix (.var 5) (.cst (.int 1))), (.ix (.var 5) (.cst (.int 3))), (.var 3)])]
     []] [4, 5],
  .ret (.blt .tuple [(.var 2)])]⟩
def d_law_faults : Def := ⟨0, ["found"], 
  [.set 0 (.lst [(.tup [(.tup [(.cst (.str ⟨#[111, 105, 108]⟩)), (.cst (.str ⟨#[97]⟩)), (.cst (.str ⟨#[98]⟩)), (.cst (.int 1))]), (.cst .non)]), (.tup [(.tup [(.cst (.str ⟨#[111, 105, 108]⟩)), (.cst (.str ⟨#[97]⟩)), (.cst (.str ⟨#[98]⟩)), (.cst (.int 99999))]), (.cst .non)]), (.tup [(.tup [(.cst (.str ⟨#[111, 105, 108]⟩)), (.cst (.str ⟨#[97]⟩)), (.cst (.str ⟨#[98]⟩)), (.cst (.int 0))]), (.cst (.str ⟨#[97, 109, 111, 117, 110, 116]⟩))]), (.tup [(.tup [(.cst (.str ⟨#[111, 105, 108]⟩)), (.cst (.str ⟨#[97]⟩)), (.cst (.str ⟨#[98]⟩)), (.cst (.int 100000))]), (.cst (.str ⟨#[97, 109, 111, 117, 110, 116]⟩))])]),
  .set 0 (.bin .add (.var 0) (.lst [(.tup [(.tup [(.cst (.str ⟨#[111, 105, 108]⟩)), (.cst (.str ⟨#[97]⟩)), (.cst (.str ⟨#[97]⟩)), (.cst (.int 0))]), (.cst (.str ⟨#[115, 101, 108, 102]⟩))]), (.tup [(.tup [(.cst (.str ⟨#[111, 105, 108]⟩)), (.cst (.str ⟨#[65]⟩)), (.cst (.str ⟨#[65]⟩)), (.cst (.int 0))]), (.cst (.str ⟨#[110, 97, 109, 101]⟩))]), (.tup [(.tup [(.cst (.str ⟨#[111, 105, 108]⟩)), (.cst (.str ⟨#[97]⟩)), (.cst (.str ⟨#[]⟩)), (.cst (.int 1))]), (.cst (.str ⟨#[110, 97, 109, 101]⟩))]), (.tup [(.tup [(.cst (.str ⟨#[111, 105, 108]⟩)), (.cst (.str ⟨#[97]⟩)), (.cst (.str ⟨#[98]⟩))]), (.cst (.str ⟨#[115, 104, 97, 112, 101]⟩))])])),
  .set 0 (.bin .add (.var 0) (.lst [(.tup [(.lst [(.cst (.str ⟨#[111, 105, 108]⟩)), (.cst (.str ⟨#[97]⟩)), (.cst (.str ⟨#[98]⟩)), (.cst (.int 1))]), (.cst (.str ⟨#[115, 104, 97, 112, 101]⟩))]), (.tup [(.cst .non), (.cst (.str ⟨#[115, 104, 97, 112, 101]⟩))]), (.tup [(.tup [(.cst (.str ⟨#[111, 105, 108]⟩)), (.cst (.str ⟨#[97]⟩)), (.cst (.str ⟨#[98]⟩)), (.cst (.bl true))]), (.cst (.str ⟨#[97, 109, 111, 117, 110, 116]⟩))]), (.tup [(.tup [(.cst (.str ⟨#[111, 105, 108]⟩)), (.cst (.str ⟨#[97]⟩)), (.cst (.str ⟨#[98]⟩)), (.cst (.str ⟨#[49]⟩))]), (.cst (.str ⟨#[97, 109, 111, 117, 110, 116]⟩))])])),
  .set 0 (.bin .add (.var 0) (.lst [(.tup [(.tup [(.cst (.int 1)), (.cst (.str ⟨#[97]⟩)), (.cst (.str ⟨#[98]⟩)), (.cst (.int 1))]), (.cst (.str ⟨#[110, 97, 109, 101]⟩))]), (.tup [(.tup [(.cst (.str ⟨#[111, 105, 108]⟩)), (.cst (.str ⟨#[97, 98, 99, 100, 101, 102, 103, 104, 105]⟩)), (.cst (.str ⟨#[98]⟩)), (.cst (.int 1))]), (.cst (.str ⟨#[110, 97, 109, 101]⟩))]), (.tup [(.tup [(.cst (.str ⟨#[111, 105, 108]⟩)), (.cst (.str ⟨#[97, 98, 99, 100, 101, 102, 103, 104]⟩)), (.cst (.str ⟨#[98]⟩)), (.cst (.int 1))]), (.cst .non)])])),
  .ret (.bin .add (.var 0) (.lst [(.tup [(.tup [(.cst (.str ⟨#[111, 105, 108]⟩)), (.cst (.str ⟨#[97]⟩)), (.cst (.str ⟨#[98]⟩)), (.cst (.int 1)), (.cst (.int 1))]), (.cst (.str ⟨#[115, 104, 97, 112, 101]⟩))])]))]⟩
def d_law_bent : Def := ⟨2, ["journal", "at", "value", "word", "one"], 
  [.for (.many [2, 3]) .val [(.call "_law_faults" [])]
   [.iff (.not (.call "_law_same" [(.call "booking_fault" [(.var 2)]), (.var 3)]))
     [.ret (.cst (.bl false))]
     [],
    .iff (.cmp .isnot (.var 3) (.cst .non))
     [.iff (.not (.call "_law_same" [(.call "journal_fault" [(.bin .add (.bin .add (.slcU (.var 0) (.var 1)) (.tup [(.var 2)])) (.slcL (.var 0) (.var 1)))]), (.tup [(.bin .add (.var 1) (.cst (.int 1))), (.var 3)])]))
       [.ret (.cst (.bl false))]
       []]
     []] [2, 3],
  .set 4 (.tup [(.tup [(.cst (.str ⟨#[111, 105, 108]⟩)), (.cst (.str ⟨#[97]⟩)), (.cst (.str ⟨#[98]⟩)), (.cst (.int 1))])]),
  .iff (.or (.not (.call "_law_same" [(.call "journal_fault" [(.bin .mul (.var 4) (.cst (.int 60)))]), (.cst .non)])) (.not (.call "_law_same" [(.call "journal_fault" [(.bin .mul (.var 4) (.cst (.int 61)))]), (.tup [(.cst (.int 61)), (.cst (.str ⟨#[109, 97, 110, 121]⟩))])])))
   [.ret (.cst (.bl false))]
   [],
  .iff (.not (.call "_law_same" [(.call "journal_fault" [(.bin .add (.bin .mul (.var 4) (.cst (.int 61))) (.tup [(.tup [])]))]), (.tup [(.cst (.int 62)), (.cst (.str ⟨#[115, 104, 97, 112, 101]⟩))])]))
   [.ret (.cst (.bl false))]
   [],
  .ret (.and (.call "_law_same" [(.call "journal_fault" [(.blt .list [(.var 0)])]), (.tup [(.cst (.int 0)), (.cst (.str ⟨#[115, 104, 97, 112, 101]⟩))])]) (.call "_law_same" [(.call "journal_fault" [(.var 0)]), (.cst .non)]))]⟩
def d_law : Def := ⟨1, ["script", "pool", "journal", "names", "due", "name", "row", "word"], 
  [.set 1 (.call "_law_pool" [(.var 0)]),
  .set 2 (.call "_law_journal" [(.var 1), (.var 0)]),
  .set 3 (.call "_law_accounts" [(.var 2)]),
  .set 4 (.lc (.tup [(.var 5), (.call "_law_balance" [(.var 2), (.var 5)])]) (.one 5) .val [(.var 3)] [] [5]),
  .iff (.or (.cmp .ne (.blt .sum [(.lc (.ix (.var 6) (.cst (.int 1))) (.one 6) .val [(.var 4)] [] [6])]) (.cst (.int 0))) (.not (.call "_law_same" [(.call "balances" [(.var 2)]), (.blt .tuple [(.var 4)])])))
   [.ret (.cst (.bl false))]
   [],
  .iff (.not (.call "_law_same" [(.call "owed" [(.var 2)]), (.blt .tuple [(.lc (.tup [(.ix (.var 6) (.cst (.int 0))), (.bin .sub (.cst (.int 0)) (.ix (.var 6) (.cst (.int 1))))]) (.one 6) .val [(.var 4)] [(.cmp .lt (.ix (.var 6) (.cst (.int 1))) (.cst (.int 0)))] [6])])]))
   [.ret (.cst (.bl false))]
   [],
  .iff (.not (.call "_law_same" [(.call "owing" [(.var 2)]), (.blt .tuple [(.lc (.var 6) (.one 6) .val [(.var 4)] [(.cmp .gt (.ix (.var 6) (.cst (.int 1))) (.cst (.int 0)))] [6])])]))
   [.ret (.cst (.bl false))]
   [],
  .for (.one 5) .val [(.bin .add (.var 3) (.lst [(.cst (.str ⟨#[110, 111, 98, 111, 100, 121]⟩))]))]
   [.iff (.not (.call "_law_same" [(.call "balance_of" [(.var 2), (.var 5)]), (.call "_law_balance" [(.var 2), (.var 5)])]))
     [.ret (.cst (.bl false))]
     [],
    .iff (.not (.call "_law_same" [(.call "statement" [(.var 2), (.var 5)]), (.call "_law_statement" [(.var 2), (.var 5)])]))
     [.ret (.cst (.bl false))]
     []] [5],
  .for (.one 7) .val [(.tup [(.cst (.str ⟨#[99, 97, 108, 108]⟩)), (.cst (.str ⟨#[111, 105, 108]⟩)), (.cst (.str ⟨#[98, 97, 99, 107]⟩)), (.cst (.str ⟨#[115, 101, 116, 116, 108, 101]⟩)), (.cst (.str ⟨#[120]⟩)), (.cst (.str ⟨#[110, 111, 98, 111, 100, 121]⟩))])]
   [.iff (.not (.call "_law_same" [(.call "turnover" [(.var 2), (.var 7)]), (.blt .sum [(.lc (.ix (.var 6) (.cst (.int 3))) (.one 6) .val [(.var 2)] [(.cmp .eq (.ix (.var 6) (.cst (.int 0))) (.var 7))] [6])])]))
     [.ret (.cst (.bl false))]
     []] [7],
  .ret (.call "_law_bent" [(.var 2), (.bin .mod (.ix (.var 1) (.cst (.int 201))) (.bin .add (.blt .len [(.var 2)]) (.cst (.int 1))))])]⟩
def pg : Pg := ⟨[("is_whole", d_is_whole), ("whole_in", d_whole_in), ("is_name", d_is_name), ("is_row", d_is_row), ("booking_fault", d_booking_fault), ("journal_fault", d_journal_fault), ("balance_table", d_balance_table), ("balances", d_balances), ("balance_of", d_balance_of), ("owed", d_owed), ("owing", d_owing), ("statement", d_statement), ("turnover", d_turnover), ("_law_mix", d_law_mix), ("_law_pool", d_law_pool), ("_law_whole", d_law_whole), ("_law_same", d_law_same), ("_law_name", d_law_name), ("_law_booking", d_law_booking), ("_law_journal", d_law_journal), ("_law_balance", d_law_balance), ("_law_accounts", d_law_accounts), ("_law_statement", d_law_statement), ("_law_faults", d_law_faults), ("_law_bent", d_law_bent), ("law", d_law)], [("LETTERS", (.str ⟨#[97, 98, 99, 100, 101, 102, 103, 104, 105, 106, 107, 108, 109, 110, 111, 112, 113, 114, 115, 116, 117, 118, 119, 120, 121, 122]⟩)), ("MOST_AMOUNT", (.int 99999)), ("MOST_BOOKINGS", (.int 60))]⟩
end K82
end
section
set_option Elab.async false
set_option linter.all false
set_option maxRecDepth 100000
namespace K82
open Sk
open PySem (Str)
noncomputable abbrev go := run pg.T pg.G
def isW : D → Bool
  | .int _ => true
  | _ => false
theorem r_is_whole {k : Nat} {M : Store} {d : D} (h : d.pure = true) : go (k + 1) "is_whole" [d] M = .ok (.bl (isW d)) M := by
  rw [go, run_s (d := d_is_whole) rfl rfl]
  cases d <;> simp [d_is_whole, init, isiD, optB, isW] at h ⊢
/-- lo ≤ d ≤ hi -/
def wIn (d : D) (lo hi : Int) : Bool := match d with
  | .int i => decide (lo ≤ i) && decide (i ≤ hi)
  | _ => false
theorem r_whole_in {k : Nat} {M : Store} {d : D} {lo hi : Int} (h : d.pure = true) : go (k + 2) "whole_in" [d, .int lo, .int hi] M = .ok (.bl (wIn d lo hi)) M := by
  rw [go, run_s (d := d_whole_in) rfl rfl]
  have e : run pg.T pg.G (k + 1) "is_whole" [d] M = .ok (.bl (isW d)) M := r_is_whole h
  simp [d_whole_in, init, e]
  cases d <;> simp [isW, wIn]
def letters : Str := ⟨#[97, 98, 99, 100, 101, 102, 103, 104, 105, 106, 107, 108, 109, 110, 111, 112, 113, 114, 115, 116, 117, 118, 119, 120, 121, 122]⟩
def okc (c : Nat) : Bool := decide (c ∈ letters.cps.toList)
def okl (s : Str) : Bool := s.cps.toList.all okc
def isNm : D → Bool
  | .str s => decide (1 ≤ s.length) && decide (s.length ≤ 8) && okl s
  | _ => false
theorem r_is_name {k : Nat} {M : Store} {d : D} (h : d.pure = true) : go (k + 1) "is_name" [d] M = .ok (.bl (isNm d)) M := by
  rw [go, run_s (d := d_is_name) rfl rfl]
  cases d with
  | str s =>
    have hb : ∀ x ∈ chars s, ∃ c ∈ s.cps.toList, x = .str ⟨#[c]⟩ := fun x hx => by
      obtain ⟨c, hc, rfl⟩ := List.mem_map.mp hx
      exact ⟨c, hc, rfl⟩
    have lp : ex ⟨run pg.T pg.G k, pg.G, M.length⟩ (S.for (Tg.one 1) Ik.val [E.var 0] [S.iff (E.cmp COp.notin (E.var 1) (E.glb "LETTERS")) [S.ret (E.cst (D.bl false))] []] [1]) [some (.str s), none] M =
        if okl s = true then .nx [some (.str s), none] M else .rt (.bl false) M := by
      rw [x_for' (xs := chars s) (w := none) (M1 := M) (by simp [w_str])]
      have hg : pg.G "LETTERS" = some (.str letters) := rfl
      rw [wi_cons, wi_nil, show [some (D.str s), none].set 1 none = [some (D.str s), none] from rfl, forL_find (fun x => match x with
        | .str t => if okc (t.cps.getD 0 0) = true then none else some (.bl false)
        | _ => none) (by simp) (chars s) fun x hx => ?_]
      · have : ∀ l : List Nat, (l.map fun c => D.str ⟨#[c]⟩).findSome? (fun x => match x with
          | .str t => if okc (t.cps.getD 0 0) = true then none else some (D.bl false)
          | _ => none) = if l.all okc = true then none else some (.bl false) := fun l => by
          induction l with
          | nil => rfl
          | cons a l ih =>
            rw [List.map_cons, List.findSome?_cons, List.all_cons, ih]
            cases h : okc a <;> simp [h]
        rw [chars, this]
        unfold okl
        cases s.cps.toList.all okc <;> rfl
      · obtain ⟨c, hc, rfl⟩ := hb x hx
        have hin : inM M (.str ⟨#[c]⟩) (.str letters) = some (okc c) := by simp [inM, Str.length, okc]
        cases h : okc c <;> simp [hg, cmpD, hin, optB, h]
    simp [d_is_name, init, isiD, optB]
    by_cases h1 : (s.length : Int) < 1 ∨ 8 < (s.length : Int)
    · have : isNm (.str s) = false := by
        simp only [isNm]
        rcases h1 with h1 | h1
        · have : ¬ 1 ≤ s.length := by omega
          simp [this]
        · have : ¬ s.length ≤ 8 := by omega
          simp [this]
      simp [h1, this]
    · have h2 : 1 ≤ s.length := by omega
      have h3 : s.length ≤ 8 := by omega
      simp only [h1, if_false, an_nx, lp]
      cases h4 : okl s <;> simp [isNm, h2, h3, h4]
  | _ => simp [d_is_name, init, isiD, optB, isNm] at h ⊢
/-! rows -/
theorem r_is_row {k : Nat} {M : Store} {xs : List D} {n : Int} : go (k + 1) "is_row" [.tup xs, .int n] M = .ok (.bl ((xs.length : Int) == n)) M := by
  rw [go, run_s (d := d_is_row) rfl rfl]
  simp [d_is_row, init, isiD, optB]
theorem r_is_row' {k : Nat} {M : Store} {d : D} {n : Int} (h : isiD M d "tuple" = some false) : go (k + 1) "is_row" [d, .int n] M = .ok (.bl false) M := by
  rw [go, run_s (d := d_is_row) rfl rfl]
  simp [d_is_row, init, h, optB]
def sShape : D := .str ⟨#[115, 104, 97, 112, 101]⟩
def sName : D := .str ⟨#[110, 97, 109, 101]⟩
def sSelf : D := .str ⟨#[115, 101, 108, 102]⟩
def sAmount : D := .str ⟨#[97, 109, 111, 117, 110, 116]⟩
def sMany : D := .str ⟨#[109, 97, 110, 121]⟩
/-- what is wrong with a booking -/
def bf : D → D
  | .tup [w, p, t, a] => if (isNm w && (isNm p && isNm t)) = true then (if D.eqv p t = true then sSelf else if wIn a 1 99999 = true then .non else sAmount) else sName
  | _ => sShape
theorem isNm_str {d : D} (h : isNm d = true) : ∃ s, d = .str s := by
  cases d <;> simp [isNm] at h
  exact ⟨_, rfl⟩
theorem r_booking_fault {k : Nat} {M : Store} {xs : List D} (h : D.pures xs = true) : go (k + 3) "booking_fault" [.tup xs] M = .ok (bf (.tup xs)) M := by
  rw [go, run_s (d := d_booking_fault) rfl rfl]
  have e1 : run pg.T pg.G (k + 2) "is_row" [.tup xs, .int 4] M = .ok (.bl ((xs.length : Int) == 4)) M := r_is_row
  match xs, h with
  | [w, p, t, a], h =>
    simp only [ps_cons, ps_nil, Bool.and_eq_true, Bool.and_true] at h
    obtain ⟨hw, hp, ht, ha⟩ := h
    have e2 : ∀ d, d.pure = true → run pg.T pg.G (k + 2) "is_name" [d] M = .ok (.bl (isNm d)) M := fun d hd => r_is_name hd
    have e3 : run pg.T pg.G (k + 2) "whole_in" [a, .int 1, .int 99999] M = .ok (.bl (wIn a 1 99999)) M := r_whole_in ha
    have hg : pg.G "MOST_AMOUNT" = some (.int 99999) := rfl
    by_cases h1 : (isNm w && (isNm p && isNm t)) = true
    · simp only [Bool.and_eq_true] at h1
      obtain ⟨n1, n2, n3⟩ := h1
      obtain ⟨sp, rfl⟩ := isNm_str n2
      obtain ⟨stt, rfl⟩ := isNm_str n3
      by_cases h2 : sp = stt
      · subst h2
        simp [d_booking_fault, init, e1, hw, ha, e2, hg, bf, n1, n2, D.eqv, sSelf]
      · cases h3 : wIn a 1 99999 <;> simp [d_booking_fault, init, e1, hw, ha, e2, e3, hg, bf, n1, n2, n3, D.eqv, h2, h3, sAmount]
    · have : isNm w = false ∨ (isNm p = false ∨ isNm t = false) := by
        cases hx : isNm w <;> cases hy : isNm p <;> cases hz : isNm t <;> simp_all
      cases hx : isNm w <;> cases hy : isNm p <;> cases hz : isNm t <;> simp_all <;> simp [d_booking_fault, init, e1, hw, hp, ht, ha, e2, e3, hg, bf, hx, hy, hz, sName]
  | [], h => simp [d_booking_fault, init, e1, bf, sShape]
  | [_], h => simp [d_booking_fault, init, e1, bf, sShape]
  | [_, _], h => simp [d_booking_fault, init, e1, bf, sShape]
  | [_, _, _], h => simp [d_booking_fault, init, e1, bf, sShape]
  | _ :: _ :: _ :: _ :: _ :: r, h =>
    have : ((((((r.length : Int) + 1) + 1) + 1 + 1 + 1)) == 4) = false := by simp; omega
    simp [d_booking_fault, init, e1, bf, sShape, this]
theorem r_booking_fault' {k : Nat} {M : Store} {d : D} (h : isiD M d "tuple" = some false) : go (k + 3) "booking_fault" [d] M = .ok sShape M := by
  rw [go, run_s (d := d_booking_fault) rfl rfl]
  have e1 : run pg.T pg.G (k + 2) "is_row" [d, .int 4] M = .ok (.bl false) M := r_is_row' h
  simp [d_booking_fault, init, e1, sShape]
/-- the first wrong booking -/
def jx (f : D → D) (ds : List D) : Option D := (List.range ds.length).findSome? fun i => if (f (ds.getD i .non)).isNon = true then none else some (D.tup [.int (i + 1), f (ds.getD i .non)])
/-- what is wrong with a journal, the faults of its bookings by f -/
def jf (f : D → D) (ds : List D) : D := (jx f ds).getD (if 60 < ds.length then .tup [.int 61, sMany] else .non)
theorem r_jf_loop {k : Nat} {M : Store} {ds : List D} {f : D → D} {b : Nat} (hl : ds.length ≤ lim) (hf : ∀ d ∈ ds, go k "booking_fault" [d] M = .ok (f d) M ∧ (f d).pure = true) :
    ex ⟨run pg.T pg.G k, pg.G, b⟩ (S.for (Tg.one 1) Ik.rng [E.blt .len [E.var 0]] [.set 2 (.call "booking_fault" [(.ix (.var 0) (.var 1))]), .iff (.cmp .isnot (.var 2) (.cst .non)) [.ret (.tup [(.bin .add (.var 1) (.cst (.int 1))), (.var 2)])] []] [1, 2]) [some (.tup ds), none, none] M = endF (jx f ds) [some (.tup ds), none, none] M := by
  rw [x_for' (xs := rngD 0 ds.length) (w := none) (M1 := M) (by simp [w_rng1 (okR_len hl)])]
  rw [show wipe [some (D.tup ds), none, none] [1, 2] = [some (D.tup ds), none, none] from rfl]
  rw [forL_find (fun x => match x with
    | .int i => if (f (ds.getD i.toNat .non)).isNon = true then none else some (D.tup [.int (i + 1), f (ds.getD i.toNat .non)])
    | _ => none) (by simp) (rngD 0 ds.length) fun x hx => ?_]
  · unfold rngD
    rw [List.findSome?_map]
    unfold jx
    congr 1
    congr 1
    funext i
    simp
  · obtain ⟨i, hi⟩ := List.getElem?_of_mem hx
    obtain ⟨h1, rfl⟩ := rngG hi
    have hx : ds.getD i .non = ds[i] := by simp [h1]
    obtain ⟨e1, e2⟩ := hf ds[i] (List.getElem_mem h1)
    have e3 : ixD (.tup ds) (.int (i : Int)) M = .ok ds[i] M := by
      simp only [ixD]
      rw [atI_nat h1, List.getElem?_eq_getElem h1]
    have e4 : run pg.T pg.G k "booking_fault" [ds[i]] M = .ok (f ds[i]) M := e1
    rw [Int.zero_add]
    simp only [Int.toNat_natCast, hx]
    simp [e3, e4, e2]
    cases h5 : (f ds[i]).isNon <;> simp [h5, e2]
theorem r_journal_fault {k : Nat} {M : Store} {ds : List D} {f : D → D} (hl : ds.length ≤ lim) (hf : ∀ d ∈ ds, go k "booking_fault" [d] M = .ok (f d) M ∧ (f d).pure = true) : go (k + 1) "journal_fault" [.tup ds] M = .ok (jf f ds) M := by
  rw [go, run_s (d := d_journal_fault) rfl rfl]
  have hg : pg.G "MOST_BOOKINGS" = some (.int 60) := rfl
  have lp := r_jf_loop (b := M.length) hl hf
  simp only [d_journal_fault, init, List.length_cons, List.length_nil, List.map_cons, List.map_nil, List.cons_append, List.nil_append, show 3 - (0 + 1) = 2 from rfl, List.replicate_succ, List.replicate_zero]
  rw [xs_cons]
  simp only [x_iff, gb_def, e_not, e_isi]
  rw [e_var (d := .tup ds) rfl]
  simp only [bind_ok, isiD, optB, tr_bl, tk_ok, ob_ok, xs_nil, an_nx, show ("tuple" == "tuple") = true from rfl, Bool.not_true, Bool.false_eq_true, if_false, List.take_length]
  rw [xs_cons, lp]
  have hp : ∀ d, jx f ds = some d → d.pure = true := fun d e => by
    unfold jx at e
    obtain ⟨i, hi, e⟩ := List.exists_of_findSome?_eq_some e
    split at e
    · cases e
    · cases e
      have hi : i < ds.length := by simpa using hi
      have hx : ds.getD i .non = ds[i] := by simp [hi]
      rw [hx]
      simp [(hf ds[i] (List.getElem_mem hi)).2]
  unfold jf
  cases e : jx f ds with
  | some d => simp [hp d e]
  | none =>
    simp [hg]
    by_cases h6 : 60 < ds.length
    · have : (60 : Int) < ds.length := by omega
      simp [h6, this, sMany]
    · have : ¬ (60 : Int) < ds.length := by omega
      simp [h6, this]
theorem r_journal_fault' {k : Nat} {M : Store} {d : D} (h : isiD M d "tuple" = some false) : go (k + 1) "journal_fault" [d] M = .ok (.tup [.int 0, sShape]) M := by
  rw [go, run_s (d := d_journal_fault) rfl rfl]
  simp [d_journal_fault, init, h, optB, sShape]

/-! ### the same -/
/-- data that _law_same compares: depth at most n -/
def sm : Nat → D → Bool
  | 0, _ => false
  | n + 1, .tup xs => xs.all (sm n) && decide (xs.length ≤ lim)
  | _ + 1, .ref _ => false
  | _ + 1, _ => true
theorem sm_pure : ∀ (n : Nat) (d : D), sm n d = true → d.pure = true
  | 0, d, h => by simp [sm] at h
  | n + 1, .tup xs, h => by
    simp [sm] at h
    rw [p_tup]
    exact ps_mem fun x hx => sm_pure n x (h.1 x hx)
  | n + 1, .ref i, h => by simp [sm] at h
  | n + 1, .non, h => by simp
  | n + 1, .bl _, h => by simp
  | n + 1, .int _, h => by simp
  | n + 1, .str _, h => by simp
theorem r_law_whole {k : Nat} {M : Store} {i : Int} : go (k + 1) "_law_whole" [.int i] M = .ok (.bl true) M := by
  rw [go, run_s (d := d_law_whole) rfl rfl]
  simp [d_law_whole, init, isiD, optB]
theorem r_same {M : Store} : ∀ (n : Nat) (d : D), sm n d = true → ∀ k, go (k + n + 2) "_law_same" [d, d] M = .ok (.bl true) M
  | 0, d, h, k => by simp [sm] at h
  | n + 1, .non, h, k => by
    rw [go, run_s (d := d_law_same) rfl rfl]
    simp [d_law_same, init, isiD, optB]
  | n + 1, .bl b, h, k => by
    rw [go, run_s (d := d_law_same) rfl rfl]
    simp [d_law_same, init, isiD, optB]
  | n + 1, .int i, h, k => by
    rw [go, run_s (d := d_law_same) rfl rfl]
    have e : run pg.T pg.G (k + (n + 1) + 1) "_law_whole" [.int i] M = .ok (.bl true) M := r_law_whole
    simp [d_law_same, init, isiD, optB, e]
  | n + 1, .str s, h, k => by
    rw [go, run_s (d := d_law_same) rfl rfl]
    simp [d_law_same, init, isiD, optB]
  | n + 1, .ref i, h, k => by simp [sm] at h
  | n + 1, .tup xs, h, k => by
    simp [sm] at h
    obtain ⟨h1, h2⟩ := h
    rw [go, show k + (n + 1) + 2 = (k + n + 2) + 1 by omega, run_s (d := d_law_same) rfl rfl]
    have lp : ex ⟨run pg.T pg.G (k + n + 2), pg.G, M.length⟩ (.for (.one 2) .rng [(.blt .len [(.var 1)])] [.iff (.not (.call "_law_same" [(.ix (.var 0) (.var 2)), (.ix (.var 1) (.var 2))])) [.ret (.cst (.bl false))] []] [2]) [some (.tup xs), some (.tup xs), none] M = .nx [some (.tup xs), some (.tup xs), none] M := by
      rw [x_for' (xs := rngD 0 xs.length) (w := none) (M1 := M) (by
        have hw : walkG M.length .rng [.int (xs.length : Int)] M = .ok (rngD 0 xs.length, none) M := w_rng1 (okR_len h2)
        simp [hw])]
      rw [show wipe [some (D.tup xs), some (D.tup xs), none] [2] = [some (D.tup xs), some (D.tup xs), none] from rfl]
      rw [forL_find (fun _ => none) (by simp) (rngD 0 xs.length) fun x hx => ?_]
      · have : ∀ l : List D, l.findSome? (fun _ => (none : Option D)) = none := fun l => by induction l <;> simp_all
        rw [this]; rfl
      · obtain ⟨i, hi⟩ := List.getElem?_of_mem hx
        obtain ⟨h3, rfl⟩ := rngG hi
        have e3 : ixD (.tup xs) (.int (i : Int)) M = .ok xs[i] M := by
          simp only [ixD]
          rw [atI_nat h3, List.getElem?_eq_getElem h3]
        have e4 : run pg.T pg.G (k + n + 2) "_law_same" [xs[i], xs[i]] M = .ok (.bl true) M := r_same n xs[i] (h1 _ (List.getElem_mem h3)) k
        rw [Int.zero_add]
        simp [e3, e4]
    simp [d_law_same, init, isiD, optB, lp]
/-! ### the pool -/
theorem r_mix {k : Nat} {M : Store} {cell a b : Int} (ha : 0 ≤ a) (ha' : a < 6) (hb : 0 ≤ b) (hb' : b < 40) : ∃ v : Int, 0 ≤ v ∧ v < 1000 ∧ go (k + 1) "_law_mix" [.int cell, .int a, .int b] M = .ok (.int v) M := by
  rw [go, run_s (d := d_law_mix) rfl rfl]
  have h1 := Int.emod_nonneg cell (show (1000003 : Int) ≠ 0 by decide)
  have h2 := Int.emod_lt_of_pos cell (show (0 : Int) < 1000003 by decide)
  generalize hsm : cell % 1000003 = sm at h1 h2
  have e1 : ∀ M', binD .mod (.int cell) (.int 1000003) M' = .ok (.int sm) M' := fun M' => by rw [b_mod (by decide), hsm]
  have sI : ∀ i : Int, -1000000000000 < i → i < 1000000000000 → smallI i = true := fun i p q => by
    unfold smallI
    simp
    omega
  have m1 : ∀ (i j : Int) (M' : Store), -1000000000000 < i → i < 1000000000000 → binD .mul (.int i) (.int j) M' = .ok (.int (i * j)) M' := fun i j M' p q => b_mul (by unfold okMul; rw [sI i p q]; rfl)
  have e2 : ∀ M', binD .mul (.int 2) (.int b) M' = .ok (.int (2 * b)) M' := fun M' => m1 _ _ _ (by decide) (by decide)
  have e3 : ∀ M', binD .mul (.int (2 * b)) (.int b) M' = .ok (.int (2 * b * b)) M' := fun M' => m1 _ _ _ (by omega) (by omega)
  have e4 : ∀ M', binD .mul (.int 6) (.int a) M' = .ok (.int (6 * a)) M' := fun M' => m1 _ _ _ (by decide) (by decide)
  have e5 : ∀ M', binD .mul (.int (sm + 1)) (.int (48271 + 2 * b * b + 6 * a)) M' = .ok (.int ((sm + 1) * (48271 + 2 * b * b + 6 * a))) M' := fun M' => m1 _ _ _ (by omega) (by omega)
  generalize hq : (sm + 1) * (48271 + 2 * b * b + 6 * a) = q at e5
  have e6 : ∀ M', binD .mod (.int q) (.int 2147483647) M' = .ok (.int (q % 2147483647)) M' := fun M' => b_mod (by decide)
  have h3 := Int.emod_nonneg q (show (2147483647 : Int) ≠ 0 by decide)
  have h4 := Int.emod_lt_of_pos q (show (0 : Int) < 2147483647 by decide)
  generalize q % 2147483647 = one at h3 h4 e6
  have e7 : ∀ M', binD .mul (.int one) (.int 69621) M' = .ok (.int (one * 69621)) M' := fun M' => m1 _ _ _ (by omega) (by omega)
  have e8 : ∀ M', binD .fdiv (.int one) (.int 8191) M' = .ok (.int (one / 8191)) M' := fun M' => b_fdiv (by decide)
  have h5 : 0 ≤ one / 8191 ∧ one / 8191 < 1000000000 := by omega
  have e9 : ∀ M', binD .mul (.int (one / 8191)) (.int (b + 3)) M' = .ok (.int (one / 8191 * (b + 3))) M' := fun M' => m1 _ _ _ (by omega) (by omega)
  generalize hr : one * 69621 + one / 8191 * (b + 3) = r
  have e10 : ∀ M', binD .mod (.int r) (.int 2147483629) M' = .ok (.int (r % 2147483629)) M' := fun M' => b_mod (by decide)
  generalize r % 2147483629 = two at e10
  have e11 : ∀ M', binD .fdiv (.int two) (.int 7) M' = .ok (.int (two / 7)) M' := fun M' => b_fdiv (by decide)
  have e12 : ∀ M', binD .mod (.int (two / 7)) (.int 1000) M' = .ok (.int (two / 7 % 1000)) M' := fun M' => b_mod (by decide)
  refine ⟨two / 7 % 1000, Int.emod_nonneg _ (by decide), Int.emod_lt_of_pos _ (by decide), ?_⟩
  simp [d_law_mix, init, e1, e2, e3, e4, e5, e6, e7, e8, e9, hr, e10, e11, e12]
/-- a list of numbers of the pool -/
def Pl (vs : List Int) : Prop := ∀ v ∈ vs, 0 ≤ v ∧ v < 1000
/-- the pool's inner loop -/
def poolIn : S := .for (.one 5) .rng [(.cst (.int 40))]
     [.iff (.cmp .gt (.var 4) (.cst (.int 0)))
       [.app (.var 1) (.bin .mod (.blt .int [(.var 4)]) (.cst (.int 1000))),
        .set 4 (.bin .fdiv (.var 4) (.cst (.int 1000)))]
       [.app (.var 1) (.call "_law_mix" [(.var 3), (.var 2), (.var 5)])]] [5]
theorem pl_snoc {vs : List Int} {v : Int} (h : Pl vs) (h1 : 0 ≤ v) (h2 : v < 1000) : Pl (vs ++ [v]) := fun x hx => by
  rcases List.mem_append.mp hx with hx | hx
  · exact h x hx
  · cases List.mem_singleton.mp hx; exact ⟨h1, h2⟩
theorem r_pool_in {k : Nat} {r : List D} {a cell rest : Int} {vs0 : List Int} (ha : 0 ≤ a) (ha' : a < 6) (hl : vs0.length ≤ 200) (h0 : Pl vs0) : ∃ (vs : List Int) (rest' : Int), vs.length = vs0.length + 40 ∧ Pl vs ∧
    ex ⟨run pg.T pg.G (k + 1), pg.G, 1⟩ poolIn [some (.ref 0), some (.ref 1), some (.int a), some (.int cell), some (.int rest), none] [.ro r, .lst (vs0.map D.int)] = .nx [some (.ref 0), some (.ref 1), some (.int a), some (.int cell), some (.int rest'), none] [.ro r, .lst (vs.map D.int)] := by
  rw [poolIn, x_for' (xs := rngD 0 40) (w := none) (M1 := [.ro r, .lst (vs0.map D.int)]) (by
    have hw : walkG [O.ro r, .lst (vs0.map D.int)].length .rng [.int 40] [O.ro r, .lst (vs0.map D.int)] = .ok (rngD 0 40, none) [O.ro r, .lst (vs0.map D.int)] := w_rng1 (j := 40) (by decide)
    simp at hw
    simp [hw])]
  obtain ⟨ρ', M', e, vs, rest', h1, h2, rfl, rfl⟩ := forL_all (w := none) (xs := rngD 0 40) (ρ := [some (.ref 0), some (.ref 1), some (.int a), some (.int cell), some (.int rest), none]) (M := [.ro r, .lst (vs0.map D.int)])
    (body := fun x ρ1 M2 => match assignT M2 (.one 5) x ρ1 with
      | some ρ2 => (exs ⟨run pg.T pg.G (k + 1), pg.G, 1⟩ [.iff (.cmp .gt (.var 4) (.cst (.int 0)))
       [.app (.var 1) (.bin .mod (.blt .int [(.var 4)]) (.cst (.int 1000))),
        .set 4 (.bin .fdiv (.var 4) (.cst (.int 1000)))]
       [.app (.var 1) (.call "_law_mix" [(.var 3), (.var 2), (.var 5)])]] ρ2 M2).kill [5]
      | none => .bad)
    (fun i ρ M => ∃ (vs : List Int) (rest : Int), vs.length = vs0.length + i ∧ Pl vs ∧ ρ = [some (.ref 0), some (.ref 1), some (.int a), some (.int cell), some (.int rest), none] ∧ M = [.ro r, .lst (vs.map D.int)])
    ⟨vs0, rest, rfl, h0, rfl, rfl⟩ (fun _ _ _ _ => trivial) fun i x ρ M hx ⟨vs, rest, h1, h2, e1, e2⟩ => by
      obtain ⟨hi, rfl⟩ := rngG hx
      subst e1 e2
      rw [Int.zero_add]
      have hlim : vs.length < lim := by unfold lim; omega
      by_cases hr : 0 < rest
      · have m1 : ∀ M', binD .mod (.int rest) (.int 1000) M' = .ok (.int (rest % 1000)) M' := fun M' => b_mod (by decide)
        have m2 : ∀ M', binD .fdiv (.int rest) (.int 1000) M' = .ok (.int (rest / 1000)) M' := fun M' => b_fdiv (by decide)
        refine ⟨_, _, ?_, vs ++ [rest % 1000], rest / 1000, by simp; omega, pl_snoc h2 (Int.emod_nonneg _ (by decide)) (Int.emod_lt_of_pos _ (by decide)), rfl, rfl⟩
        simp [hr, m1, m2, isLst, okIn, hlim]
      · obtain ⟨v, v1, v2, ev⟩ := r_mix (k := k) (M := [.ro r, .lst (vs.map D.int)]) (cell := cell) ha ha' (b := (i : Int)) (by omega) (by omega)
        have ev : run pg.T pg.G (k + 1) "_law_mix" [.int cell, .int a, .int (i : Int)] [.ro r, .lst (vs.map D.int)] = .ok (.int v) [.ro r, .lst (vs.map D.int)] := ev
        refine ⟨_, _, ?_, vs ++ [v], rest, by simp; omega, pl_snoc h2 v1 v2, rfl, rfl⟩
        simp [hr, ev, isLst, okIn, hlim]
  refine ⟨vs, rest', by rw [h1, rngL], h2, ?_⟩
  exact e
theorem r_pool {k : Nat} {ns : List Int} (hn : ns.length ≤ 63) : ∃ vs : List Int, vs.length = 240 ∧ Pl vs ∧ go (k + 2) "_law_pool" [.ref 0] [.ro (ns.map D.int)] = .ok (.ref 1) [.ro (ns.map D.int), .lst (vs.map D.int)] := by
  rw [go, run_s (d := d_law_pool) rfl rfl]
  have hlen : ∀ t : Store, bltD .len [.ref 0] (.ro (ns.map D.int) :: t) = .ok (.int ns.length) (.ro (ns.map D.int) :: t) := fun t => by
    rw [f_len_r (xs := ns.map D.int) rfl]
    simp
  have hix : ∀ (t : Store) (i : Nat), i < ns.length → ∃ x : Int, ixD (.ref 0) (.int (i : Int)) (.ro (ns.map D.int) :: t) = .ok (.int x) (.ro (ns.map D.int) :: t) := fun t i hi => by
    refine ⟨ns[i], ?_⟩
    rw [ix_ro (xs := ns.map D.int) rfl (by omega) (by simpa using hi)]
    simp
  have e18 : ∀ M', binD .pow (.int 10) (.int 18) M' = .ok (.int 1000000000000000000) M' := fun M' => b_pow (by decide)
  have lp : ∃ vs : List Int, vs.length = 240 ∧ Pl vs ∧ ex ⟨run pg.T pg.G (k + 1), pg.G, 1⟩ (d_law_pool.body.getD 1 .pass) [some (.ref 0), some (.ref 1), none, none, none, none] [.ro (ns.map D.int), .lst []] = .nx [some (.ref 0), some (.ref 1), none, none, none, none] [.ro (ns.map D.int), .lst (vs.map D.int)] := by
    simp only [d_law_pool, List.getD_cons_succ, List.getD_cons_zero]
    rw [← poolIn]
    rw [x_for' (xs := rngD 0 6) (w := none) (M1 := [.ro (ns.map D.int), .lst []]) (by
      have hw : walkG [O.ro (ns.map D.int), .lst []].length .rng [.int 6] [O.ro (ns.map D.int), .lst []] = .ok (rngD 0 6, none) [O.ro (ns.map D.int), .lst []] := w_rng1 (j := 6) (by decide)
      simp at hw
      simp [hw])]
    obtain ⟨ρ', M', e, vs, h1, h2, rfl, rfl⟩ := forL_all (w := none) (xs := rngD 0 6) (ρ := [some (.ref 0), some (.ref 1), none, none, none, none]) (M := [.ro (ns.map D.int), .lst []])
      (body := fun x ρ1 M2 => match assignT M2 (.one 2) x ρ1 with
        | some ρ2 => (exs ⟨run pg.T pg.G (k + 1), pg.G, 1⟩ [.set 3 (.cst (.int 0)),
    .iff (.cmp .lt (.var 2) (.blt .len [(.var 0)]))
     [.set 3 (.blt .abs [(.ix (.var 0) (.var 2))])]
     [],
    .set 4 (.cst (.int 0)),
    .iff (.cmp .ge (.var 3) (.bin .pow (.cst (.int 10)) (.cst (.int 18))))
     [.set 4 (.var 3)]
     [],
    poolIn] ρ2 M2).kill [2, 3, 4, 5]
        | none => .bad)
      (fun i ρ M => ∃ vs : List Int, vs.length = 40 * i ∧ Pl vs ∧ ρ = [some (.ref 0), some (.ref 1), none, none, none, none] ∧ M = [.ro (ns.map D.int), .lst (vs.map D.int)])
      ⟨[], rfl, (fun _ h => nomatch h), rfl, rfl⟩ (fun _ _ _ _ => trivial) fun i x ρ M hx ⟨vs, h1, h2, e1, e2⟩ => by
        obtain ⟨hi, rfl⟩ := rngG hx
        subst e1 e2
        rw [Int.zero_add]
        have fin : ∀ cell rest : Int, ∃ ρ' M', ((ex ⟨run pg.T pg.G (k + 1), pg.G, 1⟩ poolIn [some (.ref 0), some (.ref 1), some (.int (i : Int)), some (.int cell), some (.int rest), none] [.ro (ns.map D.int), .lst (vs.map D.int)]).andThen fun ρ1 M1 => .nx ρ1 M1).kill [2, 3, 4, 5] = .nx ρ' M' ∧
            ∃ vs : List Int, vs.length = 40 * (i + 1) ∧ Pl vs ∧ ρ' = [some (.ref 0), some (.ref 1), none, none, none, none] ∧ M' = [.ro (ns.map D.int), .lst (vs.map D.int)] := fun cell rest => by
          obtain ⟨vs', r', g1, g2, g3⟩ := r_pool_in (k := k) (r := ns.map D.int) (a := (i : Int)) (cell := cell) (rest := rest) (vs0 := vs) (by omega) (by omega) (by omega) h2
          rw [g3]
          exact ⟨_, _, rfl, vs', by omega, g2, rfl, rfl⟩
        by_cases hc : (i : Int) < ns.length
        · obtain ⟨x, ex⟩ := hix [.lst (vs.map D.int)] i (by omega)
          by_cases hr : (1000000000000000000 : Int) ≤ (if x < 0 then -x else x)
          · simpa [hlen, ex, hc, e18, hr] using fin (if x < 0 then -x else x) (if x < 0 then -x else x)
          · simpa [hlen, ex, hc, e18, hr] using fin (if x < 0 then -x else x) 0
        · simpa [hlen, hc, e18] using fin 0 0
    refine ⟨vs, by rw [h1, rngL], h2, ?_⟩
    exact e
  obtain ⟨vs, h1, h2, e⟩ := lp
  refine ⟨vs, h1, h2, ?_⟩
  simp only [d_law_pool, List.getD_cons_succ, List.getD_cons_zero] at e
  have hp : D.pures (vs.map D.int) = true := ps_mem fun x hx => by
    obtain ⟨v, _, rfl⟩ := List.mem_map.mp hx
    simp
  simp [d_law_pool, init, alloc, Res.gc, gc, O.pure, e, hp]

/-! ### names, bookings, the journal -/
theorem isNm_of {s : Str} (h1 : 1 ≤ s.length) (h2 : s.length ≤ 8) (h3 : okl s = true) : isNm (.str s) = true := by simp [isNm, h1, h2, h3]
def six : Str := ⟨#[97, 98, 99, 120, 121, 122]⟩
theorem six_ix {M : Store} {j : Int} (h : 0 ≤ j) (h' : j < 6) : ∃ c, okc c = true ∧ ixD (.str six) (.int j) M = .ok (.str ⟨#[c]⟩) M := by
  have : j = 0 ∨ j = 1 ∨ j = 2 ∨ j = 3 ∨ j = 4 ∨ j = 5 := by omega
  rcases this with rfl | rfl | rfl | rfl | rfl | rfl
  · exact ⟨97, by decide, rfl⟩
  · exact ⟨98, by decide, rfl⟩
  · exact ⟨99, by decide, rfl⟩
  · exact ⟨120, by decide, rfl⟩
  · exact ⟨121, by decide, rfl⟩
  · exact ⟨122, by decide, rfl⟩
theorem okl_app {s t : Str} (h : okl s = true) (g : okl t = true) : okl (s ++ t) = true := by
  have e : (s ++ t).cps = s.cps ++ t.cps := rfl
  unfold okl at h g ⊢
  rw [e, Array.toList_append, List.all_append, h, g]; rfl
theorem len_app {s t : Str} : (s ++ t).length = s.length + t.length := by
  have e : (s ++ t).cps = s.cps ++ t.cps := rfl
  unfold Str.length
  rw [e, Array.size_append]
theorem r_name {k : Nat} {M : Store} {n : Int} : ∃ s : Str, isNm (.str s) = true ∧ s.length ≤ 7 ∧ go (k + 1) "_law_name" [.int n] M = .ok (.str s) M := by
  have d2 : ∀ M' (i : Int), binD .mod (.int i) (.int 2) M' = .ok (.int (i % 2)) M' := fun M' i => b_mod (by decide)
  have d3 : ∀ M' (i : Int), binD .mod (.int i) (.int 3) M' = .ok (.int (i % 3)) M' := fun M' i => b_mod (by decide)
  have d6 : ∀ M' (i : Int), binD .mod (.int i) (.int 6) M' = .ok (.int (i % 6)) M' := fun M' i => b_mod (by decide)
  have d7 : ∀ M' (i : Int), binD .mod (.int i) (.int 7) M' = .ok (.int (i % 7)) M' := fun M' i => b_mod (by decide)
  have q2 : ∀ M' (i : Int), binD .fdiv (.int i) (.int 2) M' = .ok (.int (i / 2)) M' := fun M' i => b_fdiv (by decide)
  have q12 : ∀ M' (i : Int), binD .fdiv (.int i) (.int 12) M' = .ok (.int (i / 12)) M' := fun M' i => b_fdiv (by decide)
  have q72 : ∀ M' (i : Int), binD .fdiv (.int i) (.int 72) M' = .ok (.int (i / 72)) M' := fun M' i => b_fdiv (by decide)
  by_cases h2 : n % 2 = 0
  · have key : ∀ s : Str, isNm (.str s) = true → s.length ≤ 7 → ixD (.tup [(.str ⟨#[97]⟩), (.str ⟨#[98, 111]⟩), (.str ⟨#[97, 100, 97]⟩), (.str ⟨#[99, 111, 118, 101]⟩), (.str ⟨#[103, 117, 108, 108]⟩), (.str ⟨#[116, 117, 103]⟩), (.str ⟨#[122, 122]⟩)]) (.int (n / 2 % 7)) M = .ok (.str s) M →
        ∃ s : Str, isNm (.str s) = true ∧ s.length ≤ 7 ∧ go (k + 1) "_law_name" [.int n] M = .ok (.str s) M := fun s h1 h3 e => by
      refine ⟨s, h1, h3, ?_⟩
      rw [go, run_s (d := d_law_name) rfl rfl]
      simp [d_law_name, init, d2, d7, q2, h2, e]
    have : n / 2 % 7 = 0 ∨ n / 2 % 7 = 1 ∨ n / 2 % 7 = 2 ∨ n / 2 % 7 = 3 ∨ n / 2 % 7 = 4 ∨ n / 2 % 7 = 5 ∨ n / 2 % 7 = 6 := by omega
    rcases this with e | e | e | e | e | e | e
    · exact key ⟨#[97]⟩ (by decide) (by decide) (by rw [e]; rfl)
    · exact key ⟨#[98, 111]⟩ (by decide) (by decide) (by rw [e]; rfl)
    · exact key ⟨#[97, 100, 97]⟩ (by decide) (by decide) (by rw [e]; rfl)
    · exact key ⟨#[99, 111, 118, 101]⟩ (by decide) (by decide) (by rw [e]; rfl)
    · exact key ⟨#[103, 117, 108, 108]⟩ (by decide) (by decide) (by rw [e]; rfl)
    · exact key ⟨#[116, 117, 103]⟩ (by decide) (by decide) (by rw [e]; rfl)
    · exact key ⟨#[122, 122]⟩ (by decide) (by decide) (by rw [e]; rfl)
  · obtain ⟨c1, k1, i1⟩ := six_ix (M := M) (j := n / 2 % 6) (by omega) (by omega)
    obtain ⟨c2, k2, i2⟩ := six_ix (M := M) (j := n / 12 % 6) (by omega) (by omega)
    have hr : ∃ t : Str, okl t = true ∧ t.length ≤ 2 ∧ binD .mul (.str ⟨#[c2]⟩) (.int (n / 72 % 3)) M = .ok (.str t) M := by
      have : n / 72 % 3 = 0 ∨ n / 72 % 3 = 1 ∨ n / 72 % 3 = 2 := by omega
      rcases this with e | e | e <;> rw [e]
      · exact ⟨⟨#[]⟩, by decide, by decide, rfl⟩
      · exact ⟨⟨#[c2]⟩, by simp [okl, k2], (by show (1 : Nat) ≤ 2; decide), rfl⟩
      · exact ⟨⟨#[c2, c2]⟩, by simp [okl, k2], (by show (2 : Nat) ≤ 2; decide), rfl⟩
    obtain ⟨t, t1, t2, t3⟩ := hr
    have hl1 : (⟨#[c1]⟩ : Str).length = 1 := rfl
    have hb : binD .add (.str ⟨#[c1]⟩) (.str t) M = .ok (.str (⟨#[c1]⟩ ++ t)) M := b_str (by rw [hl1]; unfold lim; omega)
    refine ⟨⟨#[c1]⟩ ++ t, isNm_of (by rw [len_app, hl1]; omega) (by rw [len_app, hl1]; omega) (okl_app (by simp [okl, k1]) t1), by rw [len_app, hl1]; omega, ?_⟩
    rw [go, run_s (d := d_law_name) rfl rfl]
    unfold six at i1 i2
    simp [d_law_name, init, d2, d3, d6, q2, q12, q72, h2, i1, i2, t3, hb]
/-- a booking -/
structure B where
  w : Str
  p : Str
  t : Str
  a : Int
def bD (b : B) : D := .tup [.str b.w, .str b.p, .str b.t, .int b.a]
structure B.Ok (b : B) : Prop where
  w : isNm (.str b.w) = true
  p : isNm (.str b.p) = true
  t : isNm (.str b.t) = true
  ne : b.p ≠ b.t
  lo : 1 ≤ b.a
  hi : b.a ≤ 99999
theorem r_booking {k : Nat} {M : Store} {n : Int} (hn : 0 ≤ n) : ∃ b : B, b.Ok ∧ go (k + 2) "_law_booking" [.int n] M = .ok (bD b) M := by
  have d5 : ∀ M' (i : Int), binD .mod (.int i) (.int 5) M' = .ok (.int (i % 5)) M' := fun M' i => b_mod (by decide)
  have d9 : ∀ M' (i : Int), binD .mod (.int i) (.int 9) M' = .ok (.int (i % 9)) M' := fun M' i => b_mod (by decide)
  have dk : ∀ M' (i : Int), binD .mod (.int i) (.int 1000) M' = .ok (.int (i % 1000)) M' := fun M' i => b_mod (by decide)
  have dm : ∀ M' (i : Int), binD .mod (.int i) (.int 99999) M' = .ok (.int (i % 99999)) M' := fun M' i => b_mod (by decide)
  have q5 : ∀ M' (i : Int), binD .fdiv (.int i) (.int 5) M' = .ok (.int (i / 5)) M' := fun M' i => b_fdiv (by decide)
  have q7 : ∀ M' (i : Int), binD .fdiv (.int i) (.int 7) M' = .ok (.int (i / 7)) M' := fun M' i => b_fdiv (by decide)
  have qk : ∀ M' (i : Int), binD .fdiv (.int i) (.int 5000) M' = .ok (.int (i / 5000)) M' := fun M' i => b_fdiv (by decide)
  have qm : ∀ M' (i : Int), binD .fdiv (.int i) (.int 5000000) M' = .ok (.int (i / 5000000)) M' := fun M' i => b_fdiv (by decide)
  obtain ⟨p, p1, p2, p3⟩ := r_name (k := k) (M := M) (n := n / 5 % 1000)
  obtain ⟨t, t1, t2, t3⟩ := r_name (k := k) (M := M) (n := n / 5000 % 1000)
  have p3 : run pg.T pg.G (k + 1) "_law_name" [.int (n / 5 % 1000)] M = .ok (.str p) M := p3
  have t3 : run pg.T pg.G (k + 1) "_law_name" [.int (n / 5000 % 1000)] M = .ok (.str t) M := t3
  have hw : ∃ w : Str, isNm (.str w) = true ∧ ixD (.tup [(.str ⟨#[99, 97, 108, 108]⟩), (.str ⟨#[111, 105, 108]⟩), (.str ⟨#[98, 97, 99, 107]⟩), (.str ⟨#[115, 101, 116, 116, 108, 101]⟩), (.str ⟨#[120]⟩)]) (.int (n % 5)) M = .ok (.str w) M := by
    have : n % 5 = 0 ∨ n % 5 = 1 ∨ n % 5 = 2 ∨ n % 5 = 3 ∨ n % 5 = 4 := by omega
    rcases this with e | e | e | e | e
    · exact ⟨⟨#[99, 97, 108, 108]⟩, by decide, by rw [e]; rfl⟩
    · exact ⟨⟨#[111, 105, 108]⟩, by decide, by rw [e]; rfl⟩
    · exact ⟨⟨#[98, 97, 99, 107]⟩, by decide, by rw [e]; rfl⟩
    · exact ⟨⟨#[115, 101, 116, 116, 108, 101]⟩, by decide, by rw [e]; rfl⟩
    · exact ⟨⟨#[120]⟩, by decide, by rw [e]; rfl⟩
  obtain ⟨w, w1, w2⟩ := hw
  have ha : 0 ≤ n / 5000000 % 99999 ∧ n / 5000000 % 99999 < 99999 := ⟨Int.emod_nonneg _ (by decide), Int.emod_lt_of_pos _ (by decide)⟩
  have hq : (⟨#[113]⟩ : Str).length = 1 := rfl
  have hb : binD .add (.str t) (.str ⟨#[113]⟩) M = .ok (.str (t ++ ⟨#[113]⟩)) M := b_str (by rw [hq]; unfold lim; omega)
  have okt : okl t = true := by
    simp [isNm] at t1
    exact t1.2
  have ht' : isNm (.str (t ++ ⟨#[113]⟩)) = true := isNm_of (by rw [len_app, hq]; omega) (by rw [len_app, hq]; omega) (okl_app okt (by decide))
  have hne : p = t → p ≠ t ++ ⟨#[113]⟩ := fun e e2 => by
    have := congrArg Str.length (e ▸ e2)
    rw [len_app, hq] at this
    omega
  by_cases h9 : n / 7 % 9 = 0 <;> by_cases hpt : p = t
  · refine ⟨⟨w, p, t ++ ⟨#[113]⟩, 99999⟩, ⟨w1, p1, ht', hne hpt, (by show (1 : Int) ≤ 99999; decide), (by show (99999 : Int) ≤ 99999; decide)⟩, ?_⟩
    rw [go, run_s (d := d_law_booking) rfl rfl]
    subst hpt
    simp [d_law_booking, init, d5, d9, dk, dm, q5, q7, qk, qm, p3, t3, w2, hb, h9, bD]
  · refine ⟨⟨w, p, t, 99999⟩, ⟨w1, p1, t1, hpt, (by show (1 : Int) ≤ 99999; decide), (by show (99999 : Int) ≤ 99999; decide)⟩, ?_⟩
    rw [go, run_s (d := d_law_booking) rfl rfl]
    simp [d_law_booking, init, d5, d9, dk, dm, q5, q7, qk, qm, p3, t3, w2, hb, h9, hpt, bD]
  · refine ⟨⟨w, p, t ++ ⟨#[113]⟩, 1 + n / 5000000 % 99999⟩, ⟨w1, p1, ht', hne hpt, by show 1 ≤ 1 + n / 5000000 % 99999; omega, by show 1 + n / 5000000 % 99999 ≤ 99999; omega⟩, ?_⟩
    rw [go, run_s (d := d_law_booking) rfl rfl]
    subst hpt
    simp [d_law_booking, init, d5, d9, dk, dm, q5, q7, qk, qm, p3, t3, w2, hb, h9, bD]
  · refine ⟨⟨w, p, t, 1 + n / 5000000 % 99999⟩, ⟨w1, p1, t1, hpt, by show 1 ≤ 1 + n / 5000000 % 99999; omega, by show 1 + n / 5000000 % 99999 ≤ 99999; omega⟩, ?_⟩
    rw [go, run_s (d := d_law_booking) rfl rfl]
    simp [d_law_booking, init, d5, d9, dk, dm, q5, q7, qk, qm, p3, t3, w2, hb, h9, hpt, bD]

end K82
end
section
set_option Elab.async false
set_option linter.all false
set_option maxRecDepth 100000
namespace K82
open Sk
open PySem (Str)
theorem cut_sub {α : Type} {l : List α} {lo hi : Option Int} : ∀ x ∈ cut l lo hi, x ∈ l := fun x hx => by
  unfold cut at hx
  exact List.mem_of_mem_drop (List.mem_of_mem_take hx)
theorem cut_6_66 {α : Type} {l : List α} (h : l.length ≤ 63) : (cut l (some 6) (some 66)).length ≤ 57 := by
  unfold cut sIx
  simp
  omega
theorem bD_pure (b : B) : (bD b).pure = true := by simp [bD]
theorem ints_pure (vs : List Int) : D.pures (vs.map D.int) = true := ps_mem fun x hx => by
  obtain ⟨v, _, rfl⟩ := List.mem_map.mp hx
  simp
theorem bDs_pure (js : List B) : D.pures (js.map bD) = true := ps_mem fun x hx => by
  obtain ⟨v, _, rfl⟩ := List.mem_map.mp hx
  exact bD_pure v
/-- the cells of the journal -/
theorem r_cells {k : Nat} {ns vs : List Int} (hn : ns.length ≤ 63) (hv : vs.length = 240) (hp : Pl vs) : ∃ cs : List Int, cs.length ≤ 57 ∧ (∀ c ∈ cs, 0 ≤ c) ∧
    exs ⟨run pg.T pg.G k, pg.G, 2⟩ (d_law_journal.body.take 2) [some (.ref 1), some (.ref 0), none, none, none, none] [.ro (ns.map D.int), .lst (vs.map D.int)] = .nx [some (.ref 1), some (.ref 0), some (.ref 2), none, none, none] [.ro (ns.map D.int), .lst (vs.map D.int), .lst (cs.map D.int)] := by
  -- the cells of the script
  have e12 : ∀ M', binD .pow (.int 10) (.int 12) M' = .ok (.int 1000000000000) M' := fun M' => b_pow (by decide)
  have m12 : ∀ M' (i : Int), binD .mod (.int i) (.int 1000000000000) M' = .ok (.int (i % 1000000000000)) M' := fun M' i => b_mod (by decide)
  have hxs : ∃ xs : List Int, xs.length ≤ 57 ∧ cut (ns.map D.int) (some 6) (some 66) = xs.map D.int := by
    refine ⟨cut ns (some 6) (some 66), cut_6_66 hn, ?_⟩
    unfold cut
    simp [List.map_take, List.map_drop]
  obtain ⟨xs, x1, x2⟩ := hxs
  have hsl : ∀ t, slcD (.ref 0) (some 6) (some 66) (.ro (ns.map D.int) :: t) = .ok (.ref (t.length + 1)) (.ro (ns.map D.int) :: t ++ [.lst (xs.map D.int)]) := fun t => by
    simp [slcD, listAt, alloc, x2]
  have hw : walkG 2 .val [.ref 2] [.ro (ns.map D.int), .lst (vs.map D.int), .lst (xs.map D.int)] = .ok (xs.map D.int, none) [.ro (ns.map D.int), .lst (vs.map D.int)] := w_new (M := [.ro (ns.map D.int), .lst (vs.map D.int)]) (t := [.lst (xs.map D.int)]) (p := 2) rfl (Nat.le_refl 2) (ints_pure xs)
  let ab : Int → Int := fun i => (if i < 0 then -i else i) % 1000000000000
  have hlim : xs.length ≤ lim := by unfold lim; omega
  have h1 : ex ⟨run pg.T pg.G k, pg.G, 2⟩ (.set 2 (.lc (.bin .mod (.blt .abs [(.blt .int [(.var 3)])]) (.bin .pow (.cst (.int 10)) (.cst (.int 12)))) (.one 3) .val [(.slcLU (.var 1) (.cst (.int 6)) (.cst (.int 66)))] [] [3])) [some (.ref 1), some (.ref 0), none, none, none, none] [.ro (ns.map D.int), .lst (vs.map D.int)] =
      .nx [some (.ref 1), some (.ref 0), some (.ref 2), none, none, none] [.ro (ns.map D.int), .lst (vs.map D.int), .lst ((xs.map ab).map D.int)] := by
    have hlc := e_lc_map (c := ⟨run pg.T pg.G k, pg.G, 2⟩) (ρ := [some (.ref 1), some (.ref 0), none, none, none, none]) (M := [.ro (ns.map D.int), .lst (vs.map D.int)]) (M2 := [.ro (ns.map D.int), .lst (vs.map D.int)]) (e := .bin .mod (.blt .abs [(.blt .int [(.var 3)])]) (.bin .pow (.cst (.int 10)) (.cst (.int 12)))) (tg := .one 3) (k := .val) (its := [(.slcLU (.var 1) (.cst (.int 6)) (.cst (.int 66)))]) (own := [3]) (xs := xs.map D.int) (w := none)
      (fun x => match x with
        | .int i => .int (ab i)
        | d => d) (by simp [hsl, hw]) (by simpa using hlim) trivial fun x hx => by
          obtain ⟨i, _, rfl⟩ := List.mem_map.mp hx
          exact ⟨_, rfl, by simp [e12, m12, ab]⟩
    rw [x_set, gg_def, hlc]
    have hm : (xs.map D.int).map (fun x => match x with
        | .int i => D.int (ab i)
        | d => d) = (xs.map ab).map D.int := by simp [Function.comp_def]
    rw [hm]
    simp [Res.gc, gc, O.pure, ints_pure]
  have hab : ∀ x, 0 ≤ ab x := fun x => Int.emod_nonneg _ (by decide)
  have hcs : ∀ c ∈ xs.map ab, 0 ≤ c := fun c hc => by
    obtain ⟨x, _, rfl⟩ := List.mem_map.mp hc
    exact hab x
  have hlen : ∀ cs : List Int, bltD .len [.ref 2] [.ro (ns.map D.int), .lst (vs.map D.int), .lst (cs.map D.int)] = .ok (.int cs.length) [.ro (ns.map D.int), .lst (vs.map D.int), .lst (cs.map D.int)] := fun cs => by
    rw [f_len_l (xs := cs.map D.int) rfl]
    simp
  by_cases hx0 : xs = []
  · -- drawn cells
    subst hx0
    have hix : ∀ (cs : List Int) (i : Int), 0 ≤ i → i < 240 → ∃ x : Int, 0 ≤ x ∧ x < 1000 ∧ ixD (.ref 1) (.int i) [.ro (ns.map D.int), .lst (vs.map D.int), .lst (cs.map D.int)] = .ok (.int x) [.ro (ns.map D.int), .lst (vs.map D.int), .lst (cs.map D.int)] := fun cs i h0 hi => by
      have hl : i.toNat < vs.length := by omega
      obtain ⟨g1, g2⟩ := hp vs[i.toNat] (List.getElem_mem hl)
      refine ⟨vs[i.toNat], g1, g2, ?_⟩
      rw [ix_lst (xs := vs.map D.int) rfl h0 (by simp; omega)]
      simp
    obtain ⟨q, q1, q2, q3⟩ := hix [] 200 (by decide) (by decide)
    have m13 : ∀ M' (i : Int), binD .mod (.int i) (.int 13) M' = .ok (.int (i % 13)) M' := fun M' i => b_mod (by decide)
    have hq0 : 0 ≤ q % 13 ∧ q % 13 < 13 := ⟨Int.emod_nonneg _ (by decide), Int.emod_lt_of_pos _ (by decide)⟩
    have hw : walkG 3 .rng [.int (q % 13)] [.ro (ns.map D.int), .lst (vs.map D.int), .lst []] = .ok (rngD 0 (q % 13).toNat, none) [.ro (ns.map D.int), .lst (vs.map D.int), .lst []] := w_rng1 (M := [.ro (ns.map D.int), .lst (vs.map D.int), .lst []]) (okR_of (by omega) (by omega))
    have sI : ∀ i : Int, 0 ≤ i → i < 1000 → smallI i = true := fun i p q => by
      unfold smallI
      simp
      omega
    have m1 : ∀ (i j : Int) (M' : Store), 0 ≤ i → i < 1000 → binD .mul (.int i) (.int j) M' = .ok (.int (i * j)) M' := fun i j M' p q => b_mul (by unfold okMul; rw [sI i p q]; rfl)
    have e9 : ∀ M', binD .pow (.int 10) (.int 9) M' = .ok (.int 1000000000) M' := fun M' => b_pow (by decide)
    have e6 : ∀ M', binD .pow (.int 10) (.int 6) M' = .ok (.int 1000000) M' := fun M' => b_pow (by decide)
    obtain ⟨ρ', M', e, cs, h2, h3, rfl, rfl⟩ := forL_all (w := none) (xs := rngD 0 (q % 13).toNat) (ρ := [some (.ref 1), some (.ref 0), some (.ref 2), none, none, none]) (M := [.ro (ns.map D.int), .lst (vs.map D.int), .lst []])
      (body := fun x ρ1 M2 => match assignT M2 (.one 4) x ρ1 with
        | some ρ2 => (exs ⟨run pg.T pg.G k, pg.G, 2⟩ [.app (.var 2) (.bin .add (.bin .add (.bin .add (.bin .mul (.ix (.var 0) (.bin .add (.cst (.int 100)) (.bin .mul (.cst (.int 4)) (.var 4)))) (.bin .pow (.cst (.int 10)) (.cst (.int 9)))) (.bin .mul (.ix (.var 0) (.bin .add (.cst (.int 101)) (.bin .mul (.cst (.int 4)) (.var 4)))) (.bin .pow (.cst (.int 10)) (.cst (.int 6))))) (.bin .mul (.ix (.var 0) (.bin .add (.cst (.int 102)) (.bin .mul (.cst (.int 4)) (.var 4)))) (.cst (.int 1000)))) (.ix (.var 0) (.bin .add (.cst (.int 103)) (.bin .mul (.cst (.int 4)) (.var 4)))))] ρ2 M2).kill [4]
        | none => .bad)
      (fun i ρ M => ∃ cs : List Int, cs.length = i ∧ (∀ c ∈ cs, 0 ≤ c) ∧ ρ = [some (.ref 1), some (.ref 0), some (.ref 2), none, none, none] ∧ M = [.ro (ns.map D.int), .lst (vs.map D.int), .lst (cs.map D.int)])
      ⟨[], rfl, (fun _ h => nomatch h), rfl, rfl⟩ (fun _ _ _ _ => trivial) fun i x ρ M hx ⟨cs, h1, h2, e1, e2⟩ => by
        obtain ⟨hi, rfl⟩ := rngG hx
        subst e1 e2
        rw [Int.zero_add]
        have hi13 : (i : Int) < 13 := by omega
        have m4 : ∀ M', binD .mul (.int 4) (.int (i : Int)) M' = .ok (.int (4 * i)) M' := fun M' => m1 _ _ _ (by decide) (by decide)
        obtain ⟨a, a1, a2, a3⟩ := hix cs (100 + 4 * i) (by omega) (by omega)
        obtain ⟨b, b1, b2, b3⟩ := hix cs (101 + 4 * i) (by omega) (by omega)
        obtain ⟨c, c1, c2, c3⟩ := hix cs (102 + 4 * i) (by omega) (by omega)
        obtain ⟨d, d1, d2, d3⟩ := hix cs (103 + 4 * i) (by omega) (by omega)
        have hl : cs.length < lim := by unfold lim; omega
        have n1 : ∀ M', binD .mul (.int a) (.int 1000000000) M' = .ok (.int (a * 1000000000)) M' := fun M' => m1 _ _ _ a1 a2
        have n2 : ∀ M', binD .mul (.int b) (.int 1000000) M' = .ok (.int (b * 1000000)) M' := fun M' => m1 _ _ _ b1 b2
        have n3 : ∀ M', binD .mul (.int c) (.int 1000) M' = .ok (.int (c * 1000)) M' := fun M' => m1 _ _ _ c1 c2
        refine ⟨_, _, ?_, cs ++ [a * 1000000000 + b * 1000000 + c * 1000 + d], by simp [h1], fun z hz => ?_, rfl, rfl⟩
        · simp [m4, a3, b3, c3, d3, e9, e6, n1, n2, n3, isLst, okIn, hl]
        · rcases List.mem_append.mp hz with hz | hz
          · exact h2 z hz
          · cases List.mem_singleton.mp hz; omega
    refine ⟨cs, by rw [h2, rngL]; omega, h3, ?_⟩
    simp only [d_law_journal, List.take_succ_cons, List.take_zero]
    rw [xs_cons, h1, an_nx, xs_cons, x_iff]
    have hl0 := hlen []
    simp only [List.map_nil, List.length_nil] at hl0 e ⊢
    simp [hl0, q3, m13]
    rw [x_for' (xs := rngD 0 (q % 13).toNat) (w := none) (M1 := [.ro (ns.map D.int), .lst (vs.map D.int), .lst []]) (by
      have q3 := q3
      simp only [List.map_nil] at q3
      simp [q3, m13, hw])]
    have e := e
    rw [show wipe [some (D.ref 1), some (D.ref 0), some (D.ref 2), none, none, none] [4] = [some (D.ref 1), some (D.ref 0), some (D.ref 2), none, none, none] from rfl]
    exact congrArg (fun o : Out => (o.andThen fun ρ1 M1 => .nx ρ1 M1).andThen fun ρ1 M1 => .nx ρ1 M1) e
  · have hne : (xs.length : Int) ≠ 0 := by
      have : xs.length ≠ 0 := fun h => hx0 (List.length_eq_zero_iff.mp h)
      omega
    refine ⟨xs.map ab, by simpa using x1, hcs, ?_⟩
    simp only [d_law_journal, List.take_succ_cons, List.take_zero]
    rw [xs_cons, h1, an_nx, xs_cons, x_iff]
    have hl0 := hlen (xs.map ab)
    simp at hl0
    simp [hl0, hx0]

instance : Inhabited B := ⟨⟨⟨#[]⟩, ⟨#[]⟩, ⟨#[]⟩, 0⟩⟩
theorem r_journal {k : Nat} {ns vs : List Int} (hn : ns.length ≤ 63) (hv : vs.length = 240) (hp : Pl vs) : ∃ js : List B, (∀ b ∈ js, b.Ok) ∧ js.length ≤ 57 ∧
    go (k + 3) "_law_journal" [.ref 1, .ref 0] [.ro (ns.map D.int), .lst (vs.map D.int)] = .ok (.tup (js.map bD)) [.ro (ns.map D.int), .lst (vs.map D.int)] := by
  obtain ⟨cs, c1, c2, e⟩ := r_cells (k := k + 2) hn hv hp
  have hb : ∃ f : Int → B, ∀ n, 0 ≤ n → (f n).Ok ∧ go (k + 2) "_law_booking" [.int n] [.ro (ns.map D.int), .lst (vs.map D.int), .lst (cs.map D.int)] = .ok (bD (f n)) [.ro (ns.map D.int), .lst (vs.map D.int), .lst (cs.map D.int)] := by
    refine ⟨fun n => if h : 0 ≤ n then Classical.choose (r_booking (k := k) (M := [.ro (ns.map D.int), .lst (vs.map D.int), .lst (cs.map D.int)]) h) else default, fun n h => ?_⟩
    simp only [h, dif_pos]
    exact Classical.choose_spec (r_booking (k := k) (M := [.ro (ns.map D.int), .lst (vs.map D.int), .lst (cs.map D.int)]) h)
  obtain ⟨f, hf⟩ := hb
  refine ⟨cs.map f, fun b hb => ?_, by simpa using c1, ?_⟩
  · obtain ⟨n, hn, rfl⟩ := List.mem_map.mp hb
    exact (hf n (c2 n hn)).1
  · rw [go, run_s (d := d_law_journal) rfl rfl]
    have hlc := e_lc_map (c := ⟨run pg.T pg.G (k + 2), pg.G, 2⟩) (ρ := [some (.ref 1), some (.ref 0), some (.ref 2), none, none, none]) (M := [.ro (ns.map D.int), .lst (vs.map D.int), .lst (cs.map D.int)]) (M2 := [.ro (ns.map D.int), .lst (vs.map D.int), .lst (cs.map D.int)]) (e := .call "_law_booking" [(.var 5)]) (tg := .one 5) (k := .val) (its := [(.var 2)]) (own := [5]) (xs := cs.map D.int) (w := some 2)
      (fun x => match x with
        | .int i => bD (f i)
        | d => d) (by
          have hw : walkG 3 .val [.ref 2] [O.ro (ns.map D.int), .lst (vs.map D.int), .lst (cs.map D.int)] = .ok (cs.map D.int, some 2) [.ro (ns.map D.int), .lst (vs.map D.int), .lst (cs.map D.int)] := w_lst (M := [O.ro (ns.map D.int), .lst (vs.map D.int), .lst (cs.map D.int)]) rfl
          simp [hw]) (by unfold lim; simp; omega) rfl fun x hx => by
          obtain ⟨i, hi, rfl⟩ := List.mem_map.mp hx
          have e2 : run pg.T pg.G (k + 2) "_law_booking" [.int i] [.ro (ns.map D.int), .lst (vs.map D.int), .lst (cs.map D.int)] = .ok (bD (f i)) [.ro (ns.map D.int), .lst (vs.map D.int), .lst (cs.map D.int)] := (hf i (c2 i hi)).2
          exact ⟨_, rfl, by simp [e2, bD_pure]⟩
    have hm : (cs.map D.int).map (fun x => match x with
        | .int i => bD (f i)
        | d => d) = (cs.map f).map bD := by simp [Function.comp_def]
    rw [hm] at hlc
    have hsplit : d_law_journal.body = d_law_journal.body.take 2 ++ d_law_journal.body.drop 2 := (List.take_append_drop 2 _).symm
    have happ : ∀ (ss us : List S) (c : Cx) (ρ : Env) (M : Store), exs c (ss ++ us) ρ M = (exs c ss ρ M).andThen fun ρ1 M1 => exs c us ρ1 M1 := fun ss => by
      induction ss with
      | nil => intro us c ρ M; simp
      | cons s ss ih =>
        intro us c ρ M
        rw [List.cons_append, xs_cons, xs_cons]
        cases ex c s ρ M <;> simp [ih, Out.andThen]
    rw [hsplit, happ]
    rw [show init d_law_journal [.ref 1, .ref 0] = [some (.ref 1), some (.ref 0), none, none, none, none] from rfl]
    have e : exs ⟨run pg.T pg.G (k + 2), pg.G, [O.ro (ns.map D.int), .lst (vs.map D.int)].length⟩ (d_law_journal.body.take 2) [some (.ref 1), some (.ref 0), none, none, none, none] [.ro (ns.map D.int), .lst (vs.map D.int)] = .nx [some (.ref 1), some (.ref 0), some (.ref 2), none, none, none] [.ro (ns.map D.int), .lst (vs.map D.int), .lst (cs.map D.int)] := e
    rw [e, an_nx]
    simp only [d_law_journal, List.drop_succ_cons, List.drop_zero]
    have hft : bltD .tuple [.ref 3] ([.ro (ns.map D.int), .lst (vs.map D.int), .lst (cs.map D.int)] ++ [.lst ((cs.map f).map bD)]) = .ok (.tup ((cs.map f).map bD)) ([.ro (ns.map D.int), .lst (vs.map D.int), .lst (cs.map D.int)] ++ [.lst ((cs.map f).map bD)]) := f_tup rfl
    have hev : ev ⟨run pg.T pg.G (k + 2), pg.G, 2⟩ (.blt .tuple [.lc (.call "_law_booking" [(.var 5)]) (.one 5) .val [(.var 2)] [] [5]]) [some (.ref 1), some (.ref 0), some (.ref 2), none, none, none] [.ro (ns.map D.int), .lst (vs.map D.int), .lst (cs.map D.int)] = .ok (.tup ((cs.map f).map bD)) ([.ro (ns.map D.int), .lst (vs.map D.int), .lst (cs.map D.int)] ++ [.lst ((cs.map f).map bD)]) := by
      rw [e_blt, es_cons, hlc]
      simp only [bind_ok, es_nil]
      exact hft
    rw [xs_cons, x_ret, gg_def]
    have hev : ev ⟨run pg.T pg.G (k + 2), pg.G, [O.ro (ns.map D.int), .lst (vs.map D.int)].length⟩ (.blt .tuple [.lc (.call "_law_booking" [(.var 5)]) (.one 5) .val [(.var 2)] [] [5]]) [some (.ref 1), some (.ref 0), some (.ref 2), none, none, none] [.ro (ns.map D.int), .lst (vs.map D.int), .lst (cs.map D.int)] = .ok (.tup ((cs.map f).map bD)) ([.ro (ns.map D.int), .lst (vs.map D.int), .lst (cs.map D.int)] ++ [.lst ((cs.map f).map bD)]) := hev
    rw [hev]
    have hpt : (D.tup ((cs.map f).map bD)).pure = true := by rw [p_tup]; exact bDs_pure _
    rw [gc_same hpt]
    simp only [ou_ok, an_rt, le_rt]
    rw [lc_pure hpt]
    rfl
end K82
end
section
set_option Elab.async false
set_option linter.all false
set_option maxRecDepth 100000
namespace K82
open Sk
open PySem (Str)
/-! ### tables -/
abbrev Tb := List (Str × Int)
def tget : Tb → Str → Option Int
  | [], _ => none
  | p :: r, s => if p.1 = s then some p.2 else tget r s
def tput (T : Tb) (s : Str) (v : Int) : Tb := match tget T s with
  | some _ => T.map fun p => if p.1 = s then (s, v) else p
  | none => T ++ [(s, v)]
def tadd (T : Tb) (s : Str) (x : Int) : Tb := tput T s ((tget T s).getD 0 + x)
def enc (T : Tb) : List (Ky × D) := T.map fun p => (.inr p.1, .int p.2)
theorem enc_get : ∀ (T : Tb) (s : Str), getK (enc T) (.inr s) = (tget T s).map D.int
  | [], s => rfl
  | p :: r, s => by
    show (if (Sum.inr p.1 : Ky) = .inr s then some (D.int p.2) else getK (enc r) (.inr s)) = _
    rw [enc_get r s, show tget (p :: r) s = if p.1 = s then some p.2 else tget r s from rfl]
    by_cases h : p.1 = s
    · simp [h]
    · simp [h]
theorem enc_put (T : Tb) (s : Str) (v : Int) : putK (enc T) (.inr s) (.int v) = enc (tput T s v) := by
  unfold putK tput
  rw [enc_get]
  cases tget T s with
  | some i =>
    simp only [Option.map_some]
    unfold enc
    rw [List.map_map, List.map_map]
    refine List.map_congr_left fun p hp => ?_
    by_cases h : p.1 = s
    · simp [h]
    · simp [h]
  | none => simp [enc]
def ins (l : List Str) (s : Str) : List Str := if s ∈ l then l else l ++ [s]
theorem tget_mem : ∀ (T : Tb) (s : Str), (tget T s).isSome = decide (s ∈ T.map (·.1))
  | [], s => by simp [tget]
  | p :: r, s => by
    unfold tget
    by_cases h : p.1 = s
    · simp [h]
    · have h' : ¬ s = p.1 := fun e => h e.symm
      simp [h, h', tget_mem r s]
theorem tput_keys (T : Tb) (s : Str) (v : Int) : (tput T s v).map (·.1) = ins (T.map (·.1)) s := by
  have hm := tget_mem T s
  unfold tput ins
  cases e : tget T s with
  | some i =>
    rw [e] at hm
    have : s ∈ T.map (·.1) := by simpa using hm.symm
    rw [if_pos this]
    simp only [List.map_map]
    refine List.map_congr_left fun p hp => ?_
    by_cases h : p.1 = s
    · simp [h]
    · simp [h]
  | none =>
    rw [e] at hm
    have : s ∉ T.map (·.1) := by simpa using hm.symm
    rw [if_neg this]
    simp
theorem tget_map (T : Tb) (s u : Str) (v : Int) : tget (T.map fun p => if p.1 = s then (s, v) else p) u = if u = s then (tget T s).map fun _ => v else tget T u := by
  induction T with
  | nil => simp [tget]
  | cons p r ih =>
    rw [List.map_cons]
    by_cases h : p.1 = s
    · rw [if_pos h]
      unfold tget
      by_cases hu : u = s
      · subst hu
        simp [h]
      · have h1 : ¬ s = u := fun e => hu e.symm
        have h2 : ¬ p.1 = u := fun e => hu (e ▸ h)
        simp only [h1, h2, if_false, ih, hu]
    · rw [if_neg h]
      unfold tget
      by_cases hu : u = s
      · subst hu
        simp only [h, if_false, ih, if_true]
      · simp only [ih, hu, if_false]
theorem tget_app (T : Tb) (s u : Str) (v : Int) : tget (T ++ [(s, v)]) u = match tget T u with
    | some x => some x
    | none => if s = u then some v else none := by
  induction T with
  | nil => simp [tget]
  | cons p r ih =>
    rw [List.cons_append]
    unfold tget
    by_cases h : p.1 = u
    · simp [h]
    · simp only [h, if_false, ih]
theorem tput_get (T : Tb) (s u : Str) (v : Int) : tget (tput T s v) u = if u = s then some v else tget T u := by
  unfold tput
  cases e : tget T s with
  | some i =>
    simp only
    rw [tget_map, e]
    rfl
  | none =>
    simp only
    rw [tget_app]
    by_cases hu : u = s
    · subst hu
      simp [e]
    · have : ¬ s = u := fun h => hu h.symm
      simp only [hu, this, if_false]
      cases tget T u <;> rfl
theorem tadd_get (T : Tb) (s u : Str) (x : Int) : (tget (tadd T s x) u).getD 0 = (tget T u).getD 0 + if u = s then x else 0 := by
  unfold tadd
  rw [tput_get]
  by_cases h : u = s
  · subst h
    simp
  · simp [h]
/-- the table of a journal -/
def tstep (T : Tb) (b : B) : Tb := tadd (tadd T b.p (0 - b.a)) b.t b.a
def tab (js : List B) : Tb := js.foldl tstep []
def accs (js : List B) : List Str := js.foldl (fun l b => ins (ins l b.p) b.t) []
def bal (js : List B) (u : Str) : Int := (js.map fun b => (if b.t = u then b.a else 0) - (if b.p = u then b.a else 0)).sum
theorem tab_keys (js : List B) : (tab js).map (·.1) = accs js := by
  unfold tab accs
  have : ∀ (js : List B) (T : Tb) (l : List Str), T.map (·.1) = l → (js.foldl tstep T).map (·.1) = js.foldl (fun l b => ins (ins l b.p) b.t) l := fun js => by
    induction js with
    | nil => intro T l h; exact h
    | cons b js ih =>
      intro T l h
      rw [List.foldl_cons, List.foldl_cons]
      refine ih _ _ ?_
      unfold tstep tadd
      rw [tput_keys, tput_keys, h]
  exact this js [] [] rfl
theorem tab_get (js : List B) (u : Str) : (tget (tab js) u).getD 0 = bal js u := by
  have : ∀ (js : List B) (T : Tb), (tget (js.foldl tstep T) u).getD 0 = (tget T u).getD 0 + bal js u := fun js => by
    induction js with
    | nil => intro T; simp [bal]
    | cons b js ih =>
      intro T
      rw [List.foldl_cons, ih]
      unfold tstep
      rw [tadd_get, tadd_get]
      simp only [bal, List.map_cons, List.sum_cons]
      have e1 : (if u = b.p then (0 - b.a) else 0) = - (if b.p = u then b.a else 0) := by
        by_cases h : b.p = u
        · simp [h]
        · have h' : ¬ u = b.p := fun e => h e.symm
          simp [h, h']
      have e2 : (if u = b.t then b.a else 0) = (if b.t = u then b.a else 0) := by
        by_cases h : b.t = u
        · simp [h]
        · have h' : ¬ u = b.t := fun e => h e.symm
          simp [h, h']
      rw [e1, e2]
      omega
  have := this js []
  simpa [tab, tget] using this
theorem tab_some (js : List B) {u : Str} (h : u ∈ accs js) : tget (tab js) u = some (bal js u) := by
  have hm := tget_mem (tab js) u
  rw [tab_keys] at hm
  simp only [h, decide_true] at hm
  obtain ⟨v, hv⟩ := Option.isSome_iff_exists.mp hm
  have := tab_get js u
  rw [hv] at this
  rw [hv, ← this]
  rfl
theorem ins_len (l : List Str) (s : Str) : (ins l s).length ≤ l.length + 1 := by
  unfold ins
  split <;> simp
theorem accs_len (js : List B) : (accs js).length ≤ 2 * js.length := by
  unfold accs
  have : ∀ (js : List B) (l : List Str), (js.foldl (fun l b => ins (ins l b.p) b.t) l).length ≤ l.length + 2 * js.length := fun js => by
    induction js with
    | nil => intro l; simp
    | cons b js ih =>
      intro l
      rw [List.foldl_cons]
      have h1 := ih (ins (ins l b.p) b.t)
      have h2 := ins_len (ins l b.p) b.t
      have h3 := ins_len l b.p
      rw [List.length_cons]
      omega
  simpa using this js []
theorem tab_len (js : List B) : (tab js).length ≤ 2 * js.length := by
  have := accs_len js
  rw [← tab_keys, List.length_map] at this
  exact this
theorem enc_len (T : Tb) : (enc T).length = T.length := by simp [enc]
theorem set_last {M : Store} {x y : O} : (M ++ [x]).set M.length y = M ++ [y] := by
  rw [List.set_append_right _ _ (Nat.le_refl _)]
  simp
theorem last_get {M : Store} {x : O} : (M ++ [x])[M.length]? = some x := by simp
/-- what a booking does to the table -/
def tbBody : List S := [.set 3 (.ix (.var 2) (.cst (.int 1))),
    .set 4 (.ix (.var 2) (.cst (.int 2))),
    .put (.bin .sub (.mth .get (.var 1) [(.var 3), (.cst (.int 0))]) (.ix (.var 2) (.cst (.int 3)))) (.var 1) (.var 3),
    .put (.bin .add (.mth .get (.var 1) [(.var 4), (.cst (.int 0))]) (.ix (.var 2) (.cst (.int 3)))) (.var 1) (.var 4)]
theorem get_tb {M : Store} {T : Tb} {s : Str} : mthD .get (.ref M.length) [.str s, .int 0] (M ++ [.dk (enc T)]) = .ok (.int ((tget T s).getD 0)) (M ++ [.dk (enc T)]) := by
  simp only [mthD, dictGet, last_get, keyOf, Option.map_some, enc_get]
  cases tget T s <;> rfl
theorem put_tb {M : Store} {T : Tb} {s : Str} {v : Int} (h : T.length < lim) : putD M.length (.str s) (.int v) (M ++ [.dk (enc T)]) = some (M ++ [.dk (enc (tput T s v))]) := by
  simp only [putD, last_get, keyOf, enc_len]
  rw [if_pos h, set_last, enc_put]
theorem tput_len (T : Tb) (s : Str) (v : Int) : (tput T s v).length ≤ T.length + 1 := by
  unfold tput
  split <;> simp
theorem r_tstep {c : Cx} {M : Store} {T : Tb} {b : B} {x : Option D} (hT : T.length + 1 < lim) (hc : c.base ≤ M.length) :
    exs c tbBody [x, some (.ref M.length), some (bD b), none, none] (M ++ [.dk (enc T)]) = .nx [x, some (.ref M.length), some (bD b), some (.str b.p), some (.str b.t)] (M ++ [.dk (enc (tstep T b))]) := by
  have i1 : ∀ M', ixD (bD b) (.int 1) M' = .ok (.str b.p) M' := fun _ => rfl
  have i2 : ∀ M', ixD (bD b) (.int 2) M' = .ok (.str b.t) M' := fun _ => rfl
  have i3 : ∀ M', ixD (bD b) (.int 3) M' = .ok (.int b.a) M' := fun _ => rfl
  have ty : ∀ T' : Tb, tyM .get (M ++ [.dk (enc T')]) (.ref M.length) = true := fun T' => by simp [tyM]
  have ok : ∀ i : Int, okIn c M.length (.int i) = true := fun i => by simp [okIn]
  have p1 := put_tb (M := M) (T := T) (s := b.p) (v := (tget T b.p).getD 0 - b.a) (by omega)
  have hl := tput_len T b.p ((tget T b.p).getD 0 - b.a)
  have p2 := put_tb (M := M) (T := tput T b.p ((tget T b.p).getD 0 - b.a)) (s := b.t) (v := (tget (tput T b.p ((tget T b.p).getD 0 - b.a)) b.t).getD 0 + b.a) (by omega)
  have g1 := get_tb (M := M) (T := T) (s := b.p)
  have g2 := get_tb (M := M) (T := tput T b.p ((tget T b.p).getD 0 - b.a)) (s := b.t)
  have et : tstep T b = tput (tput T b.p ((tget T b.p).getD 0 - b.a)) b.t ((tget (tput T b.p ((tget T b.p).getD 0 - b.a)) b.t).getD 0 + b.a) := by
    unfold tstep tadd
    rw [show (tget T b.p).getD 0 + (0 - b.a) = (tget T b.p).getD 0 - b.a by omega]
  rw [et]
  generalize tput T b.p ((tget T b.p).getD 0 - b.a) = T1 at p1 p2 g2 hl
  simp [tbBody, i1, i2, i3, ty, ok, p1, p2, g1, g2]
end K82
end
section
set_option Elab.async false
set_option linter.all false
set_option maxRecDepth 100000
namespace K82
open Sk
open PySem (Str)
theorem r_table {k : Nat} {M : Store} {js : List B} (hl : js.length ≤ 1000) : go (k + 1) "balance_table" [.tup (js.map bD)] M = .ok (.ref M.length) (M ++ [.dk (enc (tab js))]) := by
  rw [go, run_s (d := d_balance_table) rfl rfl]
  have lp : ex ⟨run pg.T pg.G k, pg.G, M.length⟩ (.for (.one 2) .val [(.var 0)] tbBody [2, 3, 4]) [some (.tup (js.map bD)), some (.ref M.length), none, none, none] (M ++ [.dk []]) = .nx [some (.tup (js.map bD)), some (.ref M.length), none, none, none] (M ++ [.dk (enc (tab js))]) := by
    have hw : walkG (M ++ [O.dk []]).length .val [.tup (js.map bD)] (M ++ [.dk []]) = .ok (js.map bD, none) (M ++ [.dk []]) := w_tup
    rw [x_for' (xs := js.map bD) (w := none) (M1 := M ++ [.dk []]) (by
      rw [es_cons, e_var (d := .tup (js.map bD)) rfl]
      simp only [es_nil, bind_ok]
      exact hw)]
    obtain ⟨ρ', M', e, h1, h2⟩ := forL_all (w := none) (xs := js.map bD) (ρ := [some (.tup (js.map bD)), some (.ref M.length), none, none, none]) (M := M ++ [.dk []])
      (body := fun x ρ1 M2 => match assignT M2 (.one 2) x ρ1 with
        | some ρ2 => (exs ⟨run pg.T pg.G k, pg.G, M.length⟩ tbBody ρ2 M2).kill [2, 3, 4]
        | none => .bad)
      (fun i ρ M' => ρ = [some (.tup (js.map bD)), some (.ref M.length), none, none, none] ∧ M' = M ++ [.dk (enc (tab (js.take i)))])
      ⟨rfl, rfl⟩ (fun _ _ _ _ => trivial) fun i x ρ M' hx ⟨e1, e2⟩ => by
        subst e1 e2
        rw [List.getElem?_map] at hx
        cases e : js[i]? with
        | none => rw [e] at hx; cases hx
        | some b =>
          rw [e] at hx
          cases hx
          have hi : i < js.length := (List.getElem?_eq_some_iff.mp e).1
          have ht : tab (js.take (i + 1)) = tstep (tab (js.take i)) b := by
            unfold tab
            rw [List.take_add_one, e, Option.toList_some, List.foldl_append]
            rfl
          have hT := tab_len (js.take i)
          rw [List.length_take] at hT
          have := r_tstep (c := ⟨run pg.T pg.G k, pg.G, M.length⟩) (M := M) (T := tab (js.take i)) (b := b) (x := some (.tup (js.map bD))) (by unfold lim; omega) (Nat.le_refl _)
          refine ⟨_, _, ?_, rfl, rfl⟩
          rw [ht]
          simp only [as_one, List.set_cons_succ, List.set_cons_zero]
          rw [this]
          rfl
    rw [List.length_map, List.take_length] at h2
    subst h1 h2
    exact e
  unfold tbBody at lp
  simp [d_balance_table, init, alloc, Res.gc, gc, O.pure, lp]
  unfold enc
  simp
/-! ### sorted names -/
def unS : D → Str
  | .str s => s
  | _ => ⟨#[]⟩
def names (js : List B) : List Str := (sortD ((accs js).map D.str)).map unS
theorem sortD_mem {xs : List D} {d : D} : d ∈ sortD xs ↔ d ∈ xs := by
  unfold sortD
  exact List.mem_mergeSort
theorem names_str (js : List B) : (names js).map D.str = sortD ((accs js).map D.str) := by
  unfold names
  rw [List.map_map]
  conv => rhs; rw [← List.map_id (sortD ((accs js).map D.str))]
  refine List.map_congr_left fun d hd => ?_
  obtain ⟨s, _, rfl⟩ := List.mem_map.mp (sortD_mem.mp hd)
  rfl
theorem names_mem (js : List B) {s : Str} : s ∈ names js ↔ s ∈ accs js := by
  constructor
  · intro h
    have : D.str s ∈ (names js).map D.str := List.mem_map.mpr ⟨s, h, rfl⟩
    rw [names_str] at this
    obtain ⟨t, ht, e⟩ := List.mem_map.mp (sortD_mem.mp this)
    cases e
    exact ht
  · intro h
    have : D.str s ∈ (names js).map D.str := by rw [names_str]; exact sortD_mem.mpr (List.mem_map.mpr ⟨s, h, rfl⟩)
    obtain ⟨t, ht, e⟩ := List.mem_map.mp this
    cases e
    exact ht
theorem names_perm (js : List B) : (names js).Perm (accs js) := by
  unfold names
  have h1 : (sortD ((accs js).map D.str)).Perm ((accs js).map D.str) := List.mergeSort_perm _ _
  have h2 := h1.map unS
  rw [List.map_map] at h2
  have : (unS ∘ D.str) = id := rfl
  rw [this, List.map_id] at h2
  exact h2
theorem ins_mem {l : List Str} {s u : Str} : u ∈ ins l s ↔ u ∈ l ∨ u = s := by
  unfold ins
  split
  · constructor
    · exact .inl
    · rintro (h | rfl)
      · exact h
      · assumption
  · simp
theorem accs_mem (js : List B) {s : Str} : s ∈ accs js ↔ ∃ b ∈ js, s = b.p ∨ s = b.t := by
  unfold accs
  have : ∀ (js : List B) (l : List Str), s ∈ js.foldl (fun l b => ins (ins l b.p) b.t) l ↔ s ∈ l ∨ ∃ b ∈ js, s = b.p ∨ s = b.t := fun js => by
    induction js with
    | nil => intro l; simp
    | cons b js ih =>
      intro l
      rw [List.foldl_cons, ih, ins_mem, ins_mem]
      simp only [List.mem_cons, exists_eq_or_imp]
      constructor
      · rintro (((h | h) | h) | h)
        · exact .inl h
        · exact .inr (.inl (.inl h))
        · exact .inr (.inl (.inr h))
        · exact .inr (.inr h)
      · rintro (h | (h | h) | h)
        · exact .inl (.inl (.inl h))
        · exact .inl (.inl (.inr h))
        · exact .inl (.inr h)
        · exact .inr h
  simpa using this js []
theorem ins_nodup {l : List Str} {s : Str} (h : l.Nodup) : (ins l s).Nodup := by
  unfold ins
  split
  · exact h
  · rename_i hs
    exact List.nodup_append.mpr ⟨h, by simp, fun a ha b hb => by cases List.mem_singleton.mp hb; rintro rfl; exact hs ha⟩
theorem accs_nodup (js : List B) : (accs js).Nodup := by
  unfold accs
  have : ∀ (js : List B) (l : List Str), l.Nodup → (js.foldl (fun l b => ins (ins l b.p) b.t) l).Nodup := fun js => by
    induction js with
    | nil => intro l h; exact h
    | cons b js ih =>
      intro l h
      rw [List.foldl_cons]
      exact ih _ (ins_nodup (ins_nodup h))
  exact this js [] List.nodup_nil
theorem okc_small {c : Nat} (h : okc c = true) : c < 1114112 := by
  have hm : c ∈ letters.cps.toList := of_decide_eq_true h
  have : ∀ x ∈ letters.cps.toList, x < 1114112 := by decide
  exact this c hm
theorem isNm_fit {s : Str} (h : isNm (.str s) = true) : strFit s = true := by
  simp [isNm] at h
  unfold strFit
  simp only [Bool.and_eq_true, decide_eq_true_eq]
  refine ⟨by unfold lim; omega, ?_⟩
  rw [← Array.all_toList, List.all_eq_true]
  intro c hc
  simp only [decide_eq_true_eq]
  exact okc_small (List.all_eq_true.mp h.2 c hc)
theorem okSort_strs (l : List Str) : okSort (l.map D.str) = true := by
  have h1 : allAlike (l.map D.str) = true := by
    unfold allAlike
    rw [List.all_eq_true]
    intro a ha
    rw [List.all_eq_true]
    intro b hb
    obtain ⟨x, _, rfl⟩ := List.mem_map.mp ha
    obtain ⟨y, _, rfl⟩ := List.mem_map.mp hb
    simp [D.alike]
  have h2 : D.pures (l.map D.str) = true := ps_mem fun x hx => by
    obtain ⟨s, _, rfl⟩ := List.mem_map.mp hx
    simp
  have h3 : D.dles (l.map D.str) 50 = true := by
    induction l with
    | nil => simp [D.dles]
    | cons a l ih => simp [D.dles, D.dle, ih (by simp [allAlike, D.alike]) (ps_mem fun x hx => by obtain ⟨s, _, rfl⟩ := List.mem_map.mp hx; simp)]
  have h4 : ((l.map D.str).all fun d => !d.isNon) = true := by
    rw [List.all_eq_true]
    intro a ha
    obtain ⟨x, _, rfl⟩ := List.mem_map.mp ha
    rfl
  have h5 : (l.map D.str).all D.noTup = true := by
    rw [List.all_eq_true]
    intro a ha
    obtain ⟨x, _, rfl⟩ := List.mem_map.mp ha
    rfl
  unfold okSort okOrd
  rw [h1, h2, h3, h4, h5]
  simp
theorem enc_keys (T : Tb) : (enc T).map (fun p => kD p.1) = (T.map (·.1)).map D.str := by
  unfold enc
  rw [List.map_map, List.map_map]
  rfl
theorem f_sorted_tb {M : Store} {T : Tb} {n : Nat} (hn : M[n]? = some (.dk (enc T))) (hf : ∀ s ∈ T.map (·.1), isNm (.str s) = true) : bltD .sorted [.ref n] M = .ok (.ref M.length) (M ++ [.lst (sortD ((T.map (·.1)).map D.str))]) := by
  have hk : keysFit (enc T) = true := by
    unfold keysFit
    rw [List.all_eq_true]
    intro p hp
    obtain ⟨q, hq, rfl⟩ := List.mem_map.mp (show p ∈ T.map _ from hp)
    exact isNm_fit (hf q.1 (List.mem_map.mpr ⟨q, hq, rfl⟩))
  simp only [bltD, hn, enc_keys]
  rw [if_pos ⟨okSort_strs _, hk⟩]
  rfl
end K82
end
section
set_option Elab.async false
set_option linter.all false
set_option maxRecDepth 100000
namespace K82
open Sk
open PySem (Str)
/-- an account with its balance -/
def pr (js : List B) (s : Str) : D := .tup [.str s, .int (bal js s)]
theorem pr_pure (js : List B) (s : Str) : (pr js s).pure = true := by simp [pr]
theorem prs_pure (js : List B) (l : List Str) : D.pures (l.map (pr js)) = true := ps_mem fun x hx => by
  obtain ⟨s, _, rfl⟩ := List.mem_map.mp hx
  exact pr_pure js s
theorem strs_pure (l : List Str) : D.pures (l.map D.str) = true := ps_mem fun x hx => by
  obtain ⟨s, _, rfl⟩ := List.mem_map.mp hx
  simp
theorem names_len (js : List B) : (names js).length ≤ 2 * js.length := by
  rw [(names_perm js).length_eq]
  exact accs_len js
theorem accs_nm {js : List B} (hj : ∀ b ∈ js, b.Ok) {s : Str} (h : s ∈ accs js) : isNm (.str s) = true := by
  obtain ⟨b, hb, rfl | rfl⟩ := (accs_mem js).mp h
  · exact (hj b hb).p
  · exact (hj b hb).t
theorem r_balances {k : Nat} {M : Store} {js : List B} (hj : ∀ b ∈ js, b.Ok) (hl : js.length ≤ 1000) : go (k + 2) "balances" [.tup (js.map bD)] M = .ok (.tup ((names js).map (pr js))) M := by
  rw [go, run_s (d := d_balances) rfl rfl]
  have e1 : run pg.T pg.G (k + 1) "balance_table" [.tup (js.map bD)] M = .ok (.ref M.length) (M ++ [.dk (enc (tab js))]) := r_table hl
  have hs : bltD .sorted [.ref M.length] (M ++ [.dk (enc (tab js))]) = .ok (.ref (M.length + 1)) (M ++ [.dk (enc (tab js))] ++ [.lst ((names js).map D.str)]) := by
    rw [f_sorted_tb (T := tab js) last_get (fun s hs => accs_nm hj (by rw [← tab_keys]; exact hs)), tab_keys, names_str]
    simp
  have hw : walkG (M ++ [O.dk (enc (tab js))]).length .val [.ref (M.length + 1)] (M ++ [.dk (enc (tab js))] ++ [.lst ((names js).map D.str)]) = .ok ((names js).map D.str, none) (M ++ [.dk (enc (tab js))]) :=
    w_new (by simp) (by simp) (strs_pure _)
  have hlc := e_lc_map (c := ⟨run pg.T pg.G (k + 1), pg.G, M.length⟩) (ρ := [some (.tup (js.map bD)), some (.ref M.length), none]) (M := M ++ [.dk (enc (tab js))]) (M2 := M ++ [.dk (enc (tab js))]) (e := .tup [(.var 2), (.ix (.var 1) (.var 2))]) (tg := .one 2) (k := .val) (its := [(.blt .sorted [(.var 1)])]) (own := [2]) (xs := (names js).map D.str) (w := none)
    (fun x => match x with
      | .str s => pr js s
      | d => d) (by
        rw [es_cons, e_blt, es_cons, e_var (d := .ref M.length) rfl]
        simp only [es_nil, bind_ok, hs]
        exact hw) (by have := names_len js; unfold lim; simp; omega) trivial fun x hx => by
        obtain ⟨s, hsn, rfl⟩ := List.mem_map.mp hx
        have hg : ixD (.ref M.length) (.str s) (M ++ [.dk (enc (tab js))]) = .ok (.int (bal js s)) (M ++ [.dk (enc (tab js))]) := by
          simp only [ixD, last_get, dictGet, keyOf, Option.map_some, enc_get]
          rw [tab_some js ((names_mem js).mp hsn)]
          rfl
        refine ⟨_, rfl, ?_⟩
        simp [hg]
        rfl
  have hm : ((names js).map D.str).map (fun x => match x with
      | .str s => pr js s
      | d => d) = (names js).map (pr js) := by simp [Function.comp_def]
  rw [hm] at hlc
  have hgc : Res.gc M.length (.ok (.ref M.length) (M ++ [.dk (enc (tab js))])) = .ok (.ref M.length) (M ++ [.dk (enc (tab js))]) := gc_new (by
    unfold O.pure
    rw [List.all_eq_true]
    intro p hp
    obtain ⟨q, _, rfl⟩ := List.mem_map.mp (show p ∈ (tab js).map _ from hp)
    simp)
  have hft : bltD .tuple [.ref (M ++ [O.dk (enc (tab js))]).length] (M ++ [.dk (enc (tab js))] ++ [.lst ((names js).map (pr js))]) = .ok (.tup ((names js).map (pr js))) (M ++ [.dk (enc (tab js))] ++ [.lst ((names js).map (pr js))]) := f_tup (by simp)
  have hpt : (D.tup ((names js).map (pr js))).pure = true := by rw [p_tup]; exact prs_pure _ _
  have h2 : ev ⟨run pg.T pg.G (k + 1), pg.G, M.length⟩ (.blt .tuple [.lc (.tup [(.var 2), (.ix (.var 1) (.var 2))]) (.one 2) .val [(.blt .sorted [(.var 1)])] [] [2]]) [some (.tup (js.map bD)), some (.ref M.length), none] (M ++ [.dk (enc (tab js))]) = .ok (.tup ((names js).map (pr js))) (M ++ [.dk (enc (tab js))] ++ [.lst ((names js).map (pr js))]) := by
    rw [e_blt, es_cons, hlc]
    simp only [es_nil, bind_ok]
    exact hft
  simp only [d_balances]
  rw [show init ⟨1, ["journal", "table", "account"], [S.set 1 (.call "balance_table" [(.var 0)]), .ret (.blt .tuple [(.lc (.tup [(.var 2), (.ix (.var 1) (.var 2))]) (.one 2) .val [(.blt .sorted [(.var 1)])] [] [2])])]⟩ [.tup (js.map bD)] = [some (.tup (js.map bD)), none, none] from rfl]
  rw [xs_cons, x_set, gg_def, e_call, es_cons, e_var (d := .tup (js.map bD)) rfl]
  simp only [es_nil, bind_ok, e1, hgc, ou_ok, an_nx, List.set_cons_succ, List.set_cons_zero]
  rw [xs_cons, x_ret, gg_def, h2, gc_pure hpt]
  simp only [ou_ok, an_rt, le_rt]
  exact lc_cut hpt
end K82
end
section
set_option Elab.async false
set_option linter.all false
set_option maxRecDepth 100000
namespace K82
open Sk
open PySem (Str)
def owedL (js : List B) : List D := (names js).filterMap fun s => if bal js s < 0 then some (.tup [.str s, .int (0 - bal js s)]) else none
def owingL (js : List B) : List D := (names js).filterMap fun s => if 0 < bal js s then some (pr js s) else none
theorem owedL_pure (js : List B) : D.pures (owedL js) = true := ps_mem fun x hx => by
  obtain ⟨s, _, h⟩ := List.mem_filterMap.mp hx
  split at h
  · cases h; simp
  · cases h
theorem owingL_pure (js : List B) : D.pures (owingL js) = true := ps_mem fun x hx => by
  obtain ⟨s, _, h⟩ := List.mem_filterMap.mp hx
  split at h
  · cases h; exact pr_pure js s
  · cases h
theorem r_owed {k : Nat} {M : Store} {js : List B} (hj : ∀ b ∈ js, b.Ok) (hl : js.length ≤ 1000) : go (k + 3) "owed" [.tup (js.map bD)] M = .ok (.tup (owedL js)) M := by
  rw [go, run_s (d := d_owed) rfl rfl]
  have e1 : run pg.T pg.G (k + 2) "balances" [.tup (js.map bD)] M = .ok (.tup ((names js).map (pr js))) M := r_balances hj hl
  have hw : walkG M.length .val [.tup ((names js).map (pr js))] M = .ok ((names js).map (pr js), none) M := w_tup
  have hlc := e_lc_go (c := ⟨run pg.T pg.G (k + 2), pg.G, M.length⟩) (ρ := [some (.tup (js.map bD)), none, none]) (M := M) (M2 := M) (e := .tup [(.var 1), (.bin .sub (.cst (.int 0)) (.var 2))]) (tg := .many [1, 2]) (k := .val) (its := [(.call "balances" [(.var 0)])]) (ifs := [(.cmp .lt (.var 2) (.cst (.int 0)))]) (own := [1, 2]) (xs := (names js).map (pr js)) (w := none)
    (fun x => match x with
      | .tup [.str s, .int i] => if i < 0 then some (.tup [.str s, .int (0 - i)]) else none
      | _ => none) (by
        rw [es_cons, e_call, es_cons, e_var (d := .tup (js.map bD)) rfl]
        simp only [es_nil, bind_ok, e1]
        exact hw) (by have := names_len js; unfold lim; simp; omega) trivial fun x hx => by
        obtain ⟨s, hsn, rfl⟩ := List.mem_map.mp hx
        refine ⟨[some (.tup (js.map bD)), some (.str s), some (.int (bal js s))], rfl, decide (bal js s < 0), by by_cases h : bal js s < 0 <;> simp [h], ?_⟩
        by_cases h : bal js s < 0 <;> simp [h, pr]
  have hm : ((names js).map (pr js)).filterMap (fun x => match x with
      | .tup [.str s, .int i] => if i < 0 then some (.tup [.str s, .int (0 - i)]) else none
      | _ => none) = owedL js := by
    rw [List.filterMap_map]
    rfl
  rw [hm] at hlc
  have hft : bltD .tuple [.ref M.length] (M ++ [.lst (owedL js)]) = .ok (.tup (owedL js)) (M ++ [.lst (owedL js)]) := f_tup last_get
  have hpt : (D.tup (owedL js)).pure = true := by rw [p_tup]; exact owedL_pure js
  simp only [d_owed]
  rw [xs_cons, x_ret, gg_def, e_blt, es_cons]
  rw [show init ⟨1, ["journal", "account", "balance"], [S.ret (.blt .tuple [(.lc (.tup [(.var 1), (.bin .sub (.cst (.int 0)) (.var 2))]) (.many [1, 2]) .val [(.call "balances" [(.var 0)])] [(.cmp .lt (.var 2) (.cst (.int 0)))] [1, 2])])]⟩ [.tup (js.map bD)] = [some (.tup (js.map bD)), none, none] from rfl]
  rw [hlc]
  simp only [es_nil, bind_ok, hft]
  rw [gc_pure hpt]
  simp only [ou_ok, an_rt, le_rt]
  rw [lc_pure hpt]
  simp
theorem r_owing {k : Nat} {M : Store} {js : List B} (hj : ∀ b ∈ js, b.Ok) (hl : js.length ≤ 1000) : go (k + 3) "owing" [.tup (js.map bD)] M = .ok (.tup (owingL js)) M := by
  rw [go, run_s (d := d_owing) rfl rfl]
  have e1 : run pg.T pg.G (k + 2) "balances" [.tup (js.map bD)] M = .ok (.tup ((names js).map (pr js))) M := r_balances hj hl
  have hw : walkG M.length .val [.tup ((names js).map (pr js))] M = .ok ((names js).map (pr js), none) M := w_tup
  have hlc := e_lc_go (c := ⟨run pg.T pg.G (k + 2), pg.G, M.length⟩) (ρ := [some (.tup (js.map bD)), none, none]) (M := M) (M2 := M) (e := .tup [(.var 1), (.var 2)]) (tg := .many [1, 2]) (k := .val) (its := [(.call "balances" [(.var 0)])]) (ifs := [(.cmp .gt (.var 2) (.cst (.int 0)))]) (own := [1, 2]) (xs := (names js).map (pr js)) (w := none)
    (fun x => match x with
      | .tup [.str s, .int i] => if 0 < i then some (.tup [.str s, .int i]) else none
      | _ => none) (by
        rw [es_cons, e_call, es_cons, e_var (d := .tup (js.map bD)) rfl]
        simp only [es_nil, bind_ok, e1]
        exact hw) (by have := names_len js; unfold lim; simp; omega) trivial fun x hx => by
        obtain ⟨s, hsn, rfl⟩ := List.mem_map.mp hx
        refine ⟨[some (.tup (js.map bD)), some (.str s), some (.int (bal js s))], rfl, decide (0 < bal js s), by by_cases h : 0 < bal js s <;> simp [h], ?_⟩
        by_cases h : 0 < bal js s <;> simp [h, pr]
  have hm : ((names js).map (pr js)).filterMap (fun x => match x with
      | .tup [.str s, .int i] => if 0 < i then some (.tup [.str s, .int i]) else none
      | _ => none) = owingL js := by
    rw [List.filterMap_map]
    rfl
  rw [hm] at hlc
  have hft : bltD .tuple [.ref M.length] (M ++ [.lst (owingL js)]) = .ok (.tup (owingL js)) (M ++ [.lst (owingL js)]) := f_tup last_get
  have hpt : (D.tup (owingL js)).pure = true := by rw [p_tup]; exact owingL_pure js
  simp only [d_owing]
  rw [xs_cons, x_ret, gg_def, e_blt, es_cons]
  rw [show init ⟨1, ["journal", "account", "balance"], [S.ret (.blt .tuple [(.lc (.tup [(.var 1), (.var 2)]) (.many [1, 2]) .val [(.call "balances" [(.var 0)])] [(.cmp .gt (.var 2) (.cst (.int 0)))] [1, 2])])]⟩ [.tup (js.map bD)] = [some (.tup (js.map bD)), none, none] from rfl]
  rw [hlc]
  simp only [es_nil, bind_ok, hft]
  rw [gc_pure hpt]
  simp only [ou_ok, an_rt, le_rt]
  rw [lc_pure hpt]
  simp
theorem r_balance_of {k : Nat} {M : Store} {js : List B} {s : Str} (hl : js.length ≤ 1000) : go (k + 2) "balance_of" [.tup (js.map bD), .str s] M = .ok (.int (bal js s)) M := by
  rw [go, run_s (d := d_balance_of) rfl rfl]
  have e1 : run pg.T pg.G (k + 1) "balance_table" [.tup (js.map bD)] M = .ok (.ref M.length) (M ++ [.dk (enc (tab js))]) := r_table hl
  have g1 := get_tb (M := M) (T := tab js) (s := s)
  rw [tab_get] at g1
  have ty : tyM .get (M ++ [.dk (enc (tab js))]) (.ref M.length) = true := by simp [tyM]
  simp [d_balance_of, init, e1, ty, g1]
/-! ### sums of amounts -/
def sumBy (fld : B → Str) (js : List B) (s : Str) : Int := (js.filterMap fun b => if fld b = s then some b.a else none).sum
theorem bal_sums (js : List B) (s : Str) : bal js s = sumBy B.t js s - sumBy B.p js s := by
  unfold bal sumBy
  induction js with
  | nil => rfl
  | cons b js ih =>
    rw [List.map_cons, List.sum_cons, ih, List.filterMap_cons, List.filterMap_cons]
    by_cases h1 : b.t = s <;> by_cases h2 : b.p = s <;> simp [h1, h2] <;> omega
/-- the comprehension of a sum -/
theorem lc_sum {c : Cx} {M : Store} {js : List B} {s : Str} {i : Int} {fld : B → Str} (hl : js.length ≤ 1000) (hf : ∀ b M, ixD (bD b) (.int i) M = .ok (.str (fld b)) M) :
    ev c (.blt .sum [(.lc (.ix (.var 2) (.cst (.int 3))) (.one 2) .val [(.var 0)] [(.cmp .eq (.ix (.var 2) (.cst (.int i))) (.var 1))] [2])]) [some (.tup (js.map bD)), some (.str s), none] M = .ok (.int (sumBy fld js s)) (M ++ [.lst ((js.filterMap fun b => if fld b = s then some b.a else none).map D.int)]) := by
  have hw : walkG M.length .val [.tup (js.map bD)] M = .ok (js.map bD, none) M := w_tup
  have i3 : ∀ b M', ixD (bD b) (.int 3) M' = .ok (.int b.a) M' := fun _ _ => rfl
  let g : D → Option D := fun x => match x with
    | .tup [.str w, .str p, .str t, .int a] => if fld ⟨w, p, t, a⟩ = s then some (.int a) else none
    | _ => none
  have hlc := e_lc_go (c := c) (ρ := [some (.tup (js.map bD)), some (.str s), none]) (M := M) (M2 := M) (e := .ix (.var 2) (.cst (.int 3))) (tg := .one 2) (k := .val) (its := [(.var 0)]) (ifs := [(.cmp .eq (.ix (.var 2) (.cst (.int i))) (.var 1))]) (own := [2]) (xs := js.map bD) (w := none) g (by
        rw [es_cons, e_var (d := .tup (js.map bD)) rfl]
        simp only [es_nil, bind_ok]
        exact hw) (by unfold lim; simp; omega) trivial fun x hx => by
        obtain ⟨b, hb, rfl⟩ := List.mem_map.mp hx
        refine ⟨[some (.tup (js.map bD)), some (.str s), some (bD b)], rfl, decide (fld b = s), ?_, ?_⟩
        · simp [hf]
          by_cases h : fld b = s <;> simp [h]
        · have hg : g (bD b) = if fld b = s then some (.int b.a) else none := rfl
          by_cases h : fld b = s <;> simp [h, i3, hg]
  have hm : (js.map bD).filterMap g = (js.filterMap fun b => if fld b = s then some b.a else none).map D.int := by
    rw [List.filterMap_map, List.map_filterMap]
    congr 1
    funext b
    simp only [Function.comp, g, bD]
    by_cases h : fld b = s
    · have h' : fld ⟨b.w, b.p, b.t, b.a⟩ = s := h
      simp [h, h']
    · have h' : ¬ fld ⟨b.w, b.p, b.t, b.a⟩ = s := h
      simp [h, h']
  rw [hm] at hlc
  have hi : ∀ l : List Int, intsOf (l.map D.int) = some l := fun l => by
    induction l with
    | nil => rfl
    | cons a l ih => simp [intsOf, ih]
  rw [e_blt, es_cons, hlc]
  simp only [es_nil, bind_ok, bltD, listAt, last_get, hi]
  rfl
theorem r_turnover {k : Nat} {M : Store} {js : List B} {s : Str} (hl : js.length ≤ 1000) : go (k + 1) "turnover" [.tup (js.map bD), .str s] M = .ok (.int (sumBy B.w js s)) M := by
  rw [go, run_s (d := d_turnover) rfl rfl]
  have h := lc_sum (c := ⟨run pg.T pg.G k, pg.G, M.length⟩) (M := M) (js := js) (s := s) (i := 0) (fld := B.w) hl (fun _ _ => rfl)
  simp only [d_turnover]
  rw [xs_cons, x_ret, gg_def]
  rw [show init ⟨2, ["journal", "word", "booking"], [S.ret (.blt .sum [(.lc (.ix (.var 2) (.cst (.int 3))) (.one 2) .val [(.var 0)] [(.cmp .eq (.ix (.var 2) (.cst (.int 0))) (.var 1))] [2])])]⟩ [.tup (js.map bD), .str s] = [some (.tup (js.map bD)), some (.str s), none] from rfl]
  rw [h]
  simp
theorem r_law_balance {k : Nat} {M : Store} {js : List B} {s : Str} (hl : js.length ≤ 1000) : go (k + 1) "_law_balance" [.tup (js.map bD), .str s] M = .ok (.int (bal js s)) M := by
  rw [go, run_s (d := d_law_balance) rfl rfl]
  have h1 := fun M => lc_sum (c := ⟨run pg.T pg.G k, pg.G, M.length⟩) (M := M) (js := js) (s := s) (i := 2) (fld := B.t) hl (fun _ _ => rfl)
  have h1 := lc_sum (c := ⟨run pg.T pg.G k, pg.G, M.length⟩) (M := M) (js := js) (s := s) (i := 2) (fld := B.t) hl (fun _ _ => rfl)
  have h2 := lc_sum (c := ⟨run pg.T pg.G k, pg.G, M.length⟩) (M := M ++ [.lst ((js.filterMap fun b => if b.t = s then some b.a else none).map D.int)]) (js := js) (s := s) (i := 1) (fld := B.p) hl (fun _ _ => rfl)
  simp only [d_law_balance]
  rw [xs_cons, x_ret, gg_def, e_bin]
  rw [show init ⟨2, ["journal", "name", "row"], [S.ret (.bin .sub (.blt .sum [(.lc (.ix (.var 2) (.cst (.int 3))) (.one 2) .val [(.var 0)] [(.cmp .eq (.ix (.var 2) (.cst (.int 2))) (.var 1))] [2])]) (.blt .sum [(.lc (.ix (.var 2) (.cst (.int 3))) (.one 2) .val [(.var 0)] [(.cmp .eq (.ix (.var 2) (.cst (.int 1))) (.var 1))] [2])]))]⟩ [.tup (js.map bD), .str s] = [some (.tup (js.map bD)), some (.str s), none] from rfl]
  rw [h1]
  simp only [bind_ok]
  rw [h2]
  simp [bal_sums]
end K82
end
section
set_option Elab.async false
set_option linter.all false
set_option maxRecDepth 100000
namespace K82
open Sk
open PySem (Str)
theorem strs_dles (l : List Str) : D.dles (l.map D.str) 50 = true := by
  induction l with
  | nil => simp [D.dles]
  | cons a l ih => simp [D.dles, D.dle, ih]
theorem any_str (l : List Str) (s : Str) : ((l.map D.str).any fun y => D.eqv y (.str s)) = decide (s ∈ l) := by
  induction l with
  | nil => simp
  | cons a l ih =>
    rw [List.map_cons, List.any_cons, ih]
    by_cases h : a = s
    · simp [h, D.eqv]
    · have h' : ¬ s = a := fun e => h e.symm
      simp [h, h', D.eqv]
theorem notin_l {M : Store} {n : Nat} {l : List Str} {s : Str} (hn : M[n]? = some (.lst (l.map D.str))) : cmpD .notin (.str s) (.ref n) M = .ok (.bl (!decide (s ∈ l))) M := by
  have : inM M (.str s) (.ref n) = some (decide (s ∈ l)) := by
    simp only [inM, hn, any_str]
    rw [if_pos ⟨by simp, strs_pure l, by simp [D.dle], strs_dles l⟩]
  simp [cmpD, this, optB]
/-- the accounts' inner loop -/
def acIn : S := .for (.one 3) .val [(.slcLU (.var 2) (.cst (.int 1)) (.cst (.int 3)))] [.iff (.cmp .notin (.var 3) (.var 1)) [.app (.var 1) (.var 3)] []] [3]
theorem ac_step {c : Cx} {M : Store} {x y : Option D} {l : List Str} {s : Str} (hc : c.base ≤ M.length) (hl : l.length < lim) :
    exs c [.iff (.cmp .notin (.var 3) (.var 1)) [.app (.var 1) (.var 3)] []] [x, some (.ref M.length), y, some (.str s)] (M ++ [.lst (l.map D.str)]) = .nx [x, some (.ref M.length), y, some (.str s)] (M ++ [.lst ((ins l s).map D.str)]) := by
  have hn := notin_l (M := M ++ [.lst (l.map D.str)]) (n := M.length) (l := l) (s := s) last_get
  by_cases h : s ∈ l
  · simp [hn, h, ins]
  · simp [hn, h, ins, isLst, okIn, hl, set_last]
theorem ac_in {c : Cx} {M : Store} {x : Option D} {l : List Str} {b : B} (hc : c.base ≤ M.length) (hl : l.length + 1 < lim) :
    ex c acIn [x, some (.ref M.length), some (bD b), none] (M ++ [.lst (l.map D.str)]) = .nx [x, some (.ref M.length), some (bD b), none] (M ++ [.lst ((ins (ins l b.p) b.t).map D.str)]) := by
  have hs : ∀ M', slcD (bD b) (some 1) (some 3) M' = .ok (.tup [.str b.p, .str b.t]) M' := fun _ => rfl
  have hw : walkG (M ++ [O.lst (l.map D.str)]).length .val [.tup [.str b.p, .str b.t]] (M ++ [.lst (l.map D.str)]) = .ok ([.str b.p, .str b.t], none) (M ++ [.lst (l.map D.str)]) := w_tup
  have h1 := ac_step (c := c) (M := M) (x := x) (y := some (bD b)) (l := l) (s := b.p) hc (by omega)
  have hl2 := ins_len l b.p
  have h2 := ac_step (c := c) (M := M) (x := x) (y := some (bD b)) (l := ins l b.p) (s := b.t) hc (by omega)
  rw [acIn, x_for' (xs := [.str b.p, .str b.t]) (w := none) (M1 := M ++ [.lst (l.map D.str)]) (by
    rw [es_cons, e_slcLU, e_var (d := bD b) rfl]
    simp only [es_nil, bind_ok, e_cst, hs]
    exact hw), Option.map_none]
  rw [fl_cons (w := none) (ρ' := [x, some (.ref M.length), some (bD b), none]) (M' := M ++ [.lst ((ins l b.p).map D.str)]) trivial (by
    simp only [as_one, wi_cons, wi_nil, List.set_cons_succ, List.set_cons_zero, h1, ki_nx])]
  rw [fl_cons (w := none) (ρ' := [x, some (.ref M.length), some (bD b), none]) (M' := M ++ [.lst ((ins (ins l b.p) b.t).map D.str)]) trivial (by
    simp only [as_one, wi_cons, wi_nil, List.set_cons_succ, List.set_cons_zero, h2, ki_nx])]
  rw [fl_nil (w := none) trivial]
theorem r_accounts {k : Nat} {M : Store} {js : List B} (hl : js.length ≤ 1000) : go (k + 1) "_law_accounts" [.tup (js.map bD)] M = .ok (.ref M.length) (M ++ [.lst ((names js).map D.str)]) := by
  rw [go, run_s (d := d_law_accounts) rfl rfl]
  have lp : ex ⟨run pg.T pg.G k, pg.G, M.length⟩ (.for (.one 2) .val [(.var 0)] [acIn] [2, 3]) [some (.tup (js.map bD)), some (.ref M.length), none, none] (M ++ [.lst []]) = .nx [some (.tup (js.map bD)), some (.ref M.length), none, none] (M ++ [.lst ((accs js).map D.str)]) := by
    have hw : walkG (M ++ [O.lst []]).length .val [.tup (js.map bD)] (M ++ [.lst []]) = .ok (js.map bD, none) (M ++ [.lst []]) := w_tup
    rw [x_for' (xs := js.map bD) (w := none) (M1 := M ++ [.lst []]) (by
      rw [es_cons, e_var (d := .tup (js.map bD)) rfl]
      simp only [es_nil, bind_ok]
      exact hw)]
    obtain ⟨ρ', M', e, h1, h2⟩ := forL_all (w := none) (xs := js.map bD) (ρ := [some (.tup (js.map bD)), some (.ref M.length), none, none]) (M := M ++ [.lst []])
      (body := fun x ρ1 M2 => match assignT M2 (.one 2) x ρ1 with
        | some ρ2 => (exs ⟨run pg.T pg.G k, pg.G, M.length⟩ [acIn] ρ2 M2).kill [2, 3]
        | none => .bad)
      (fun i ρ M' => ρ = [some (.tup (js.map bD)), some (.ref M.length), none, none] ∧ M' = M ++ [.lst ((accs (js.take i)).map D.str)])
      ⟨rfl, rfl⟩ (fun _ _ _ _ => trivial) fun i x ρ M' hx ⟨e1, e2⟩ => by
        subst e1 e2
        rw [List.getElem?_map] at hx
        cases e : js[i]? with
        | none => rw [e] at hx; cases hx
        | some b =>
          rw [e] at hx
          cases hx
          have ht : accs (js.take (i + 1)) = ins (ins (accs (js.take i)) b.p) b.t := by
            unfold accs
            rw [List.take_add_one, e, Option.toList_some, List.foldl_append]
            rfl
          have hT := accs_len (js.take i)
          rw [List.length_take] at hT
          have := ac_in (c := ⟨run pg.T pg.G k, pg.G, M.length⟩) (M := M) (l := accs (js.take i)) (b := b) (x := some (.tup (js.map bD))) (Nat.le_refl _) (by unfold lim; omega)
          refine ⟨_, _, ?_, rfl, rfl⟩
          rw [ht]
          simp only [as_one, List.set_cons_succ, List.set_cons_zero, xs_cons, xs_nil]
          rw [this]
          rfl
    rw [List.length_map, List.take_length] at h2
    subst h1 h2
    exact e
  have hso : bltD .sorted [.ref M.length] (M ++ [.lst ((accs js).map D.str)]) = .ok (.ref (M.length + 1)) (M ++ [.lst ((accs js).map D.str)] ++ [.lst ((names js).map D.str)]) := by
    simp only [bltD, last_get]
    rw [if_pos (okSort_strs _), names_str]
    simp [alloc]
  simp only [d_law_accounts]
  rw [show init ⟨1, ["journal", "found", "row", "name"], [S.set 1 (.lst []), .for (.one 2) .val [(.var 0)] [.for (.one 3) .val [(.slcLU (.var 2) (.cst (.int 1)) (.cst (.int 3)))] [.iff (.cmp .notin (.var 3) (.var 1)) [.app (.var 1) (.var 3)] []] [3]] [2, 3], .ret (.blt .sorted [(.var 1)])]⟩ [.tup (js.map bD)] = [some (.tup (js.map bD)), none, none, none] from rfl]
  rw [← acIn]
  rw [xs_cons, x_set, gg_def, e_lst]
  simp only [es_nil, bind_ok, alloc]
  rw [gc_new (by simp [O.pure])]
  simp only [ou_ok, an_nx, List.set_cons_succ, List.set_cons_zero]
  rw [xs_cons, lp, an_nx, xs_cons, x_ret, gg_def, e_blt, es_cons, e_var (d := .ref M.length) rfl]
  simp only [es_nil, bind_ok, hso]
  have hp : (O.lst ((names js).map D.str)).pure = true := strs_pure _
  have g1 : Res.gc (M ++ [O.lst ((accs js).map D.str)]).length (.ok (.ref (M.length + 1)) (M ++ [.lst ((accs js).map D.str)] ++ [.lst ((names js).map D.str)])) = .ok (.ref (M.length + 1)) (M ++ [.lst ((accs js).map D.str)] ++ [.lst ((names js).map D.str)]) := by
    have := gc_new (M := M ++ [O.lst ((accs js).map D.str)]) hp
    simpa using this
  rw [g1]
  simp only [ou_ok, an_rt, le_rt]
  simp [gc, hp]
/-! ### statements -/
def st1 (s : Str) (i : Nat) (b : B) (st : Int × List D) : Int × List D :=
  if s = b.t then (st.1 + b.a, st.2 ++ [.tup [.int ((i : Int) + 1), .str b.w, .str b.p, .int b.a, .int (st.1 + b.a)]]) else
  if s = b.p then (st.1 - b.a, st.2 ++ [.tup [.int ((i : Int) + 1), .str b.w, .str b.t, .int (0 - b.a), .int (st.1 - b.a)]]) else st
def stf (js : List B) (s : Str) : Nat → Int × List D
  | 0 => (0, [])
  | n + 1 => st1 s n (js.getD n default) (stf js s n)
theorem stf_len (js : List B) (s : Str) : ∀ n, (stf js s n).2.length ≤ n
  | 0 => by simp [stf]
  | n + 1 => by
    have := stf_len js s n
    unfold stf st1
    split
    · simp; omega
    · split
      · simp; omega
      · omega
theorem stf_sm (js : List B) (s : Str) : ∀ n, ∀ d ∈ (stf js s n).2, sm 2 d = true
  | 0 => by simp [stf]
  | n + 1 => by
    have ih := stf_sm js s n
    have hs : ∀ (i : Int) (w p : Str) (a t : Int), sm 2 (.tup [.int i, .str w, .str p, .int a, .int t]) = true := fun i w p a t => by
      simp [sm]
      unfold lim
      decide
    unfold stf st1
    split
    · intro d hd
      rcases List.mem_append.mp hd with hd | hd
      · exact ih d hd
      · cases List.mem_singleton.mp hd; exact hs _ _ _ _ _
    · split
      · intro d hd
        rcases List.mem_append.mp hd with hd | hd
        · exact ih d hd
        · cases List.mem_singleton.mp hd; exact hs _ _ _ _ _
      · exact ih
theorem stf_pure (js : List B) (s : Str) (n : Nat) : D.pures (stf js s n).2 = true := ps_mem fun d hd => sm_pure 2 d (stf_sm js s n d hd)
end K82
end
section
set_option Elab.async false
set_option linter.all false
set_option maxRecDepth 100000
namespace K82
open Sk
open PySem (Str)
theorem js_get {js : List B} {i : Nat} (hi : i < js.length) : js.getD i default = js[i] := by simp [hi]
theorem ix_js {M : Store} {js : List B} {i : Nat} (hi : i < js.length) : ixD (.tup (js.map bD)) (.int (i : Int)) M = .ok (bD (js.getD i default)) M := by
  have h : i < (js.map bD).length := by simpa using hi
  simp only [ixD]
  rw [atI_nat h, List.getElem?_eq_getElem h]
  simp [hi]
/-- the statement's loop body -/
def smBody : List S := [.unp [5, 6, 7, 8] (.ix (.var 0) (.var 4)),
    .iff (.cmp .eq (.var 1) (.var 7))
     [.set 3 (.bin .add (.var 3) (.var 8)),
      .app (.var 2) (.tup [(.bin .add (.var 4) (.cst (.int 1))), (.var 5), (.var 6), (.var 8), (.var 3)])]
     [.iff (.cmp .eq (.var 1) (.var 6))
       [.set 3 (.bin .sub (.var 3) (.var 8)),
        .app (.var 2) (.tup [(.bin .add (.var 4) (.cst (.int 1))), (.var 5), (.var 7), (.bin .sub (.cst (.int 0)) (.var 8)), (.var 3)])]
       []]]
theorem r_statement {k : Nat} {M : Store} {js : List B} {s : Str} (hl : js.length ≤ 1000) : go (k + 1) "statement" [.tup (js.map bD), .str s] M = .ok (.tup (stf js s js.length).2) M := by
  rw [go, run_s (d := d_statement) rfl rfl]
  have lp : ex ⟨run pg.T pg.G k, pg.G, M.length⟩ (.for (.one 4) .rng [(.blt .len [(.var 0)])] smBody [4, 5, 6, 7, 8]) [some (.tup (js.map bD)), some (.str s), some (.ref M.length), some (.int 0), none, none, none, none, none] (M ++ [.lst []]) = .nx [some (.tup (js.map bD)), some (.str s), some (.ref M.length), some (.int (stf js s js.length).1), none, none, none, none, none] (M ++ [.lst (stf js s js.length).2]) := by
    have hw : walkG (M ++ [O.lst []]).length .rng [.int ((js.map bD).length : Int)] (M ++ [.lst []]) = .ok (rngD 0 js.length, none) (M ++ [.lst []]) := by
      have := w_rng1 (M := M ++ [O.lst []]) (j := (js.length : Int)) (okR_len (l := js) (by unfold lim; omega))
      rw [List.length_map]
      exact this
    rw [x_for' (xs := rngD 0 js.length) (w := none) (M1 := M ++ [.lst []]) (by
      rw [es_cons, e_blt, es_cons, e_var (d := .tup (js.map bD)) rfl]
      simp only [es_nil, bind_ok, f_len_t]
      exact hw)]
    obtain ⟨ρ', M', e, h1, h2⟩ := forL_all (w := none) (xs := rngD 0 js.length) (ρ := [some (.tup (js.map bD)), some (.str s), some (.ref M.length), some (.int 0), none, none, none, none, none]) (M := M ++ [.lst []])
      (body := fun x ρ1 M2 => match assignT M2 (.one 4) x ρ1 with
        | some ρ2 => (exs ⟨run pg.T pg.G k, pg.G, M.length⟩ smBody ρ2 M2).kill [4, 5, 6, 7, 8]
        | none => .bad)
      (fun i ρ M' => ρ = [some (.tup (js.map bD)), some (.str s), some (.ref M.length), some (.int (stf js s i).1), none, none, none, none, none] ∧ M' = M ++ [.lst (stf js s i).2])
      ⟨rfl, rfl⟩ (fun _ _ _ _ => trivial) fun i x ρ M' hx ⟨e1, e2⟩ => by
        obtain ⟨hi, rfl⟩ := rngG hx
        subst e1 e2
        rw [Int.zero_add]
        have hT := stf_len js s i
        have hlim : (stf js s i).2.length < lim := by unfold lim; omega
        have hix := fun M => ix_js (M := M) hi
        have hst : stf js s (i + 1) = st1 s i (js.getD i default) (stf js s i) := rfl
        refine ⟨_, _, ?_, rfl, rfl⟩
        rw [hst]
        generalize js.getD i default = b at hix
        generalize stf js s i = st at hlim
        have hbp : (bD b).pure = true := bD_pure b
        by_cases h1 : s = b.t
        · simp [smBody, hix, st1, h1, isLst, okIn, set_last, hlim, bD]
        · by_cases h2 : s = b.p
          · subst h2
            simp [smBody, hix, st1, h1, isLst, okIn, set_last, hlim, bD]
          · simp [smBody, hix, st1, h1, h2, isLst, okIn, set_last, hlim, bD]
    rw [rngL] at h1 h2
    subst h1 h2
    exact e
  unfold smBody at lp
  have hft : bltD .tuple [.ref M.length] (M ++ [.lst (stf js s js.length).2]) = .ok (.tup (stf js s js.length).2) (M ++ [.lst (stf js s js.length).2]) := f_tup last_get
  have hp := stf_pure js s js.length
  simp [d_statement, init, alloc, Res.gc, gc, O.pure, lp, hft, hp]
/-- the law's statement's loop body -/
def lsBody : List S := [.set 5 (.ix (.var 0) (.var 4)),
    .iff (.cmp .eq (.ix (.var 5) (.cst (.int 1))) (.var 1))
     [.set 3 (.bin .sub (.var 3) (.ix (.var 5) (.cst (.int 3)))),
      .app (.var 2) (.tup [(.bin .add (.var 4) (.cst (.int 1))), (.ix (.var 5) (.cst (.int 0))), (.ix (.var 5) (.cst (.int 2))), (.bin .sub (.cst (.int 0)) (.ix (.var 5) (.cst (.int 3)))), (.var 3)])]
     [],
    .iff (.cmp .eq (.ix (.var 5) (.cst (.int 2))) (.var 1))
     [.set 3 (.bin .add (.var 3) (.ix (.var 5) (.cst (.int 3)))),
      .app (.var 2) (.tup [(.bin .add (.var 4) (.cst (.int 1))), (.ix (.var 5) (.cst (.int 0))), (.ix (.var 5) (.cst (.int 1))), (.ix (.var 5) (.cst (.int 3))), (.var 3)])]
     []]
theorem r_law_statement {k : Nat} {M : Store} {js : List B} {s : Str} (hj : ∀ b ∈ js, b.Ok) (hl : js.length ≤ 1000) : go (k + 1) "_law_statement" [.tup (js.map bD), .str s] M = .ok (.tup (stf js s js.length).2) M := by
  rw [go, run_s (d := d_law_statement) rfl rfl]
  have lp : ex ⟨run pg.T pg.G k, pg.G, M.length⟩ (.for (.one 4) .rng [(.blt .len [(.var 0)])] lsBody [4, 5]) [some (.tup (js.map bD)), some (.str s), some (.ref M.length), some (.int 0), none, none] (M ++ [.lst []]) = .nx [some (.tup (js.map bD)), some (.str s), some (.ref M.length), some (.int (stf js s js.length).1), none, none] (M ++ [.lst (stf js s js.length).2]) := by
    have hw : walkG (M ++ [O.lst []]).length .rng [.int ((js.map bD).length : Int)] (M ++ [.lst []]) = .ok (rngD 0 js.length, none) (M ++ [.lst []]) := by
      have := w_rng1 (M := M ++ [O.lst []]) (j := (js.length : Int)) (okR_len (l := js) (by unfold lim; omega))
      rw [List.length_map]
      exact this
    rw [x_for' (xs := rngD 0 js.length) (w := none) (M1 := M ++ [.lst []]) (by
      rw [es_cons, e_blt, es_cons, e_var (d := .tup (js.map bD)) rfl]
      simp only [es_nil, bind_ok, f_len_t]
      exact hw)]
    obtain ⟨ρ', M', e, h1, h2⟩ := forL_all (w := none) (xs := rngD 0 js.length) (ρ := [some (.tup (js.map bD)), some (.str s), some (.ref M.length), some (.int 0), none, none]) (M := M ++ [.lst []])
      (body := fun x ρ1 M2 => match assignT M2 (.one 4) x ρ1 with
        | some ρ2 => (exs ⟨run pg.T pg.G k, pg.G, M.length⟩ lsBody ρ2 M2).kill [4, 5]
        | none => .bad)
      (fun i ρ M' => ρ = [some (.tup (js.map bD)), some (.str s), some (.ref M.length), some (.int (stf js s i).1), none, none] ∧ M' = M ++ [.lst (stf js s i).2])
      ⟨rfl, rfl⟩ (fun _ _ _ _ => trivial) fun i x ρ M' hx ⟨e1, e2⟩ => by
        obtain ⟨hi, rfl⟩ := rngG hx
        subst e1 e2
        rw [Int.zero_add]
        have hT := stf_len js s i
        have hlim : (stf js s i).2.length < lim := by unfold lim; omega
        have hix := fun M => ix_js (M := M) hi
        have hst : stf js s (i + 1) = st1 s i (js.getD i default) (stf js s i) := rfl
        have hne : (js.getD i default).p ≠ (js.getD i default).t := by
          rw [js_get hi]
          exact (hj _ (List.getElem_mem hi)).ne
        refine ⟨_, _, ?_, rfl, rfl⟩
        rw [hst]
        generalize js.getD i default = b at hix hne
        generalize stf js s i = st at hlim
        have hbp : (bD b).pure = true := bD_pure b
        have i0 : ∀ M', ixD (bD b) (.int 0) M' = .ok (.str b.w) M' := fun _ => rfl
        have i1 : ∀ M', ixD (bD b) (.int 1) M' = .ok (.str b.p) M' := fun _ => rfl
        have i2 : ∀ M', ixD (bD b) (.int 2) M' = .ok (.str b.t) M' := fun _ => rfl
        have i3 : ∀ M', ixD (bD b) (.int 3) M' = .ok (.int b.a) M' := fun _ => rfl
        by_cases h1 : b.t = s
        · have h2 : ¬ b.p = s := fun e => hne (e.trans h1.symm)
          have h1' : s = b.t := h1.symm
          simp [lsBody, hix, i0, i1, i2, i3, hbp, st1, h1, h2, isLst, okIn, set_last, hlim]
        · have h1' : ¬ s = b.t := fun e => h1 e.symm
          by_cases h2 : b.p = s
          · have h2' : s = b.p := h2.symm
            simp [lsBody, hix, i0, i1, i2, i3, hbp, st1, h1, h1', h2, isLst, okIn, set_last, hlim]
          · have h2' : ¬ s = b.p := fun e => h2 e.symm
            simp [lsBody, hix, i0, i1, i2, i3, hbp, st1, h1, h1', h2, h2', isLst, okIn, set_last, hlim]
    rw [rngL] at h1 h2
    subst h1 h2
    exact e
  unfold lsBody at lp
  have hft : bltD .tuple [.ref M.length] (M ++ [.lst (stf js s js.length).2]) = .ok (.tup (stf js s js.length).2) (M ++ [.lst (stf js s js.length).2]) := f_tup last_get
  have hp := stf_pure js s js.length
  simp [d_law_statement, init, alloc, Res.gc, gc, O.pure, lp, hft, hp]
end K82
end
section
set_option Elab.async false
set_option linter.all false
set_option maxRecDepth 100000
namespace K82
open Sk
open PySem (Str)
theorem first_range {α : Type} {h : Nat → Option α} {p : Nat} {x : α} (h1 : ∀ i, i < p → h i = none) (h2 : h p = some x) : ∀ n, p < n → (List.range n).findSome? h = some x
  | 0, hn => by omega
  | n + 1, hn => by
    rw [List.range_succ, List.findSome?_append]
    by_cases hp : p < n
    · rw [first_range h1 h2 n hp]; rfl
    · have : p = n := by omega
      subst this
      have : (List.range p).findSome? h = none := by
        rw [List.findSome?_eq_none_iff]
        intro i hi
        exact h1 i (by simpa using hi)
      rw [this]
      simp [h2]
theorem none_range {α : Type} {h : Nat → Option α} {n : Nat} (h1 : ∀ i, i < n → h i = none) : (List.range n).findSome? h = none := by
  rw [List.findSome?_eq_none_iff]
  intro i hi
  exact h1 i (by simpa using hi)
/-- a booking that is right -/
theorem bf_ok {b : B} (h : b.Ok) : bf (bD b) = .non := by
  have h1 := h.w
  have h2 := h.p
  have h3 := h.t
  have h4 := h.lo
  have h5 := h.hi
  have h6 := h.ne
  simp [bf, bD, h1, h2, h3, D.eqv, h6, wIn, h4, h5]
/-- a right journal -/
theorem r_jf_ok {k : Nat} {M : Store} {js : List B} (hj : ∀ b ∈ js, b.Ok) (hl : js.length ≤ 60) : go (k + 4) "journal_fault" [.tup (js.map bD)] M = .ok .non M := by
  have h := r_journal_fault (k := k + 3) (M := M) (ds := js.map bD) (f := bf) (by unfold lim; simp; omega) fun d hd => by
    obtain ⟨b, hb, rfl⟩ := List.mem_map.mp hd
    refine ⟨r_booking_fault (by simp), by rw [bf_ok (hj b hb)]; simp⟩
  rw [h]
  have hx : jx bf (js.map bD) = none := none_range fun i hi => by
    have hi : i < js.length := by simpa using hi
    have e : (js.map bD).getD i .non = bD js[i] := by simp [hi]
    rw [e, bf_ok (hj _ (List.getElem_mem hi))]
    rfl
  unfold jf
  rw [hx]
  have : ¬ 60 < (js.map bD).length := by simp; omega
  simp only [this, if_false]
  rfl
/-- .. with one wrong item -/
theorem r_jf_bad {k : Nat} {M : Store} {pre post : List B} {v w : D} (hp : ∀ b ∈ pre, b.Ok) (hq : ∀ b ∈ post, b.Ok) (hl : pre.length + post.length ≤ 1000) (hv : go (k + 3) "booking_fault" [v] M = .ok w M) (hw : w.pure = true) (hn : w.isNon = false) :
    go (k + 4) "journal_fault" [.tup (pre.map bD ++ [v] ++ post.map bD)] M = .ok (.tup [.int ((pre.length : Int) + 1), w]) M := by
  classical
  let f : D → D := fun d => if d = v then w else .non
  have hne : ∀ b : B, b.Ok → bD b ≠ v := fun b hb e => by
    have h1 : go (k + 3) "booking_fault" [bD b] M = .ok (bf (bD b)) M := r_booking_fault (by simp)
    rw [bf_ok hb, e, hv] at h1
    cases h1
    cases hn
  have h := r_journal_fault (k := k + 3) (M := M) (ds := pre.map bD ++ [v] ++ post.map bD) (f := f) (by unfold lim; simp; omega) fun d hd => by
    have ok : ∀ b : B, b.Ok → go (k + 3) "booking_fault" [bD b] M = .ok (f (bD b)) M ∧ (f (bD b)).pure = true := fun b hb => by
      have h1 : go (k + 3) "booking_fault" [bD b] M = .ok (bf (bD b)) M := r_booking_fault (by simp)
      rw [bf_ok hb] at h1
      simp only [f, hne b hb, if_false]
      exact ⟨h1, by simp⟩
    rcases List.mem_append.mp hd with hd | hd
    · rcases List.mem_append.mp hd with hd | hd
      · obtain ⟨b, hb, rfl⟩ := List.mem_map.mp hd
        exact ok b (hp b hb)
      · cases List.mem_singleton.mp hd
        simp only [f, if_true]
        exact ⟨hv, hw⟩
    · obtain ⟨b, hb, rfl⟩ := List.mem_map.mp hd
      exact ok b (hq b hb)
  rw [h]
  have hx : jx f (pre.map bD ++ [v] ++ post.map bD) = some (.tup [.int ((pre.length : Int) + 1), w]) := by
    refine first_range (p := pre.length) (fun i hi => ?_) ?_ _ (by simp)
    · have e : (pre.map bD ++ [v] ++ post.map bD).getD i .non = bD pre[i] := by
        rw [List.append_assoc, List.getD_eq_getElem?_getD, List.getElem?_append_left (by simpa using hi)]
        simp [hi]
      rw [e]
      simp only [f, hne _ (hp _ (List.getElem_mem hi)), if_false]
      rfl
    · have e : (pre.map bD ++ [v] ++ post.map bD).getD pre.length .non = v := by
        rw [List.append_assoc, List.getD_eq_getElem?_getD, List.getElem?_append_right (by simp)]
        simp
      rw [e]
      simp only [f, if_true, hn]
      rfl
  unfold jf
  rw [hx]
  rfl
end K82
end
section
set_option Elab.async false
set_option linter.all false
set_option maxRecDepth 100000
namespace K82
open Sk
open PySem (Str)
abbrev so : Str := ⟨#[111, 105, 108]⟩
abbrev sa : Str := ⟨#[97]⟩
abbrev sb : Str := ⟨#[98]⟩
/-- the values with their faults -/
def flt : List (D × D) :=
  [(.tup [.str so, .str sa, .str sb, .int 1], .non), (.tup [.str so, .str sa, .str sb, .int 99999], .non), (.tup [.str so, .str sa, .str sb, .int 0], sAmount), (.tup [.str so, .str sa, .str sb, .int 100000], sAmount),
   (.tup [.str so, .str sa, .str sa, .int 0], sSelf), (.tup [.str so, .str ⟨#[65]⟩, .str ⟨#[65]⟩, .int 0], sName), (.tup [.str so, .str sa, .str ⟨#[]⟩, .int 1], sName), (.tup [.str so, .str sa, .str sb], sShape),
   (.ref 6, sShape), (.non, sShape), (.tup [.str so, .str sa, .str sb, .bl true], sAmount), (.tup [.str so, .str sa, .str sb, .str ⟨#[49]⟩], sAmount),
   (.tup [.int 1, .str sa, .str sb, .int 1], sName), (.tup [.str so, .str ⟨#[97, 98, 99, 100, 101, 102, 103, 104, 105]⟩, .str sb, .int 1], sName), (.tup [.str so, .str ⟨#[97, 98, 99, 100, 101, 102, 103, 104]⟩, .str sb, .int 1], .non),
   (.tup [.str so, .str sa, .str sb, .int 1, .int 1], sShape)]
def fD (p : D × D) : D := .tup [p.1, p.2]
theorem r_faults {k : Nat} {a b c d : O} : ∃ M : Store, M.length = 13 ∧ M.take 4 = [a, b, c, d] ∧ M[12]? = some (.lst (flt.map fD)) ∧ M[6]? = some (.lst [.str so, .str sa, .str sb, .int 1]) ∧
    go (k + 1) "_law_faults" [] [a, b, c, d] = .ok (.ref 12) M := by
  rw [go, run_s (d := d_law_faults) rfl rfl]
  have hl : ∀ n : Nat, n ≤ 100 → n ≤ lim := fun n h => by unfold lim; omega
  have l8 : (4 : Nat) + 4 ≤ lim := hl 8 (by decide)
  refine ⟨?M, ?_, ?_, ?_, ?_, ?h⟩
  case h =>
    simp [d_law_faults, init, alloc, binD, addD, Res.gc, gc, O.pure, hl]
    rfl
  all_goals rfl

theorem r_jf_many {k : Nat} {M : Store} {js : List B} (hj : ∀ b ∈ js, b.Ok) (h60 : 60 < js.length) (hl : js.length ≤ 1000) : go (k + 4) "journal_fault" [.tup (js.map bD)] M = .ok (.tup [.int 61, sMany]) M := by
  have h := r_journal_fault (k := k + 3) (M := M) (ds := js.map bD) (f := bf) (by unfold lim; simp; omega) fun d hd => by
    obtain ⟨b, hb, rfl⟩ := List.mem_map.mp hd
    refine ⟨r_booking_fault (by simp), by rw [bf_ok (hj b hb)]; simp⟩
  rw [h]
  have hx : jx bf (js.map bD) = none := none_range fun i hi => by
    have hi : i < js.length := by simpa using hi
    have e : (js.map bD).getD i .non = bD js[i] := by simp [hi]
    rw [e, bf_ok (hj _ (List.getElem_mem hi))]
    rfl
  unfold jf
  rw [hx]
  have : 60 < (js.map bD).length := by simpa using h60
  simp only [this, if_true]
  rfl
/-- the loop's body of _law_bent -/
def btBody : List S := [.iff (.not (.call "_law_same" [(.call "booking_fault" [(.var 2)]), (.var 3)]))
     [.ret (.cst (.bl false))]
     [],
    .iff (.cmp .isnot (.var 3) (.cst .non))
     [.iff (.not (.call "_law_same" [(.call "journal_fault" [(.bin .add (.bin .add (.slcU (.var 0) (.var 1)) (.tup [(.var 2)])) (.slcL (.var 0) (.var 1)))]), (.tup [(.bin .add (.var 1) (.cst (.int 1))), (.var 3)])]))
       [.ret (.cst (.bl false))]
       []]
     []]
theorem cut_to {α : Type} {l : List α} {n : Nat} (h : n ≤ l.length) : cut l none (some (n : Int)) = l.take n := by
  unfold cut sIx
  simp [h]
theorem cut_from {α : Type} {l : List α} {n : Nat} (h : n ≤ l.length) : cut l (some (n : Int)) none = l.drop n := by
  unfold cut sIx
  simp only [show (0 : Int) ≤ (n : Int) by omega, if_true, Int.toNat_natCast]
  rw [Nat.min_eq_left h, List.take_of_length_le (by simp)]
theorem bt_item {k b : Nat} {M : Store} {js : List B} {n : Nat} {v w : D} {y : Option D} (hj : ∀ b ∈ js, b.Ok) (hl : js.length ≤ 900) (hn : n ≤ js.length) (hv : ∀ j, go (j + 3) "booking_fault" [v] M = .ok w M) (hw : sm 1 w = true) :
    exs ⟨run pg.T pg.G (k + 6), pg.G, b⟩ btBody [some (.tup (js.map bD)), some (.int (n : Int)), some v, some w, y] M = .nx [some (.tup (js.map bD)), some (.int (n : Int)), some v, some w, y] M := by
  have hv' : run pg.T pg.G (k + 6) "booking_fault" [v] M = .ok w M := hv (k + 3)
  have s1 : run pg.T pg.G (k + 6) "_law_same" [w, w] M = .ok (.bl true) M := r_same 1 w hw (k + 3)
  cases hn0 : w.isNon with
  | true => simp [btBody, hv', s1, hn0]
  | false =>
    have hs2 : sm 2 (.tup [.int ((n : Int) + 1), w]) = true := by
      have : (2 : Nat) ≤ lim := by unfold lim; omega
      simp [sm, hw, this]
    have s2 : run pg.T pg.G (k + 6) "_law_same" [.tup [.int ((n : Int) + 1), w], .tup [.int ((n : Int) + 1), w]] M = .ok (.bl true) M := r_same 2 _ hs2 (k + 2)
    have hlt : n ≤ (js.map bD).length := by simpa using hn
    have c1 : slcD (.tup (js.map bD)) none (some (n : Int)) M = .ok (.tup ((js.take n).map bD)) M := by
      simp [slcD, cut_to hlt, List.map_take]
    have c2 : slcD (.tup (js.map bD)) (some (n : Int)) none M = .ok (.tup ((js.drop n).map bD)) M := by
      simp [slcD, cut_from hlt, List.map_drop]
    have a1 : binD .add (.tup ((js.take n).map bD)) (.tup [v]) M = .ok (.tup ((js.take n).map bD ++ [v])) M := b_cat (by unfold lim; simp; omega)
    have a2 : binD .add (.tup ((js.take n).map bD ++ [v])) (.tup ((js.drop n).map bD)) M = .ok (.tup ((js.take n).map bD ++ [v] ++ (js.drop n).map bD)) M := b_cat (by unfold lim; simp; omega)
    have jb := r_jf_bad (k := k + 2) (M := M) (pre := js.take n) (post := js.drop n) (v := v) (w := w) (fun b hb => hj b (List.mem_of_mem_take hb)) (fun b hb => hj b (List.mem_of_mem_drop hb)) (by simp; omega) (hv (k + 2)) (sm_pure 1 w hw) hn0
    · have jb : run pg.T pg.G (k + 6) "journal_fault" [.tup ((js.take n).map bD ++ [v] ++ (js.drop n).map bD)] M = .ok (.tup [.int ((n : Int) + 1), w]) M := by
        have e : (js.take n).length = n := by simp [hn]
        rw [e] at jb
        exact jb
      simp only [btBody]
      rw [xs_cons, x_iff, gb_def, e_not, e_call, es_cons, e_call, es_cons, e_var (d := v) rfl]
      simp only [es_nil, bind_ok, hv', es_cons]
      rw [e_var (d := w) rfl]
      simp only [bind_ok, s1, tr_bl, tk_ok, ob_ok, List.take_length, Bool.not_true, Bool.false_eq_true, if_false, xs_nil, an_nx]
      rw [xs_cons, x_iff, gb_def, e_cmp, e_var (d := w) rfl]
      simp only [e_cst, bind_ok, c_isnot, hn0, Bool.not_false, tr_bl, tk_ok, ob_ok, List.take_length, if_true]
      rw [xs_cons, x_iff, gb_def, e_not, e_call, es_cons, e_call, es_cons, e_bin, e_bin, e_slcU, e_var (d := .tup (js.map bD)) rfl]
      simp only [bind_ok]
      rw [e_var (d := .int (n : Int)) rfl]
      simp only [bind_ok, c1, e_tup, es_cons, es_nil]
      rw [e_var (d := v) rfl]
      simp only [bind_ok, a1, e_slcL]
      rw [e_var (d := .tup (js.map bD)) rfl]
      simp only [bind_ok]
      rw [e_var (d := .int (n : Int)) rfl]
      simp only [bind_ok, c2, a2, jb, e_bin, e_cst]
      rw [e_var (d := .int (n : Int)) rfl]
      simp only [bind_ok, b_add]
      rw [e_var (d := w) rfl]
      simp only [bind_ok, s2, tr_bl, tk_ok, ob_ok, List.take_length, Bool.not_true, Bool.false_eq_true, if_false, xs_nil, an_nx]

/-- a right booking of the law's own -/
def b1 : B := ⟨so, sa, sb, 1⟩
theorem b1_ok : b1.Ok := ⟨by decide, by decide, by decide, by decide, by decide, by decide⟩
theorem rep_b1 (n : Nat) : (List.replicate n [bD b1]).flatten = (List.replicate n b1).map bD := by
  rw [List.map_replicate]
  induction n with
  | zero => rfl
  | succ n ih => rw [List.replicate_succ, List.flatten_cons, ih, List.replicate_succ]; rfl
theorem r_bent {k : Nat} {a b c d : O} {js : List B} {n : Nat} (hj : ∀ x ∈ js, x.Ok) (hl : js.length ≤ 60) (hn : n ≤ js.length) : go (k + 7) "_law_bent" [.tup (js.map bD), .int (n : Int)] [a, b, c, d] = .ok (.bl true) [a, b, c, d] := by
  rw [go, run_s (d := d_law_bent) rfl rfl]
  obtain ⟨M, m1, m2, m3, m4, ef⟩ := r_faults (k := k + 5) (a := a) (b := b) (c := c) (d := d)
  have ef : run pg.T pg.G (k + 6) "_law_faults" [] [a, b, c, d] = .ok (.ref 12) M := ef
  have hnp : D.pures (flt.map fD) = false := by decide
  have hw : walkG 4 .val [.ref 12] M = .ok (flt.map fD, some 12) M := by
    simp [walkG, walkD, m3, hnp]
  have lp : ex ⟨run pg.T pg.G (k + 6), pg.G, 4⟩ (.for (.many [2, 3]) .val [(.call "_law_faults" [])] btBody [2, 3]) [some (.tup (js.map bD)), some (.int (n : Int)), none, none, none] [a, b, c, d] = .nx [some (.tup (js.map bD)), some (.int (n : Int)), none, none, none] M := by
    rw [x_for' (xs := flt.map fD) (w := some 12) (M1 := M) (by
      rw [es_cons, e_call]
      simp only [es_nil, bind_ok, ef]
      exact hw)]
    rw [show wipe [some (D.tup (js.map bD)), some (.int (n : Int)), none, none, none] [2, 3] = [some (.tup (js.map bD)), some (.int (n : Int)), none, none, none] from rfl]
    show forL (some (12, flt.map fD)) _ _ _ _ = _
    rw [forL_find (w := some (12, flt.map fD)) (fun _ => none) m3 (flt.map fD) fun x hx => ?_]
    · have : ∀ l : List D, l.findSome? (fun _ => (none : Option D)) = none := fun l => by induction l <;> simp_all
      rw [this]; rfl
    · obtain ⟨⟨v, w⟩, hp, rfl⟩ := List.mem_map.mp hx
      have key : (∀ j, go (j + 3) "booking_fault" [v] M = .ok w M) ∧ sm 1 w = true := by
        have tp : ∀ xs : List D, D.pures xs = true → bf (.tup xs) = w → ∀ j, go (j + 3) "booking_fault" [.tup xs] M = .ok w M := fun xs h e j => by
          rw [← e]
          exact r_booking_fault h
        simp only [flt, List.mem_cons, List.not_mem_nil, or_false, Prod.mk.injEq] at hp
        rcases hp with ⟨rfl, rfl⟩ | ⟨rfl, rfl⟩ | ⟨rfl, rfl⟩ | ⟨rfl, rfl⟩ | ⟨rfl, rfl⟩ | ⟨rfl, rfl⟩ | ⟨rfl, rfl⟩ | ⟨rfl, rfl⟩ | ⟨rfl, rfl⟩ | ⟨rfl, rfl⟩ | ⟨rfl, rfl⟩ | ⟨rfl, rfl⟩ | ⟨rfl, rfl⟩ | ⟨rfl, rfl⟩ | ⟨rfl, rfl⟩ | ⟨rfl, rfl⟩
        · exact ⟨tp _ (by simp) (by rfl), by decide⟩
        · exact ⟨tp _ (by simp) (by rfl), by decide⟩
        · exact ⟨tp _ (by simp) (by rfl), by decide⟩
        · exact ⟨tp _ (by simp) (by rfl), by decide⟩
        · exact ⟨tp _ (by simp) (by rfl), by decide⟩
        · exact ⟨tp _ (by simp) (by rfl), by decide⟩
        · exact ⟨tp _ (by simp) (by rfl), by decide⟩
        · exact ⟨tp _ (by simp) (by rfl), by decide⟩
        · exact ⟨fun j => r_booking_fault' (by simp [isiD, m4]), by decide⟩
        · exact ⟨fun j => r_booking_fault' rfl, by decide⟩
        · exact ⟨tp _ (by simp) (by rfl), by decide⟩
        · exact ⟨tp _ (by simp) (by rfl), by decide⟩
        · exact ⟨tp _ (by simp) (by rfl), by decide⟩
        · exact ⟨tp _ (by simp) (by rfl), by decide⟩
        · exact ⟨tp _ (by simp) (by rfl), by decide⟩
        · exact ⟨tp _ (by simp) (by rfl), by decide⟩
      have it := bt_item (k := k) (b := 4) (M := M) (js := js) (n := n) (v := v) (w := w) (y := none) hj (by omega) hn key.1 key.2
      simp only [fD, as_many, sm_cons, sm_nil, List.set_cons_succ, List.set_cons_zero, endF_none]
      rw [it]
      rfl
  -- behind the loop
  have hmul : ∀ m : Nat, 2 ≤ m → m ≤ 1000 → binD .mul (.tup [.tup [.str ⟨#[111, 105, 108]⟩, .str ⟨#[97]⟩, .str ⟨#[98]⟩, .int 1]]) (.int (m : Int)) M = .ok (.tup ((List.replicate m b1).map bD)) M := fun m h1 h2 => by
    have := rep_b1 m
    simp only [binD, mulD]
    rw [if_pos ⟨by simp, by omega, by omega, by simp⟩]
    rw [← this]
    rfl
  have hb1 : ∀ m, ∀ x ∈ List.replicate m b1, x.Ok := fun m x hx => by
    rw [List.eq_of_mem_replicate hx]
    exact b1_ok
  have x60 : ∃ R, binD .mul (.tup [.tup [.str ⟨#[111, 105, 108]⟩, .str ⟨#[97]⟩, .str ⟨#[98]⟩, .int 1]]) (.int 60) M = .ok R M ∧ run pg.T pg.G (k + 6) "journal_fault" [R] M = .ok .non M :=
    ⟨_, hmul 60 (by decide) (by decide), r_jf_ok (k := k + 2) (hb1 60) (by simp)⟩
  have x61 : ∃ R, binD .mul (.tup [.tup [.str ⟨#[111, 105, 108]⟩, .str ⟨#[97]⟩, .str ⟨#[98]⟩, .int 1]]) (.int 61) M = .ok R M ∧ run pg.T pg.G (k + 6) "journal_fault" [R] M = .ok (.tup [.int 61, sMany]) M ∧ ∃ R2, binD .add R (.tup [.tup []]) M = .ok R2 M ∧ run pg.T pg.G (k + 6) "journal_fault" [R2] M = .ok (.tup [.int 62, sShape]) M := by
    refine ⟨_, hmul 61 (by decide) (by decide), r_jf_many (k := k + 2) (hb1 61) (by simp) (by simp), _, b_cat (by unfold lim; simp), ?_⟩
    have := r_jf_bad (k := k + 2) (M := M) (pre := List.replicate 61 b1) (post := []) (v := .tup []) (w := sShape) (hb1 61) (by simp) (by simp) (r_booking_fault (by simp)) (by decide) (by decide)
    simp only [List.map_nil, List.append_nil, List.length_replicate] at this
    exact this
  obtain ⟨R60, p60, j60⟩ := x60
  obtain ⟨R61, p61, j61, R62, p62, j62⟩ := x61
  have hsm : ∀ (i : Int) (s : Str), sm 2 (.tup [.int i, .str s]) = true := fun i s => by
    have : (2 : Nat) ≤ lim := by unfold lim; omega
    simp [sm, this]
  have s0 : ∀ M', run pg.T pg.G (k + 6) "_law_same" [.non, .non] M' = .ok (.bl true) M' := fun M' => r_same 1 _ rfl (k + 3)
  have s61 : ∀ M', run pg.T pg.G (k + 6) "_law_same" [.tup [.int 61, sMany], .tup [.int 61, .str ⟨#[109, 97, 110, 121]⟩]] M' = .ok (.bl true) M' := fun M' => r_same 2 _ (hsm _ _) (k + 2)
  have s62 : ∀ M', run pg.T pg.G (k + 6) "_law_same" [.tup [.int 62, sShape], .tup [.int 62, .str ⟨#[115, 104, 97, 112, 101]⟩]] M' = .ok (.bl true) M' := fun M' => r_same 2 _ (hsm _ _) (k + 2)
  have sl : ∀ M', run pg.T pg.G (k + 6) "_law_same" [.tup [.int 0, sShape], .tup [.int 0, .str ⟨#[115, 104, 97, 112, 101]⟩]] M' = .ok (.bl true) M' := fun M' => r_same 2 _ (hsm _ _) (k + 2)
  have jl : run pg.T pg.G (k + 6) "journal_fault" [.ref M.length] (M ++ [.lst (js.map bD)]) = .ok (.tup [.int 0, sShape]) (M ++ [.lst (js.map bD)]) := r_journal_fault' (by simp [isiD])
  have jj : ∀ M', run pg.T pg.G (k + 6) "journal_fault" [.tup (js.map bD)] M' = .ok .non M' := fun M' => r_jf_ok (k := k + 2) hj hl
  unfold btBody at lp
  simp only [d_law_bent]
  rw [show init ⟨2, ["journal", "at", "value", "word", "one"], _⟩ [.tup (js.map bD), .int (n : Int)] = [some (.tup (js.map bD)), some (.int (n : Int)), none, none, none] from rfl]
  rw [xs_cons]
  have lp : ex ⟨run pg.T pg.G (k + 6), pg.G, [a, b, c, d].length⟩ _ _ _ = _ := lp
  rw [lp]
  rw [an_nx]
  simp [p60, j60, p61, j61, p62, j62, s0, s61, s62, sl, jl, jj, m2]
end K82
end
section
set_option Elab.async false
set_option linter.all false
set_option maxRecDepth 100000
namespace K82
open Sk
open PySem (Str)
/-! ### the sum of all balances -/
theorem sum_one {l : List Str} {x : Str} {a : Int} (nd : l.Nodup) (h : x ∈ l) : (l.map fun s => if x = s then a else 0).sum = a := by
  induction l with
  | nil => cases h
  | cons y l ih =>
    obtain ⟨n1, n2⟩ := List.nodup_cons.mp nd
    rw [List.map_cons, List.sum_cons]
    rcases List.mem_cons.mp h with e0 | h2
    · subst e0
      have : (l.map fun s => if x = s then a else 0).sum = 0 := by
        have hz : ∀ s ∈ l, (if x = s then a else 0) = 0 := fun s hs => by
          rw [if_neg]
          rintro rfl
          exact n1 hs
        clear ih nd h n2 n1
        induction l with
        | nil => rfl
        | cons z l ih => rw [List.map_cons, List.sum_cons, hz z List.mem_cons_self, ih fun s hs => hz s (List.mem_cons_of_mem _ hs)]; rfl
      simp [this]
    · have hne : ¬ x = y := fun e => n1 (e ▸ h2)
      rw [if_neg hne, ih n2 h2]
      omega
theorem sum_sub (l : List Str) (f g : Str → Int) : (l.map fun s => f s - g s).sum = (l.map f).sum - (l.map g).sum := by
  induction l with
  | nil => rfl
  | cons x l ih => simp only [List.map_cons, List.sum_cons, ih]; omega
theorem sum_add (l : List Str) (f g : Str → Int) : (l.map fun s => f s + g s).sum = (l.map f).sum + (l.map g).sum := by
  induction l with
  | nil => rfl
  | cons x l ih => simp only [List.map_cons, List.sum_cons, ih]; omega
theorem bal_zero {l : List Str} (nd : l.Nodup) : ∀ js : List B, (∀ b ∈ js, b.p ∈ l ∧ b.t ∈ l) → (l.map (bal js)).sum = 0
  | [], _ => by
    have : ∀ l : List Str, (l.map (bal [])).sum = 0 := fun l => by
      induction l with
      | nil => rfl
      | cons x l ih => rw [List.map_cons, List.sum_cons, ih]; rfl
    exact this l
  | b :: js, h => by
    have e : (fun s => bal (b :: js) s) = fun s => ((if b.t = s then b.a else 0) - (if b.p = s then b.a else 0)) + bal js s := by
      funext s
      simp [bal]
    show (l.map fun s => bal (b :: js) s).sum = 0
    rw [e, sum_add l (fun s => (if b.t = s then b.a else 0) - (if b.p = s then b.a else 0)) (bal js), sum_sub l (fun s => if b.t = s then b.a else 0) (fun s => if b.p = s then b.a else 0), sum_one nd (h b List.mem_cons_self).2, sum_one nd (h b List.mem_cons_self).1]
    have := bal_zero nd js fun x hx => h x (List.mem_cons_of_mem _ hx)
    show b.a - b.a + (l.map (bal js)).sum = 0
    rw [this]
    omega
theorem names_zero (js : List B) : ((names js).map (bal js)).sum = 0 := by
  refine bal_zero ((names_perm js).nodup_iff.mpr (accs_nodup js)) js fun b hb => ⟨?_, ?_⟩
  · exact (names_mem js).mpr ((accs_mem js).mpr ⟨b, hb, .inl rfl⟩)
  · exact (names_mem js).mpr ((accs_mem js).mpr ⟨b, hb, .inr rfl⟩)
/-! ### the law -/
noncomputable abbrev cl : Cx := ⟨run pg.T pg.G 39, pg.G, 1⟩
section
variable {r vs : List D} {js : List B}
/-- the store behind the law's first lines -/
abbrev m4 (r vs : List D) (js : List B) : Store := [.ro r, .lst vs, .lst ((names js).map D.str), .lst ((names js).map (pr js))]
abbrev r4 (js : List B) : Env := [some (.ref 0), some (.ref 1), some (.tup (js.map bD)), some (.ref 2), some (.ref 3), none, none, none]
theorem sm3 (js : List B) {l : List D} (hl : l.length ≤ 1000) (h : ∀ d ∈ l, sm 2 d = true) : sm 3 (.tup l) = true := by
  have : l.length ≤ lim := by unfold lim; omega
  simp [sm, this] at h ⊢
  exact h
theorem same3 {M : Store} {l : List D} (hl : l.length ≤ 1000) (h : ∀ d ∈ l, sm 2 d = true) : run pg.T pg.G 39 "_law_same" [.tup l, .tup l] M = .ok (.bl true) M := r_same 3 _ (sm3 [] hl h) 34
theorem same1 {M : Store} {i : Int} : run pg.T pg.G 39 "_law_same" [.int i, .int i] M = .ok (.bl true) M := r_same 1 _ rfl 36
theorem sm_pr (js : List B) (s : Str) : sm 2 (pr js s) = true := by
  have : (2 : Nat) ≤ lim := by unfold lim; omega
  simp [sm, pr, this]
theorem nm1000 (hl : js.length ≤ 60) : (names js).length ≤ 120 := by
  have := names_len js
  omega
theorem w4 (hl : js.length ≤ 60) : walkG 4 .val [.ref 3] (m4 r vs js) = .ok ((names js).map (pr js), some 3) (m4 r vs js) := w_lst (M := m4 r vs js) rfl
theorem w3 (hl : js.length ≤ 60) : walkG 3 .val [.ref 2] [.ro r, .lst vs, .lst ((names js).map D.str)] = .ok ((names js).map D.str, some 2) [.ro r, .lst vs, .lst ((names js).map D.str)] := w_lst (M := [.ro r, .lst vs, .lst ((names js).map D.str)]) rfl
theorem law4 (hl : js.length ≤ 60) : ex cl (.set 4 (.lc (.tup [(.var 5), (.call "_law_balance" [(.var 2), (.var 5)])]) (.one 5) .val [(.var 3)] [] [5])) [some (.ref 0), some (.ref 1), some (.tup (js.map bD)), some (.ref 2), none, none, none, none] [.ro r, .lst vs, .lst ((names js).map D.str)] = .nx (r4 js) (m4 r vs js) := by
  have hlc := e_lc_map (c := cl) (ρ := [some (.ref 0), some (.ref 1), some (.tup (js.map bD)), some (.ref 2), none, none, none, none]) (M := [.ro r, .lst vs, .lst ((names js).map D.str)]) (M2 := [.ro r, .lst vs, .lst ((names js).map D.str)]) (e := .tup [(.var 5), (.call "_law_balance" [(.var 2), (.var 5)])]) (tg := .one 5) (k := .val) (its := [(.var 3)]) (own := [5]) (xs := (names js).map D.str) (w := some 2)
    (fun x => match x with
      | .str s => pr js s
      | d => d) (by
        rw [es_cons, e_var (d := .ref 2) rfl]
        simp only [es_nil, bind_ok]
        exact w3 hl) (by have := nm1000 hl; unfold lim; simp; omega) rfl fun x hx => by
        obtain ⟨s, _, rfl⟩ := List.mem_map.mp hx
        have e2 : run pg.T pg.G 39 "_law_balance" [.tup (js.map bD), .str s] [.ro r, .lst vs, .lst ((names js).map D.str)] = .ok (.int (bal js s)) [.ro r, .lst vs, .lst ((names js).map D.str)] := r_law_balance (k := 38) (by omega)
        refine ⟨_, rfl, ?_⟩
        simp [e2]
        rfl
  have hm : ((names js).map D.str).map (fun x => match x with
      | .str s => pr js s
      | d => d) = (names js).map (pr js) := by simp [Function.comp_def]
  rw [hm] at hlc
  rw [x_set, gg_def, hlc, gc_new (o := .lst ((names js).map (pr js))) (show O.pure _ = true from prs_pure js _)]
  rfl
/-- a comprehension over due -/
theorem lc_due {e : E} {ifs : List E} (g : D → Option D) (hl : js.length ≤ 60) (hb : ∀ s ∈ names js, ∃ t, evt cl ifs [some (.ref 0), some (.ref 1), some (.tup (js.map bD)), some (.ref 2), some (.ref 3), none, some (pr js s), none] (m4 r vs js) = .ok t (m4 r vs js) ∧
      (if t = true then ∃ y, (ev cl e [some (.ref 0), some (.ref 1), some (.tup (js.map bD)), some (.ref 2), some (.ref 3), none, some (pr js s), none] (m4 r vs js)).gc 4 = .ok y (m4 r vs js) ∧ g (pr js s) = some y else g (pr js s) = none)) (M : Store) (hM : M = m4 r vs js) :
    ev cl (.lc e (.one 6) .val [(.var 4)] ifs [6]) (r4 js) M = .ok (.ref 4) (m4 r vs js ++ [.lst (((names js).map (pr js)).filterMap g)]) := by
  subst hM
  exact e_lc_go (c := cl) (ρ := r4 js) (M := m4 r vs js) (M2 := m4 r vs js) (e := e) (tg := .one 6) (k := .val) (its := [(.var 4)]) (ifs := ifs) (own := [6]) (xs := (names js).map (pr js)) (w := some 3) g (by
    rw [es_cons, e_var (d := .ref 3) rfl]
    simp only [es_nil, bind_ok]
    exact w4 hl) (by have := nm1000 hl; unfold lim; simp; omega) rfl fun x hx => by
    obtain ⟨s, hs, rfl⟩ := List.mem_map.mp hx
    obtain ⟨t, h1, h2⟩ := hb s hs
    exact ⟨_, rfl, t, h1, h2⟩

theorem law5 (hj : ∀ b ∈ js, b.Ok) (hl : js.length ≤ 60) : ex cl (.iff (.or (.cmp .ne (.blt .sum [(.lc (.ix (.var 6) (.cst (.int 1))) (.one 6) .val [(.var 4)] [] [6])]) (.cst (.int 0))) (.not (.call "_law_same" [(.call "balances" [(.var 2)]), (.blt .tuple [(.var 4)])])))
   [.ret (.cst (.bl false))]
   []) (r4 js) (m4 r vs js) = .nx (r4 js) (m4 r vs js) := by
  have i1 : ∀ s M, ixD (pr js s) (.int 1) M = .ok (.int (bal js s)) M := fun _ _ => rfl
  have hlc := lc_due (r := r) (vs := vs) (js := js) (e := .ix (.var 6) (.cst (.int 1))) (ifs := []) (fun x => match x with
      | .tup [.str s, .int i] => some (.int i)
      | _ => none) hl (fun s hs => ⟨true, et_nil, .int (bal js s), by simp [i1], rfl⟩) (m4 r vs js) rfl
  have hm : ((names js).map (pr js)).filterMap (fun x => match x with
      | .tup [.str s, .int i] => some (D.int i)
      | _ => none) = ((names js).map (bal js)).map D.int := by
    rw [List.filterMap_map, List.map_map]
    have : ((fun x : D => match x with
      | .tup [.str s, .int i] => some (D.int i)
      | _ => none) ∘ pr js) = fun s => some (D.int (bal js s)) := rfl
    rw [this, List.filterMap_eq_map']
    rfl
  rw [hm] at hlc
  have hi : ∀ l : List Int, intsOf (l.map D.int) = some l := fun l => by
    induction l with
    | nil => rfl
    | cons a l ih => simp [intsOf, ih]
  have hsum : bltD .sum [.ref 4] (m4 r vs js ++ [.lst (((names js).map (bal js)).map D.int)]) = .ok (.int 0) (m4 r vs js ++ [.lst (((names js).map (bal js)).map D.int)]) := by
    have e : listAt (m4 r vs js ++ [.lst (((names js).map (bal js)).map D.int)]) 4 = some (((names js).map (bal js)).map D.int) := rfl
    simp only [bltD, e, hi, names_zero]
  have hb : run pg.T pg.G 39 "balances" [.tup (js.map bD)] (m4 r vs js ++ [.lst (((names js).map (bal js)).map D.int)]) = .ok (.tup ((names js).map (pr js))) (m4 r vs js ++ [.lst (((names js).map (bal js)).map D.int)]) := r_balances (k := 37) hj (by omega)
  have hft : bltD .tuple [.ref 3] (m4 r vs js ++ [.lst (((names js).map (bal js)).map D.int)]) = .ok (.tup ((names js).map (pr js))) (m4 r vs js ++ [.lst (((names js).map (bal js)).map D.int)]) := f_tup rfl
  have hs : run pg.T pg.G 39 "_law_same" [.tup ((names js).map (pr js)), .tup ((names js).map (pr js))] (m4 r vs js ++ [.lst (((names js).map (bal js)).map D.int)]) = .ok (.bl true) (m4 r vs js ++ [.lst (((names js).map (bal js)).map D.int)]) := same3 (by have := nm1000 hl; simp; omega) fun d hd => by
    obtain ⟨s, _, rfl⟩ := List.mem_map.mp hd
    exact sm_pr js s
  rw [x_iff, gb_def, e_or, e_cmp, e_blt, es_cons, hlc]
  simp only [es_nil, bind_ok, hsum, e_cst, c_ne_ii, tr_bl, show ((0 : Int) == 0) = true from rfl, Bool.not_true, Bool.false_eq_true, if_false, e_not, e_call, es_cons, e_blt]
  rw [e_var (d := .tup (js.map bD)) rfl]
  simp only [bind_ok, hb]
  rw [e_var (d := .ref 3) rfl]
  simp only [bind_ok, hft, hs, tr_bl, tk_ok, ob_ok, Bool.not_true, Bool.false_eq_true, if_false, xs_nil]
  rfl
theorem law6 (hj : ∀ b ∈ js, b.Ok) (hl : js.length ≤ 60) : ex cl (.iff (.not (.call "_law_same" [(.call "owed" [(.var 2)]), (.blt .tuple [(.lc (.tup [(.ix (.var 6) (.cst (.int 0))), (.bin .sub (.cst (.int 0)) (.ix (.var 6) (.cst (.int 1))))]) (.one 6) .val [(.var 4)] [(.cmp .lt (.ix (.var 6) (.cst (.int 1))) (.cst (.int 0)))] [6])])]))
   [.ret (.cst (.bl false))]
   []) (r4 js) (m4 r vs js) = .nx (r4 js) (m4 r vs js) := by
  have i0 : ∀ s M, ixD (pr js s) (.int 0) M = .ok (.str s) M := fun _ _ => rfl
  have i1 : ∀ s M, ixD (pr js s) (.int 1) M = .ok (.int (bal js s)) M := fun _ _ => rfl
  have hlc := lc_due (r := r) (vs := vs) (js := js) (e := .tup [(.ix (.var 6) (.cst (.int 0))), (.bin .sub (.cst (.int 0)) (.ix (.var 6) (.cst (.int 1))))]) (ifs := [(.cmp .lt (.ix (.var 6) (.cst (.int 1))) (.cst (.int 0)))]) (fun x => match x with
      | .tup [.str s, .int i] => if i < 0 then some (.tup [.str s, .int (0 - i)]) else none
      | _ => none) hl (fun s hs => ⟨decide (bal js s < 0), by by_cases h : bal js s < 0 <;> simp [i1, h], by
        by_cases h : bal js s < 0
        · simp only [h, decide_true, if_true]
          exact ⟨.tup [.str s, .int (0 - bal js s)], by simp [i0, i1], by simp [pr, h]⟩
        · simp [h, pr]⟩) (m4 r vs js) rfl
  have hm : ((names js).map (pr js)).filterMap (fun x => match x with
      | .tup [.str s, .int i] => if i < 0 then some (.tup [.str s, .int (0 - i)]) else none
      | _ => none) = owedL js := by
    rw [List.filterMap_map]
    rfl
  rw [hm] at hlc
  have ho : run pg.T pg.G 39 "owed" [.tup (js.map bD)] (m4 r vs js) = .ok (.tup (owedL js)) (m4 r vs js) := r_owed (k := 36) hj (by omega)
  have hft : bltD .tuple [.ref 4] (m4 r vs js ++ [.lst (owedL js)]) = .ok (.tup (owedL js)) (m4 r vs js ++ [.lst (owedL js)]) := f_tup rfl
  have hlo : (owedL js).length ≤ (names js).length := List.length_filterMap_le _ _
  have hs : run pg.T pg.G 39 "_law_same" [.tup (owedL js), .tup (owedL js)] (m4 r vs js ++ [.lst (owedL js)]) = .ok (.bl true) (m4 r vs js ++ [.lst (owedL js)]) := same3 (by have := nm1000 hl; omega) fun d hd => by
    obtain ⟨s, _, h⟩ := List.mem_filterMap.mp hd
    have l2 : (2 : Nat) ≤ lim := by unfold lim; omega
    split at h
    · cases h; simp [sm, l2]
    · cases h
  rw [x_iff, gb_def, e_not, e_call, es_cons, e_call, es_cons, e_var (d := .tup (js.map bD)) rfl]
  simp only [es_nil, bind_ok, ho, es_cons, e_blt]
  rw [hlc]
  simp only [bind_ok, hft, hs, tr_bl, tk_ok, ob_ok, Bool.not_true, Bool.false_eq_true, if_false, xs_nil]
  rfl
theorem law7 (hj : ∀ b ∈ js, b.Ok) (hl : js.length ≤ 60) : ex cl (.iff (.not (.call "_law_same" [(.call "owing" [(.var 2)]), (.blt .tuple [(.lc (.var 6) (.one 6) .val [(.var 4)] [(.cmp .gt (.ix (.var 6) (.cst (.int 1))) (.cst (.int 0)))] [6])])]))
   [.ret (.cst (.bl false))]
   []) (r4 js) (m4 r vs js) = .nx (r4 js) (m4 r vs js) := by
  have i1 : ∀ s M, ixD (pr js s) (.int 1) M = .ok (.int (bal js s)) M := fun _ _ => rfl
  have hlc := lc_due (r := r) (vs := vs) (js := js) (e := .var 6) (ifs := [(.cmp .gt (.ix (.var 6) (.cst (.int 1))) (.cst (.int 0)))]) (fun x => match x with
      | .tup [.str s, .int i] => if 0 < i then some (.tup [.str s, .int i]) else none
      | _ => none) hl (fun s hs => ⟨decide (0 < bal js s), by by_cases h : 0 < bal js s <;> simp [i1, h], by
        by_cases h : 0 < bal js s
        · simp [h]
          exact ⟨pr js s, by simp [pr_pure], by simp [pr, h]⟩
        · simp [h, pr]⟩) (m4 r vs js) rfl
  have hm : ((names js).map (pr js)).filterMap (fun x => match x with
      | .tup [.str s, .int i] => if 0 < i then some (.tup [.str s, .int i]) else none
      | _ => none) = owingL js := by
    rw [List.filterMap_map]
    rfl
  rw [hm] at hlc
  have ho : run pg.T pg.G 39 "owing" [.tup (js.map bD)] (m4 r vs js) = .ok (.tup (owingL js)) (m4 r vs js) := r_owing (k := 36) hj (by omega)
  have hft : bltD .tuple [.ref 4] (m4 r vs js ++ [.lst (owingL js)]) = .ok (.tup (owingL js)) (m4 r vs js ++ [.lst (owingL js)]) := f_tup rfl
  have hlo : (owingL js).length ≤ (names js).length := List.length_filterMap_le _ _
  have hs : run pg.T pg.G 39 "_law_same" [.tup (owingL js), .tup (owingL js)] (m4 r vs js ++ [.lst (owingL js)]) = .ok (.bl true) (m4 r vs js ++ [.lst (owingL js)]) := same3 (by have := nm1000 hl; omega) fun d hd => by
    obtain ⟨s, _, h⟩ := List.mem_filterMap.mp hd
    split at h
    · cases h; exact sm_pr js s
    · cases h
  rw [x_iff, gb_def, e_not, e_call, es_cons, e_call, es_cons, e_var (d := .tup (js.map bD)) rfl]
  simp only [es_nil, bind_ok, ho, es_cons, e_blt]
  rw [hlc]
  simp only [bind_ok, hft, hs, tr_bl, tk_ok, ob_ok, Bool.not_true, Bool.false_eq_true, if_false, xs_nil]
  rfl

theorem law8 (hj : ∀ b ∈ js, b.Ok) (hl : js.length ≤ 60) : ex cl (.for (.one 5) .val [(.bin .add (.var 3) (.lst [(.cst (.str ⟨#[110, 111, 98, 111, 100, 121]⟩))]))]
   [.iff (.not (.call "_law_same" [(.call "balance_of" [(.var 2), (.var 5)]), (.call "_law_balance" [(.var 2), (.var 5)])]))
     [.ret (.cst (.bl false))]
     [],
    .iff (.not (.call "_law_same" [(.call "statement" [(.var 2), (.var 5)]), (.call "_law_statement" [(.var 2), (.var 5)])]))
     [.ret (.cst (.bl false))]
     []] [5]) (r4 js) (m4 r vs js) = .nx (r4 js) (m4 r vs js) := by
  have ha : binD .add (.ref 2) (.ref 4) (m4 r vs js ++ [.lst [.str ⟨#[110, 111, 98, 111, 100, 121]⟩]]) = .ok (.ref 5) (m4 r vs js ++ [.lst [.str ⟨#[110, 111, 98, 111, 100, 121]⟩], .lst ((names js).map D.str ++ [.str ⟨#[110, 111, 98, 111, 100, 121]⟩])]) := by
    have h := nm1000 hl
    have := b_lst (M := m4 r vs js ++ [.lst [.str ⟨#[110, 111, 98, 111, 100, 121]⟩]]) (p := 2) (q := 4) (xs := (names js).map D.str) (ys := [.str ⟨#[110, 111, 98, 111, 100, 121]⟩]) rfl rfl (by unfold lim; simp; omega)
    rw [this]
    rfl
  have hw : walkG 4 .val [.ref 5] (m4 r vs js ++ [.lst [.str ⟨#[110, 111, 98, 111, 100, 121]⟩], .lst ((names js).map D.str ++ [.str ⟨#[110, 111, 98, 111, 100, 121]⟩])]) = .ok ((names js).map D.str ++ [.str ⟨#[110, 111, 98, 111, 100, 121]⟩], none) (m4 r vs js) :=
    w_new (M := m4 r vs js) (p := 5) rfl (by show 4 ≤ 5; decide) (by rw [ps_app, strs_pure]; rfl)
  rw [x_for' (xs := (names js).map D.str ++ [.str ⟨#[110, 111, 98, 111, 100, 121]⟩]) (w := none) (M1 := m4 r vs js) (by
    rw [es_cons, e_bin, e_var (d := .ref 2) rfl]
    simp only [es_nil, bind_ok, e_lst, es_cons, e_cst, alloc]
    have e4 : (m4 r vs js).length = 4 := rfl
    rw [e4, ha]
    simp only [bind_ok]
    exact hw)]
  rw [show wipe (r4 js) [5] = r4 js from rfl]
  rw [Option.map_none, forL_find (w := none) (fun _ => none) trivial _ fun x hx => ?_]
  · have : ∀ l : List D, l.findSome? (fun _ => (none : Option D)) = none := fun l => by induction l <;> simp_all
    rw [this]; rfl
  · have hs : ∃ s, x = .str s := by
      rcases List.mem_append.mp hx with h | h
      · obtain ⟨s, _, rfl⟩ := List.mem_map.mp h
        exact ⟨s, rfl⟩
      · exact ⟨_, List.mem_singleton.mp h⟩
    obtain ⟨s, rfl⟩ := hs
    have e1 : run pg.T pg.G 39 "balance_of" [.tup (js.map bD), .str s] (m4 r vs js) = .ok (.int (bal js s)) (m4 r vs js) := r_balance_of (k := 37) (by omega)
    have e2 : run pg.T pg.G 39 "_law_balance" [.tup (js.map bD), .str s] (m4 r vs js) = .ok (.int (bal js s)) (m4 r vs js) := r_law_balance (k := 38) (by omega)
    have e3 : run pg.T pg.G 39 "statement" [.tup (js.map bD), .str s] (m4 r vs js) = .ok (.tup (stf js s js.length).2) (m4 r vs js) := r_statement (k := 38) (by omega)
    have e4 : run pg.T pg.G 39 "_law_statement" [.tup (js.map bD), .str s] (m4 r vs js) = .ok (.tup (stf js s js.length).2) (m4 r vs js) := r_law_statement (k := 38) hj (by omega)
    have e5 : run pg.T pg.G 39 "_law_same" [.int (bal js s), .int (bal js s)] (m4 r vs js) = .ok (.bl true) (m4 r vs js) := same1
    have e6 : run pg.T pg.G 39 "_law_same" [.tup (stf js s js.length).2, .tup (stf js s js.length).2] (m4 r vs js) = .ok (.bl true) (m4 r vs js) := same3 (by have := stf_len js s js.length; omega) (stf_sm js s js.length)
    simp [e1, e2, e3, e4, e5, e6]
theorem law9 (hl : js.length ≤ 60) : ex cl (.for (.one 7) .val [(.tup [(.cst (.str ⟨#[99, 97, 108, 108]⟩)), (.cst (.str ⟨#[111, 105, 108]⟩)), (.cst (.str ⟨#[98, 97, 99, 107]⟩)), (.cst (.str ⟨#[115, 101, 116, 116, 108, 101]⟩)), (.cst (.str ⟨#[120]⟩)), (.cst (.str ⟨#[110, 111, 98, 111, 100, 121]⟩))])]
   [.iff (.not (.call "_law_same" [(.call "turnover" [(.var 2), (.var 7)]), (.blt .sum [(.lc (.ix (.var 6) (.cst (.int 3))) (.one 6) .val [(.var 2)] [(.cmp .eq (.ix (.var 6) (.cst (.int 0))) (.var 7))] [6])])]))
     [.ret (.cst (.bl false))]
     []] [7]) (r4 js) (m4 r vs js) = .nx (r4 js) (m4 r vs js) := by
  let ws : List D := [(.str ⟨#[99, 97, 108, 108]⟩), (.str ⟨#[111, 105, 108]⟩), (.str ⟨#[98, 97, 99, 107]⟩), (.str ⟨#[115, 101, 116, 116, 108, 101]⟩), (.str ⟨#[120]⟩), (.str ⟨#[110, 111, 98, 111, 100, 121]⟩)]
  have hw : walkG 4 .val [.tup ws] (m4 r vs js) = .ok (ws, none) (m4 r vs js) := w_tup (M := m4 r vs js)
  rw [x_for' (xs := ws) (w := none) (M1 := m4 r vs js) (by
    simp only [es_cons, e_tup, es_nil, bind_ok, e_cst]
    exact hw)]
  rw [show wipe (r4 js) [7] = r4 js from rfl]
  rw [Option.map_none, forL_find (w := none) (fun _ => none) trivial _ fun x hx => ?_]
  · have : ∀ l : List D, l.findSome? (fun _ => (none : Option D)) = none := fun l => by induction l <;> simp_all
    rw [this]; rfl
  · have hs : ∃ s, x = .str s := by
      simp only [ws, List.mem_cons, List.not_mem_nil, or_false] at hx
      rcases hx with rfl | rfl | rfl | rfl | rfl | rfl <;> exact ⟨_, rfl⟩
    obtain ⟨s, rfl⟩ := hs
    have e1 : run pg.T pg.G 39 "turnover" [.tup (js.map bD), .str s] (m4 r vs js) = .ok (.int (sumBy B.w js s)) (m4 r vs js) := r_turnover (k := 38) (by omega)
    have i0 : ∀ b M, ixD (bD b) (.int 0) M = .ok (.str b.w) M := fun _ _ => rfl
    have i3 : ∀ b M, ixD (bD b) (.int 3) M = .ok (.int b.a) M := fun _ _ => rfl
    have hwj : walkG 4 .val [.tup (js.map bD)] (m4 r vs js) = .ok (js.map bD, none) (m4 r vs js) := w_tup (M := m4 r vs js)
    let g : D → Option D := fun x => match x with
      | .tup [.str w, .str p, .str t, .int a] => if w = s then some (.int a) else none
      | _ => none
    have hg : ∀ b, g (bD b) = if b.w = s then some (.int b.a) else none := fun _ => rfl
    have hlc := e_lc_go (c := cl) (ρ := [some (.ref 0), some (.ref 1), some (.tup (js.map bD)), some (.ref 2), some (.ref 3), none, none, some (.str s)]) (M := m4 r vs js) (M2 := m4 r vs js) (e := .ix (.var 6) (.cst (.int 3))) (tg := .one 6) (k := .val) (its := [(.var 2)]) (ifs := [(.cmp .eq (.ix (.var 6) (.cst (.int 0))) (.var 7))]) (own := [6]) (xs := js.map bD) (w := none) g (by
        rw [es_cons, e_var (d := .tup (js.map bD)) rfl]
        simp only [es_nil, bind_ok]
        exact hwj) (by unfold lim; simp; omega) trivial fun x hx => by
        obtain ⟨b, hb, rfl⟩ := List.mem_map.mp hx
        refine ⟨[some (.ref 0), some (.ref 1), some (.tup (js.map bD)), some (.ref 2), some (.ref 3), none, some (bD b), some (.str s)], rfl, decide (b.w = s), ?_, ?_⟩
        · by_cases h : b.w = s <;> simp [i0, h]
        · by_cases h : b.w = s <;> simp [h, i3, hg]
    have hm : (js.map bD).filterMap g = (js.filterMap fun b => if b.w = s then some b.a else none).map D.int := by
      rw [List.filterMap_map, List.map_filterMap]
      congr 1
      funext b
      simp only [Function.comp, hg]
      by_cases h : b.w = s <;> simp [h]
    rw [hm] at hlc
    have hi : ∀ l : List Int, intsOf (l.map D.int) = some l := fun l => by
      induction l with
      | nil => rfl
      | cons a l ih => simp [intsOf, ih]
    have hsum : bltD .sum [.ref 4] (m4 r vs js ++ [.lst ((js.filterMap fun b => if b.w = s then some b.a else none).map D.int)]) = .ok (.int (sumBy B.w js s)) (m4 r vs js ++ [.lst ((js.filterMap fun b => if b.w = s then some b.a else none).map D.int)]) := by
      have e : listAt (m4 r vs js ++ [.lst ((js.filterMap fun b => if b.w = s then some b.a else none).map D.int)]) 4 = some ((js.filterMap fun b => if b.w = s then some b.a else none).map D.int) := rfl
      simp only [bltD, e, hi]
      rfl
    have e5 : run pg.T pg.G 39 "_law_same" [.int (sumBy B.w js s), .int (sumBy B.w js s)] (m4 r vs js ++ [.lst ((js.filterMap fun b => if b.w = s then some b.a else none).map D.int)]) = .ok (.bl true) (m4 r vs js ++ [.lst ((js.filterMap fun b => if b.w = s then some b.a else none).map D.int)]) := same1
    simp only [as_one, List.set_cons_succ, List.set_cons_zero, endF_none]
    rw [xs_cons, x_iff, gb_def, e_not, e_call, es_cons, e_call, es_cons, e_var (d := .tup (js.map bD)) rfl]
    simp only [bind_ok, es_cons, es_nil]
    rw [e_var (d := .str s) rfl]
    simp only [bind_ok, e1, e_blt, es_cons]
    rw [hlc]
    simp only [bind_ok, es_nil]
    have e4 : (m4 r vs js).length = 4 := rfl
    rw [e4]
    simp only [hsum, bind_ok, e5, tr_bl, tk_ok, ob_ok, Bool.not_true, Bool.false_eq_true, if_false, xs_nil, an_nx]
    rfl
end
theorem law_ok : ∀ ns : List Int, ns.length ≤ 63 → ∃ M', run pg.T pg.G 40 "law" [.ref 0] [.ro (ns.map D.int)] = .ok (.bl true) M' := by
  intro ns hn
  obtain ⟨vs, hv, hp, e1⟩ := r_pool (k := 37) hn
  obtain ⟨js, hj, hl, e2⟩ := r_journal (k := 36) (ns := ns) (vs := vs) hn hv hp
  have e1 : run pg.T pg.G 39 "_law_pool" [.ref 0] [.ro (ns.map D.int)] = .ok (.ref 1) [.ro (ns.map D.int), .lst (vs.map D.int)] := e1
  have e2 : run pg.T pg.G 39 "_law_journal" [.ref 1, .ref 0] [.ro (ns.map D.int), .lst (vs.map D.int)] = .ok (.tup (js.map bD)) [.ro (ns.map D.int), .lst (vs.map D.int)] := e2
  have e3 : run pg.T pg.G 39 "_law_accounts" [.tup (js.map bD)] [.ro (ns.map D.int), .lst (vs.map D.int)] = .ok (.ref 2) [.ro (ns.map D.int), .lst (vs.map D.int), .lst ((names js).map D.str)] := r_accounts (k := 38) (by omega)
  have h4 := law4 (r := ns.map D.int) (vs := vs.map D.int) (js := js) (by omega)
  have h5 := law5 (r := ns.map D.int) (vs := vs.map D.int) (js := js) hj (by omega)
  have h6 := law6 (r := ns.map D.int) (vs := vs.map D.int) (js := js) hj (by omega)
  have h7 := law7 (r := ns.map D.int) (vs := vs.map D.int) (js := js) hj (by omega)
  have h8 := law8 (r := ns.map D.int) (vs := vs.map D.int) (js := js) hj (by omega)
  have h9 := law9 (r := ns.map D.int) (vs := vs.map D.int) (js := js) (by omega)
  -- the drawn place
  have hx : ∃ q : Int, 0 ≤ q ∧ ixD (.ref 1) (.int 201) (m4 (ns.map D.int) (vs.map D.int) js) = .ok (.int q) (m4 (ns.map D.int) (vs.map D.int) js) := by
    have hlv : 201 < vs.length := by omega
    refine ⟨vs[201], (hp _ (List.getElem_mem hlv)).1, ?_⟩
    rw [ix_lst (xs := vs.map D.int) rfl (by decide) (by simp; omega)]
    simp
  obtain ⟨q, q0, qe⟩ := hx
  have hm : ∀ M, binD .mod (.int q) (.int ((js.length : Int) + 1)) M = .ok (.int (q % ((js.length : Int) + 1))) M := fun M => b_mod (by omega)
  have hr0 : 0 ≤ q % ((js.length : Int) + 1) := Int.emod_nonneg _ (by omega)
  have hr1 : q % ((js.length : Int) + 1) < (js.length : Int) + 1 := Int.emod_lt_of_pos _ (by omega)
  obtain ⟨n, hn2⟩ : ∃ n : Nat, q % ((js.length : Int) + 1) = n := ⟨(q % ((js.length : Int) + 1)).toNat, by omega⟩
  have hb : run pg.T pg.G 39 "_law_bent" [.tup (js.map bD), .int (n : Int)] (m4 (ns.map D.int) (vs.map D.int) js) = .ok (.bl true) (m4 (ns.map D.int) (vs.map D.int) js) := r_bent (k := 32) hj (by omega) (by omega)
  refine ⟨[.ro (ns.map D.int)], ?_⟩
  rw [run_s (d := d_law) rfl rfl]
  simp only [d_law]
  rw [show init ⟨1, ["script", "pool", "journal", "names", "due", "name", "row", "word"], _⟩ [.ref 0] = [some (.ref 0), none, none, none, none, none, none, none] from rfl]
  have hc : (⟨run pg.T pg.G 39, pg.G, [O.ro (ns.map D.int)].length⟩ : Cx) = cl := rfl
  rw [hc]
  rw [xs_cons, x_set, gg_def, e_call, es_cons, e_var (d := .ref 0) rfl]
  simp only [es_nil, bind_ok]
  rw [e1]
  have g1 : Res.gc 1 (.ok (.ref 1) [.ro (ns.map D.int), .lst (vs.map D.int)]) = .ok (.ref 1) [.ro (ns.map D.int), .lst (vs.map D.int)] := gc_new (M := [.ro (ns.map D.int)]) (o := .lst (vs.map D.int)) (show O.pure _ = true from ints_pure vs)
  rw [show [O.ro (ns.map D.int)].length = 1 from rfl, g1, ou_ok, an_nx]
  simp only [List.set_cons_succ, List.set_cons_zero]
  rw [xs_cons, x_set, gg_def, e_call, es_cons, e_var (d := .ref 1) rfl]
  simp only [es_nil, bind_ok, es_cons]
  rw [e_var (d := .ref 0) rfl]
  simp only [bind_ok]
  rw [e2]
  rw [show [O.ro (ns.map D.int), .lst (vs.map D.int)].length = 2 from rfl, gc_same (by rw [p_tup]; exact bDs_pure js), ou_ok, an_nx]
  simp only [List.set_cons_succ, List.set_cons_zero]
  rw [show List.take 2 [O.ro (ns.map D.int), .lst (vs.map D.int)] = [O.ro (ns.map D.int), .lst (vs.map D.int)] from rfl]
  rw [xs_cons, x_set, gg_def, e_call, es_cons, e_var (d := .tup (js.map bD)) rfl]
  simp only [es_nil, bind_ok]
  rw [e3]
  have g3 : Res.gc 2 (.ok (.ref 2) [.ro (ns.map D.int), .lst (vs.map D.int), .lst ((names js).map D.str)]) = .ok (.ref 2) [.ro (ns.map D.int), .lst (vs.map D.int), .lst ((names js).map D.str)] := gc_new (M := [.ro (ns.map D.int), .lst (vs.map D.int)]) (o := .lst ((names js).map D.str)) (show O.pure _ = true from strs_pure _)
  rw [show [O.ro (ns.map D.int), .lst (vs.map D.int)].length = 2 from rfl, g3, ou_ok, an_nx]
  simp only [List.set_cons_succ, List.set_cons_zero]
  rw [xs_cons, h4, an_nx]
  rw [xs_cons, h5, an_nx]
  rw [xs_cons, h6, an_nx]
  rw [xs_cons, h7, an_nx]
  rw [xs_cons, h8, an_nx]
  rw [xs_cons, h9, an_nx]
  have hd : ixD (.ref 1) (.int 201) (m4 (ns.map D.int) (vs.map D.int) js) = .ok (.int q) (m4 (ns.map D.int) (vs.map D.int) js) := qe
  have hl1 : bltD .len [.tup (js.map bD)] (m4 (ns.map D.int) (vs.map D.int) js) = .ok (.int (js.length : Int)) (m4 (ns.map D.int) (vs.map D.int) js) := by rw [f_len_t]; simp
  have ha1 : ∀ M, binD .add (.int (js.length : Int)) (.int 1) M = .ok (.int ((js.length : Int) + 1)) M := fun M => b_add
  have hv2 : (r4 js)[2]? = some (some (.tup (js.map bD))) := rfl
  rw [xs_cons, x_ret, gg_def, e_call, es_cons, e_var (d := .tup (js.map bD)) rfl]
  simp only [bind_ok, es_cons, es_nil, e_bin, e_ix, e_cst, e_blt]
  rw [e_var (d := .ref 1) rfl]
  simp only [bind_ok, hd]
  rw [e_var (d := .tup (js.map bD)) rfl]
  simp only [bind_ok, hl1, ha1, hm, hn2]
  rw [hb, gc_same rfl, ou_ok, an_rt, le_rt]
  rfl
end K82
end
set_option Elab.async false
set_option linter.all false
set_option maxRecDepth 100000
set_option maxHeartbeats 0
namespace K82
namespace Hd
open PySem PySem.Spec PyProof.Rows L2 Sk
def defD : Stmt → Option He.DefD
  | .FunctionDef name args body _ _ _ scope _ _ _ => some ⟨(name, none), name, name, args, body, scope, [], []⟩
  | _ => none
abbrev R : PySem.W.OpenRow := PySem.W.OpenLaw.row PySem.Challenge.rw_skerrylight_k82_balances
def fn : List He.DefD := (PySem.Challenge.pw_skerrylight_k82_balances).main.body.filterMap defD
theorem chk : pg.chk fn = true := by kernel_rfl
abbrev hk : PySem.W.Hook := He.hookD 4 pg.fa fn
def ob (s : PySem.W.SharedT) : He.AlD := He.obsDG 4 pg.fa fn (HandSHeadRun.getT s)
theorem ob_eq (s : PySem.W.SharedT) : ob s = hk.obs s.abs := He.obsDG_eq (HandSHeadRun.getT_eq s)
theorem run_eq (w : World) : HandSHeadRun.RunEq R (PySem.W.view R.prog [31]) hk ob 2000 ["LETTERS", "is_whole", "whole_in", "is_name", "is_row", "MOST_AMOUNT", "MOST_BOOKINGS", "booking_fault", "journal_fault", "balance_table", "balances", "balance_of", "owed", "owing", "statement", "turnover", "_law_mix", "_law_pool", "_law_whole", "_law_same", "_law_name", "_law_booking", "_law_journal", "_law_balance", "_law_accounts", "_law_statement", "_law_faults", "_law_bent"] w := by
  intro os
  kernel_rfl
end Hd
end K82
open K82 Sk
open PySem PySem.W PySem.Calls PyProof.Rows
theorem PySem.Challenge.cw_skerrylight_k82_balances_holds : PySem.Challenge.rw_skerrylight_k82_balances.Holds := by
  w_on; o_law
  refine HandSHeadRun.head_any (r := OpenLaw.row PySem.Challenge.rw_skerrylight_k82_balances) (q := view (OpenLaw.row PySem.Challenge.rw_skerrylight_k82_balances).prog [31]) (H := Hd.hk) (ob := Hd.ob) (M := 2000) (loose := ["LETTERS", "is_whole", "whole_in", "is_name", "is_row", "MOST_AMOUNT", "MOST_BOOKINGS", "booking_fault", "journal_fault", "balance_table", "balances", "balance_of", "owed", "owing", "statement", "turnover", "_law_mix", "_law_pool", "_law_whole", "_law_same", "_law_name", "_law_booking", "_law_journal", "_law_balance", "_law_accounts", "_law_statement", "_law_faults", "_law_bent"]) (d := HandSHeadRun.topDef (OpenLaw.row PySem.Challenge.rw_skerrylight_k82_balances).prog 31) (kwd := []) Hd.ob_eq
    (by kernel_rfl) (fun s => by kernel_rfl) Hd.run_eq (by kernel_rfl) (by kernel_rfl) (by kernel_rfl) (by rfl) (by first | assumption | decide +kernel) (by decide +kernel) ⟨rfl, rfl, rfl, rfl, rfl, by decide +kernel⟩ ?hw ?hc
  case hw => w_witness2
  case hc =>
    refine L2.walk_ofE (l := PySem.Challenge.rw_skerrylight_k82_balances) (n := 63) (k := 40) (x := "script") (CX := C8.CX0) rfl (by decide) (by kernel_rfl) ⟨rfl, by decide, by decide⟩ ?F (fun _ _ _ _ z => z)
    intro w mg fa h Y G hmg0
    obtain ⟨K, KX, c⟩ := Y
    have hmg : mg ("law" : PySem.Str) = some (.ref fa) := by
      have e : (HandSHeadRun.topDef (OpenLaw.row PySem.Challenge.rw_skerrylight_k82_balances).prog 31).name = ("law" : PySem.Str) := by kernel_rfl
      rw [← e]
      exact hmg0
    obtain ⟨fd, sp, hb, hs, hF⟩ := Sk.law_end (P := (PySem.Challenge.rw_skerrylight_k82_balances).prog) (w := w) (k := 40) (p := pg) (d := d_law) KX G c Hd.chk hmg (by rfl) (by rfl) (by rfl) law_ok
    exact ⟨K, fd, sp, KX, hb, hs, hF⟩
